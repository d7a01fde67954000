import PyProof.Rows.All
import Wide.All
import OpenK.AllK
import Wide.FinOn
import HandS.ForMost
import HandS.ForExc
import HandS.Walk
import HandS.Wide
import HandS.Gcd
import HandS.IsInst
import HandS.Zip
import HandS.ExcInit
import HandS.Style
import HandS.ExcIs
import HandS.ExcField
import HandS.ExcSuper
import KE.KExcIs
import HandS.More
import HandS.EndBits
import HandS.MakeKwOnly
import HandS.Property
import HandS.DictComp
import HandS.Star
import HandS.Flt
import PyProof.StrBlock2
import KE.SortData
import PyProof.ListStr
import HandS.Comp
import PySem.Challenge.RW_textworths_k73_messages_that_are_asked
set_option Elab.async false
set_option linter.all false
set_option maxRecDepth 100000
set_option maxHeartbeats 2000001
namespace DL
open PySem PySem.Spec PyProof.Rows L2 RZ
/-- data as a whole: a value with all that hangs on it; .at a: the object at a, that may change -/
inductive D where
  | non | bl (b : Bool) | int (i : Int) | str (x : Str) | ty (n : String)
  | tup (ds : List D) | lst (ds : List D) | frz (ds : List D)
  | dct (ks : List Key) (ds : List D)
  | obj (C : Addr) (fs : List Str) (ds : List D)
  | exc (C : Addr) (d : D)
  | at (a : Addr)
/-- what may change -/
inductive MO where
  | lst (ds : List D) | dct (ks : List Key) (ds : List D) | obj (C : Addr) (fs : List Str) (ds : List D)
abbrev Mu := Addr → Option MO
abbrev Ro := List (Option D)
def mput (μ : Mu) (a : Addr) (o : MO) : Mu := fun b => if b = a then some o else μ b
def mcut (μ : Mu) (a : Addr) : Mu := fun b => if b = a then none else μ b
theorem mput_same {μ : Mu} {a : Addr} {o : MO} : mput μ a o a = some o := by unfold mput; rw [if_pos rfl]
theorem mput_ne {μ : Mu} {a b : Addr} {o : MO} (h : b ≠ a) : mput μ a o b = μ b := by unfold mput; rw [if_neg h]
theorem mcut_same {μ : Mu} {a : Addr} : mcut μ a a = none := by unfold mcut; rw [if_pos rfl]
theorem mcut_ne {μ : Mu} {a b : Addr} (h : b ≠ a) : mcut μ a b = μ b := by unfold mcut; rw [if_neg h]
theorem mput_none {μ : Mu} {a b : Addr} {o : MO} (h : mput μ a o b = none) : b ≠ a ∧ μ b = none := by
  by_cases e : b = a
  · rw [e, mput_same] at h; cases h
  · rw [mput_ne e] at h; exact ⟨e, h⟩

/-- an exception's object -/
def ExT (a C dx : Addr) : HO := .ext fun h => ∃ (oe : Obj) (vs : Array Value), h.get? a = some oe ∧ oe.cls = .ref C ∧ oe.dict = some dx ∧ oe.data = .fields vs

/-- something of the written part, or something tracked that stays as it is -/
def StS (K : PySem.W.Frag) (μ : Mu) (H : Hp) (p : Addr) (vs : List V) : Prop := (μ p = none ∧ Rd H p (.lst vs)) ∨
    ∃ (o : Obj) (its : Array Value) (n : Nat), K.lookup p = some o ∧ o.cls = .type "list" ∧ o.dict = none ∧ o.data = .seq its n ∧ its.size ≤ sizeLine ∧ Vals vs its.toList
def StT (K : PySem.W.Frag) (μ : Mu) (H : Hp) (p : Addr) (vs : List V) : Prop := (μ p = none ∧ Rd H p (.tup vs)) ∨
    ∃ (o : Obj) (its : Array Value) (n : Nat), K.lookup p = some o ∧ o.cls = .type "tuple" ∧ o.data = .seq its n ∧ its.size ≤ sizeLine ∧ Vals vs its.toList
theorem StS.sq {K : PySem.W.Frag} {μ : Mu} {H : Hp} {p : Addr} {vs : List V} (h : StS K μ H p vs) : SqL K H p vs := by
  rcases h with h | h
  · exact .inl h.2
  · exact .inr h
theorem StT.sq {K : PySem.W.Frag} {μ : Mu} {H : Hp} {p : Addr} {vs : List V} (h : StT K μ H p vs) : SqT K H p vs := by
  rcases h with h | h
  · exact .inl h.2
  · exact .inr h

mutual
/-- the value v is the data d -/
def Den (K : PySem.W.Frag) (μ : Mu) (H : Hp) : D → V → Prop
  | .non, v => v = .non
  | .bl b, v => v = .bl b
  | .int i, v => v = .int i
  | .str x, v => v = .str x
  | .ty n, v => v = .ty n
  | .at a, v => v = .ref a
  | .tup ds, v => ∃ p vs, v = .ref p ∧ StT K μ H p vs ∧ DenL K μ H ds vs
  | .lst ds, v => ∃ p vs, v = .ref p ∧ (μ p = none ∧ H p = some (.lst vs)) ∧ DenL K μ H ds vs
  | .frz ds, v => ∃ p vs, v = .ref p ∧ StS K μ H p vs ∧ DenL K μ H ds vs
  | .dct ks ds, v => ∃ p vs, v = .ref p ∧ (μ p = none ∧ H p = some (.dK (ks.zip vs))) ∧ ks.length = vs.length ∧ DenL K μ H ds vs
  | .obj C fs ds, v => ∃ p dx vs, v = .ref p ∧ (μ p = none ∧ H p = some (.ins C dx (fs.zip vs))) ∧ fs.length = vs.length ∧ DenL K μ H ds vs
  | .exc C d, v => ∃ p dx w, v = .ref p ∧ (μ p = none ∧ H p = some (ExT p C dx)) ∧ (μ dx = none ∧ H dx = some (.xd [(("value" : Str), w)])) ∧ Den K μ H d w
def DenL (K : PySem.W.Frag) (μ : Mu) (H : Hp) : List D → List V → Prop
  | [], vs => vs = []
  | d :: ds, vs => ∃ w ws, vs = w :: ws ∧ Den K μ H d w ∧ DenL K μ H ds ws
end

/-- what stays: all that is tracked and may not change -/
def Grow (μ : Mu) (H : Hp) (μ' : Mu) (H' : Hp) : Prop := ∀ b o, μ b = none → H b = some o → μ' b = none ∧ H' b = some o
theorem Grow.refl (μ : Mu) (H : Hp) : Grow μ H μ H := fun _ _ h e => ⟨h, e⟩
theorem Grow.trans {μ μ1 μ2 : Mu} {H H1 H2 : Hp} (a : Grow μ H μ1 H1) (b : Grow μ1 H1 μ2 H2) : Grow μ H μ2 H2 := fun p o h e => by
  obtain ⟨h1, e1⟩ := a p o h e
  exact b p o h1 e1
theorem Grow.rd {μ μ' : Mu} {H H' : Hp} (g : Grow μ H μ' H') {p : Addr} {u : HO} (h : μ p = none) (r : Rd H p u) : μ' p = none ∧ Rd H' p u := by
  rcases r with r | ⟨o, r⟩
  · exact ⟨(g p _ h r).1, .inl (g p _ h r).2⟩
  · exact ⟨(g p _ h r).1, .inr ⟨o, (g p _ h r).2⟩⟩
theorem Grow.stS {K : PySem.W.Frag} {μ μ' : Mu} {H H' : Hp} (g : Grow μ H μ' H') {p : Addr} {vs : List V} (h : StS K μ H p vs) : StS K μ' H' p vs := by
  rcases h with ⟨a, b⟩ | h
  · exact .inl (g.rd a b)
  · exact .inr h
theorem Grow.stT {K : PySem.W.Frag} {μ μ' : Mu} {H H' : Hp} (g : Grow μ H μ' H') {p : Addr} {vs : List V} (h : StT K μ H p vs) : StT K μ' H' p vs := by
  rcases h with ⟨a, b⟩ | h
  · exact .inl (g.rd a b)
  · exact .inr h
mutual
theorem Den.grow {K : PySem.W.Frag} {μ μ' : Mu} {H H' : Hp} (g : Grow μ H μ' H') : ∀ (d : D) (v : V), Den K μ H d v → Den K μ' H' d v
  | .non, v, h => by unfold Den at h ⊢; exact h
  | .bl b, v, h => by unfold Den at h ⊢; exact h
  | .int i, v, h => by unfold Den at h ⊢; exact h
  | .str x, v, h => by unfold Den at h ⊢; exact h
  | .ty n, v, h => by unfold Den at h ⊢; exact h
  | .at a, v, h => by unfold Den at h ⊢; exact h
  | .tup ds, v, h => by
    unfold Den at h ⊢
    obtain ⟨p, vs, e, s, l⟩ := h
    exact ⟨p, vs, e, g.stT s, DenL.grow g ds vs l⟩
  | .lst ds, v, h => by
    unfold Den at h ⊢
    obtain ⟨p, vs, e, s, l⟩ := h
    exact ⟨p, vs, e, g p _ s.1 s.2, DenL.grow g ds vs l⟩
  | .frz ds, v, h => by
    unfold Den at h ⊢
    obtain ⟨p, vs, e, s, l⟩ := h
    exact ⟨p, vs, e, g.stS s, DenL.grow g ds vs l⟩
  | .dct ks ds, v, h => by
    unfold Den at h ⊢
    obtain ⟨p, vs, e, s, n, l⟩ := h
    exact ⟨p, vs, e, g p _ s.1 s.2, n, DenL.grow g ds vs l⟩
  | .obj C fs ds, v, h => by
    unfold Den at h ⊢
    obtain ⟨p, dx, vs, e, s, n, l⟩ := h
    exact ⟨p, dx, vs, e, g p _ s.1 s.2, n, DenL.grow g ds vs l⟩
  | .exc C d, v, h => by
    unfold Den at h ⊢
    obtain ⟨p, dx, w, e, s, t, l⟩ := h
    exact ⟨p, dx, w, e, g p _ s.1 s.2, g dx _ t.1 t.2, Den.grow g d w l⟩
theorem DenL.grow {K : PySem.W.Frag} {μ μ' : Mu} {H H' : Hp} (g : Grow μ H μ' H') : ∀ (ds : List D) (vs : List V), DenL K μ H ds vs → DenL K μ' H' ds vs
  | [], vs, h => by unfold DenL at h ⊢; exact h
  | d :: ds, vs, h => by
    unfold DenL at h ⊢
    obtain ⟨w, ws, e, a, b⟩ := h
    exact ⟨w, ws, e, Den.grow g d w a, DenL.grow g ds ws b⟩
end
/-- fewer things that may change -/
def Less (μ μ' : Mu) : Prop := ∀ b, μ b = none → μ' b = none
mutual
theorem Den.less {K : PySem.W.Frag} {μ μ' : Mu} {H : Hp} (g : Less μ μ') : ∀ (d : D) (v : V), Den K μ H d v → Den K μ' H d v
  | .non, v, h => by unfold Den at h ⊢; exact h
  | .bl b, v, h => by unfold Den at h ⊢; exact h
  | .int i, v, h => by unfold Den at h ⊢; exact h
  | .str x, v, h => by unfold Den at h ⊢; exact h
  | .ty n, v, h => by unfold Den at h ⊢; exact h
  | .at a, v, h => by unfold Den at h ⊢; exact h
  | .tup ds, v, h => by
    unfold Den at h ⊢
    obtain ⟨p, vs, e, s, l⟩ := h
    refine ⟨p, vs, e, ?_, DenL.less g ds vs l⟩
    rcases s with ⟨a, b⟩ | s
    · exact .inl ⟨g _ a, b⟩
    · exact .inr s
  | .lst ds, v, h => by
    unfold Den at h ⊢
    obtain ⟨p, vs, e, s, l⟩ := h
    exact ⟨p, vs, e, ⟨g _ s.1, s.2⟩, DenL.less g ds vs l⟩
  | .frz ds, v, h => by
    unfold Den at h ⊢
    obtain ⟨p, vs, e, s, l⟩ := h
    refine ⟨p, vs, e, ?_, DenL.less g ds vs l⟩
    rcases s with ⟨a, b⟩ | s
    · exact .inl ⟨g _ a, b⟩
    · exact .inr s
  | .dct ks ds, v, h => by
    unfold Den at h ⊢
    obtain ⟨p, vs, e, s, n, l⟩ := h
    exact ⟨p, vs, e, ⟨g _ s.1, s.2⟩, n, DenL.less g ds vs l⟩
  | .obj C fs ds, v, h => by
    unfold Den at h ⊢
    obtain ⟨p, dx, vs, e, s, n, l⟩ := h
    exact ⟨p, dx, vs, e, ⟨g _ s.1, s.2⟩, n, DenL.less g ds vs l⟩
  | .exc C d, v, h => by
    unfold Den at h ⊢
    obtain ⟨p, dx, w, e, s, t, l⟩ := h
    exact ⟨p, dx, w, e, ⟨g _ s.1, s.2⟩, ⟨g _ t.1, t.2⟩, Den.less g d w l⟩
theorem DenL.less {K : PySem.W.Frag} {μ μ' : Mu} {H : Hp} (g : Less μ μ') : ∀ (ds : List D) (vs : List V), DenL K μ H ds vs → DenL K μ' H ds vs
  | [], vs, h => by unfold DenL at h ⊢; exact h
  | d :: ds, vs, h => by
    unfold DenL at h ⊢
    obtain ⟨w, ws, e, a, b⟩ := h
    exact ⟨w, ws, e, Den.less g d w a, DenL.less g ds ws b⟩
end

/-- the object at a is what the store says -/
def MoIs (K : PySem.W.Frag) (μ : Mu) (H : Hp) (a : Addr) : MO → Prop
  | .lst ds => ∃ vs, H a = some (.lst vs) ∧ DenL K μ H ds vs
  | .dct ks ds => ∃ vs, H a = some (.dK (ks.zip vs)) ∧ ks.length = vs.length ∧ DenL K μ H ds vs
  | .obj C fs ds => ∃ dx vs, H a = some (.ins C dx (fs.zip vs)) ∧ fs.length = vs.length ∧ DenL K μ H ds vs
def Mem (K : PySem.W.Frag) (μ : Mu) (H : Hp) : Prop := ∀ a o, μ a = some o → MoIs K μ H a o
/-- the slots -/
def EnvIs (K : PySem.W.Frag) (μ : Mu) (H : Hp) (ρ : Ro) (σ : L2.St) : Prop := σ.length = ρ.length ∧ ∀ (i : Nat) (d : D), ρ[i]? = some (some d) → ∃ v, σ[i]? = some (some v) ∧ Den K μ H d v

section
variable {K : PySem.W.Frag} {μ μ' : Mu} {H H' : Hp} {a : Addr} {ρ : Ro} {σ : L2.St}
theorem Mem.has (m : Mem K μ H) {o : MO} (h : μ a = some o) : ∃ u, H a = some u := by
  have q := m a o h
  cases o with
  | lst ds => obtain ⟨vs, e, _⟩ := q; exact ⟨_, e⟩
  | dct ks ds => obtain ⟨vs, e, _⟩ := q; exact ⟨_, e⟩
  | obj C fs ds => obtain ⟨dx, vs, e, _⟩ := q; exact ⟨_, e⟩
theorem Mem.free (m : Mem K μ H) (h : H a = none) : μ a = none := by
  cases e : μ a with
  | none => rfl
  | some o =>
    obtain ⟨u, q⟩ := m.has e
    rw [h] at q; cases q
theorem MoIs.grow (g : Grow μ H μ' H') {o : MO} (h : MoIs K μ H a o) (e : H' a = H a) : MoIs K μ' H' a o := by
  cases o with
  | lst ds => obtain ⟨vs, q, l⟩ := h; exact ⟨vs, e.trans q, DenL.grow g _ _ l⟩
  | dct ks ds => obtain ⟨vs, q, n, l⟩ := h; exact ⟨vs, e.trans q, n, DenL.grow g _ _ l⟩
  | obj C fs ds => obtain ⟨dx, vs, q, n, l⟩ := h; exact ⟨dx, vs, e.trans q, n, DenL.grow g _ _ l⟩
/-- a new object that is not to change -/
theorem Grow.new {o : HO} (h : H a = none) : Grow μ H μ (upd H a o) := fun b u hb e => ⟨hb, by rw [upd_ne (ne_of_none e h)]; exact e⟩
theorem Mem.new {o : HO} (m : Mem K μ H) (h : H a = none) : Mem K μ (upd H a o) := fun b u e => by
  obtain ⟨w, hw⟩ := m.has e
  exact (m b u e).grow (Grow.new h) (upd_ne (ne_of_none hw h))
/-- a new object that may change -/
theorem Grow.newM {o : HO} {mo : MO} (h : H a = none) : Grow μ H (mput μ a mo) (upd H a o) := fun b u hb e => by
  have ne := ne_of_none e h
  exact ⟨by rw [mput_ne ne]; exact hb, by rw [upd_ne ne]; exact e⟩
theorem Mem.newM {o : HO} {mo : MO} (m : Mem K μ H) (h : H a = none) (n : MoIs K (mput μ a mo) (upd H a o) a mo) : Mem K (mput μ a mo) (upd H a o) := fun b u e => by
  by_cases hb : b = a
  · subst hb
    rw [mput_same] at e; cases e; exact n
  · rw [mput_ne hb] at e
    obtain ⟨w, hw⟩ := m.has e
    exact (m b u e).grow (Grow.newM h) (upd_ne hb)
/-- something that may change does -/
theorem Grow.wr {o : HO} {mo mo' : MO} (h : μ a = some mo) : Grow μ H (mput μ a mo') (upd H a o) := fun b u hb e => by
  have ne : b ≠ a := fun z => by rw [z, h] at hb; cases hb
  exact ⟨by rw [mput_ne ne]; exact hb, by rw [upd_ne ne]; exact e⟩
theorem Mem.wr {o : HO} {mo mo' : MO} (m : Mem K μ H) (h : μ a = some mo) (n : MoIs K (mput μ a mo') (upd H a o) a mo') : Mem K (mput μ a mo') (upd H a o) := fun b u e => by
  by_cases hb : b = a
  · subst hb
    rw [mput_same] at e; cases e; exact n
  · rw [mput_ne hb] at e
    exact (m b u e).grow (Grow.wr h) (upd_ne hb)
theorem Less.cut : Less μ (mcut μ a) := fun b h => by
  by_cases e : b = a
  · rw [e, mcut_same]
  · rw [mcut_ne e]; exact h
theorem MoIs.less (g : Less μ μ') {o : MO} (h : MoIs K μ H a o) : MoIs K μ' H a o := by
  cases o with
  | lst ds => obtain ⟨vs, q, l⟩ := h; exact ⟨vs, q, DenL.less g _ _ l⟩
  | dct ks ds => obtain ⟨vs, q, n, l⟩ := h; exact ⟨vs, q, n, DenL.less g _ _ l⟩
  | obj C fs ds => obtain ⟨dx, vs, q, n, l⟩ := h; exact ⟨dx, vs, q, n, DenL.less g _ _ l⟩
theorem Mem.less (m : Mem K μ H) (g : Less μ μ') (h : ∀ b o, μ' b = some o → μ b = some o) : Mem K μ' H := fun b o e => (m b o (h b o e)).less g
theorem Mem.cut (m : Mem K μ H) : Mem K (mcut μ a) H := m.less Less.cut fun b o e => by
  by_cases h : b = a
  · rw [h, mcut_same] at e; cases e
  · rw [mcut_ne h] at e; exact e
theorem Grow.cut : Grow μ H (mcut μ a) H := fun b o h e => ⟨Less.cut b h, e⟩
/-- forgetting in the store: a Grow ahead of it stands -/
theorem EnvIs.grow (g : Grow μ H μ' H') (h : EnvIs K μ H ρ σ) : EnvIs K μ' H' ρ σ := ⟨h.1, fun i d e => by
  obtain ⟨v, q, r⟩ := h.2 i d e
  exact ⟨v, q, Den.grow g _ _ r⟩⟩
theorem EnvIs.less (g : Less μ μ') (h : EnvIs K μ H ρ σ) : EnvIs K μ' H ρ σ := ⟨h.1, fun i d e => by
  obtain ⟨v, q, r⟩ := h.2 i d e
  exact ⟨v, q, Den.less g _ _ r⟩⟩
theorem EnvIs.set (h : EnvIs K μ H ρ σ) {d : D} {v : V} (r : Den K μ H d v) (i : Nat) : EnvIs K μ H (ρ.set i (some d)) (σ.set i (some v)) := ⟨by rw [List.length_set, List.length_set]; exact h.1, fun j e q => by
  by_cases hj : i = j
  · subst hj
    by_cases hl : i < ρ.length
    · rw [List.getElem?_set_self hl] at q
      cases q
      exact ⟨v, by rw [List.getElem?_set_self (by rw [h.1]; exact hl)], r⟩
    · rw [List.getElem?_eq_none (by rw [List.length_set]; omega)] at q
      cases q
  · rw [List.getElem?_set_ne hj] at q ⊢
    exact h.2 j e q⟩
theorem EnvIs.unset (h : EnvIs K μ H ρ σ) (i : Nat) : EnvIs K μ H (ρ.set i none) (σ.set i none) := ⟨by rw [List.length_set, List.length_set]; exact h.1, fun j e q => by
  by_cases hj : i = j
  · subst hj
    by_cases hl : i < ρ.length
    · rw [List.getElem?_set_self hl] at q
      cases q
    · rw [List.getElem?_eq_none (by rw [List.length_set]; omega)] at q
      cases q
  · rw [List.getElem?_set_ne hj] at q ⊢
    exact h.2 j e q⟩
theorem DenL.length : ∀ {ds : List D} {vs : List V}, DenL K μ H ds vs → ds.length = vs.length
  | [], vs, h => by unfold DenL at h; rw [h] <;> rfl
  | d :: ds, vs, h => by
    unfold DenL at h
    obtain ⟨w, ws, e, _, b⟩ := h
    rw [e, List.length_cons, List.length_cons, DenL.length b]
theorem DenL.get : ∀ {ds : List D} {vs : List V} {i : Nat} {d : D}, DenL K μ H ds vs → ds[i]? = some d → ∃ v, vs[i]? = some v ∧ Den K μ H d v
  | [], vs, i, d, h, e => by simp at e
  | x :: ds, vs, 0, d, h, e => by
    unfold DenL at h
    obtain ⟨w, ws, q, a, b⟩ := h
    have e' : x = d := by simpa using e
    subst e'
    exact ⟨w, by rw [q]; rfl, a⟩
  | x :: ds, vs, i + 1, d, h, e => by
    unfold DenL at h
    obtain ⟨w, ws, q, a, b⟩ := h
    obtain ⟨v, h1, h2⟩ := DenL.get (i := i) (d := d) b (by simpa using e)
    exact ⟨v, by rw [q]; simpa using h1, h2⟩
theorem DenL.at : ∀ {ds : List D} {vs : List V} {i : Nat} {v : V}, DenL K μ H ds vs → vs[i]? = some v → ∃ d, ds[i]? = some d ∧ Den K μ H d v := fun {ds vs i v} h e => by
  have hl := h.length
  have hi : i < vs.length := (List.getElem?_eq_some_iff.mp e).1
  obtain ⟨v', h1, h2⟩ := h.get (i := i) (d := ds[i]'(by omega)) (by simp)
  rw [e] at h1
  cases h1
  exact ⟨_, List.getElem?_eq_getElem (by omega), h2⟩
theorem DenL.nil : DenL K μ H [] [] := by unfold DenL; rfl
theorem DenL.cons {d : D} {ds : List D} {v : V} {vs : List V} (a : Den K μ H d v) (b : DenL K μ H ds vs) : DenL K μ H (d :: ds) (v :: vs) := by
  unfold DenL; exact ⟨v, vs, rfl, a, b⟩
theorem DenL.append : ∀ {ds es : List D} {vs ws : List V}, DenL K μ H ds vs → DenL K μ H es ws → DenL K μ H (ds ++ es) (vs ++ ws)
  | [], es, vs, ws, h, k => by unfold DenL at h; rw [h]; exact k
  | d :: ds, es, vs, ws, h, k => by
    unfold DenL at h
    obtain ⟨w, us, e, a, b⟩ := h
    rw [e]
    exact DenL.cons a (DenL.append b k)
theorem DenL.set {d : D} {v : V} (r : Den K μ H d v) : ∀ {ds : List D} {vs : List V} (i : Nat), DenL K μ H ds vs → DenL K μ H (ds.set i d) (vs.set i v)
  | [], vs, i, h => by unfold DenL at h; rw [h]; exact DenL.nil
  | x :: ds, vs, 0, h => by
    unfold DenL at h
    obtain ⟨w, us, e, a, b⟩ := h
    rw [e]; exact DenL.cons r b
  | x :: ds, vs, i + 1, h => by
    unfold DenL at h
    obtain ⟨w, us, e, a, b⟩ := h
    rw [e]; exact DenL.cons a (DenL.set r i b)
end
abbrev XD := Mu → Ro → Addr → D → Prop
abbrev DP := Mu → D → Prop
/-- the wish about exceptions, over data -/
def LiftX (K : PySem.W.Frag) (μ : Mu) (H : Hp) (X : XD) (W : WX) : Prop := ∀ μ' ρ' C d dx v σ' H', X μ' ρ' C d → Grow μ H μ' H' → Mem K μ' H' → EnvIs K μ' H' ρ' σ' → μ' dx = none → H' dx = some (.xd [(("value" : Str), v)]) → Den K μ' H' d v → W (.ref C) (some dx) σ' H'
def EvX (K : PySem.W.Frag) (W : WX) (X : XD) (μ : Mu) (ρ : Ro) (te : TE) (Φ : DP) : Prop := ∀ (σ : L2.St) (H : Hp) (Q : VK), Mem K μ H → EnvIs K μ H ρ σ → LiftX K μ H X W → (∀ μ' d v H', Φ μ' d → Grow μ H μ' H' → Mem K μ' H' → Den K μ' H' d v → Q v H') → te σ H Q
def EvB (K : PySem.W.Frag) (W : WX) (X : XD) (μ : Mu) (ρ : Ro) (tt : TT) (Φ : Mu → Bool → Prop) : Prop := ∀ (σ : L2.St) (H : Hp) (Q : Bool → Hp → Prop), Mem K μ H → EnvIs K μ H ρ σ → LiftX K μ H X W → (∀ μ' b H', Φ μ' b → Grow μ H μ' H' → Mem K μ' H' → Q b H') → tt σ H Q
def EvL (K : PySem.W.Frag) (W : WX) (X : XD) (μ : Mu) (ρ : Ro) (ta : TA) (Φ : Mu → List D → Prop) : Prop := ∀ (σ : L2.St) (H : Hp) (Q : List V → Hp → Prop), Mem K μ H → EnvIs K μ H ρ σ → LiftX K μ H X W → (∀ μ' ds vs H', Φ μ' ds → Grow μ H μ' H' → Mem K μ' H' → DenL K μ' H' ds vs → Q vs H') → ta σ H Q
/-- a two-place operation, a call of a built-in, over data -/
def OpX (K : PySem.W.Frag) (r : R2) (μ : Mu) (x y : D) (Φ : DP) : Prop := ∀ (H : Hp) (v w : V) (Q : VK), Mem K μ H → Den K μ H x v → Den K μ H y w → (∀ μ' d u H', Φ μ' d → Grow μ H μ' H' → Mem K μ' H' → Den K μ' H' d u → Q u H') → r v w H Q
def UnX (K : PySem.W.Frag) (r : V → Hp → VK → Prop) (μ : Mu) (x : D) (Φ : DP) : Prop := ∀ (H : Hp) (v : V) (Q : VK), Mem K μ H → Den K μ H x v → (∀ μ' d u H', Φ μ' d → Grow μ H μ' H' → Mem K μ' H' → Den K μ' H' d u → Q u H') → r v H Q
def CaX (K : PySem.W.Frag) (r : List V → Hp → VK → Prop) (μ : Mu) (xs : List D) (Φ : DP) : Prop := ∀ (H : Hp) (vs : List V) (Q : VK), Mem K μ H → DenL K μ H xs vs → (∀ μ' d u H', Φ μ' d → Grow μ H μ' H' → Mem K μ' H' → Den K μ' H' d u → Q u H') → r vs H Q
/-- what is wanted behind a statement, over data -/
structure ED where
  nx : Mu → Ro → Prop
  rt : DP
  bk : Mu → Ro → Prop := fun _ _ => False
  ct : Mu → Ro → Prop := fun _ _ => False
structure Lift (K : PySem.W.Frag) (μ : Mu) (H : Hp) (E : ED) (D : Ends) : Prop where
  nx : ∀ μ' ρ' σ' H', E.nx μ' ρ' → Grow μ H μ' H' → Mem K μ' H' → EnvIs K μ' H' ρ' σ' → D.nx σ' H'
  rt : ∀ μ' d v H', E.rt μ' d → Grow μ H μ' H' → Mem K μ' H' → Den K μ' H' d v → D.rt v H'
  bk : ∀ μ' ρ' σ' H', E.bk μ' ρ' → Grow μ H μ' H' → Mem K μ' H' → EnvIs K μ' H' ρ' σ' → D.bk σ' H'
  ct : ∀ μ' ρ' σ' H', E.ct μ' ρ' → Grow μ H μ' H' → Mem K μ' H' → EnvIs K μ' H' ρ' σ' → D.ct σ' H'
def GS (K : PySem.W.Frag) (W : WX) (X : XD) (μ : Mu) (ρ : Ro) (t : TS) (E : ED) : Prop := ∀ (σ : L2.St) (H : Hp) (Dd : Ends), Mem K μ H → EnvIs K μ H ρ σ → LiftX K μ H X W → Lift K μ H E Dd → t Dd σ H
/-- a target -/
def TgX (K : PySem.W.Frag) (W : WX) (X : XD) (μ : Mu) (ρ : Ro) (g : TG) (d : D) (Φ : Mu → Ro → Prop) : Prop := ∀ (σ : L2.St) (H : Hp) (v : V) (Q : L2.St → Hp → Prop), Mem K μ H → EnvIs K μ H ρ σ → LiftX K μ H X W → Den K μ H d v → (∀ μ' ρ' σ' H', Φ μ' ρ' → Grow μ H μ' H' → Mem K μ' H' → EnvIs K μ' H' ρ' σ' → Q σ' H') → g v σ H Q
def TgsX (K : PySem.W.Frag) (W : WX) (X : XD) (μ : Mu) (ρ : Ro) (g : TGs) (ds : List D) (Φ : Mu → Ro → Prop) : Prop := ∀ (σ : L2.St) (H : Hp) (vs : List V) (Q : L2.St → Hp → Prop), Mem K μ H → EnvIs K μ H ρ σ → LiftX K μ H X W → DenL K μ H ds vs → (∀ μ' ρ' σ' H', Φ μ' ρ' → Grow μ H μ' H' → Mem K μ' H' → EnvIs K μ' H' ρ' σ' → Q σ' H') → g vs σ H Q

section
variable {K : PySem.W.Frag} {W : WX} {X : XD} {μ μ' : Mu} {H H' : Hp} {ρ : Ro} {E : ED} {Dd : Ends} {ta tb te tx : TE} {tt tu : TT} {Φ : DP} {Ψ : Mu → Bool → Prop}
theorem LiftX.grow (l : LiftX K μ H X W) (g : Grow μ H μ' H') : LiftX K μ' H' X W := fun m r C d dx v s h x gr => l m r C d dx v s h x (g.trans gr)
theorem Lift.grow (l : Lift K μ H E Dd) (g : Grow μ H μ' H') : Lift K μ' H' E Dd :=
  ⟨fun m r s h x gr => l.nx m r s h x (g.trans gr), fun m r s h x gr => l.rt m r s h x (g.trans gr), fun m r s h x gr => l.bk m r s h x (g.trans gr), fun m r s h x gr => l.ct m r s h x (g.trans gr)⟩
/-! ### expressions -/
theorem evx_var {i : Nat} {d : D} (h : ρ[i]? = some (some d)) (q : Φ μ d) : EvX K W X μ ρ (tVar i) Φ := fun σ H Q m e _ k => by
  obtain ⟨v, h1, h2⟩ := e.2 i d h
  exact ⟨v, h1, k μ d v H q (Grow.refl _ _) m h2⟩
theorem evx_int {n : Int} (q : Φ μ (.int n)) : EvX K W X μ ρ (tC (.int n)) Φ := fun σ H Q m _ _ k => k μ _ _ H q (Grow.refl _ _) m (by unfold Den; rfl)
theorem evx_str {n : Str} (q : Φ μ (.str n)) : EvX K W X μ ρ (tC (.str n)) Φ := fun σ H Q m _ _ k => k μ _ _ H q (Grow.refl _ _) m (by unfold Den; rfl)
theorem evx_bl {n : Bool} (q : Φ μ (.bl n)) : EvX K W X μ ρ (tC (.bl n)) Φ := fun σ H Q m _ _ k => k μ _ _ H q (Grow.refl _ _) m (by unfold Den; rfl)
theorem evx_non (q : Φ μ .non) : EvX K W X μ ρ (tC .non) Φ := fun σ H Q m _ _ k => k μ _ _ H q (Grow.refl _ _) m (by unfold Den; rfl)
theorem evx_ty {n : String} (q : Φ μ (.ty n)) : EvX K W X μ ρ (tC (.ty n)) Φ := fun σ H Q m _ _ k => k μ _ _ H q (Grow.refl _ _) m (by unfold Den; rfl)
/-- the address of something of the module: a class, a def -/
theorem evx_at {a : Addr} (q : Φ μ (.at a)) : EvX K W X μ ρ (tC (.ref a)) Φ := fun σ H Q m _ _ k => k μ _ _ H q (Grow.refl _ _) m (by unfold Den; rfl)
theorem EvX.imp {Φ' : DP} (h : EvX K W X μ ρ te Φ) (i : ∀ m d, Φ m d → Φ' m d) : EvX K W X μ ρ te Φ' := fun σ H Q m e l k => h σ H Q m e l fun m' d v H' p => k m' d v H' (i m' d p)
theorem evx_op {r : R2} (h : EvX K W X μ ρ ta fun μ1 x => EvX K W X μ1 ρ tb fun μ2 y => OpX K r μ2 x y Φ) : EvX K W X μ ρ (tOp r ta tb) Φ := fun σ H Q m e l k =>
  h σ H _ m e l fun μ1 x v H1 h1 g1 m1 d1 => h1 σ H1 _ m1 (e.grow g1) (l.grow g1) fun μ2 y w H2 h2 g2 m2 d2 => h2 H2 v w Q m2 (Den.grow g2 _ _ d1) d2 fun μ' d u H' p g => k μ' d u H' p ((g1.trans g2).trans g)
theorem evx_un {r : V → Hp → VK → Prop} (h : EvX K W X μ ρ ta fun μ1 x => UnX K r μ1 x Φ) : EvX K W X μ ρ (tUn r ta) Φ := fun σ H Q m e l k =>
  h σ H _ m e l fun μ1 x v H1 h1 g1 m1 d1 => h1 H1 v Q m1 d1 fun μ' d u H' p g => k μ' d u H' p (g1.trans g)
theorem evl_nil {Φ : Mu → List D → Prop} (h : Φ μ []) : EvL K W X μ ρ tNil Φ := fun σ H Q m e l k => k μ [] [] H h (Grow.refl _ _) m DenL.nil
theorem evl_cons {tr : TA} {Φ : Mu → List D → Prop} (h : EvX K W X μ ρ te fun μ1 x => EvL K W X μ1 ρ tr fun μ2 ds => Φ μ2 (x :: ds)) : EvL K W X μ ρ (tCons te tr) Φ := fun σ H Q m e l k =>
  h σ H _ m e l fun μ1 x v H1 h1 g1 m1 d1 => h1 σ H1 _ m1 (e.grow g1) (l.grow g1) fun μ2 ds vs H2 h2 g2 m2 d2 => k μ2 _ _ H2 h2 (g1.trans g2) m2 (DenL.cons (Den.grow g2 _ _ d1) d2)
theorem evx_cb {r : List V → Hp → VK → Prop} {t : TA} (h : EvL K W X μ ρ t fun μ1 ds => CaX K r μ1 ds Φ) : EvX K W X μ ρ (tCB r t) Φ := fun σ H Q m e l k =>
  h σ H _ m e l fun μ1 ds vs H1 h1 g1 m1 d1 => h1 H1 vs Q m1 d1 fun μ' d u H' p g => k μ' d u H' p (g1.trans g)
/-! ### displays -/
theorem evx_tup {t : TA} (h : EvL K W X μ ρ t fun μ1 ds => ds.length ≤ 1000 ∧ Φ μ1 (.tup ds)) : EvX K W X μ ρ (tTup t) Φ := fun σ H Q m e l k =>
  h σ H _ m e l fun μ1 ds vs H1 h1 g1 m1 d1 => ⟨by rw [← d1.length]; exact Nat.le_trans h1.1 (by decide), fun p hp => k μ1 _ _ _ h1.2 (g1.trans (Grow.new hp)) (m1.new hp) (by
    unfold Den
    exact ⟨p, vs, rfl, .inl ⟨m1.free hp, .inl upd_same⟩, DenL.grow (Grow.new hp) _ _ d1⟩)⟩
theorem evx_lst {t : TA} (h : EvL K W X μ ρ t fun μ1 ds => ds.length ≤ 1000 ∧ Φ μ1 (.lst ds)) : EvX K W X μ ρ (tLst t) Φ := fun σ H Q m e l k =>
  h σ H _ m e l fun μ1 ds vs H1 h1 g1 m1 d1 => ⟨by rw [← d1.length]; exact Nat.le_trans h1.1 (by decide), fun p hp => k μ1 _ _ _ h1.2 (g1.trans (Grow.new hp)) (m1.new hp) (by
    unfold Den
    exact ⟨p, vs, rfl, ⟨m1.free hp, upd_same⟩, DenL.grow (Grow.new hp) _ _ d1⟩)⟩
/-- a list that will change -/
theorem evx_lstM {t : TA} (h : EvL K W X μ ρ t fun μ1 ds => ds.length ≤ 1000 ∧ ∀ p, μ1 p = none → Φ (mput μ1 p (.lst ds)) (.at p)) : EvX K W X μ ρ (tLst t) Φ := fun σ H Q m e l k =>
  h σ H _ m e l fun μ1 ds vs H1 h1 g1 m1 d1 => ⟨by rw [← d1.length]; exact Nat.le_trans h1.1 (by decide), fun p hp => k _ _ _ _ (h1.2 p (m1.free hp)) (g1.trans (Grow.newM hp)) (m1.newM hp ⟨vs, upd_same, DenL.grow (Grow.newM hp) _ _ d1⟩) (by unfold Den; rfl)⟩
/-! ### tests -/
theorem EvB.imp {Ψ' : Mu → Bool → Prop} (h : EvB K W X μ ρ tt Ψ) (i : ∀ m d, Ψ m d → Ψ' m d) : EvB K W X μ ρ tt Ψ' := fun σ H Q m e l k => h σ H Q m e l fun m' d H' p => k m' d H' (i m' d p)
theorem evb_test (h : EvX K W X μ ρ te fun μ1 d => ∃ b, d = .bl b ∧ Ψ μ1 b) : EvB K W X μ ρ (tTest te) Ψ := fun σ H Q m e l k =>
  h σ H _ m e l fun μ1 d v H1 ⟨b, hd, hp⟩ g1 m1 d1 => ⟨b, by subst hd; unfold Den at d1; exact d1, k μ1 b H1 hp g1 m1⟩
theorem evb_B (h : EvX K W X μ ρ te fun μ1 d => ∃ b, d = .bl b ∧ Ψ μ1 b) : EvB K W X μ ρ (tB te) Ψ := fun σ H Q m e l k =>
  h σ H _ m e l fun μ1 d v H1 ⟨b, hd, hp⟩ g1 m1 d1 => ⟨b, by subst hd; unfold Den at d1; exact d1, k μ1 b H1 hp g1 m1⟩
theorem evb_and (h : EvB K W X μ ρ tt fun μ1 b => if b = true then EvB K W X μ1 ρ tu Ψ else Ψ μ1 false) : EvB K W X μ ρ (tAnd tt tu) Ψ := fun σ H Q m e l k =>
  h σ H _ m e l fun μ1 b H1 h1 g1 m1 => by
    cases b with
    | true => rw [if_pos rfl] at h1 ⊢; exact h1 σ H1 Q m1 (e.grow g1) (l.grow g1) fun μ' b H' p g => k μ' b H' p (g1.trans g)
    | false => rw [if_neg (by decide)] at h1 ⊢; exact k μ1 _ H1 h1 g1 m1
theorem evb_or (h : EvB K W X μ ρ tt fun μ1 b => if b = true then Ψ μ1 true else EvB K W X μ1 ρ tu Ψ) : EvB K W X μ ρ (tOr tt tu) Ψ := fun σ H Q m e l k =>
  h σ H _ m e l fun μ1 b H1 h1 g1 m1 => by
    cases b with
    | false => rw [if_neg (by decide)] at h1 ⊢; exact h1 σ H1 Q m1 (e.grow g1) (l.grow g1) fun μ' b H' p g => k μ' b H' p (g1.trans g)
    | true => rw [if_pos rfl] at h1 ⊢; exact k μ1 _ H1 h1 g1 m1
theorem evb_not (h : EvB K W X μ ρ tt fun μ1 b => Ψ μ1 (!b)) : EvB K W X μ ρ (tNot tt) Ψ := fun σ H Q m e l k => h σ H _ m e l fun μ1 b H1 h1 g1 m1 => k μ1 _ H1 h1 g1 m1
theorem evx_andV (h : EvX K W X μ ρ ta fun μ1 d => ∃ b, d = .bl b ∧ if b = true then EvX K W X μ1 ρ tb Φ else Φ μ1 (.bl false)) : EvX K W X μ ρ (tAndV ta tb) Φ := fun σ H Q m e l k =>
  h σ H _ m e l fun μ1 d v H1 ⟨b, hd, h1⟩ g1 m1 d1 => ⟨b, by subst hd; unfold Den at d1; exact d1, by
    cases b with
    | true => rw [if_pos rfl] at h1 ⊢; exact h1 σ H1 Q m1 (e.grow g1) (l.grow g1) fun μ' b v H' p g => k μ' b v H' p (g1.trans g)
    | false => rw [if_neg (by decide)] at h1 ⊢; exact k μ1 _ _ H1 h1 g1 m1 (by unfold Den; rfl)⟩
theorem evx_orV (h : EvX K W X μ ρ ta fun μ1 d => ∃ b, d = .bl b ∧ if b = true then Φ μ1 (.bl true) else EvX K W X μ1 ρ tb Φ) : EvX K W X μ ρ (tOrV ta tb) Φ := fun σ H Q m e l k =>
  h σ H _ m e l fun μ1 d v H1 ⟨b, hd, h1⟩ g1 m1 d1 => ⟨b, by subst hd; unfold Den at d1; exact d1, by
    cases b with
    | false => rw [if_neg (by decide)] at h1 ⊢; exact h1 σ H1 Q m1 (e.grow g1) (l.grow g1) fun μ' b v H' p g => k μ' b v H' p (g1.trans g)
    | true => rw [if_pos rfl] at h1 ⊢; exact k μ1 _ _ H1 h1 g1 m1 (by unfold Den; rfl)⟩
theorem evx_notV (h : EvX K W X μ ρ ta fun μ1 d => ∃ b, d = .bl b ∧ Φ μ1 (.bl (!b))) : EvX K W X μ ρ (tNotV ta) Φ := fun σ H Q m e l k =>
  h σ H _ m e l fun μ1 d v H1 ⟨b, hd, h1⟩ g1 m1 d1 => ⟨b, by subst hd; unfold Den at d1; exact d1, k μ1 _ _ H1 h1 g1 m1 (by unfold Den; rfl)⟩
theorem evx_if (h : EvB K W X μ ρ tt fun μ1 b => if b = true then EvX K W X μ1 ρ ta Φ else EvX K W X μ1 ρ tb Φ) : EvX K W X μ ρ (tIf tt ta tb) Φ := fun σ H Q m e l k =>
  h σ H _ m e l fun μ1 b H1 h1 g1 m1 => by
    cases b with
    | true => rw [if_pos rfl] at h1 ⊢; exact h1 σ H1 Q m1 (e.grow g1) (l.grow g1) fun μ' b v H' p g => k μ' b v H' p (g1.trans g)
    | false => rw [if_neg (by decide)] at h1 ⊢; exact h1 σ H1 Q m1 (e.grow g1) (l.grow g1) fun μ' b v H' p g => k μ' b v H' p (g1.trans g)
/-! ### statements -/
variable {t u : TS} {g : TG}
theorem GS.imp {E' : ED} (h : GS K W X μ ρ t E) (h1 : ∀ m r, E.nx m r → E'.nx m r) (h2 : ∀ m r, E.rt m r → E'.rt m r) (h3 : ∀ m r, E.bk m r → E'.bk m r) (h4 : ∀ m r, E.ct m r → E'.ct m r) : GS K W X μ ρ t E' := fun σ H D m e l k =>
  h σ H D m e l ⟨fun m r s h x => k.nx m r s h (h1 m r x), fun m r s h x => k.rt m r s h (h2 m r x), fun m r s h x => k.bk m r s h (h3 m r x), fun m r s h x => k.ct m r s h (h4 m r x)⟩
theorem gs_seq (h : GS K W X μ ρ t { E with nx := fun μ1 ρ1 => GS K W X μ1 ρ1 u E }) : GS K W X μ ρ (tSeq t u) E := fun σ H D m e l k =>
  h σ H { D with nx := u D } m e l ⟨fun m' r s h x gr mm ee => x s h D mm ee (l.grow gr) (k.grow gr), k.rt, k.bk, k.ct⟩
theorem gs_next (h : E.nx μ ρ) : GS K W X μ ρ tNext E := fun σ H D m e _ k => k.nx μ ρ σ H h (Grow.refl _ _) m e
theorem gs_break (h : E.bk μ ρ) : GS K W X μ ρ tBreak E := fun σ H D m e _ k => k.bk μ ρ σ H h (Grow.refl _ _) m e
theorem gs_cont (h : E.ct μ ρ) : GS K W X μ ρ tCont E := fun σ H D m e _ k => k.ct μ ρ σ H h (Grow.refl _ _) m e
theorem gs_ret (h : EvX K W X μ ρ te E.rt) : GS K W X μ ρ (tRet te) E := fun σ H D m e l k => h σ H _ m e l fun μ' d v H' p g mm dd => k.rt μ' d v H' p g mm dd
theorem gs_retN (h : E.rt μ .non) : GS K W X μ ρ tRetN E := fun σ H D m e l k => k.rt μ .non .non H h (Grow.refl _ _) m (by unfold Den; rfl)
theorem gs_drop (h : EvX K W X μ ρ te fun μ1 _ => E.nx μ1 ρ) : GS K W X μ ρ (tDrop te) E := fun σ H D m e l k => h σ H _ m e l fun μ' d v H' p g mm dd => k.nx μ' ρ σ H' p g mm (e.grow g)
theorem gs_if (h : EvB K W X μ ρ tt fun μ1 b => if b = true then GS K W X μ1 ρ t E else GS K W X μ1 ρ u E) : GS K W X μ ρ (tIfS tt t u) E := fun σ H D m e l k =>
  h σ H _ m e l fun μ1 b H1 h1 g1 m1 => by
    cases b with
    | true => rw [if_pos rfl] at h1 ⊢; exact h1 σ H1 D m1 (e.grow g1) (l.grow g1) (k.grow g1)
    | false => rw [if_neg (by decide)] at h1 ⊢; exact h1 σ H1 D m1 (e.grow g1) (l.grow g1) (k.grow g1)
theorem gs_asg (h : EvX K W X μ ρ te fun μ1 d => TgX K W X μ1 ρ g d E.nx) : GS K W X μ ρ (tAsg te g) E := fun σ H D m e l k =>
  h σ H _ m e l fun μ1 d v H1 h1 g1 m1 d1 => h1 σ H1 v _ m1 (e.grow g1) (l.grow g1) d1 fun μ' ρ' σ' H' p g' mm ee => k.nx μ' ρ' σ' H' p (g1.trans g') mm ee
theorem tgx_name {i : Nat} {d : D} {Φ : Mu → Ro → Prop} (h : Φ μ (ρ.set i (some d))) : TgX K W X μ ρ (gName i) d Φ := fun σ H v Q m e _ dd k => k μ _ _ H h (Grow.refl _ _) m (e.set dd i)
theorem tgsx_nil {Φ : Mu → Ro → Prop} (h : Φ μ ρ) : TgsX K W X μ ρ gNil [] Φ := fun σ H vs Q m e _ dd k => ⟨by unfold DenL at dd; exact dd, k μ ρ σ H h (Grow.refl _ _) m e⟩
theorem tgsx_cons {gs : TGs} {d : D} {ds : List D} {Φ : Mu → Ro → Prop} (h : TgX K W X μ ρ g d fun μ1 ρ1 => TgsX K W X μ1 ρ1 gs ds Φ) : TgsX K W X μ ρ (gCons g gs) (d :: ds) Φ := fun σ H vs Q m e l dd k => by
  unfold DenL at dd
  obtain ⟨w, ws, e1, a, b⟩ := dd
  exact ⟨w, ws, e1, h σ H w _ m e l a fun μ1 ρ1 σ1 H1 h1 g1 m1 ee1 => h1 σ1 H1 ws Q m1 ee1 (l.grow g1) (DenL.grow g1 _ _ b) fun μ' ρ' σ' H' p g => k μ' ρ' σ' H' p (g1.trans g)⟩
theorem tgx_tup {gs : TGs} {n : Nat} {ds : List D} {Φ : Mu → Ro → Prop} (hn : ds.length = n) (h : TgsX K W X μ ρ gs ds Φ) : TgX K W X μ ρ (gTup K n gs) (.tup ds) Φ := fun σ H v Q m e l dd k => by
  unfold Den at dd
  obtain ⟨p, vs, e1, s, b⟩ := dd
  exact ⟨p, vs, e1, s.sq, by rw [← b.length, hn], h σ H vs Q m e l b k⟩
/-- a, b = e1, e2 -/
theorem gs_par {i j : Nat} {ta : TA} (h : EvL K W X μ ρ ta fun μ1 ds => ∃ d d', ds = [d, d'] ∧ E.nx μ1 ((ρ.set i (some d)).set j (some d'))) : GS K W X μ ρ (tPar i j ta) E := fun σ H D m e l k =>
  h σ H _ m e l fun μ1 ds vs H1 ⟨d, d', e1, h1⟩ g1 m1 d1 => by
    subst e1
    unfold DenL at d1
    obtain ⟨w, ws, e2, a, b⟩ := d1
    unfold DenL at b
    obtain ⟨w', ws', e3, a', b'⟩ := b
    unfold DenL at b'
    subst b' e3 e2
    exact ⟨w, w', rfl, k.nx μ1 _ _ H1 h1 g1 m1 (((e.grow g1).set a i).set a' j)⟩
/-- x op= e -/
def IpX (K : PySem.W.Frag) (r : V → V → Hp → VK → Prop) := OpX K r
theorem gs_aug {i : Nat} {x : D} {ti : TIp} (hx : ρ[i]? = some (some x)) (h : EvX K W X μ ρ te fun μ1 y => OpX K ti μ1 x y fun μ2 z => E.nx μ2 (ρ.set i (some z))) : GS K W X μ ρ (tAug i te ti) E := fun σ H D m e l k => by
  obtain ⟨v, h1, h2⟩ := e.2 i x hx
  exact ⟨v, h1, h σ H _ m e l fun μ1 y w H1 q1 g1 m1 d1 => q1 H1 v w _ m1 (Den.grow g1 _ _ h2) d1 fun μ' d u H' p g mm dd => k.nx μ' _ _ H' p (g1.trans g) mm (((e.grow g1).grow g).set dd i)⟩
/-- a wider store may be forgotten -/
theorem gs_cut {p : Addr} (h : GS K W X (mcut μ p) ρ t E) : GS K W X μ ρ t E := fun σ H D m e l k => h σ H D m.cut (e.less Less.cut) (l.grow Grow.cut) (k.grow Grow.cut)
/-- a list that changed till now and will change no more -/
theorem gs_freeze {ρ' : Ro} {p : Addr} {ds : List D} {i : Nat} (hp : μ p = some (.lst ds)) (hi : ρ[i]? = some (some (.at p))) (he : ρ' = ρ.set i (some (.lst ds))) (h : GS K W X (mcut μ p) ρ' t E) : GS K W X μ ρ t E := fun σ H D m e l k => by
  obtain ⟨vs, h1, h2⟩ := m p _ hp
  obtain ⟨v, q1, q2⟩ := e.2 i _ hi
  unfold Den at q2
  subst q2
  have e' : EnvIs K (mcut μ p) H ρ' σ := by
    have q := (e.less (Less.cut (a := p))).set (d := .lst ds) (v := .ref p) (by unfold Den; exact ⟨p, vs, rfl, ⟨mcut_same, h1⟩, DenL.less Less.cut _ _ h2⟩) i
    rw [← he] at q
    have : σ.set i (some (.ref p)) = σ := by
      apply List.ext_getElem?
      intro j
      by_cases hj : i = j
      · subst hj
        rw [List.getElem?_set_self (List.getElem?_eq_some_iff.mp q1).1, q1]
      · rw [List.getElem?_set_ne hj]
    rw [this] at q
    exact q
  exact h σ H D m.cut e' (l.grow Grow.cut) (k.grow Grow.cut)
end
/-- what a loop walks, over data: ds, while S holds of the store -/
structure ItOk (K : PySem.W.Frag) (μ : Mu) (H : Hp) (J : It) (ds : List D) (S : Mu → Prop) : Prop where
  w : ∃ (G : Hp → Prop) (Y : Nat → Hp → V → Hp → Prop), Walk J ds.length G Y ∧ (∀ μ' H', Grow μ H μ' H' → Mem K μ' H' → S μ' → G H') ∧
    ∀ i μ' H' x H'' d, Grow μ H μ' H' → Mem K μ' H' → S μ' → Y i H' x H'' → ds[i]? = some d → Grow μ' H' μ' H'' ∧ Mem K μ' H'' ∧ Den K μ' H'' d x
def ItX (K : PySem.W.Frag) (W : WX) (X : XD) (μ : Mu) (ρ : Ro) (wi : TI) (Ψ : Mu → List D → (Mu → Prop) → Prop) : Prop := ∀ (σ : L2.St) (H : Hp) (R : It → Hp → Prop), Mem K μ H → EnvIs K μ H ρ σ → LiftX K μ H X W →
  (∀ μ1 ds S J H1, Ψ μ1 ds S → Grow μ H μ1 H1 → Mem K μ1 H1 → ItOk K μ1 H1 J ds S → R J H1) → wi σ H R
/-- a list to be read -/
def IsL (μ : Mu) (d : D) (ds : List D) (S : Mu → Prop) : Prop := ((d = .lst ds ∨ d = .frz ds) ∧ S = fun _ => True) ∨ ∃ a, d = .at a ∧ μ a = some (.lst ds) ∧ S = fun μ' => μ' a = some (.lst ds)

section
variable {K : PySem.W.Frag} {W : WX} {X : XD} {μ μ' : Mu} {H H' : Hp} {ρ : Ro} {E : ED} {ta tb te tx tl : TE} {tt tu : TT} {Φ : DP} {Ψ : Mu → List D → (Mu → Prop) → Prop} {g : TG} {t : TS} {wi : TI}
theorem gs_for (h : ItX K W X μ ρ wi fun μ1 ds S => ∃ Inv : Nat → Mu → Ro → Prop, Inv 0 μ1 ρ ∧ (∀ i μ' ρ', i ≤ ds.length → Inv i μ' ρ' → S μ') ∧
    (∀ i d μ' ρ', ds[i]? = some d → Inv i μ' ρ' → TgX K W X μ' ρ' g d fun μ'' ρ'' => GS K W X μ'' ρ'' t { E with nx := Inv (i + 1), ct := Inv (i + 1), bk := E.nx }) ∧ ∀ μ' ρ', Inv ds.length μ' ρ' → E.nx μ' ρ') :
    GS K W X μ ρ (tFor wi g t) E := fun σ H D m e l k => by
  refine h σ H _ m e l fun μ1 ds S J H1 ⟨Iv, h0, hS, hs, hd⟩ g1 m1 ok => ?_
  obtain ⟨G, Y, w, hG, hY⟩ := ok.w
  refine for_it w (fun i σ' H' => ∃ μ' ρ', Iv i μ' ρ' ∧ Grow μ1 H1 μ' H' ∧ Mem K μ' H' ∧ EnvIs K μ' H' ρ' σ') ⟨μ1, ρ, h0, Grow.refl _ _, m1, e.grow g1⟩ ?_ ?_ ?_
  · rintro i σ' H' hi ⟨μ', ρ', p, gr, mm, ee⟩
    exact hG μ' H' gr mm (hS i μ' ρ' hi p)
  · rintro i x σ' H' H'' hi ⟨μ', ρ', p, gr, mm, ee⟩ y
    obtain ⟨q1, q2, q3⟩ := hY i μ' H' x H'' ds[i] gr mm (hS i μ' ρ' (Nat.le_of_lt hi) p) y (by simp)
    have gg := (g1.trans gr).trans q1
    refine hs i ds[i] μ' ρ' (by simp) p σ' H'' x _ q2 (ee.grow q1) (l.grow gg) q3 fun μ2 ρ2 σ2 H2 p2 g2 m2 e2 => ?_
    refine p2 σ2 H2 _ m2 e2 (l.grow (gg.trans g2)) ⟨fun m r s h x gr' mm' ee' => ?_, fun m r s h x gr' mm' ee' => k.rt m r s h x ((gg.trans g2).trans gr') mm' ee', fun m r s h x gr' mm' ee' => k.nx m r s h x ((gg.trans g2).trans gr') mm' ee', fun m r s h x gr' mm' ee' => ?_⟩
    · exact ⟨m, r, x, ((gr.trans q1).trans g2).trans gr', mm', ee'⟩
    · exact ⟨m, r, x, ((gr.trans q1).trans g2).trans gr', mm', ee'⟩
  · rintro σ' H' ⟨μ', ρ', p, gr, mm, ee⟩
    exact k.nx μ' ρ' σ' H' (hd μ' ρ' p) (g1.trans gr) mm ee
theorem den_seq {d : D} {ds : List D} {S : Mu → Prop} {v : V} (hd : IsL μ d ds S) (m : Mem K μ H) (h : Den K μ H d v) : ∃ p vs, v = .ref p ∧ SqL K H p vs ∧ DenL K μ H ds vs := by
  rcases hd with ⟨e | e, _⟩ | ⟨a, e, ha, _⟩
  · subst e; unfold Den at h
    obtain ⟨p, vs, e1, s, b⟩ := h
    exact ⟨p, vs, e1, SqL.of s.2, b⟩
  · subst e; unfold Den at h
    obtain ⟨p, vs, e1, s, b⟩ := h
    exact ⟨p, vs, e1, s.sq, b⟩
  · subst e; unfold Den at h
    obtain ⟨vs, e1, b⟩ := m a _ ha
    exact ⟨a, vs, h, SqL.of e1, b⟩
theorem itx_list (h : EvX K W X μ ρ tl fun μ1 d => ∃ ds S, IsL μ1 d ds S ∧ Ψ μ1 ds S) : ItX K W X μ ρ (iList K tl) Ψ := fun σ H R m e l k =>
  h σ H _ m e l fun μ1 d v H1 ⟨ds, S, hd, hp⟩ g1 m1 d1 => by
    rcases hd with ⟨e1, hS⟩ | ⟨a, e1, ha, hS⟩
    · obtain ⟨p, vs, e2, s, b⟩ : ∃ p vs, v = .ref p ∧ StS K μ1 H1 p vs ∧ DenL K μ1 H1 ds vs := by
        rcases e1 with e1 | e1
        · subst e1; unfold Den at d1
          obtain ⟨p, vs, e2, s, b⟩ := d1
          exact ⟨p, vs, e2, .inl ⟨s.1, .inl s.2⟩, b⟩
        · subst e1; unfold Den at d1; exact d1
      refine ⟨p, e2, ⟨vs, s.sq⟩, k μ1 ds S _ H1 hp g1 m1 ⟨(fun H => SqL K H p vs), YAt vs, by rw [b.length]; exact walk_list, fun μ' H' gr mm _ => (gr.stS s).sq, ?_⟩⟩
      rintro i μ' H' x H'' d gr mm _ ⟨rfl, hx⟩ hd
      obtain ⟨v', q1, q2⟩ := (DenL.grow gr _ _ b).get hd
      rw [hx] at q1; cases q1
      exact ⟨Grow.refl _ _, mm, q2⟩
    · subst e1 hS
      unfold Den at d1
      obtain ⟨vs, e2, b⟩ := m1 a _ ha
      refine ⟨a, d1, ⟨vs, SqL.of e2⟩, k μ1 ds _ _ H1 hp g1 m1 ⟨(fun H => ∃ vs, H a = some (.lst vs) ∧ vs.length = ds.length), (fun i H x H' => H' = H ∧ ∀ vs, H a = some (.lst vs) → vs[i]? = some x), ?_, ?_, ?_⟩⟩
      · refine ⟨?_, ?_, ?_⟩
        · rintro i H hi ⟨vs, q, ln⟩
          exact ⟨vs, vs[i], SqL.of q, by simp⟩
        · rintro H ⟨vs, q, ln⟩
          exact ⟨vs, SqL.of q, by omega⟩
        · rintro i H x H' hi ⟨vs, q, ln⟩ ⟨rfl, y⟩
          exact ⟨rfl, fun vs' q' => y vs' (SqL.of q')⟩
      · intro μ' H' gr mm ha'
        obtain ⟨vs', q, b'⟩ := mm a _ ha'
        exact ⟨vs', q, b'.length.symm⟩
      · rintro i μ' H' x H'' d gr mm ha' ⟨rfl, y⟩ hd
        obtain ⟨vs', q, b'⟩ := mm a _ ha'
        obtain ⟨v', q1, q2⟩ := b'.get hd
        rw [y vs' q] at q1; cases q1
        exact ⟨Grow.refl _ _, mm, q2⟩
theorem itx_tup (h : EvX K W X μ ρ tl fun μ1 d => ∃ ds, d = .tup ds ∧ Ψ μ1 ds fun _ => True) : ItX K W X μ ρ (iTup K tl) Ψ := fun σ H R m e l k =>
  h σ H _ m e l fun μ1 d v H1 ⟨ds, hd, hp⟩ g1 m1 d1 => by
    subst hd; unfold Den at d1
    obtain ⟨p, vs, e2, s, b⟩ := d1
    refine ⟨p, e2, ⟨vs, s.sq⟩, k μ1 ds _ _ H1 hp g1 m1 ⟨(fun H => SqT K H p vs), YAt vs, by rw [b.length]; exact walk_tup, fun μ' H' gr mm _ => (gr.stT s).sq, ?_⟩⟩
    rintro i μ' H' x H'' d gr mm _ ⟨rfl, hx⟩ hd
    obtain ⟨v', q1, q2⟩ := (DenL.grow gr _ _ b).get hd
    rw [hx] at q1; cases q1
    exact ⟨Grow.refl _ _, mm, q2⟩
/-- the turns of a range -/
def rangeD (lo : Int) (n : Nat) : List D := (List.range n).map fun (i : Nat) => .int (lo + i)
theorem rangeD_len (lo : Int) (n : Nat) : (rangeD lo n).length = n := by unfold rangeD; simp
theorem rangeD_get {lo : Int} {n i : Nat} {d : D} (h : (rangeD lo n)[i]? = some d) : i < n ∧ d = .int (lo + i) := by
  unfold rangeD at h
  rw [List.getElem?_map] at h
  by_cases hi : i < n
  · rw [List.getElem?_range hi] at h
    exact ⟨hi, by simpa using h.symm⟩
  · rw [List.getElem?_eq_none (by simpa using hi)] at h
    cases h
theorem itok_range {lo : Int} {n : Nat} : ItOk K μ H (Itr lo n) (rangeD lo n) fun _ => True :=
  ⟨(fun _ => True), YFn fun i => .int (lo + i), by rw [rangeD_len]; exact walk_range, fun _ _ _ _ _ => True.intro, fun i μ' H' x H'' d gr mm _ y hd => by
    obtain ⟨rfl, rfl⟩ := y
    obtain ⟨_, rfl⟩ := rangeD_get hd
    exact ⟨Grow.refl _ _, mm, by unfold Den; rfl⟩⟩
theorem itx_range1 {tr : TA} (h : EvL K W X μ ρ tr fun μ1 ds => ∃ n : Int, ds = [.int n] ∧ (-(2 ^ 62) ≤ n ∧ n < 2 ^ 62) ∧ Ψ μ1 (rangeD 0 n.toNat) fun _ => True) : ItX K W X μ ρ (iRng1 tr) Ψ := fun σ H R m e l k =>
  h σ H _ m e l fun μ1 ds vs H1 ⟨n, hd, hb, hp⟩ g1 m1 d1 => by
    subst hd
    unfold DenL at d1
    obtain ⟨w, ws, e2, a, b⟩ := d1
    unfold Den at a
    unfold DenL at b
    subst e2 a b
    exact ⟨n, rfl, hb.1, hb.2, k μ1 _ _ _ H1 hp g1 m1 itok_range⟩
theorem itx_range2 {tr : TA} (h : EvL K W X μ ρ tr fun μ1 ds => ∃ i n : Int, ds = [.int i, .int n] ∧ (-(2 ^ 62) ≤ i ∧ i < 2 ^ 62 ∧ -(2 ^ 62) ≤ n ∧ n < 2 ^ 62) ∧ Ψ μ1 (rangeD i (n - i).toNat) fun _ => True) : ItX K W X μ ρ (iRng2 tr) Ψ := fun σ H R m e l k =>
  h σ H _ m e l fun μ1 ds vs H1 ⟨i, n, hd, hb, hp⟩ g1 m1 d1 => by
    subst hd
    unfold DenL at d1
    obtain ⟨w, ws, e2, a, b⟩ := d1
    unfold Den at a
    unfold DenL at b
    obtain ⟨w', ws', e3, a', b'⟩ := b
    unfold Den at a'
    unfold DenL at b'
    subst e3 a' b' e2 a
    exact ⟨i, n, rfl, hb, k μ1 _ _ _ H1 hp g1 m1 itok_range⟩
/-- the signs of a text -/
def signsD (z : Str) : List D := z.cps.toList.map fun c => .str ⟨#[c]⟩
theorem itx_str (h : EvX K W X μ ρ te fun μ1 d => ∃ z, d = .str z ∧ Ψ μ1 (signsD z) fun _ => True) : ItX K W X μ ρ (iStr te) Ψ := fun σ H R m e l k =>
  h σ H _ m e l fun μ1 d v H1 ⟨z, hd, hp⟩ g1 m1 d1 => by
    subst hd; unfold Den at d1
    refine ⟨z, d1, k μ1 _ _ _ H1 hp g1 m1 ⟨_, _, by unfold signsD; rw [List.length_map, Array.length_toList]; exact walk_str, fun _ _ _ _ _ => True.intro, ?_⟩⟩
    rintro i μ' H' x H'' d gr mm _ ⟨rfl, c, hc, rfl⟩ hd
    refine ⟨Grow.refl _ _, mm, ?_⟩
    unfold signsD at hd
    rw [List.getElem?_map, Array.getElem?_toList, hc] at hd
    cases hd
    unfold Den
    rfl
/-- pairs -/
def pairsD (xs ys : List D) : List D := (xs.zip ys).map fun p => .tup [p.1, p.2]
theorem den_pair {x y : D} {v w : V} {T : Addr} (m : Mem K μ H) (hT : H T = none) (a : Den K μ H x v) (b : Den K μ H y w) : Den K μ (upd H T (.tup [v, w])) (.tup [x, y]) (.ref T) := by
  unfold Den
  exact ⟨T, [v, w], rfl, .inl ⟨m.free hT, .inl upd_same⟩, DenL.cons (Den.grow (Grow.new hT) _ _ a) (DenL.cons (Den.grow (Grow.new hT) _ _ b) DenL.nil)⟩
/-- the i-th and the i-th: a new pair -/
theorem itok_pair {J : It} {n : Nat} {ds : List D} {S : Mu → Prop} {xs ys : Hp → Nat → Option V} {G : Hp → Prop} {Y : Nat → Hp → V → Hp → Prop} (w : Walk J ds.length G Y) (hG : ∀ μ' H', Grow μ H μ' H' → Mem K μ' H' → S μ' → G H')
    (hY : ∀ i μ' H' v H'' d, Grow μ H μ' H' → Mem K μ' H' → S μ' → Y i H' v H'' → ds[i]? = some d → ∃ T x y v1 v2, v = .ref T ∧ H' T = none ∧ H'' = upd H' T (.tup [v1, v2]) ∧ d = .tup [x, y] ∧ Den K μ' H' x v1 ∧ Den K μ' H' y v2) : ItOk K μ H J ds S :=
  ⟨G, Y, w, hG, fun i μ' H' v H'' d gr mm s y hd => by
    obtain ⟨T, x, y', v1, v2, rfl, hT, rfl, rfl, a, b⟩ := hY i μ' H' v H'' d gr mm s y hd
    exact ⟨Grow.new hT, mm.new hT, den_pair mm hT a b⟩⟩
theorem pairsD_get {xs ys : List D} {i : Nat} {d : D} (h : (pairsD xs ys)[i]? = some d) : ∃ x y, xs[i]? = some x ∧ ys[i]? = some y ∧ d = .tup [x, y] := by
  unfold pairsD at h
  rw [List.getElem?_map] at h
  cases e : (xs.zip ys)[i]? with
  | none => rw [e] at h; cases h
  | some p =>
    rw [e] at h
    cases h
    rw [List.getElem?_zip_eq_some] at e
    exact ⟨p.1, p.2, e.1, e.2, rfl⟩
theorem pairsD_len (xs ys : List D) : (pairsD xs ys).length = min xs.length ys.length := by unfold pairsD; simp
/-- zip of two lists, two tuples -/
theorem itx_zip {tr : TA} (h : EvL K W X μ ρ tr fun μ1 ds => ∃ a b xs ys, ds = [a, b] ∧ ((∃ S S', IsL μ1 a xs S ∧ IsL μ1 b ys S' ∧ (∀ m, S m) ∧ (∀ m, S' m)) ∨ (a = .tup xs ∧ b = .tup ys)) ∧ Ψ μ1 (pairsD xs ys) fun _ => True) : ItX K W X μ ρ (iZipA K tr) Ψ := fun σ H R m e l k =>
  h σ H _ m e l fun μ1 ds vs H1 ⟨a, b, xs, ys, hd, hab, hp⟩ g1 m1 d1 => by
    subst hd
    unfold DenL at d1
    obtain ⟨v1, ws, e2, da, b'⟩ := d1
    unfold DenL at b'
    obtain ⟨v2, ws', e3, db, b''⟩ := b'
    unfold DenL at b''
    subst b'' e3 e2
    rcases hab with ⟨S, S', ha, hb, s1, s2⟩ | ⟨rfl, rfl⟩
    · have key : ∀ {d : D} {v : V} {zs : List D} {S : Mu → Prop}, IsL μ1 d zs S → (∀ m, S m) → Den K μ1 H1 d v → ∃ p vs, v = .ref p ∧ StS K μ1 H1 p vs ∧ DenL K μ1 H1 zs vs := by
        intro d v zs S hd hs dv
        rcases hd with ⟨e1 | e1, _⟩ | ⟨a, _, _, hS⟩
        · subst e1; unfold Den at dv
          obtain ⟨p, vs, e2, s, b⟩ := dv
          exact ⟨p, vs, e2, .inl ⟨s.1, .inl s.2⟩, b⟩
        · subst e1; unfold Den at dv; exact dv
        · subst hS
          have := hs (fun _ => none)
          cases this
      obtain ⟨p, us, e1, sp, bp⟩ := key ha s1 da
      obtain ⟨q, ws, e2, sq, bq⟩ := key hb s2 db
      subst e1 e2
      refine ⟨p, q, us, ws, rfl, .inl ⟨sp.sq, sq.sq, k μ1 _ _ _ H1 hp g1 m1 (itok_pair (n := 0) (xs := fun _ _ => none) (ys := fun _ _ => none) (walk_zip (xs := us) (ys := ws) (by rw [pairsD_len, bp.length, bq.length])) (fun μ' H' gr mm _ => ⟨(gr.stS sp).sq, (gr.stS sq).sq⟩) ?_)⟩⟩
      rintro i μ' H' v H'' d gr mm _ ⟨T, x, y, rfl, hT, rfl, hx, hy⟩ hd
      obtain ⟨dx, dy, ex, ey, rfl⟩ := pairsD_get hd
      obtain ⟨u1, q1, r1⟩ := (DenL.grow gr _ _ bp).get ex
      obtain ⟨u2, q2, r2⟩ := (DenL.grow gr _ _ bq).get ey
      have hx' : us[i]? = some x := hx
      have hy' : ws[i]? = some y := hy
      rw [hx'] at q1; cases q1
      rw [hy'] at q2; cases q2
      exact ⟨T, dx, dy, x, y, rfl, hT, rfl, rfl, r1, r2⟩
    · unfold Den at da db
      obtain ⟨p, us, e1, sp, bp⟩ := da
      obtain ⟨q, ws, e2, sq, bq⟩ := db
      subst e1 e2
      refine ⟨p, q, us, ws, rfl, .inr ⟨sp.sq, sq.sq, k μ1 _ _ _ H1 hp g1 m1 (itok_pair (n := 0) (xs := fun _ _ => none) (ys := fun _ _ => none) (G := fun H => SqT K H p us ∧ SqT K H q ws) (Y := YPair (fun i => us[i]?) (fun i => ws[i]?)) ?_ (fun μ' H' gr mm _ => ⟨(gr.stT sp).sq, (gr.stT sq).sq⟩) ?_)⟩⟩
      · refine ⟨?_, ?_, ?_⟩
        · rintro i H hi ⟨h1, h2⟩
          rw [pairsD_len, bp.length, bq.length] at hi
          exact ⟨us, ws, us[i], ws[i], h1, h2, by simp, by simp⟩
        · rintro H ⟨h1, h2⟩
          refine ⟨us, ws, h1, h2, ?_⟩
          rw [pairsD_len, bp.length, bq.length]
          omega
        · rintro i H x H' hi ⟨h1, h2⟩ y
          obtain ⟨T, a, b, h3, h4, h5, h6⟩ := y
          exact ⟨T, a, b, h3, h4, h5, h6.1 us h1, h6.2 ws h2⟩
      · rintro i μ' H' v H'' d gr mm _ ⟨T, x, y, rfl, hT, rfl, hx, hy⟩ hd
        obtain ⟨dx, dy, ex, ey, rfl⟩ := pairsD_get hd
        obtain ⟨u1, q1, r1⟩ := (DenL.grow gr _ _ bp).get ex
        obtain ⟨u2, q2, r2⟩ := (DenL.grow gr _ _ bq).get ey
        have hx' : us[i]? = some x := hx
        have hy' : ws[i]? = some y := hy
        rw [hx'] at q1; cases q1
        rw [hy'] at q2; cases q2
        exact ⟨T, dx, dy, x, y, rfl, hT, rfl, rfl, r1, r2⟩
/-! ### comprehensions -/
theorem wipe_env {vs : List Nat} {σ : L2.St} (e : EnvIs K μ H ρ σ) : EnvIs K μ H (vs.foldr (fun v r => r.set v none) ρ) (wipe σ vs) := by
  induction vs with
  | nil => exact e
  | cons v vs ih => exact ih.unset v
theorem wipe_get (σ : L2.St) : ∀ (vs : List Nat) (i : Nat), (wipe σ vs)[i]? = if i ∈ vs then (σ[i]?).map (fun _ => none) else σ[i]?
  | [], i => by rw [if_neg (by simp)]; rfl
  | v :: vs, i => by
    show ((wipe σ vs).set v none)[i]? = _
    by_cases h : v = i
    · subst h
      rw [if_pos (by simp)]
      by_cases hl : v < σ.length
      · rw [List.getElem?_set_self (by rw [wipe_length]; exact hl), List.getElem?_eq_getElem hl]; rfl
      · rw [List.getElem?_eq_none (by rw [List.length_set, wipe_length]; omega), List.getElem?_eq_none (by omega)]; rfl
    · rw [List.getElem?_set_ne h, wipe_get σ vs i]
      have : (i ∈ v :: vs) ↔ i ∈ vs := by
        rw [List.mem_cons]
        exact ⟨fun q => q.resolve_left (fun z => h z.symm), .inr⟩
      by_cases hm : i ∈ vs
      · rw [if_pos hm, if_pos (this.mpr hm)]
      · rw [if_neg hm, if_neg (fun z => hm (this.mp z))]
theorem wipe_set {σ : L2.St} {vs : List Nat} {j : Nat} {x : Option V} (h : j ∈ vs) : wipe (σ.set j x) vs = wipe σ vs := by
  apply List.ext_getElem?
  intro i
  rw [wipe_get, wipe_get]
  by_cases hi : i ∈ vs
  · rw [if_pos hi, if_pos hi]
    by_cases e : j = i
    · subst e
      by_cases hl : j < σ.length
      · rw [List.getElem?_set_self hl, List.getElem?_eq_getElem hl]; rfl
      · rw [List.getElem?_eq_none (by rw [List.length_set]; omega), List.getElem?_eq_none (by omega)]
    · rw [List.getElem?_set_ne e]
  · rw [if_neg hi, if_neg hi, List.getElem?_set_ne (fun z => hi (by rw [← z]; exact h))]
theorem wipe_wipe {σ : L2.St} {vs : List Nat} : wipe (wipe σ vs) vs = wipe σ vs := by
  apply List.ext_getElem?
  intro i
  rw [wipe_get, wipe_get]
  by_cases hi : i ∈ vs
  · rw [if_pos hi, if_pos hi]
    cases σ[i]? <;> rfl
  · rw [if_neg hi, if_neg hi]
/-- the slots ahead of a comprehension's turn -/
abbrev wipeD (ρ : Ro) (vs : List Nat) : Ro := vs.foldr (fun v r => r.set v none) ρ
/-- a comprehension's target: its names are among vs -/
def TcX (K : PySem.W.Frag) (W : WX) (X : XD) (vs : List Nat) (μ : Mu) (ρ : Ro) (g : TG) (d : D) (Φ : Mu → Ro → Prop) : Prop := ∀ (σ : L2.St) (H : Hp) (v : V) (Q : L2.St → Hp → Prop), Mem K μ H → EnvIs K μ H ρ σ → Den K μ H d v →
  (∀ ρ' σ', Φ μ ρ' → EnvIs K μ H ρ' σ' → wipe σ' vs = wipe σ vs → Q σ' H) → g v σ H Q
theorem tcx_name {vs : List Nat} {j : Nat} {d : D} {Φ : Mu → Ro → Prop} (hj : j ∈ vs) (h : Φ μ (ρ.set j (some d))) : TcX K W X vs μ ρ (gName j) d Φ := fun σ H v Q m e dd k => k _ _ h (e.set dd j) (wipe_set hj)
theorem tcx_tup2 {vs : List Nat} {i j : Nat} {d d' : D} {Φ : Mu → Ro → Prop} (hi : i ∈ vs) (hj : j ∈ vs) (h : Φ μ ((ρ.set i (some d)).set j (some d'))) : TcX K W X vs μ ρ (gTup K 2 (gCons (gName i) (gCons (gName j) gNil))) (.tup [d, d']) Φ := fun σ H v Q m e dd k => by
  unfold Den at dd
  obtain ⟨p, us, e1, s, b⟩ := dd
  unfold DenL at b
  obtain ⟨w, ws, e2, a, b⟩ := b
  unfold DenL at b
  obtain ⟨w', ws', e3, a', b'⟩ := b
  unfold DenL at b'
  subst b' e3 e2
  exact ⟨p, _, e1, s.sq, rfl, w, _, rfl, w', _, rfl, rfl, k _ _ h ((e.set a i).set a' j) (by rw [wipe_set hj, wipe_set hi])⟩
theorem tcx_tup4 {vs : List Nat} {i1 i2 i3 i4 : Nat} {d1 d2 d3 d4 : D} {Φ : Mu → Ro → Prop} (h1 : i1 ∈ vs) (h2 : i2 ∈ vs) (h3 : i3 ∈ vs) (h4 : i4 ∈ vs) (h : Φ μ ((((ρ.set i1 (some d1)).set i2 (some d2)).set i3 (some d3)).set i4 (some d4))) :
    TcX K W X vs μ ρ (gTup K 4 (gCons (gName i1) (gCons (gName i2) (gCons (gName i3) (gCons (gName i4) gNil))))) (.tup [d1, d2, d3, d4]) Φ := fun σ H v Q m e dd k => by
  unfold Den at dd
  obtain ⟨p, us, e1, s, b⟩ := dd
  unfold DenL at b
  obtain ⟨w1, ws1, q1, a1, b⟩ := b
  unfold DenL at b
  obtain ⟨w2, ws2, q2, a2, b⟩ := b
  unfold DenL at b
  obtain ⟨w3, ws3, q3, a3, b⟩ := b
  unfold DenL at b
  obtain ⟨w4, ws4, q4, a4, b⟩ := b
  unfold DenL at b
  subst b q4 q3 q2 q1
  exact ⟨p, _, e1, s.sq, rfl, _, _, rfl, _, _, rfl, _, _, rfl, _, _, rfl, rfl, k _ _ h ((((e.set a1 i1).set a2 i2).set a3 i3).set a4 i4) (by rw [wipe_set h4, wipe_set h3, wipe_set h2, wipe_set h1])⟩
/-- a comprehension: Iv by the turn, the store (the new list in it) and the list so far; at the end it may change no more, or it may -/
theorem evx_lc {vs : List Nat} (h : ItX K W X μ ρ wi fun μ1 ds S => ∀ Dl, μ1 Dl = none → ∃ Iv : Nat → Mu → List D → Prop, Iv 0 (mput μ1 Dl (.lst [])) [] ∧
    (∀ i μ' acc, i ≤ ds.length → μ' Dl = some (.lst acc) → Iv i μ' acc → acc.length ≤ 1000000 ∧ S μ') ∧
    (∀ i d μ' acc, ds[i]? = some d → μ' Dl = some (.lst acc) → Iv i μ' acc → TcX K W X vs μ' (wipeD ρ vs) g d fun μ2 ρ2 =>
      EvB K W X μ2 ρ2 tt fun μ3 b => μ3 Dl = some (.lst acc) ∧ if b = true then EvX K W X μ3 ρ2 te fun μ4 y => μ4 Dl = some (.lst acc) ∧ Iv (i + 1) (mput μ4 Dl (.lst (acc ++ [y]))) (acc ++ [y]) else Iv (i + 1) μ3 acc) ∧
    (∀ μ' acc, μ' Dl = some (.lst acc) → Iv ds.length μ' acc → Φ (mcut μ' Dl) (.lst acc) ∨ Φ μ' (.at Dl))) : EvX K W X μ ρ (tLc wi g tt te vs) Φ := fun σ H Q m e l k => by
  refine h σ H _ m e l fun μ1 ds S J H1 hp g1 m1 ok Dl hD => ?_
  obtain ⟨Iv, h0, hS, hs, hd⟩ := hp Dl (m1.free hD)
  obtain ⟨G, Y, w, hG, hY⟩ := ok.w
  have gn : Grow μ1 H1 (mput μ1 Dl (.lst [])) (upd H1 Dl (.lst [])) := Grow.newM hD
  have e1 := wipe_env (vs := vs) (e.grow g1)
  refine lc_it w (fun i H' => ∃ μ' acc, Iv i μ' acc ∧ μ' Dl = some (.lst acc) ∧ Grow μ1 H1 μ' H' ∧ Mem K μ' H') ⟨_, [], h0, mput_same, gn, m1.newM hD ⟨[], upd_same, DenL.nil⟩⟩ ?_ ?_ ?_
  · rintro i H' hi ⟨μ', acc, p, hl, gr, mm⟩
    exact hG μ' H' gr mm (hS i μ' acc hi hl p).2
  · rintro i x H' H'' hi ⟨μ', acc, p, hl, gr, mm⟩ y
    have hz := hS i μ' acc (Nat.le_of_lt hi) hl p
    obtain ⟨q1, q2, q3⟩ := hY i μ' H' x H'' ds[i] gr mm hz.2 y (by simp)
    have gg := gr.trans q1
    refine hs i ds[i] μ' acc (by simp) hl p (wipe σ vs) H'' x _ q2 (e1.grow gg) q3 fun ρ2 σ2 p2 e2 hw => ⟨by rw [hw, wipe_wipe], ?_⟩
    refine p2 σ2 H'' _ q2 e2 (l.grow (g1.trans gg)) fun μ3 b H3 ⟨hl3, p3⟩ g3 m3 => ?_
    cases b with
    | false =>
      rw [if_neg (by decide)] at p3 ⊢
      exact ⟨μ3, acc, p3, hl3, gg.trans g3, m3⟩
    | true =>
      rw [if_pos rfl] at p3 ⊢
      refine p3 σ2 H3 _ m3 (e2.grow g3) (l.grow ((g1.trans gg).trans g3)) fun μ4 d v H4 ⟨hl4, p4⟩ g4 m4 d4 => ?_
      obtain ⟨us, hu, hb⟩ := m4 Dl _ hl4
      refine ⟨us, hu, by rw [← hb.length]; exact Nat.lt_of_le_of_lt hz.1 (by decide), _, _, p4, mput_same, ((gg.trans g3).trans g4).trans (Grow.wr hl4), m4.wr hl4 ⟨_, upd_same, (DenL.grow (Grow.wr hl4) _ _ hb).append (DenL.cons (Den.grow (Grow.wr hl4) _ _ d4) DenL.nil)⟩⟩
  · rintro H' ⟨μ', acc, p, hl, gr, mm⟩
    rcases hd μ' acc hl p with q | q
    · obtain ⟨us, hu, hb⟩ := mm Dl _ hl
      exact k _ _ _ H' q ((g1.trans gr).trans Grow.cut) mm.cut (by unfold Den; exact ⟨Dl, us, rfl, ⟨mcut_same, hu⟩, DenL.less Less.cut _ _ hb⟩)
    · exact k _ _ _ H' q (g1.trans gr) mm (by unfold Den; rfl)
theorem evb_yes {Ψ : Mu → Bool → Prop} (h : Ψ μ true) : EvB K W X μ ρ tYes Ψ := fun σ H Q m e l k => k μ true H h (Grow.refl _ _) m
/-- a comprehension whose turns change nothing: from f and p of the items -/
theorem evx_lcP {vs : List Nat} (h : ItX K W X μ ρ wi fun μ1 ds S => (ds.length ≤ 1000000 ∧ ∀ m : Mu, (∀ b o, μ1 b = some o → m b = some o) → S m) ∧ ∃ (p : D → Bool) (f : D → D),
    (∀ d, d ∈ ds → ∀ μ' : Mu, (∀ b o, μ1 b = some o → μ' b = some o) → TcX K W X vs μ' (wipeD ρ vs) g d fun μ2 ρ2 => EvB K W X μ2 ρ2 tt fun μ3 b => μ3 = μ2 ∧ b = p d ∧ (p d = true → EvX K W X μ3 ρ2 te fun μ4 y => μ4 = μ3 ∧ y = f d)) ∧
    Φ μ1 (.lst ((ds.filter p).map f))) : EvX K W X μ ρ (tLc wi g tt te vs) Φ := by
  refine evx_lc fun σ H R m e l k => h σ H R m e l fun μ1 ds S J H1 ⟨⟨hl, hS⟩, p, f, hp, hq⟩ g1 m1 ok => k μ1 ds S J H1 (fun Dl hD => ?_) g1 m1 ok
  have up : ∀ μ' : Mu, (∀ b, b ≠ Dl → μ' b = μ1 b) → ∀ b o, μ1 b = some o → μ' b = some o := fun μ' hμ b o e => by
    rw [hμ b (fun z => by rw [z, hD] at e; cases e)]; exact e
  refine ⟨fun i μ' acc => acc = ((ds.take i).filter p).map f ∧ ∀ b, b ≠ Dl → μ' b = μ1 b, ⟨by simp, fun b hb => mput_ne hb⟩, ?_, ?_, ?_⟩
  · rintro i μ' acc hi _ ⟨rfl, hμ⟩
    refine ⟨?_, hS _ (up μ' hμ)⟩
    rw [List.length_map]
    refine Nat.le_trans (List.length_filter_le _ _) ?_
    rw [List.length_take]
    omega
  · rintro i d μ' acc hi hD' ⟨rfl, hμ⟩
    have hm : d ∈ ds := List.mem_of_getElem? hi
    have e1 : ds.take (i + 1) = ds.take i ++ [d] := by
      rw [List.take_succ, hi]; rfl
    intro σ H v Q m e dd k
    refine hp d hm μ' (up μ' hμ) σ H v Q m e dd fun ρ2 σ2 q2 e2 hw => k ρ2 σ2 ?_ e2 hw
    refine q2.imp fun μ3 b ⟨r1, r2, r3⟩ => ?_
    subst r1 r2
    refine ⟨hD', ?_⟩
    cases hpd : p d with
    | false =>
      rw [if_neg (by decide)]
      refine ⟨?_, hμ⟩
      rw [e1, List.filter_append, List.filter_cons, hpd]
      simp
    | true =>
      rw [if_pos rfl]
      refine (r3 hpd).imp fun μ4 y ⟨s1, s2⟩ => ?_
      subst s1 s2
      refine ⟨hD', ?_, fun b hb => by rw [mput_ne hb]; exact hμ b hb⟩
      rw [e1, List.filter_append, List.filter_cons, hpd]
      simp
  · rintro μ' acc hD' ⟨rfl, hμ⟩
    left
    have : mcut μ' Dl = μ1 := by
      funext b
      by_cases hb : b = Dl
      · subst hb; rw [mcut_same, hD]
      · rw [mcut_ne hb, hμ b hb]
    rw [this, List.take_length]
    exact hq
end
/-! ### promises over data -/
abbrev PD := Mu → List D → DP → (Mu → Addr → D → Prop) → Prop
/-- the promise P of a def with n parameters -/
def spD (K : PySem.W.Frag) (n : Nat) (P : PD) : Sp := fun vs H Q E => ∃ (μ : Mu) (ds : List D) (post : DP) (exc : Mu → Addr → D → Prop), Mem K μ H ∧ DenL K μ H ds vs ∧ ds.length = n ∧ P μ ds post exc ∧
  (∀ μ' d v H', post μ' d → Grow μ H μ' H' → Mem K μ' H' → Den K μ' H' d v → Q v H') ∧
  (∀ μ' C d dx v H', exc μ' C d → Grow μ H μ' H' → Mem K μ' H' → μ' dx = none → H' dx = some (.xd [(("value" : Str), v)]) → Den K μ' H' d v → E (.ref C) (some dx) H')
abbrev WN : WX := fun _ _ _ _ => False
abbrev XN : XD := fun _ _ _ _ => False
abbrev excN : Mu → Addr → D → Prop := fun _ _ _ => False
def startD (N : List Str) (ds : List D) : Ro := ds.map some ++ List.replicate (N.length - ds.length) none
/-- a function of plain data: it changes nothing -/
def pureP (f : List D → Option D) : PD := fun μ ds post _ => ∃ d, f ds = some d ∧ post μ d

section
variable {K : PySem.W.Frag} {W : WX} {X : XD} {μ μ' : Mu} {H H' : Hp} {ρ : Ro} {E : ED} {ta tb te tx tl : TE} {tt tu : TT} {Φ : DP} {g : TG} {t : TS} {wi : TI} {n : Nat} {P : PD} {tr tk : TA}
theorem evx_call (h : EvL K W X μ ρ tr fun μ1 ds => ds.length = n ∧ P μ1 ds Φ excN) : EvX K W X μ ρ (tCall (spD K n P) [] E0 tr) Φ := fun σ H Q m e l k =>
  h σ H _ m e l fun μ1 ds vs H1 ⟨hl, hp⟩ g1 m1 d1 => ⟨μ1, ds, Φ, excN, m1, by rw [List.append_nil]; exact d1, hl, hp, fun μ' d v H' p g => k μ' d v H' p (g1.trans g), fun _ _ _ _ _ _ z => z.elim⟩
theorem evx_callS (h : EvL K W X μ ρ tr fun μ1 ds => ds.length = n ∧ P μ1 ds Φ fun μ' C d => X μ' ρ C d) : EvX K W X μ ρ (tCallS (spD K n P) (WE W) tr) Φ := fun σ H Q m e l k =>
  h σ H _ m e l fun μ1 ds vs H1 ⟨hl, hp⟩ g1 m1 d1 => ⟨μ1, ds, Φ, _, m1, d1, hl, hp, fun μ' d v H' p g => k μ' d v H' p (g1.trans g), fun μ' C d dx v H' p g mm => l μ' ρ C d dx v σ H' p (g1.trans g) mm ((e.grow g1).grow g)⟩
/-- a call with keywords: gD puts the data in the parameters' order -/
theorem evx_callK {gV : List V → List V → List V} (gD : List D → List D → List D) (hg : ∀ μ H ds es vs ws, DenL K μ H ds vs → DenL K μ H es ws → DenL K μ H (gD ds es) (gV vs ws))
    (h : EvL K W X μ ρ tr fun μ1 ds => EvL K W X μ1 ρ tk fun μ2 es => (gD ds es).length = n ∧ P μ2 (gD ds es) Φ excN) : EvX K W X μ ρ (tCallK (spD K n P) gV E0 tr tk) Φ := fun σ H Q m e l k =>
  h σ H _ m e l fun μ1 ds vs H1 h1 g1 m1 d1 => h1 σ H1 _ m1 (e.grow g1) (l.grow g1) fun μ2 es ws H2 ⟨hl, hp⟩ g2 m2 d2 =>
    ⟨μ2, _, Φ, excN, m2, hg _ _ _ _ _ _ (DenL.grow g2 _ _ d1) d2, hl, hp, fun μ' d v H' p g => k μ' d v H' p ((g1.trans g2).trans g), fun _ _ _ _ _ _ z => z.elim⟩
/-- raise C(e) -/
abbrev tRaiseO (C : Addr) (W : WX) (sp : Sp) (tr : TA) : TS := fun _ σ H => tMkO C sp [] tr σ H fun cls d H' => W cls d σ H'
/-- the promise of WorthError's __init__ -/
def spInit (K : PySem.W.Frag) (f : Str) : Sp := fun vs H Q _ => ∃ (a C : Addr) (v : V), vs = [.ref a, v] ∧ OexC K C ∧ PySem.W.findIn K (.ref C) f = some none ∧ H a = some (exo a C none) ∧
  ∀ dx, H dx = none → dx ≠ a → Q .non (upd (upd H dx (exd dx [(f, v)])) a (exo a C (some dx)))
theorem gs_raise {C : Addr} (hC : OexC K C) (hv : PySem.W.findIn K (.ref C) "value" = some none) (h : EvL K W X μ ρ tr fun μ1 ds => ∃ d, ds = [d] ∧ X μ1 ρ C d) : GS K W X μ ρ (tRaiseO C W (spInit K "value") tr) E := fun σ H D m e l k => by
  refine h σ H _ m e l fun μ1 ds vs H1 ⟨d, hd, hx⟩ g1 m1 d1 => ?_
  subst hd
  unfold DenL at d1
  obtain ⟨w, ws, e1, a, b⟩ := d1
  unfold DenL at b
  subst b e1
  refine ⟨Nat.le_of_ble_eq_true rfl, fun p hp => ⟨p, C, w, rfl, hC, hv, upd_same, fun dx hdx hne => ⟨rfl, dx, [(("value" : Str), w)], upd_same, ?_, ?_, ?_⟩⟩⟩
  · rw [upd_ne hne, upd_same]
  · rw [upd_ne hne] at hdx; exact hdx
  · have hdx' : H1 dx = none := by rw [upd_ne hne] at hdx; exact hdx
    have eq : upd (L2.del (upd (upd (upd H1 p (exo p C none)) dx (exd dx [(("value" : Str), w)])) p (exo p C (some dx))) p) dx (.xd [(("value" : Str), w)]) = upd H1 dx (.xd [(("value" : Str), w)]) := by
      funext b
      by_cases h1 : b = dx
      · rw [h1, upd_same, upd_same]
      · rw [upd_ne h1, upd_ne h1]
        by_cases h2 : b = p
        · rw [h2, del_same, hp]
        · rw [del_ne h2, upd_ne h2, upd_ne h1, upd_ne h2]
    rw [eq]
    exact l μ1 ρ C d dx w σ _ hx (g1.trans (Grow.new hdx')) (m1.new hdx') ((e.grow g1).grow (Grow.new hdx')) (m1.free hdx') upd_same (Den.grow (Grow.new hdx') _ _ a)
theorem envIs_start {N : List Str} : ∀ {ds : List D} {vs : List V}, DenL K μ H ds vs → EnvIs K μ H (startD N ds) (L2.start N vs) := fun {ds vs} h => by
  have hl := h.length
  refine ⟨?_, fun i d e => ?_⟩
  · unfold L2.start startD
    simp only [List.length_append, List.length_map, List.length_replicate]
    omega
  · unfold startD at e
    unfold L2.start
    by_cases hi : i < ds.length
    · rw [List.getElem?_append_left (by rw [List.length_map]; exact hi), List.getElem?_map] at e
      rw [List.getElem?_append_left (by rw [List.length_map]; omega), List.getElem?_map]
      cases q : ds[i]? with
      | none => rw [q] at e; cases e
      | some x =>
        rw [q] at e
        cases e
        obtain ⟨v, h1, h2⟩ := h.get q
        exact ⟨v, by rw [h1]; rfl, h2⟩
    · rw [List.getElem?_append_right (by rw [List.length_map]; omega)] at e
      by_cases hj : i - (ds.map some).length < N.length - ds.length
      · rw [List.getElem?_replicate, if_pos hj] at e
        cases e
      · rw [List.getElem?_replicate, if_neg hj] at e
        cases e
end
section
variable {P : Program} {w : World} {K : PySem.W.Frag} {mg : Str → Option Value} {base : Heap}
/-- a def keeps its promise; no exception leaves it -/
theorem def_ok {x qual : Str} {st : Stmt} {f : Addr} {fd : FuncData} {N ps : List Str} {k : Nat} {Pd : PD} (F : Fun K x qual st f fd) (S : FnScope N ps (defScope st))
    (hb : ∀ (cdv : Value) (A : Around) (outer : List Env) (s : Shared) (H : Hp) (E : XK), Room k (A.deeper (envOfC qual (defScope st) s.heap.objs.size f cdv)) →
      ∃ t, PSs (cxOf CX0 P w K mg base N qual (defScope st) f cdv A outer s H E).nox (defBody st) t ∧ ∀ μ ds post exc, ds.length = ps.length → Pd μ ds post exc → GS K WN XN μ (startD N ds) t { nx := fun m _ => post m .non, rt := post }) :
    FnOk P w K mg base CX0 (k + 1) f fd ps (spD K ps.length Pd) := by
  refine F.ok S (fun vs H Q E h => ?_) fun cdv A outer s H vs Q E hr h => ?_
  · obtain ⟨μ, ds, post, exc, _, d, hl, _⟩ := h
    rw [← d.length, hl]
  · obtain ⟨μ, ds, post, exc, m, d, hl, hp, h1, h2⟩ := h
    obtain ⟨t, ht, hg⟩ := hb cdv A outer s H E hr
    refine ⟨t, ht, hg μ ds post exc hl hp (L2.start N vs) H _ m (envIs_start d) (fun _ _ _ _ _ _ _ _ z => z.elim) ⟨?_, ?_, fun _ _ _ _ z => z.elim, fun _ _ _ _ z => z.elim⟩⟩
    · intro μ' ρ' σ' H' p gr mm ee
      exact h1 μ' .non .non H' p gr mm (by unfold Den; rfl)
    · intro μ' d v H' p gr mm dd
      exact h1 μ' d v H' p gr mm dd
/-- a def that may raise keeps its promise -/
theorem def_okX {x qual : Str} {st : Stmt} {f : Addr} {fd : FuncData} {N ps : List Str} {k : Nat} {Pd : PD} (F : Fun K x qual st f fd) (S : FnScope N ps (defScope st))
    (hb : ∀ (cdv : Value) (A : Around) (outer : List Env) (s : Shared) (H : Hp) (E : XK), Room k (A.deeper (envOfC qual (defScope st) s.heap.objs.size f cdv)) →
      ∃ t, PSs (cxOf (L2.CX P w) P w K mg base N qual (defScope st) f cdv A outer s H E) (defBody st) t ∧ ∀ μ ds post exc, ds.length = ps.length → Pd μ ds post exc → GS K (fun cls d _ H => E cls d H) (fun m _ C d => exc m C d) μ (startD N ds) t { nx := fun m _ => post m .non, rt := post }) :
    FnOk P w K mg base (L2.CX P w) (k + 1) f fd ps (spD K ps.length Pd) := by
  refine F.okX S (fun vs H Q E h => ?_) fun cdv A outer s H vs Q E hr h => ?_
  · obtain ⟨μ, ds, post, exc, _, d, hl, _⟩ := h
    rw [← d.length, hl]
  · obtain ⟨μ, ds, post, exc, m, d, hl, hp, h1, h2⟩ := h
    obtain ⟨t, ht, hg⟩ := hb cdv A outer s H E hr
    refine ⟨t, ht, hg μ ds post exc hl hp (L2.start N vs) H _ m (envIs_start d) ?_ ⟨?_, ?_, fun _ _ _ _ z => z.elim, fun _ _ _ _ z => z.elim⟩⟩
    · intro μ' ρ' C d dx v σ' H' p gr mm ee hx hd dd
      exact h2 μ' C d dx v H' p gr mm hx hd dd
    · intro μ' ρ' σ' H' p gr mm ee
      exact h1 μ' .non .non H' p gr mm (by unfold Den; rfl)
    · intro μ' d v H' p gr mm dd
      exact h1 μ' d v H' p gr mm dd
/-- another promise that follows -/
theorem fn_imp {CX : CXT} {k : Nat} {f : Addr} {fd : FuncData} {ps : List Str} {n : Nat} {P1 P2 : PD} (F : FnOk P w K mg base CX k f fd ps (spD K n P1)) (h : ∀ μ ds post exc, P2 μ ds post exc → P1 μ ds post exc) :
    FnOk P w K mg base CX k f fd ps (spD K n P2) := F.imp fun vs H Q E ⟨μ, ds, post, exc, m, d, hl, hp, r⟩ => ⟨μ, ds, post, exc, m, d, hl, h _ _ _ _ hp, r⟩
end
/-! ### while -/
section
variable {K : PySem.W.Frag} {W : WX} {X : XD} {μ μ' : Mu} {H H' : Hp} {ρ : Ro} {E : ED} {tt tu : TT} {Φ : DP} {t : TS}
theorem gs_while (Iv : Nat → Mu → Ro → Prop) (m0 : Nat) (h0 : Iv m0 μ ρ) (hs : ∀ m μ' ρ', Iv m μ' ρ' → EvB K W X μ' ρ' tt fun μ1 b => if b = true then GS K W X μ1 ρ' t { E with nx := fun μ2 ρ2 => ∃ m', m' < m ∧ Iv m' μ2 ρ2, ct := fun μ2 ρ2 => ∃ m', m' < m ∧ Iv m' μ2 ρ2, bk := E.nx } else E.nx μ1 ρ') :
    GS K W X μ ρ (tWhile tt t) E := fun σ H D mm e l k => by
  refine ⟨fun m σ' H' => ∃ μ' ρ', Iv m μ' ρ' ∧ Grow μ H μ' H' ∧ Mem K μ' H' ∧ EnvIs K μ' H' ρ' σ', ⟨m0, μ, ρ, h0, Grow.refl _ _, mm, e⟩, ?_⟩
  rintro m σ' H' ⟨μ', ρ', p, gr, m1, ee⟩
  refine hs m μ' ρ' p σ' H' _ m1 ee (l.grow gr) fun μ1 b H1 h1 g1 m2 => ?_
  cases b with
  | false =>
    rw [if_neg (by decide)] at h1 ⊢
    exact k.nx _ _ _ _ h1 (gr.trans g1) m2 (ee.grow g1)
  | true =>
    rw [if_pos rfl] at h1 ⊢
    have gg := gr.trans g1
    refine ⟨_, fun _ _ z => z, h1 σ' H1 _ m2 (ee.grow g1) (l.grow gg) ⟨?_, fun _ _ _ _ h x => k.rt _ _ _ _ h (gg.trans x), fun _ _ _ _ h x => k.nx _ _ _ _ h (gg.trans x), ?_⟩⟩
    · rintro μ2 ρ2 σ2 H2 ⟨m', hm, q⟩ g2 m3 e3
      exact ⟨m', hm, μ2, ρ2, q, gg.trans g2, m3, e3⟩
    · rintro μ2 ρ2 σ2 H2 ⟨m', hm, q⟩ g2 m3 e3
      exact ⟨m', hm, μ2, ρ2, q, gg.trans g2, m3, e3⟩
end
/-! ### operations of wide ints -/
def CMulB (i j : Int) : Prop := ∃ a b : Nat, i.natAbs < 2 ^ a ∧ j.natAbs < 2 ^ b ∧ a + b ≤ 134000000
def CPowB (i j : Int) : Prop := 0 ≤ j ∧ ∃ a : Nat, i.natAbs < 2 ^ a ∧ a * j.toNat ≤ 134000000
def CDivB (_ j : Int) : Prop := j ≠ 0 ∧ j.natAbs < 2 ^ 9000
theorem intBits_le {x : Int} {a : Nat} (h : x.natAbs < 2 ^ a) : Builtin.Int.intBits x ≤ a := by
  unfold Builtin.Int.intBits
  split
  · omega
  · rename_i hx
    have h0 : x.natAbs ≠ 0 := by simpa using hx
    have : x.natAbs.log2 < a := (Nat.log2_lt h0).mpr h
    omega
theorem CMulB.ok {i j : Int} (h : CMulB i j) : IntMulOk i j := by
  obtain ⟨a, b, h1, h2, h3⟩ := h
  have b1 := intBits_le h1
  have b2 := intBits_le h2
  have e : bitsLine = 134217728 := by decide
  unfold IntMulOk
  intro z
  rw [Bool.and_eq_true] at z
  have z2 := z.2
  unfold Builtin.Int.intTooBig at z2
  have z3 := of_decide_eq_true z2
  rw [e] at z3
  omega
/-- either reading -/
def rOr (r r' : R2) : R2 := fun x y H Q => r x y H Q ∨ r' x y H Q
section
variable {X : Cx}
theorem op_or2 {f : Value → Value → Sem Value} {r r' : R2} (a : OpR X f r) (b : OpR X f r') : OpR X f (rOr r r') := fun pins s σ H x y v u Q I rx ry h => by
  rcases h with h | h
  · exact a pins s σ H x y v u Q I rx ry h
  · exact b pins s σ H x y v u Q I rx ry h
theorem op_mulB : OpR X (binaryOp .Mult) (rI CMulB fun i j => .int (i * j)) := opI fun _ _ _ _ _ _ _ hc q => mul_int q hc.ok
theorem op_divB : OpR X (binaryOp .FloorDiv) (rI CDivB fun i j => .int (i.fdiv j)) := opI fun _ _ _ _ _ _ _ hc q => floordiv_int hc.1 q (.inl (PyProof.noPylong_of_log2 ((Nat.log2_lt (by have := hc.1; omega)).mpr hc.2)))
theorem op_powB : OpR X (binaryOp .Pow) (rI CPowB fun i j => .int (i ^ j.toNat)) := opI fun i j _ _ _ _ _ hc q => by
  obtain ⟨h0, a, h1, h2⟩ := hc
  refine pow_int h0 ?_ q
  have b1 := intBits_le h1
  have e : ((j.toNat : Nat) : Int) = j := Int.toNat_of_nonneg h0
  have : Builtin.Int.intBits i * j.toNat ≤ 134000000 := Nat.le_trans (Nat.mul_le_mul_right _ b1) h2
  rw [← e]
  have q2 : ((Builtin.Int.intBits i * j.toNat : Nat) : Int) ≤ ((134000000 : Nat) : Int) := Int.ofNat_le.mpr this
  rw [Int.natCast_mul] at q2
  exact Int.le_trans q2 (by decide)
/-- a + b: ints, texts, lists, tuples -/
def rAddS : R2 := fun x y H Q => ∃ i j, x = .str i ∧ y = .str j ∧ i.length + j.length ≤ sizeLine ∧ Q (.str (i ++ j)) H
theorem op_addS : OpR X (binaryOp .Add) rAddS := op_add_str
abbrev rAddU (K : PySem.W.Frag) : R2 := rOr (rI0 fun i j => .int (i + j)) (rOr rAddS (rOr rCat (rCatT K)))
theorem op_addU : OpR X (binaryOp .Add) (rAddU X.K) := op_or2 op_add (op_or2 op_addS (op_or2 op_cat op_catT))
abbrev rMulU : R2 := rOr (rI CMulB fun i j => .int (i * j)) rRep
theorem op_mulU : OpR X (binaryOp .Mult) rMulU := op_or2 op_mulB op_rep
abbrev rEqU (K : PySem.W.Frag) : R2 := rOr rEq (rEqD K)
abbrev rNeU (K : PySem.W.Frag) : R2 := rOr rNe (rNeD K)
theorem op_eqU (hu : X.A.units + 64 < cLine) : OpR X (compareOp .Eq) (rEqU X.K) := op_or2 op_eq (op_eqD hu)
theorem op_neU (hu : X.A.units + 64 < cLine) : OpR X (compareOp .NotEq) (rNeU X.K) := op_or2 op_ne (op_neD hu)
end
/-! ### over data -/
section
variable {K : PySem.W.Frag} {W : WX} {X : XD} {μ μ' : Mu} {H H' : Hp} {ρ : Ro} {E : ED} {ta tb te tx tl : TE} {Φ : DP} {x y : D} {r r' : R2} {i j : Int}
theorem opx_l (h : OpX K r μ x y Φ) : OpX K (rOr r r') μ x y Φ := fun H v w Q m a b k => .inl (h H v w Q m a b k)
theorem opx_r (h : OpX K r' μ x y Φ) : OpX K (rOr r r') μ x y Φ := fun H v w Q m a b k => .inr (h H v w Q m a b k)
theorem opx_i {C : Int → Int → Prop} {g : Int → Int → Int} (hc : C i j) (h : Φ μ (.int (g i j))) : OpX K (rI C fun i j => .int (g i j)) μ (.int i) (.int j) Φ := fun H v w Q m a b k => by
  unfold Den at a b
  exact ⟨i, j, a, b, hc, k μ _ _ H h (Grow.refl _ _) m (by unfold Den; rfl)⟩
theorem opx_i0 {g : Int → Int → Int} (h : Φ μ (.int (g i j))) : OpX K (rI0 fun i j => .int (g i j)) μ (.int i) (.int j) Φ := fun H v w Q m a b k => by
  unfold Den at a b
  exact ⟨i, j, a, b, k μ _ _ H h (Grow.refl _ _) m (by unfold Den; rfl)⟩
theorem opx_b0 {g : Int → Int → Bool} (h : Φ μ (.bl (g i j))) : OpX K (rI0 fun i j => .bl (g i j)) μ (.int i) (.int j) Φ := fun H v w Q m a b k => by
  unfold Den at a b
  exact ⟨i, j, a, b, k μ _ _ H h (Grow.refl _ _) m (by unfold Den; rfl)⟩
theorem opx_addS {a b : Str} (hl : a.length + b.length ≤ 1000000) (h : Φ μ (.str (a ++ b))) : OpX K rAddS μ (.str a) (.str b) Φ := fun H v w Q m p q k => by
  unfold Den at p q
  exact ⟨a, b, p, q, Nat.le_trans hl (by decide), k μ _ _ H h (Grow.refl _ _) m (by unfold Den; rfl)⟩
theorem opx_eqI (h : Φ μ (.bl (decide (i = j)))) : OpX K rEq μ (.int i) (.int j) Φ := fun H v w Q m a b k => by
  unfold Den at a b
  subst a b
  refine ⟨rfl, k μ _ _ H h (Grow.refl _ _) m ?_⟩
  unfold Den
  congr 1
  simp
theorem opx_neI (h : Φ μ (.bl (!decide (i = j)))) : OpX K rNe μ (.int i) (.int j) Φ := fun H v w Q m a b k => by
  unfold Den at a b
  subst a b
  refine ⟨rfl, k μ _ _ H h (Grow.refl _ _) m ?_⟩
  unfold Den
  congr 1
  simp
theorem opx_eqS {i j : Str} (h : Φ μ (.bl (decide (i = j)))) : OpX K rEq μ (.str i) (.str j) Φ := fun H v w Q m a b k => by
  unfold Den at a b
  subst a b
  refine ⟨rfl, k μ _ _ H h (Grow.refl _ _) m ?_⟩
  unfold Den
  congr 1
  simp
theorem opx_neS {i j : Str} (h : Φ μ (.bl (!decide (i = j)))) : OpX K rNe μ (.str i) (.str j) Φ := fun H v w Q m a b k => by
  unfold Den at a b
  subst a b
  refine ⟨rfl, k μ _ _ H h (Grow.refl _ _) m ?_⟩
  unfold Den
  congr 1
  simp
theorem opx_eqB {i j : Bool} (h : Φ μ (.bl (decide (i = j)))) : OpX K rEq μ (.bl i) (.bl j) Φ := fun H v w Q m a b k => by
  unfold Den at a b
  subst a b
  refine ⟨rfl, k μ _ _ H h (Grow.refl _ _) m ?_⟩
  unfold Den
  congr 1
  simp
theorem opx_neB {i j : Bool} (h : Φ μ (.bl (!decide (i = j)))) : OpX K rNe μ (.bl i) (.bl j) Φ := fun H v w Q m a b k => by
  unfold Den at a b
  subst a b
  refine ⟨rfl, k μ _ _ H h (Grow.refl _ _) m ?_⟩
  unfold Den
  congr 1
  simp
def isNon : D → Bool
  | .non => true
  | _ => false
theorem den_non {d : D} {v : V} (h : Den K μ H d v) : decide (v = .non) = isNon d := by
  cases d <;> unfold Den at h <;> unfold isNon
  case non => rw [h]; rfl
  case bl => rw [h]; rfl
  case int => rw [h]; rfl
  case str => rw [h]; rfl
  case ty => rw [h]; rfl
  case «at» => rw [h]; rfl
  case tup => obtain ⟨p, vs, e, _⟩ := h; rw [e]; rfl
  case lst => obtain ⟨p, vs, e, _⟩ := h; rw [e]; rfl
  case frz => obtain ⟨p, vs, e, _⟩ := h; rw [e]; rfl
  case dct => obtain ⟨p, vs, e, _⟩ := h; rw [e]; rfl
  case obj => obtain ⟨p, dx, vs, e, _⟩ := h; rw [e]; rfl
  case exc => obtain ⟨p, dx, vs, e, _⟩ := h; rw [e]; rfl
theorem evx_isN (h : EvX K W X μ ρ te fun μ1 d => Φ μ1 (.bl (isNon d))) : EvX K W X μ ρ (tIsN te) Φ := fun σ H Q m e l k =>
  h σ H _ m e l fun μ1 d v H1 h1 g1 m1 d1 => k μ1 _ _ H1 h1 g1 m1 (by rw [den_non d1]; unfold Den; rfl)
theorem evx_notN (h : EvX K W X μ ρ te fun μ1 d => Φ μ1 (.bl (!isNon d))) : EvX K W X μ ρ (tNotN te) Φ := fun σ H Q m e l k =>
  h σ H _ m e l fun μ1 d v H1 h1 g1 m1 d1 => k μ1 _ _ H1 h1 g1 m1 (by rw [den_non d1]; unfold Den; rfl)
theorem unx_i {g : Int → Int} (h : Φ μ (.int (g i))) : UnX K (rU fun i => .int (g i)) μ (.int i) Φ := fun H v Q m a k => by
  unfold Den at a
  exact ⟨i, a, k μ _ _ H h (Grow.refl _ _) m (by unfold Den; rfl)⟩
/-! ### built-ins -/
theorem denL1 {d : D} {vs : List V} (h : DenL K μ H [d] vs) : ∃ v, vs = [v] ∧ Den K μ H d v := by
  unfold DenL at h
  obtain ⟨v, ws, e, a, b⟩ := h
  unfold DenL at b
  subst b
  exact ⟨v, e, a⟩
theorem denL2 {d d' : D} {vs : List V} (h : DenL K μ H [d, d'] vs) : ∃ v v', vs = [v, v'] ∧ Den K μ H d v ∧ Den K μ H d' v' := by
  unfold DenL at h
  obtain ⟨v, ws, e, a, b⟩ := h
  obtain ⟨v', e', b'⟩ := denL1 b
  subst e'
  exact ⟨v, v', e, a, b'⟩
theorem cax_abs (h : Φ μ (.int (if i < 0 then -i else i))) : CaX K (fun xs H Q => ∃ i, xs = [.int i] ∧ Q (.int (if i < 0 then -i else i)) H) μ [.int i] Φ := fun H vs Q m d k => by
  obtain ⟨v, e, a⟩ := denL1 d
  unfold Den at a
  subst a
  exact ⟨i, e, k μ _ _ H h (Grow.refl _ _) m (by unfold Den; rfl)⟩
theorem cax_int (h : Φ μ (.int i)) : CaX K (fun xs H Q => (∃ i, xs = [.int i] ∧ Q (.int i) H) ∨ ∃ k, xs = [.bl k] ∧ Q (.int (if k then 1 else 0)) H) μ [.int i] Φ := fun H vs Q m d k => by
  obtain ⟨v, e, a⟩ := denL1 d
  unfold Den at a
  subst a
  exact .inl ⟨i, e, k μ _ _ H h (Grow.refl _ _) m (by unfold Den; rfl)⟩
theorem cax_intB {b : Bool} (h : Φ μ (.int (if b then 1 else 0))) : CaX K (fun xs H Q => (∃ i, xs = [.int i] ∧ Q (.int i) H) ∨ ∃ k, xs = [.bl k] ∧ Q (.int (if k then 1 else 0)) H) μ [.bl b] Φ := fun H vs Q m d k => by
  obtain ⟨v, e, a⟩ := denL1 d
  unfold Den at a
  subst a
  exact .inr ⟨b, e, k μ _ _ H h (Grow.refl _ _) m (by unfold Den; rfl)⟩
theorem cax_gcd (h : Φ μ (.int ((Nat.gcd i.natAbs j.natAbs : Nat) : Int))) : CaX K rGcd μ [.int i, .int j] Φ := fun H vs Q m d k => by
  obtain ⟨v, v', e, a, b⟩ := denL2 d
  unfold Den at a b
  subst a b
  exact ⟨i, j, e, k μ _ _ H h (Grow.refl _ _) m (by unfold Den; rfl)⟩
theorem cax_max2 (h : Φ μ (.int (if j > i then j else i))) : CaX K (fun xs H Q => ∃ i j, xs = [.int i, .int j] ∧ Q (.int (if j > i then j else i)) H) μ [.int i, .int j] Φ := fun H vs Q m d k => by
  obtain ⟨v, v', e, a, b⟩ := denL2 d
  unfold Den at a b
  subst a b
  exact ⟨i, j, e, k μ _ _ H h (Grow.refl _ _) m (by unfold Den; rfl)⟩
theorem cax_min2 (h : Φ μ (.int (if j < i then j else i))) : CaX K (fun xs H Q => ∃ i j, xs = [.int i, .int j] ∧ Q (.int (if j < i then j else i)) H) μ [.int i, .int j] Φ := fun H vs Q m d k => by
  obtain ⟨v, v', e, a, b⟩ := denL2 d
  unfold Den at a b
  subst a b
  exact ⟨i, j, e, k μ _ _ H h (Grow.refl _ _) m (by unfold Den; rfl)⟩
/-- len: a list (kept, frozen or one that may change), a tuple, a text -/
def LenD (μ : Mu) : D → Nat → Prop
  | .lst ds, n => n = ds.length
  | .frz ds, n => n = ds.length
  | .tup ds, n => n = ds.length
  | .str z, n => z.length ≤ 1000000 ∧ n = z.length
  | .at a, n => ∃ ds, μ a = some (.lst ds) ∧ n = ds.length
  | _, _ => False
theorem cax_len {n : Nat} (hx : LenD μ x n) (h : Φ μ (.int n)) : CaX K (fun xs H Q => ∃ x n, xs = [x] ∧ LenV K x H n ∧ Q (.int n) H) μ [x] Φ := fun H vs Q m d k => by
  obtain ⟨v, e, a⟩ := denL1 d
  refine ⟨v, n, e, ?_, k μ _ _ H h (Grow.refl _ _) m (by unfold Den; rfl)⟩
  cases x <;> unfold Den at a <;> unfold LenD at hx <;> try exact hx.elim
  case str => subst a; exact ⟨Nat.le_trans hx.1 (by decide), hx.2⟩
  case tup =>
    obtain ⟨p, us, e, s, b⟩ := a
    subst e
    exact .inr ⟨us, s.sq, by rw [hx, b.length]⟩
  case lst =>
    obtain ⟨p, us, e, s, b⟩ := a
    subst e
    exact .inl ⟨us, SqL.of s.2, by rw [hx, b.length]⟩
  case frz =>
    obtain ⟨p, us, e, s, b⟩ := a
    subst e
    exact .inl ⟨us, s.sq, by rw [hx, b.length]⟩
  case «at» =>
    obtain ⟨ds, q, en⟩ := hx
    obtain ⟨us, e1, b⟩ := m _ _ q
    subst a
    exact .inl ⟨us, SqL.of e1, by rw [en, b.length]⟩
/-! ### items -/
/-- the items of something that has a place for each -/
def ItemsD (μ : Mu) : D → List D → Prop
  | .lst ds, es => es = ds
  | .frz ds, es => es = ds
  | .tup ds, es => es = ds
  | .at a, es => μ a = some (.lst es)
  | _, _ => False
theorem atI_den {ds : List D} {vs : List V} {i : Int} {d : D} (b : DenL K μ H ds vs) (h : atI ds i = some d) : ∃ v, atI vs i = some v ∧ Den K μ H d v := by
  unfold atI at h ⊢
  rw [← b.length]
  cases q : ixN ds.length i with
  | none => rw [q] at h; cases h
  | some j =>
    rw [q] at h
    have h' : ds[j]? = some d := h
    obtain ⟨v, h1, h2⟩ := b.get h'
    exact ⟨v, h1, h2⟩
theorem opx_ix {es : List D} {d : D} (hx : ItemsD μ x es) (ha : atI es i = some d) (h : Φ μ d) : OpX K (rIx K) μ x (.int i) Φ := fun H v w Q m a b k => by
  unfold Den at b
  subst b
  cases x <;> unfold Den at a <;> unfold ItemsD at hx <;> try exact hx.elim
  case tup =>
    obtain ⟨p, us, e, s, b⟩ := a
    subst e hx
    obtain ⟨u, q1, q2⟩ := atI_den b ha
    exact .inr (.inl ⟨p, us, i, u, rfl, rfl, s.sq, q1, k μ _ _ H h (Grow.refl _ _) m q2⟩)
  case lst =>
    obtain ⟨p, us, e, s, b⟩ := a
    subst e hx
    obtain ⟨u, q1, q2⟩ := atI_den b ha
    exact .inl ⟨p, us, i, u, rfl, rfl, SqL.of s.2, q1, k μ _ _ H h (Grow.refl _ _) m q2⟩
  case frz =>
    obtain ⟨p, us, e, s, b⟩ := a
    subst e hx
    obtain ⟨u, q1, q2⟩ := atI_den b ha
    exact .inl ⟨p, us, i, u, rfl, rfl, s.sq, q1, k μ _ _ H h (Grow.refl _ _) m q2⟩
  case «at» =>
    obtain ⟨us, e1, b⟩ := m _ _ hx
    subst a
    obtain ⟨u, q1, q2⟩ := atI_den b ha
    exact .inl ⟨_, us, i, u, rfl, rfl, SqL.of e1, q1, k μ _ _ H h (Grow.refl _ _) m q2⟩
theorem opx_ixS {z : Str} {c : Nat} (hz : z.length ≤ 1000000) (ha : atI z.cps.toList i = some c) (h : Φ μ (.str ⟨#[c]⟩)) : OpX K (rIx K) μ (.str z) (.int i) Φ := fun H v w Q m a b k => by
  unfold Den at a b
  subst a b
  exact .inr (.inr ⟨z, i, c, rfl, rfl, Nat.le_trans hz (by decide), ha, k μ _ _ H h (Grow.refl _ _) m (by unfold Den; rfl)⟩)
theorem atI_pos {α : Type} {xs : List α} {n : Nat} {v : α} (h : xs[n]? = some v) : atI xs (n : Int) = some v := atI_nat h
/-- x[i] = e -/
theorem tgx_sub {to ti : TE} {d : D} {Φ : Mu → Ro → Prop} (h : EvX K W X μ ρ to fun μ1 o => EvX K W X μ1 ρ ti fun μ2 i => ∃ a ds k j, o = .at a ∧ i = .int k ∧ μ2 a = some (.lst ds) ∧ ixN ds.length k = some j ∧ Φ (mput μ2 a (.lst (ds.set j d))) ρ) :
    TgX K W X μ ρ (gSub to ti rSetL) d Φ := fun σ H v Q m e l dd k =>
  h σ H _ m e l fun μ1 o ov H1 h1 g1 m1 d1 => h1 σ H1 _ m1 (e.grow g1) (l.grow g1) fun μ2 i iv H2 ⟨a, ds, kk, j, e1, e2, ha, hj, hp⟩ g2 m2 d2 => by
    subst e1 e2
    unfold Den at d1 d2
    subst d1 d2
    obtain ⟨us, q, b⟩ := m2 a _ ha
    have gg := g1.trans g2
    refine ⟨a, us, kk, j, rfl, rfl, q, by rw [← b.length]; exact hj, k _ ρ σ _ hp (gg.trans (Grow.wr ha)) (m2.wr ha ⟨_, upd_same, DenL.set (Den.grow (gg.trans (Grow.wr ha)) _ _ dd) j (DenL.grow (Grow.wr ha) _ _ b)⟩) ((e.grow gg).grow (Grow.wr ha))⟩
/-! ### methods of lists -/
theorem evx_append {to : TE} {p : Addr} {ds : List D} (ho : ∀ Φ : DP, Φ μ (.at p) → EvX K W X μ ρ to Φ) (h : EvX K W X μ ρ te fun μ1 d => ∃ ds, μ1 p = some (.lst ds) ∧ ds.length ≤ 1000000 ∧ Φ (mput μ1 p (.lst (ds ++ [d]))) .non) (h0 : μ p = some (.lst ds)) :
    EvX K W X μ ρ (tBM K "list" rAppend to (tCons te tNil)) Φ := fun σ H Q m e l k =>
  ho (fun μ1 d => μ1 = μ ∧ d = .at p) ⟨rfl, rfl⟩ σ H _ m e l fun μ0 d0 v0 H0 ⟨e1, e2⟩ g0 m0 d0' => by
    subst e1 e2
    unfold Den at d0'
    subst d0'
    obtain ⟨us0, q0, b0⟩ := m0 p _ h0
    refine ⟨.inl ⟨rfl, us0, SqL.of q0⟩, ?_⟩
    refine h σ H0 _ m0 (e.grow g0) (l.grow g0) fun μ1 d v H1 ⟨ds1, hp, hz, hq⟩ g1 m1 d1 => ?_
    obtain ⟨us, q, b⟩ := m1 p _ hp
    exact ⟨p, us, v, rfl, rfl, q, by rw [← b.length]; exact Nat.lt_of_le_of_lt hz (by decide), k _ _ _ _ hq ((g0.trans g1).trans (Grow.wr hp)) (m1.wr hp ⟨_, upd_same, (DenL.grow (Grow.wr hp) _ _ b).append (DenL.cons (Den.grow (Grow.wr hp) _ _ d1) DenL.nil)⟩) (by unfold Den; rfl)⟩
end
section
variable {X : Cx} {pins : List (Addr × Obj)} {σ : L2.St} {H : Hp} {s : Shared}
/-- an object of ours, untracked till now, is tracked from now on -/
theorem inv_track {a : Addr} {o : HO} (I : L2.Inv X pins σ H s) (hn : H a = none) (h0 : X.s_0.heap.get? a = none) (hL : a ≠ X.env.locals) (hc : ∀ x c, X.env.cells.lookup x = some c → c ≠ a) (hp : ∀ p ∈ X.pn ++ pins, p.1 ≠ a)
    (ok : ObjOk X.prog X.w (upd H a o) s.heap a o) : L2.Inv X pins σ (upd H a o) s := by
  have ne : ∀ {b u}, H b = some u → b ≠ a := fun {b u} e z => by rw [z, hn] at e; cases e
  have n0 : ∀ {b u}, X.s_0.heap.get? b = some u → b ≠ a := fun {b u} e z => by rw [z, h0] at e; cases e
  have B := I.base
  have base' : Un X.fs X.ex X.H_0 (upd H a o) X.s_0.heap s.heap := {
    keep := B.keep
    slot := B.slot
    free := fun b u e q x => (upd_ne (n0 e)).trans (B.free b u e q x)
    there := B.there
    tups := fun b xs e => (upd_ne (ne (B.tups b xs e))).trans (B.tups b xs e)
    frzs := fun b u v e => (upd_ne (ne (B.frzs b u v e))).trans (B.frzs b u v e)
    tbls := fun b ps e => by
      obtain ⟨m, q⟩ := B.tbls b ps e
      exact ⟨m, (upd_ne (ne q)).trans q⟩ }
  refine ⟨I.ok, I.os, I.bare, base', I.loc, I.cell, (upd_ne (Ne.symm hL)).trans I.free, fun x c e => (upd_ne (hc x c e)).trans (I.freeC x c e), fun p q => ?_, fun b u e => ?_, I.len⟩
  · obtain ⟨h1, h2, h3⟩ := I.pin p q
    exact ⟨h1, (upd_ne (hp p q)).trans h2, h3⟩
  · by_cases hb : b = a
    · subst hb
      rw [upd_same] at e
      cases e
      exact ok
    · rw [upd_ne hb] at e
      exact (I.hok b u e).stay (fun _ _ _ z => z) (fun c q => (upd_ne (ne q)).trans q) fun c xs q => (upd_ne (ne q)).trans q
/-- what a clause «except x as n», that keeps the error, wishes of the body's errors -/
def wKeep (K : PySem.W.Frag) (c : Value) (i : Nat) (ts : Addr → TS) (Dd : Ends) : WX := fun cls d σ H => ∃ C dx, cls = .ref C ∧ d = some dx ∧ PySem.W.exmOne K cls c = some true ∧
  ∀ a, H a = none → ts a { nx := fun σ' H' => H' a = none → Dd.nx (σ'.set i none) (upd H' a (ExT a C dx)), rt := fun v H' => H' a = none → Dd.rt v (upd H' a (ExT a C dx)) } (σ.set i (some (.ref a))) H
/-- try: body, except c as n: suite, the error kept -/
def tTry (K : PySem.W.Frag) (c : Value) (i : Nat) (ts : Addr → TS) (tb : WX → TS) : TS := fun Dd σ H => tb (wKeep K c i ts Dd) Dd σ H
variable {x n : Str} {c : Value} {i : Nat} {body suite : List Stmt} {b0 : Stmt} {np pos pos' : Pos} {tb : WX → TS} {ts : Addr → TS}
theorem ps_try_keep (hs : X.stack = X.env :: X.outer) (hf : X.env.frame = some X.env.locals) (hex : X.ex = []) (hN : X.N.Nodup) (hi : X.N[i]? = some n) (hln : X.env.kindOf n = some .local) (hc : Names X x c)
    (hb : ∀ (W : WX) (pn : List (Addr × Obj)) (xe : Value → Shared → Prop), Takes (X.tr pn xe) W → PassesOwn (model X.prog X.w) X.A X.env xe → PSs (X.tr pn xe) body (tb W))
    (hsu : ∀ (a : Addr) (oe : Obj) (pn : List (Addr × Obj)), PSs (X.suite a ((a, oe) :: pn)) (b0 :: suite) (ts a)) :
    PS X (.Try body [.ExceptHandler (some (.Name x np)) (some n) (b0 :: suite) pos'] [] [] pos) (tTry X.K c i ts tb) := by
  constructor
  intro pins s σ H Dd I h
  have ok := I.ok
  have hfr : X.A.frames = some (X.env :: X.outer) := by rw [ok.frames, hs]
  apply wpAny_Try_except
  let xq : Value → Shared → Prop := fun e s₁ => wpAny (model X.prog X.w) X.A (noteFrame e X.env) (fun _ s₂ => wpAny (model X.prog X.w) X.A (setFlight e none) (fun _ s₃ =>
    wpAny (model X.prog X.w) X.A (handleBy e X.env [.ExceptHandler (some (.Name x np)) (some n) (b0 :: suite) pos']) (SP X pins Dd) X.xe s₃) X.xe s₂) X.xe s₁
  have caught : Takes (X.tr (X.pn ++ pins) xq) (wKeep X.K c i ts Dd) := by
    intro u s' xx
    obtain ⟨a, B, sI, pins', σ', H', cls, d, hu, J', nb, up, sky, na, os, ag, C, dx, hcls, hd, hm, hgo⟩ := xx
    subst hu hcls hd
    have J : L2.Inv X pins σ' H' sI := J'.ofTry ok
    have sky2 : Sky B (X.env :: X.outer) a (Zc (.ref C) (some dx)) X.env.locals s'.heap := by
      rw [← hs]
      exact sky
    show wpAny (model X.prog X.w) X.A (noteFrame (.ref a) X.env) _ _ _
    apply Sky.land Zc.steady hfr hf sky2
    intro h3 fl3 up3
    have J3 : L2.Inv X pins σ' H' { s' with heap := h3 } := J.landed nb fl3.1 (up.trans up3) os ag
    obtain ⟨o3, v3, he3, hz3, hd3⟩ := fl3.there
    have nfr : a ∉ frs (X.env :: X.outer) := fun hm => by
      obtain ⟨_, o', e', hnf⟩ := fl3.2.2.1.mem hm
      rw [he3] at e'
      cases e'
      exact hnf _ hd3
    have nL : a ≠ X.env.locals := fun z => nfr (List.mem_filterMap.mpr ⟨X.env, List.mem_cons_self, by rw [hf, z]⟩)
    have nF : a ∉ X.fs := fun hm => by
      obtain ⟨e, he, q⟩ := List.mem_filterMap.mp hm
      exact nfr (List.mem_filterMap.mpr ⟨e, List.mem_cons_of_mem _ he, q⟩)
    -- the error is younger than the state it flew from
    have young : sI.heap.get? a = none := by
      cases e : sI.heap.get? a with
      | none => rfl
      | some o =>
        have q := nb a o e (by show a ∉ frs X.stack; rw [hs]; exact nfr)
        have q2 : B.get? a = none := fl3.2.1
        rw [q2] at q
        cases q
    have y0 : X.s_0.heap.get? a = none := by
      cases e : X.s_0.heap.get? a with
      | none => rfl
      | some o =>
        obtain ⟨o', q⟩ := J.base.there a o e (by rw [hex]; exact List.not_mem_nil)
        rw [young] at q
        cases q
    have yc : ∀ x c, X.env.cells.lookup x = some c → c ≠ a := fun y cc e z => by
      obtain ⟨v, o, q, _⟩ := J.cell y cc e
      rw [z, young] at q
      cases q
    have yp : ∀ p ∈ X.pn ++ pins, p.1 ≠ a := fun p hp z => by
      have q := (J.pin p hp).1
      rw [z, young] at q
      cases q
    have S3 := J3.suite he3 hd3 na nL nF
    refine wpAny_handleBy_cons (codeAny_handlers_test ?_) (by intro q; cases q)
    have LT : PySem.W.Looks (model X.prog X.w) h3 (typeOf (.ref a)) (.ref C) := fun A Q E s k q => wpAny_typeOf_ref (k _ _ he3) (by rw [hz3.1]; exact q)
    have LM := PySem.W.exm_one (M := model X.prog X.w) (J3.kIn) LT hm
    have test : ∀ {Q : Value → Shared → Prop} {E : Value → Shared → Prop}, Q c { s' with heap := h3 } → wpAny (model X.prog X.w) (X.A.mark (some (.ref a))) (eval (.Name x np) X.env) Q E { s' with heap := h3 } := by
      intro Q E q
      rcases hc with ⟨hg, hdbg, hm1 | ⟨hm1, hv, hnn⟩⟩
      · exact ld_glob (X := X.suite a ((a, o3) :: (X.pn ++ pins))) S3 hg hm1 q hdbg
      · exact ld_blt (X := X.suite a ((a, o3) :: (X.pn ++ pins))) S3 hg hm1 hv q hnn hdbg
    refine test (LM.here ?_)
    refine codeAny_handlers_suite_as (HandSPX.lands_againZ fl3 fun h4 fl4 up4 => ?_)
    have J4 : L2.Inv X pins σ' H' { s' with heap := h4 } := J.landed nb fl4.1 ((up.trans up3).trans up4) os ag
    obtain ⟨o4, v4, he4, hz4, hd4⟩ := fl4.there
    have S4 := J4.suite he4 hd4 na nL nF
    refine store_ok (X := X.suite a ((a, o4) :: (X.pn ++ pins))) (v := .ref a) S4 hN hi (.inl hln) rfl (fun s5 S5 => ?_) (.inr hln)
    refine wpAny_mono ((hsu a o4 (X.pn ++ pins)).run [] s5 _ H' _ S5 (hgo a na)) (fun f s6 hsp => ?_) (fun _ _ z => False.elim z)
    have fin : ∀ {σ6 : L2.St} {H6 : Hp} {Q : Shared → Prop}, L2.Inv (X.suite a ((a, o4) :: (X.pn ++ pins))) [] σ6 H6 s6 → (∀ s7, H6 a = none → L2.Inv X pins (σ6.set i none) (upd H6 a (ExT a C dx)) s7 → Q s7) →
        wpAny (model X.prog X.w) X.A (do bindName X.env n .none; unbindBehindTheSuite X.env n pos') (fun _ s7 => Q s7) X.xe s6 := by
      intro σ6 H6 Q S6 hq
      obtain ⟨ga, gn, _⟩ := S6.pin (a, o4) (List.mem_append_left _ List.mem_cons_self)
      have T := inv_track (S6.unsuite ok) gn y0 nL yc yp (o := ExT a C dx) ⟨⟨o4, v4, ga, hz4.1, hz4.2, hd4⟩, ⟨o4, ga⟩, fun h1 h2 ⟨o, v, e, r⟩ k => ⟨o, v, k o e, r⟩⟩
      exact gone_ok T hN hi hln fun s7 J7 => hq s7 gn J7
    cases f with
    | next =>
      obtain ⟨σ6, H6, S6, q6⟩ := hsp
      exact fin S6 fun s7 g J7 => ⟨_, _, J7, q6 g⟩
    | brk =>
      obtain ⟨σ6, H6, S6, q6⟩ := hsp
      exact q6.elim
    | cont =>
      obtain ⟨σ6, H6, S6, q6⟩ := hsp
      exact q6.elim
    | ret u =>
      obtain ⟨v6, σ6, H6, S6, r6, q6⟩ := hsp
      exact fin S6 fun s7 g J7 => ⟨_, _, _, J7, r6, q6 g⟩
  refine wpAny_mono ((hb _ (X.pn ++ pins) xq caught PassesOwn.looking).run [] s σ H Dd (I.toTry _) h) (fun f s1 hsp => ?_) (fun e s1 he => he)
  rcases f with _ | _ | _ | u
  · obtain ⟨σ', H', J', q⟩ := hsp
    exact wpAny_execs_nil ⟨σ', H', J'.ofTry ok, q⟩
  · obtain ⟨σ', H', J', q⟩ := hsp
    exact ⟨σ', H', J'.ofTry ok, q⟩
  · obtain ⟨σ', H', J', q⟩ := hsp
    exact ⟨σ', H', J'.ofTry ok, q⟩
  · obtain ⟨v, σ', H', J', r, q⟩ := hsp
    exact ⟨v, σ', H', J'.ofTry ok, r, q⟩
end
/-- what the written part says of an own error's class -/
structure ExcK (K : PySem.W.Frag) (C : Addr) : Prop where
  ox : OexC K C
  nv : PySem.W.findIn K (.ref C) "value" = some none
  ga : PySem.W.findIn K (.ref C) "__getattribute__" = some (some (.builtin "BaseException.__getattribute__"))
  gg : PySem.W.findIn K (.ref C) "__getattr__" = some none
  hd : PySem.W.hasDictIn K C = true
  ha : PySem.W.findIn K (.ref C) "__class__" = some (some (.builtin "object.__class__"))
  hm : PySem.W.mroIn K C (.type "object") = some true
/-- what it says of the getter of classes -/
structure ClsG (K : PySem.W.Frag) : Prop where
  hn : PySem.W.specialIn K (.builtin "object.__class__") "__get__" = some (some (.builtin "getset_descriptor.__get__"))
  ht : PySem.W.takesIn K (.builtin "object.__class__") = some true
section
variable {X : Cx} {H : Hp} {a C : Addr}
theorem ext_at {s : Shared} {pins : List (Addr × Obj)} {σ : L2.St} {dx : Addr} (I : L2.Inv X pins σ H s) (h : H a = some (ExT a C dx)) : ∃ (oe : Obj) (vs : Array Value), s.heap.get? a = some oe ∧ oe.cls = .ref C ∧ oe.dict = some dx ∧ oe.data = .fields vs := (I.hok a _ h).1
/-- e.value -/
def tXv (K : PySem.W.Frag) (te : TE) : TE := fun σ H Q => te σ H fun x H1 => ∃ (a C dx : Addr) (v : V), x = .ref a ∧ H1 a = some (ExT a C dx) ∧ ExcK K C ∧ H1 dx = some (.xd [(("value" : Str), v)]) ∧ Q v H1
theorem pe_xv {e : Expr} {te : TE} {pos : Pos} (he : PE X e te) (hb : attributeBase e "value" X.env (eval e X.env) = eval e X.env := by rfl) : PE X (.Attribute e "value" pos) (tXv X.K te) := by
  constructor
  intro pins s σ H Q I h
  refine attr_of hb (thn (he.run pins s σ H _ I h) fun u s1 hh => ?_)
  obtain ⟨x, H1, I1, rx, a, C, dx, v, ex, ea, T, ed, q⟩ := hh
  subst ex
  obtain rfl : u = Value.ref a := rx
  obtain ⟨oe, vs, h1, h2, h3, h4⟩ := ext_at I1 ea
  have hx : ObjOk X.prog X.w H1 s1.heap dx (.xd [(("value" : Str), v)]) := I1.hok dx _ ed
  obtain ⟨mA, hns, hr⟩ := hx
  obtain ⟨od, ho, hl⟩ := lookIn_ns hns
  obtain ⟨u, hu, ru⟩ := RelO.some_of (v := v) (o := mA "value") (by
    have q := hr "value"
    simpa [List.lookup] using q)
  have J : PySem.W.InstAt s1.heap a oe C (some od) := ⟨h1, h2, by unfold PySem.W.notCls; rw [h4] <;> rfl, by rw [h3]; exact ho⟩
  exact HandSPX.exc_get I1.kIn J T.ga T.gg T.ox.exC (PySem.W.findObj_own T.hd T.nv rfl (by rw [hl, hu])) (handed_of ru) ⟨v, H1, I1.tok _, ru, q⟩
/-- isinstance(e, c), isinstance(e, (c, ..)) of an own error -/
def rIsX (K : PySem.W.Frag) : List V → Hp → VK → Prop := fun xs H Q => ∃ (a D dx : Addr) (c : V) (u : Value) (b : Bool), xs = [.ref a, c] ∧ H a = some (ExT a D dx) ∧ (∃ fs, H dx = some (.xd fs)) ∧ ExcK K D ∧ ClsG K ∧ ClsV c u ∧ PySem.W.kitOne K (.ref D) u = some b ∧ Q (.bl b) H
def rIsXT (K : PySem.W.Frag) : List V → Hp → VK → Prop := fun xs H Q => ∃ (a D dx tp : Addr) (cs : List V) (us : List Value) (b : Bool), xs = [.ref a, .ref tp] ∧ H a = some (ExT a D dx) ∧ (∃ fs, H dx = some (.xd fs)) ∧ ExcK K D ∧ ClsG K ∧ H tp = some (.tup cs) ∧ Paired ClsV cs us ∧ PySem.W.kitAny K (.ref D) us = some b ∧ Q (.bl b) H
theorem inst_ex {s : Shared} {pins : List (Addr × Obj)} {σ : L2.St} {D dx : Addr} (I : L2.Inv X pins σ H s) (h : H a = some (ExT a D dx)) (hd : ∃ fs, H dx = some (.xd fs)) : ∃ (oe od : Obj), PySem.W.InstAt s.heap a oe D (some od) := by
  obtain ⟨oe, vs, h1, h2, h3, h4⟩ := ext_at I h
  obtain ⟨fs, hd⟩ := hd
  have hx : ObjOk X.prog X.w H s.heap dx (.xd fs) := I.hok dx _ hd
  obtain ⟨mA, hns, hr⟩ := hx
  obtain ⟨od, ho, hl⟩ := lookIn_ns hns
  exact ⟨oe, od, h1, h2, by unfold PySem.W.notCls; rw [h4] <;> rfl, by rw [h3]; exact ho⟩
theorem call_isX : CallR X (.builtin "isinstance") (rIsX X.K) := by
  intro pins s σ H xs us Q I r h
  obtain ⟨a, D, dx, c, u, b, rfl, ha, hd, T, G, k, e, q⟩ := h
  obtain ⟨u1, u2, rfl, r1, r2⟩ := vals2 r
  have e2 := k.eq r2
  subst e2
  obtain rfl : u1 = Value.ref a := r1
  obtain ⟨oe, od, J⟩ := inst_ex I ha hd
  have hcl : (PySem.W.clsIn X.K D).isSome = true := by
    obtain ⟨cd, hc, _⟩ := PySem.W.any_some T.hd
    rw [hc]; rfl
  exact PySem.W.kia_one (PySem.W.kitx_exc hcl T.ga T.gg T.ox.exC T.ha G.hn G.ht T.hm) I.kIn J e (fun z => nomatch z) fun tk => ⟨.bl b, H, I.tok tk, rfl, q⟩
theorem call_isXT : CallR X (.builtin "isinstance") (rIsXT X.K) := by
  intro pins s σ H xs us Q I r h
  obtain ⟨a, D, dx, tp, cs, ws, b, rfl, ha, hd, T, G, hT, k, e, q⟩ := h
  obtain ⟨u1, u2, rfl, r1, r2⟩ := vals2 r
  obtain rfl : u1 = Value.ref a := r1
  obtain rfl : u2 = Value.ref tp := r2
  obtain ⟨oe, od, J⟩ := inst_ex I ha hd
  have hcl : (PySem.W.clsIn X.K D).isSome = true := by
    obtain ⟨cd, hc, _⟩ := PySem.W.any_some T.hd
    rw [hc]; rfl
  obtain ⟨_, its, rv, o, h1, h2, n, h3⟩ := (show ObjOk X.prog X.w H s.heap tp (.tup cs) from I.hok tp _ hT)
  have e3 := ClsV.all k rv
  subst e3
  obtain ⟨oc, od', dt, sl⟩ := o
  simp only at h2 h3
  subst h2 h3
  exact PySem.W.kia_tup (PySem.W.kitx_exc hcl T.ga T.gg T.ox.exC T.ha G.hn G.ht T.hm) I.kIn J h1 e (fun z => nomatch z) fun tk => ⟨.bl b, H, I.tok tk, rfl, q⟩
theorem call_or {f : Value} {r r' : List V → Hp → VK → Prop} (a : CallR X f r) (b : CallR X f r') : CallR X f (fun xs H Q => r xs H Q ∨ r' xs H Q) := fun pins s σ H xs us Q I rx h => by
  rcases h with h | h
  · exact a pins s σ H xs us Q I rx h
  · exact b pins s σ H xs us Q I rx h
/-- isinstance -/
abbrev rIsU (K : PySem.W.Frag) : List V → Hp → VK → Prop := fun xs H Q => (rIsi K xs H Q ∨ rIsiT K xs H Q) ∨ (rIsX K xs H Q ∨ rIsXT K xs H Q)
theorem call_isU : CallR X (.builtin "isinstance") (rIsU X.K) := call_or (call_or call_isi call_isiT) (call_or call_isX call_isXT)
end
/-! ### over data -/
/-- the type of plain data -/
def tyD : D → Option String
  | .non => some "NoneType" | .bl _ => some "bool" | .int _ => some "int" | .str _ => some "str"
  | .tup _ => some "tuple" | .lst _ => some "list" | .frz _ => some "list" | .dct _ _ => some "dict"
  | _ => none
/-- the type of data, what may change with it -/
def tyM (μ : Mu) : D → Option String
  | .at a => match μ a with
    | some (.lst _) => some "list"
    | some (.dct _ _) => some "dict"
    | _ => none
  | d => tyD d
section
variable {K : PySem.W.Frag} {W : WX} {X : XD} {μ μ' : Mu} {H H' : Hp} {ρ : Ro} {E : ED} {ta tb te tx tl : TE} {Φ : DP} {x y : D}
theorem den_ty {T : String} {v : V} (m : Mem K μ H) (h : Den K μ H x v) (ht : tyM μ x = some T) : TyX K H v (.type T) := by
  cases x <;> unfold Den at h <;> unfold tyM at ht <;> try unfold tyD at ht
  case non => cases ht; subst h; exact .base .non
  case bl => cases ht; subst h; exact .base (.bl _)
  case int => cases ht; subst h; exact .base (.int _)
  case str => cases ht; subst h; exact .base (.str _)
  case tup =>
    cases ht
    obtain ⟨p, vs, e, s, _⟩ := h
    subst e
    rcases s with ⟨_, s | ⟨o, s⟩⟩ | ⟨o, its, n, h1, h2, _⟩
    · exact .base (.tup s)
    · exact .fTuple s
    · exact .kTuple h1 h2
  case lst =>
    cases ht
    obtain ⟨p, vs, e, s, _⟩ := h
    subst e
    exact .base (.lst s.2)
  case frz =>
    cases ht
    obtain ⟨p, vs, e, s, _⟩ := h
    subst e
    rcases s with ⟨_, s | ⟨o, s⟩⟩ | ⟨o, its, n, h1, h2, _⟩
    · exact .base (.lst s)
    · exact .base (.frz s)
    · exact .kList h1 h2
  case dct =>
    cases ht
    obtain ⟨p, vs, e, s, _⟩ := h
    subst e
    exact .base (.dK s.2)
  case «at» a =>
    subst h
    dsimp only at ht
    cases q : μ a with
    | none => rw [q] at ht; cases ht
    | some o =>
      rw [q] at ht
      have hm := m a o q
      cases o with
      | lst ds => cases ht; obtain ⟨vs, e, _⟩ := hm; exact .base (.lst e)
      | dct ks ds => cases ht; obtain ⟨vs, e, _⟩ := hm; exact .base (.dK e)
      | obj C fs ds => cases ht
  all_goals (cases ht)
/-- isinstance of plain data, a built-in class -/
theorem cax_is {T c : String} {b : Bool} (ht : tyM μ x = some T) (hk : kitB T c = some b) (h : Φ μ (.bl b)) : CaX K (rIsU K) μ [x, .ty c] Φ := fun H vs Q m d k => by
  obtain ⟨v, v', e, a, a'⟩ := denL2 d
  unfold Den at a'
  subst a'
  exact .inl (.inl ⟨v, .ty c, .type T, .type c, b, e, .ty c, den_ty m a ht, kit_ty hk, k μ _ _ H h (Grow.refl _ _) m (by unfold Den; rfl)⟩)
/-- .. of one of some built-in classes -/
def kitBs (T : String) : List String → Option Bool
  | [] => some false
  | c :: cs => match kitB T c with
    | some true => some true
    | some false => kitBs T cs
    | none => none
theorem kitBs_ok {T : String} : ∀ {cs : List String} {b : Bool}, kitBs T cs = some b → PySem.W.kitAny K (.type T) (cs.map Value.type) = some b
  | [], b, h => h
  | c :: cs, b, h => by
    unfold kitBs at h
    show (match PySem.W.kitOne K (.type T) (.type c) with | some true => some true | some false => PySem.W.kitAny K (.type T) (cs.map Value.type) | none => none) = some b
    cases q : kitB T c with
    | none => rw [q] at h; cases h
    | some r =>
      rw [q] at h
      rw [kit_ty q]
      cases r with
      | true => exact h
      | false => exact kitBs_ok h
theorem denL_tys : ∀ {cs : List String} {vs : List V}, DenL K μ H (cs.map D.ty) vs → Paired ClsV vs (cs.map Value.type)
  | [], vs, h => by
    have h' : DenL K μ H [] vs := h
    unfold DenL at h'; subst h'; exact .nil
  | c :: cs, vs, h => by
    have h' : DenL K μ H (.ty c :: cs.map D.ty) vs := h
    unfold DenL at h'
    obtain ⟨w, ws, e, a, b⟩ := h'
    unfold Den at a
    subst e a
    exact .cons (.ty c) (denL_tys b)
theorem stT_own {p : Addr} {vs : List V} {o : Obj} (h : StT K μ H p vs) (hu : H p = some (.tup vs)) : True := True.intro
theorem cax_isT {T : String} {cs : List String} {b : Bool} (ht : tyM μ x = some T) (hk : kitBs T cs = some b) (h : Φ μ (.bl b)) {vs : List V} {Q : VK} {p : Addr} {us : List V} (m : Mem K μ H) {v : V} (hv : Den K μ H x v) (hp : H p = some (.tup us)) (hu : DenL K μ H (cs.map D.ty) us)
    (k : ∀ μ' d u H', Φ μ' d → Grow μ H μ' H' → Mem K μ' H' → Den K μ' H' d u → Q u H') : rIsU K [v, .ref p] H Q :=
  .inl (.inr ⟨v, p, us, .type T, cs.map Value.type, b, rfl, hp, denL_tys hu, den_ty m hv ht, kitBs_ok hk, k μ _ _ H h (Grow.refl _ _) m (by unfold Den; rfl)⟩)
/-- isinstance(e, (A, B, ..)), the tuple written -/
theorem evx_isT {tr : TA} {cs : List String} (hr : ∀ (μ1 : Mu) (Ψ : Mu → List D → Prop), Ψ μ1 (cs.map D.ty) → EvL K W X μ1 ρ tr Ψ) (hc : cs.length ≤ 1000) (h : EvX K W X μ ρ te fun μ1 d => ∃ T b, tyM μ1 d = some T ∧ kitBs T cs = some b ∧ Φ μ1 (.bl b)) :
    EvX K W X μ ρ (tCB (rIsU K) (tCons te (tCons (tTup tr) tNil))) Φ := fun σ H Q m e l k =>
  h σ H _ m e l fun μ1 d v H1 ⟨T, b, ht, hk, hp⟩ g1 m1 d1 => hr μ1 (fun μ2 ds => μ2 = μ1 ∧ ds = cs.map D.ty) ⟨rfl, rfl⟩ σ H1 _ m1 (e.grow g1) (l.grow g1) fun μ2 ds us H2 ⟨e1, e2⟩ g2 m2 d2 => by
    subst e1 e2
    refine ⟨by rw [← d2.length, List.length_map]; exact Nat.le_trans hc (by decide), fun p hp2 => ?_⟩
    have gn : Grow μ2 H2 μ2 (upd H2 p (.tup us)) := Grow.new hp2
    exact cax_isT ht hk hp (vs := []) (m2.new hp2) (Den.grow gn _ _ (Den.grow g2 _ _ d1)) upd_same (DenL.grow gn _ _ d2) fun μ' d' u H' p' g' => k μ' d' u H' p' (((g1.trans g2).trans gn).trans g')
/-! ### own errors -/
theorem evx_xv (h : EvX K W X μ ρ te fun μ1 x => ∃ C d, x = .exc C d ∧ ExcK K C ∧ Φ μ1 d) : EvX K W X μ ρ (tXv K te) Φ := fun σ H Q m e l k =>
  h σ H _ m e l fun μ1 x v H1 ⟨C, d, e1, T, hp⟩ g1 m1 d1 => by
    subst e1
    unfold Den at d1
    obtain ⟨p, dx, w, e2, s, t, b⟩ := d1
    exact ⟨p, C, dx, w, e2, s.2, T, t.2, k μ1 d w H1 hp g1 m1 b⟩
theorem cax_isX {C c : Addr} {d : D} {b : Bool} (T : ExcK K C) (G : ClsG K) (hk : PySem.W.kitOne K (.ref C) (.ref c) = some b) (h : Φ μ (.bl b)) : CaX K (rIsU K) μ [.exc C d, .at c] Φ := fun H vs Q m dd k => by
  obtain ⟨v, v', e, a, a'⟩ := denL2 dd
  unfold Den at a a'
  obtain ⟨p, dx, w, e2, s, t, _⟩ := a
  subst a' e2
  exact .inr (.inl ⟨p, C, dx, .ref c, .ref c, b, e, s.2, ⟨_, t.2⟩, T, G, .own c, hk, k μ _ _ H h (Grow.refl _ _) m (by unfold Den; rfl)⟩)
theorem cax_isXB {C : Addr} {c : String} {d : D} {b : Bool} (T : ExcK K C) (G : ClsG K) (hk : PySem.W.kitOne K (.ref C) (.type c) = some b) (h : Φ μ (.bl b)) : CaX K (rIsU K) μ [.exc C d, .ty c] Φ := fun H vs Q m dd k => by
  obtain ⟨v, v', e, a, a'⟩ := denL2 dd
  unfold Den at a a'
  obtain ⟨p, dx, w, e2, s, t, _⟩ := a
  subst a' e2
  exact .inr (.inl ⟨p, C, dx, .ty c, .type c, b, e, s.2, ⟨_, t.2⟩, T, G, .ty c, hk, k μ _ _ H h (Grow.refl _ _) m (by unfold Den; rfl)⟩)
theorem denL_ats : ∀ {cs : List Addr} {vs : List V}, DenL K μ H (cs.map D.at) vs → Paired ClsV vs (cs.map Value.ref)
  | [], vs, h => by
    have h' : DenL K μ H [] vs := h
    unfold DenL at h'; subst h'; exact .nil
  | c :: cs, vs, h => by
    have h' : DenL K μ H (.at c :: cs.map D.at) vs := h
    unfold DenL at h'
    obtain ⟨w, ws, e, a, b⟩ := h'
    unfold Den at a
    subst e a
    exact .cons (.own c) (denL_ats b)
theorem evx_isXT {tr : TA} {cs : List Addr} (G : ClsG K) (hr : ∀ (μ1 : Mu) (Ψ : Mu → List D → Prop), Ψ μ1 (cs.map D.at) → EvL K W X μ1 ρ tr Ψ) (hc : cs.length ≤ 1000) (h : EvX K W X μ ρ te fun μ1 x => ∃ C d b, x = .exc C d ∧ ExcK K C ∧ PySem.W.kitAny K (.ref C) (cs.map Value.ref) = some b ∧ Φ μ1 (.bl b)) :
    EvX K W X μ ρ (tCB (rIsU K) (tCons te (tCons (tTup tr) tNil))) Φ := fun σ H Q m e l k =>
  h σ H _ m e l fun μ1 x v H1 ⟨C, d, b, e0, T, hk, hp⟩ g1 m1 d1 => hr μ1 (fun μ2 ds => μ2 = μ1 ∧ ds = cs.map D.at) ⟨rfl, rfl⟩ σ H1 _ m1 (e.grow g1) (l.grow g1) fun μ2 ds us H2 ⟨e1, e2⟩ g2 m2 d2 => by
    subst e0 e1 e2
    refine ⟨by rw [← d2.length, List.length_map]; exact Nat.le_trans hc (by decide), fun p hp2 => ?_⟩
    have gn : Grow μ2 H2 μ2 (upd H2 p (.tup us)) := Grow.new hp2
    have dd := Den.grow gn _ _ (Den.grow g2 _ _ d1)
    unfold Den at dd
    obtain ⟨q, dx, w, e3, s, t, _⟩ := dd
    subst e3
    exact .inr (.inr ⟨q, C, dx, p, us, _, b, rfl, s.2, ⟨_, t.2⟩, T, G, upd_same, denL_ats (DenL.grow gn _ _ d2), hk, k μ2 _ _ _ hp ((g1.trans g2).trans gn) (m2.new hp2) (by unfold Den; rfl)⟩)
/-- try: body, except c as n: m = n -/
theorem gs_try {tb : WX → TS} {c : Value} {i j : Nat} (hij : i ≠ j)
    (h : ∀ W', GS K W' (fun μ' ρ' C d => PySem.W.exmOne K (.ref C) c = some true ∧ i < ρ'.length ∧ E.nx μ' ((ρ'.set j (some (.exc C d))).set i none)) μ ρ (tb W') E) :
    GS K W X μ ρ (tTry K c i (fun _ => tAsg (tVar i) (gName j)) tb) E := fun σ H Dd m e l k => by
  refine h _ σ H Dd m e ?_ k
  rintro μ' ρ' C d dx v σ' H' ⟨hm, hi, hx⟩ gr mm ee hdx hd dd
  refine ⟨C, dx, rfl, rfl, hm, fun a ha => ?_⟩
  have hl : i < σ'.length := by rw [ee.1]; exact hi
  refine ⟨.ref a, List.getElem?_set_self hl, fun ha' => ?_⟩
  have gn : Grow μ' H' μ' (upd H' a (ExT a C dx)) := Grow.new ha
  have ne : dx ≠ a := ne_of_none hd ha
  refine k.nx _ _ _ _ hx (gr.trans gn) (mm.new ha) ?_
  have e1 : ((σ'.set i (some (.ref a))).set j (some (.ref a))).set i none = (σ'.set j (some (.ref a))).set i none := by
    rw [List.set_comm _ _ hij, List.set_set]
  rw [e1]
  refine ((ee.grow gn).set ?_ j).unset i
  unfold Den
  exact ⟨a, dx, v, rfl, ⟨mm.free ha, upd_same⟩, ⟨hdx, by rw [upd_ne ne]; exact hd⟩, Den.grow gn _ _ dd⟩
theorem kit_self {a : Addr} : PySem.W.kitOne K (.ref a) (.ref a) = some true := by
  unfold PySem.W.kitOne
  rw [if_pos (by simp)]
end
section
variable {X : Cx} {CX : CXT} {k : Nat} {f C : Addr} {fd : FuncData} {ps ks : List Str} {sp : Sp} {E : XK} {x m : Str} {p pos apos kpos : Pos} {kws : List Keyword} {tk : TA} {g : List Value → List Value → List Value} {gV : List V → List V → List V}
/-- f(k = v, ..), no place given -/
theorem pe_callK0 (F : FnOk X.prog X.w X.K X.mg X.base CX k f fd ps sp) (hr : Room k X.A) (hg : Gl X x) (hm : X.mg x = some (.ref f)) (hk : PySem.W.keepIn X.K (.ref f) = true) (hb : KBinds X.K fd ps ks g gV) (hx : Passes CX X E)
    (hkw : PK X kws tk) (hall : (backToKw pos (keywordEach kws X.env)).all (·.1.isSome) = true := by rfl) (hks : (backToKw pos (keywordEach kws X.env)).filterMap (·.1) = ks := by rfl)
    (hdb : (x == ("__debug__" : Str)) = false := by decide) (hn : ((backTo pos (starEach [] X.env)).any (·.1) || (backToKw pos (keywordEach kws X.env)).any (·.1.isNone)) = false := by rfl) :
    PE X (.Call (.Name x p) [] kws pos) (tCallK sp gV E tNil tk) := by
  constructor
  intro pins s σ H Q I h
  apply wpAny_Call_Name_kw (ld_glob I hg hm ?_ hdb)
  refine PySem.W.callWith_KW0 (h₀ := X.base) I.ok.mod.kin hk hall ?_ hn
  refine thn (hkw.run pos pins s σ H _ I h) fun ws s2 hh => ?_
  obtain ⟨zs, H2, I2, rz, q2⟩ := hh
  refine ⟨I2.kIn, ?_⟩
  rw [hks]
  exact run_fnk F hr hb hx I2 .nil rz q2
end
/-- the data in the parameters' order: the places of n given ones and m named ones -/
def permG {α : Type} (n m : Nat) (pm : List Nat) (us ws : List α) : List α := if us.length = n ∧ ws.length = m then pm.filterMap fun i => (us ++ ws)[i]? else []
theorem perm_vals : ∀ {pm : List Nat} {vs : List V} {us : List Value}, Vals vs us → Vals (pm.filterMap fun i => vs[i]?) (pm.filterMap fun i => us[i]?)
  | [], _, _, _ => .nil
  | i :: pm, vs, us, h => by
    rw [List.filterMap_cons, List.filterMap_cons]
    cases e : vs[i]? with
    | none =>
      rw [h.none_of e]
      exact perm_vals h
    | some v =>
      obtain ⟨u, h1, h2⟩ := h.get e
      rw [h1]
      exact .cons h2 (perm_vals h)
theorem perm_den {K : PySem.W.Frag} {μ : Mu} {H : Hp} : ∀ {pm : List Nat} {ds : List D} {vs : List V}, DenL K μ H ds vs → DenL K μ H (pm.filterMap fun i => ds[i]?) (pm.filterMap fun i => vs[i]?)
  | [], _, _, _ => DenL.nil
  | i :: pm, ds, vs, h => by
    rw [List.filterMap_cons, List.filterMap_cons]
    cases e : ds[i]? with
    | none =>
      have : vs[i]? = none := by
        rw [List.getElem?_eq_none_iff] at e ⊢
        rw [← h.length]; exact e
      rw [this]
      exact perm_den h
    | some d =>
      obtain ⟨v, h1, h2⟩ := h.get e
      rw [h1]
      exact DenL.cons h2 (perm_den h)
/-- a def of the module that keeps its promise, with all that a call of it asks -/
structure Cal (P : Program) (w : World) (K : PySem.W.Frag) (mg : Str → Option Value) (base : Heap) (CX : CXT) (k : Nat) (x : Str) (st : Stmt) (ps : List Str) (sp : Sp) : Prop where
  ex : ∃ (f : Addr) (fd : FuncData), mg x = some (.ref f) ∧ Fun K x x st f fd ∧ FnOk P w K mg base CX k f fd ps sp ∧ Binds K fd ps []
def Std (K : PySem.W.Frag) (mg : Str → Option Value) (x : Str) (st : Stmt) : Prop := ∃ (f : Addr) (fd : FuncData), mg x = some (.ref f) ∧ Fun K x x st f fd
section
variable {P : Program} {w : World} {K : PySem.W.Frag} {mg : Str → Option Value} {base : Heap} {x : Str} {st : Stmt} {N ps : List Str} {k : Nat}
theorem cal0 {Pd : PD} (h : Std K mg x st) (S : FnScope N ps (defScope st))
    (hbi : ∀ (kV doc pm : Value) (an : Option Addr) (cdv ct : Value) (us : List Value), us.length = ps.length → bindArgs (PySem.W.fnOf x x (defArgs st) (defBody st) (defScope st) .none kV doc pm an cdv ct) ⟨us, []⟩ = pure (ps.zip us))
    (hb : ∀ (f : Addr) (cdv : Value) (A : Around) (outer : List Env) (s : Shared) (H : Hp) (E : XK), Room k (A.deeper (envOfC x (defScope st) s.heap.objs.size f cdv)) →
      ∃ t, PSs (cxOf CX0 P w K mg base N x (defScope st) f cdv A outer s H E).nox (defBody st) t ∧ ∀ μ ds post exc, ds.length = ps.length → Pd μ ds post exc → GS K WN XN μ (startD N ds) t { nx := fun m _ => post m .non, rt := post }) :
    Cal P w K mg base CX0 (k + 1) x st ps (spD K ps.length Pd) := by
  obtain ⟨f, fd, h1, F⟩ := h
  exact ⟨f, fd, h1, F, def_ok F S (hb f), F.binds hbi⟩
theorem calX {Pd : PD} (h : Std K mg x st) (S : FnScope N ps (defScope st))
    (hbi : ∀ (kV doc pm : Value) (an : Option Addr) (cdv ct : Value) (us : List Value), us.length = ps.length → bindArgs (PySem.W.fnOf x x (defArgs st) (defBody st) (defScope st) .none kV doc pm an cdv ct) ⟨us, []⟩ = pure (ps.zip us))
    (hb : ∀ (f : Addr) (cdv : Value) (A : Around) (outer : List Env) (s : Shared) (H : Hp) (E : XK), Room k (A.deeper (envOfC x (defScope st) s.heap.objs.size f cdv)) →
      ∃ t, PSs (cxOf (L2.CX P w) P w K mg base N x (defScope st) f cdv A outer s H E) (defBody st) t ∧ ∀ μ ds post exc, ds.length = ps.length → Pd μ ds post exc → GS K (fun cls d _ H => E cls d H) (fun m _ C d => exc m C d) μ (startD N ds) t { nx := fun m _ => post m .non, rt := post }) :
    Cal P w K mg base (L2.CX P w) (k + 1) x st ps (spD K ps.length Pd) := by
  obtain ⟨f, fd, h1, F⟩ := h
  exact ⟨f, fd, h1, F, def_okX F S (hb f), F.binds hbi⟩
theorem Cal.imp {CX : CXT} {n : Nat} {P1 P2 : PD} (c : Cal P w K mg base CX k x st ps (spD K n P1)) (h : ∀ μ ds post exc, P2 μ ds post exc → P1 μ ds post exc) : Cal P w K mg base CX k x st ps (spD K n P2) := by
  obtain ⟨f, fd, h1, F, G, b⟩ := c.ex
  exact ⟨f, fd, h1, F, fn_imp G h, b⟩
theorem Cal.mono {CX : CXT} {sp : Sp} {j : Nat} (c : Cal P w K mg base CX k x st ps sp) (h : k ≤ j) : Cal P w K mg base CX j x st ps sp := by
  obtain ⟨f, fd, h1, F, G, b⟩ := c.ex
  exact ⟨f, fd, h1, F, G.mono h, b⟩
theorem kb_of {f : Addr} {fd : FuncData} {n m : Nat} {pm : List Nat} {ks : List Str} (F : Fun K x x st f fd) (hp : ps ≠ [])
    (h : ∀ (kV doc pv : Value) (an : Option Addr) (cdv ct : Value) (us ws : List Value), us.length = n → ws.length = m → bindArgs (PySem.W.fnOf x x (defArgs st) (defBody st) (defScope st) .none kV doc pv an cdv ct) ⟨us, ks.zip ws⟩ = pure (ps.zip (pm.filterMap fun i => (us ++ ws)[i]?))) :
    KBinds K fd ps ks (permG n m pm) (permG n m pm) := by
  obtain ⟨oc, od, kV, doc, pv, an, cdv, ct, osl, rfl, lk, hcd⟩ := F.ex
  refine ⟨fun s us ws _ hl => ?_, fun {vs us zs ws} r rz => ?_⟩
  · unfold permG at hl ⊢
    by_cases c : us.length = n ∧ ws.length = m
    · rw [if_pos c] at hl ⊢
      exact .of_eq (h kV doc pv an cdv ct us ws c.1 c.2)
    · rw [if_neg c] at hl
      exact absurd (List.length_eq_zero_iff.mp hl.symm) hp
  · unfold permG
    rw [r.length, rz.length]
    by_cases c : us.length = n ∧ ws.length = m
    · rw [if_pos c, if_pos c]
      exact perm_vals (r.append rz)
    · rw [if_neg c, if_neg c]
      exact .nil
theorem permG_den {μ : Mu} {H : Hp} {n m : Nat} {pm : List Nat} {ds es : List D} {vs ws : List V} (a : DenL K μ H ds vs) (b : DenL K μ H es ws) : DenL K μ H (permG n m pm ds es) (permG n m pm vs ws) := by
  unfold permG
  rw [a.length, b.length]
  by_cases c : vs.length = n ∧ ws.length = m
  · rw [if_pos c, if_pos c]
    exact perm_den (a.append b)
  · rw [if_neg c, if_neg c]
    exact DenL.nil
end
section
variable {X : Cx} {k j : Nat} {st : Stmt} {ps ks : List Str} {sp : Sp} {x : Str} {p pos : Pos} {e : Expr} {es : List Expr} {t tk : TA} {kws : List Keyword} {n m : Nat} {pm : List Nat}
/-- a call of such a def; no error leaves it -/
theorem pe_c (c : Cal X.prog X.w X.K X.mg X.base CX0 k x st ps sp) (hr : Room j X.A) (hj : k ≤ j) (ha : PA X (e :: es) t) (hg : Gl X x := by rfl) (hdb : (x == ("__debug__" : Str)) = false := by decide)
    (he : starEach (e :: es) X.env = (false, eval e X.env) :: starEach es X.env := by rfl) (hpl : (backTo pos (starEach es X.env)).any (·.1) = false := by rfl) : PE X (.Call (.Name x p) (e :: es) [] pos) (tCall sp [] E0 t) := by
  obtain ⟨f, fd, h1, F, G, b⟩ := c.ex
  exact pe_call G (hr.mono hj) hg h1 F.kp b .nil pass0 ha hdb he hpl
theorem pe_c0 (c : Cal X.prog X.w X.K X.mg X.base CX0 k x st ps sp) (hr : Room j X.A) (hj : k ≤ j) (hg : Gl X x := by rfl) (hdb : (x == ("__debug__" : Str)) = false := by decide) : PE X (.Call (.Name x p) [] [] pos) (tCall sp [] E0 tNil) := by
  obtain ⟨f, fd, h1, F, G, b⟩ := c.ex
  have h := pe_call0 (p := p) (pos := pos) G (hr.mono hj) hg h1 F.kp b .nil (pass0 (X := X)) hdb
  exact ⟨fun pins s σ H Q I q => h.run pins s σ H Q I q⟩
theorem pe_cS {W : WX} (c : Cal X.prog X.w X.K X.mg X.base (L2.CX X.prog X.w) k x st ps sp) (hr : Room j X.A) (hj : k ≤ j) (tk : Takes X W) (ha : PA X (e :: es) t) (hg : Gl X x := by rfl) (hdb : (x == ("__debug__" : Str)) = false := by decide)
    (he : starEach (e :: es) X.env = (false, eval e X.env) :: starEach es X.env := by rfl) (hpl : (backTo pos (starEach es X.env)).any (·.1) = false := by rfl) : PE X (.Call (.Name x p) (e :: es) [] pos) (tCallS sp (WE W) t) := by
  obtain ⟨f, fd, h1, F, G, b⟩ := c.ex
  exact pe_callS G (hr.mono hj) hg h1 F.kp b (fun σ => passAt tk σ) ha hdb he hpl
theorem pe_ck (c : Cal X.prog X.w X.K X.mg X.base CX0 k x st ps sp) (hr : Room j X.A) (hj : k ≤ j) (hp : ps ≠ [])
    (h : ∀ (kV doc pv : Value) (an : Option Addr) (cdv ct : Value) (us ws : List Value), us.length = n → ws.length = m → bindArgs (PySem.W.fnOf x x (defArgs st) (defBody st) (defScope st) .none kV doc pv an cdv ct) ⟨us, ks.zip ws⟩ = pure (ps.zip (pm.filterMap fun i => (us ++ ws)[i]?)))
    (hkw : PK X kws tk) (hg : Gl X x := by rfl) (hall : (backToKw pos (keywordEach kws X.env)).all (·.1.isSome) = true := by rfl) (hks : (backToKw pos (keywordEach kws X.env)).filterMap (·.1) = ks := by rfl)
    (hdb : (x == ("__debug__" : Str)) = false := by decide) (hn : ((backTo pos (starEach [] X.env)).any (·.1) || (backToKw pos (keywordEach kws X.env)).any (·.1.isNone)) = false := by rfl) :
    PE X (.Call (.Name x p) [] kws pos) (tCallK sp (permG n m pm) E0 tNil tk) := by
  obtain ⟨f, fd, h1, F, G, b⟩ := c.ex
  exact pe_callK0 G (hr.mono hj) hg h1 F.kp (kb_of F hp h) pass0 hkw hall hks hdb hn
end
section
variable {K : PySem.W.Frag} {W : WX} {X : XD} {μ : Mu} {ρ : Ro} {Φ : DP} {n a b : Nat} {pm : List Nat} {P : PD} {tr tk : TA}
theorem evx_ck (h : EvL K W X μ ρ tr fun μ1 ds => EvL K W X μ1 ρ tk fun μ2 es => (permG a b pm ds es).length = n ∧ P μ2 (permG a b pm ds es) Φ excN) : EvX K W X μ ρ (tCallK (spD K n P) (permG a b pm) E0 tr tk) Φ :=
  evx_callK (permG a b pm) (fun _ _ _ _ _ _ p q => permG_den p q) h
end
/-! ### == of data -/
mutual
def toP : D → PyData
  | .bl b => .bool b
  | .int i => .int i
  | .str x => .str x
  | .tup ds => .tuple (toPs ds)
  | .lst ds => .list (toPs ds)
  | .frz ds => .list (toPs ds)
  | _ => .none
def toPs : List D → List PyData
  | [] => []
  | d :: ds => toP d :: toPs ds
end
mutual
def plainD : D → Bool
  | .non => true
  | .bl _ => true
  | .int _ => true
  | .str x => SeqAt.shaped (.str x)
  | .tup ds => plainDs ds
  | .lst ds => plainDs ds
  | .frz ds => plainDs ds
  | _ => false
def plainDs : List D → Bool
  | [] => true
  | d :: ds => plainD d && plainDs ds
end
def seeD (μ : Mu) : D → D
  | .at a => match μ a with
    | some (.lst ds) => .lst ds
    | _ => .at a
  | d => d
section
variable {K : PySem.W.Frag} {W : WX} {X : XD} {μ μ' : Mu} {H H' : Hp} {ρ : Ro} {E : ED} {ta tb te tx tl : TE} {Φ : DP} {x y : D}
mutual
theorem den_dp : ∀ (d : D) (v : V), Den K μ H d v → plainD d = true → Dp K H v (toP d)
  | .non, v, h, _ => by unfold Den at h; subst h; exact .non
  | .bl b, v, h, _ => by unfold Den at h; subst h; exact .bl b
  | .int i, v, h, _ => by unfold Den at h; subst h; exact .int i
  | .str x, v, h, _ => by unfold Den at h; subst h; exact .str x
  | .tup ds, v, h, p => by
    unfold Den at h
    unfold plainD at p
    obtain ⟨q, vs, e, s, b⟩ := h
    subst e
    exact .tup s.sq (den_dps ds vs b p)
  | .lst ds, v, h, p => by
    unfold Den at h
    unfold plainD at p
    obtain ⟨q, vs, e, s, b⟩ := h
    subst e
    exact .lst (SqL.of s.2) (den_dps ds vs b p)
  | .frz ds, v, h, p => by
    unfold Den at h
    unfold plainD at p
    obtain ⟨q, vs, e, s, b⟩ := h
    subst e
    exact .lst s.sq (den_dps ds vs b p)
  | .dct _ _, v, h, p => by unfold plainD at p; cases p
  | .obj _ _ _, v, h, p => by unfold plainD at p; cases p
  | .exc _ _, v, h, p => by unfold plainD at p; cases p
  | .ty _, v, h, p => by unfold plainD at p; cases p
  | .at _, v, h, p => by unfold plainD at p; cases p
theorem den_dps : ∀ (ds : List D) (vs : List V), DenL K μ H ds vs → plainDs ds = true → DpAll K H vs (toPs ds)
  | [], vs, h, _ => by unfold DenL at h; subst h; exact .nil
  | d :: ds, vs, h, p => by
    unfold DenL at h
    unfold plainDs at p
    rw [Bool.and_eq_true] at p
    obtain ⟨w, ws, e, a, b⟩ := h
    subst e
    exact .cons (den_dp d w a p.1) (den_dps ds ws b p.2)
end
theorem den_see {v : V} (m : Mem K μ H) (h : Den K μ H x v) (p : plainD (seeD μ x) = true) : Dp K H v (toP (seeD μ x)) := by
  cases x
  case «at» a =>
    unfold seeD at p ⊢
    dsimp only at p ⊢
    cases q : μ a with
    | none => rw [q] at p; cases p
    | some o =>
      rw [q] at p
      cases o with
      | lst ds =>
        unfold Den at h
        subst h
        obtain ⟨vs, e, b⟩ := m a _ q
        have p' : plainDs ds = true := p
        exact .lst (SqL.of e) (den_dps ds vs b p')
      | dct _ _ => cases p
      | obj _ _ _ => cases p
  all_goals exact den_dp _ v h p
/-- == over data -/
def eqD (x y : D) : Bool := PyData.eqv (toP x) (toP y)
theorem opx_eqD (h1 : plainD (seeD μ x) = true) (s1 : SeqAt.shaped (toP (seeD μ x)) = true) (h2 : plainD (seeD μ y) = true) (s2 : SeqAt.shaped (toP (seeD μ y)) = true) (h : Φ μ (.bl (eqD (seeD μ x) (seeD μ y)))) : OpX K (rEqD K) μ x y Φ := fun H v w Q m a b k =>
  ⟨_, _, den_see m a h1, den_see m b h2, s1, s2, k μ _ _ H h (Grow.refl _ _) m (by unfold Den; rfl)⟩
theorem opx_neD (h1 : plainD (seeD μ x) = true) (s1 : SeqAt.shaped (toP (seeD μ x)) = true) (h2 : plainD (seeD μ y) = true) (s2 : SeqAt.shaped (toP (seeD μ y)) = true) (h : Φ μ (.bl (!eqD (seeD μ x) (seeD μ y)))) : OpX K (rNeD K) μ x y Φ := fun H v w Q m a b k =>
  ⟨_, _, den_see m a h1, den_see m b h2, s1, s2, k μ _ _ H h (Grow.refl _ _) m (by unfold Den; rfl)⟩
theorem ints_plain (gs : List Int) : plainDs (gs.map D.int) = true := by
  induction gs with
  | nil => rfl
  | cons g gs ih => unfold List.map plainDs; rw [ih]; rfl
theorem ints_shaped (gs : List Int) : SeqAt.shaped (toP (.lst (gs.map D.int))) = true := by
  have h1 : ∀ l : List Int, PyData.canLayAll0 (toPs (l.map D.int)) = true := by
    intro l
    induction l with
    | nil => rfl
    | cons g gs ih =>
      show (PyData.canLay0 (.int g) && PyData.canLayAll0 (toPs (gs.map D.int))) = true
      rw [ih]; rfl
  have h2 : ∀ l : List Int, PyData.depthAll (toPs (l.map D.int)) ≤ 1 := by
    intro l
    induction l with
    | nil => exact Nat.zero_le _
    | cons g gs ih =>
      show max (PyData.depth (.int g)) (PyData.depthAll (toPs (gs.map D.int))) ≤ 1
      exact Nat.max_le.mpr ⟨by show 0 ≤ 1; decide, ih⟩
  unfold SeqAt.shaped
  rw [Bool.and_eq_true]
  refine ⟨?_, ?_⟩
  · show PyData.canLayAll0 (toPs (gs.map D.int)) = true
    exact h1 gs
  · apply decide_eq_true
    show PyData.depthAll (toPs (gs.map D.int)) + 1 ≤ 64
    have := h2 gs
    omega
/-- xs != [] of ints -/
theorem eqD_nil (gs : List Int) : eqD (.lst (gs.map D.int)) (.lst []) = gs.isEmpty := by
  cases gs with
  | nil => rfl
  | cons g gs => rfl
/-! ### more methods of lists -/
/-- o.m(e, ..) of a list that may change -/
theorem evx_bmL {to : TE} {tr : TA} {r : V → List V → Hp → VK → Prop} (h : EvX K W X μ ρ to fun μ1 o => ∃ a ds0, o = .at a ∧ μ1 a = some (.lst ds0) ∧ EvL K W X μ1 ρ tr fun μ2 es => ∃ ds, μ2 a = some (.lst ds) ∧
      ∀ H vs ws Q, Mem K μ2 H → H a = some (.lst vs) → DenL K μ2 H ds vs → DenL K μ2 H es ws → (∀ μ' d u H', Φ μ' d → Grow μ2 H μ' H' → Mem K μ' H' → Den K μ' H' d u → Q u H') → r (.ref a) ws H Q) : EvX K W X μ ρ (tBM K "list" r to tr) Φ := fun σ H Q m e l k =>
  h σ H _ m e l fun μ1 o v H1 ⟨a, ds0, e1, h0, h1⟩ g1 m1 d1 => by
    subst e1
    unfold Den at d1
    subst d1
    obtain ⟨us0, q0, b0⟩ := m1 a _ h0
    refine ⟨.inl ⟨rfl, us0, SqL.of q0⟩, ?_⟩
    refine h1 σ H1 _ m1 (e.grow g1) (l.grow g1) fun μ2 es ws H2 ⟨ds, hp, hk⟩ g2 m2 d2 => ?_
    obtain ⟨us, q, b⟩ := m2 a _ hp
    exact hk H2 us ws Q m2 q b d2 fun μ' d u H' p g => k μ' d u H' p ((g1.trans g2).trans g)
theorem evx_bmL0 {to : TE} {r : V → List V → Hp → VK → Prop} (h : EvX K W X μ ρ to fun μ1 o => ∃ a ds, o = .at a ∧ μ1 a = some (.lst ds) ∧
      ∀ H vs Q, Mem K μ1 H → H a = some (.lst vs) → DenL K μ1 H ds vs → (∀ μ' d u H', Φ μ' d → Grow μ1 H μ' H' → Mem K μ' H' → Den K μ' H' d u → Q u H') → r (.ref a) [] H Q) : EvX K W X μ ρ (tBM0 K "list" r to) Φ := fun σ H Q m e l k =>
  h σ H _ m e l fun μ1 o v H1 ⟨a, ds, e1, hp, hk⟩ g1 m1 d1 => by
    subst e1
    unfold Den at d1
    subst d1
    obtain ⟨us, q, b⟩ := m1 a _ hp
    exact ⟨.inl ⟨rfl, us, SqL.of q⟩, hk H1 us Q m1 q b fun μ' d u H' p g => k μ' d u H' p (g1.trans g)⟩
theorem evx_app {to : TE} (h : EvX K W X μ ρ to fun μ1 o => ∃ a ds0, o = .at a ∧ μ1 a = some (.lst ds0) ∧ EvX K W X μ1 ρ te fun μ2 d => ∃ ds, μ2 a = some (.lst ds) ∧ ds.length ≤ 1000000 ∧ Φ (mput μ2 a (.lst (ds ++ [d]))) .non) : EvX K W X μ ρ (tBM K "list" rAppend to (tCons te tNil)) Φ :=
  evx_bmL (h.imp fun μ1 o ⟨a, ds0, e1, h0, h1⟩ => ⟨a, ds0, e1, h0, evl_cons (h1.imp fun μ2 d ⟨ds, hp, hz, hq⟩ => evl_nil ⟨ds, hp, fun H vs ws Q m q b d2 k => by
    obtain ⟨w, e2, dw⟩ := denL1 d2
    subst e2
    exact ⟨a, vs, w, rfl, rfl, q, by rw [← b.length]; exact Nat.lt_of_le_of_lt hz (by decide), k _ _ _ _ hq (Grow.wr hp) (m.wr hp ⟨_, upd_same, (DenL.grow (Grow.wr hp) _ _ b).append (DenL.cons (Den.grow (Grow.wr hp) _ _ dw) DenL.nil)⟩) (by unfold Den; rfl)⟩⟩)⟩)
abbrev rInsert : V → List V → Hp → VK → Prop := fun x vs H Q => ∃ (l : Addr) (xs : List V) (i : Int) (y : V), x = .ref l ∧ vs = [.int i, y] ∧ H l = some (.lst xs) ∧ xs.length < sizeLine ∧ 0 ≤ i ∧ i < 2 ^ 63 ∧ Q .non (upd H l (.lst (xs.take i.toNat ++ [y] ++ xs.drop i.toNat)))
/-- xs.insert(0, e) -/
theorem evx_ins0 {to : TE} (h : EvX K W X μ ρ to fun μ1 o => ∃ a ds0, o = .at a ∧ μ1 a = some (.lst ds0) ∧ EvX K W X μ1 ρ te fun μ2 d => ∃ ds, μ2 a = some (.lst ds) ∧ ds.length ≤ 1000000 ∧ Φ (mput μ2 a (.lst (d :: ds))) .non) :
    EvX K W X μ ρ (tBM K "list" rInsert to (tCons (tC (.int 0)) (tCons te tNil))) Φ :=
  evx_bmL (h.imp fun μ1 o ⟨a, ds0, e1, h0, h1⟩ => ⟨a, ds0, e1, h0, evl_cons (evx_int (evl_cons (h1.imp fun μ2 d ⟨ds, hp, hz, hq⟩ => evl_nil ⟨ds, hp, fun H vs ws Q m q b d2 k => by
    obtain ⟨w0, w, e2, dw0, dw⟩ := denL2 d2
    unfold Den at dw0
    subst dw0 e2
    exact ⟨a, vs, 0, w, rfl, rfl, q, by rw [← b.length]; exact Nat.lt_of_le_of_lt hz (by decide), by decide, by decide, k _ _ _ _ hq (Grow.wr hp) (m.wr hp ⟨_, upd_same, DenL.cons (Den.grow (Grow.wr hp) _ _ dw) (DenL.grow (Grow.wr hp) _ _ b)⟩) (by unfold Den; rfl)⟩⟩)))⟩)
theorem denL_dropLast : ∀ {ds : List D} {vs : List V}, DenL K μ H ds vs → DenL K μ H ds.dropLast vs.dropLast
  | [], vs, h => by unfold DenL at h; subst h; exact DenL.nil
  | [d], vs, h => by
    obtain ⟨w, e, _⟩ := denL1 h
    subst e; exact DenL.nil
  | d :: d' :: ds, vs, h => by
    unfold DenL at h
    obtain ⟨w, ws, e, a, b⟩ := h
    have b' := b
    unfold DenL at b'
    obtain ⟨w', ws', e', _, _⟩ := b'
    subst e e'
    exact DenL.cons a (denL_dropLast b)
/-- xs.pop() -/
theorem evx_pop {to : TE} (h : EvX K W X μ ρ to fun μ1 o => ∃ a ds d, o = .at a ∧ μ1 a = some (.lst ds) ∧ ds.getLast? = some d ∧ Φ (mput μ1 a (.lst ds.dropLast)) d) : EvX K W X μ ρ (tBM0 K "list" rPop to) Φ :=
  evx_bmL0 (h.imp fun μ1 o ⟨a, ds, d, e1, hp, hl, hq⟩ => ⟨a, ds, e1, hp, fun H vs Q m q b k => by
    rw [List.getLast?_eq_getElem?] at hl
    obtain ⟨v, h1, h2⟩ := b.get hl
    refine ⟨a, vs, v, rfl, rfl, q, by rw [← b.length]; exact h1, k _ _ _ _ hq (Grow.wr hp) (m.wr hp ⟨_, upd_same, DenL.grow (Grow.wr hp) _ _ (denL_dropLast b)⟩) (Den.grow (Grow.wr hp) _ _ h2)⟩⟩)
/-! ### ifs whose test is a decision -/
theorem ifD {p A B : Prop} [Decidable p] (h1 : p → A) (h2 : ¬p → B) : if decide p = true then A else B := by
  by_cases h : p
  · rw [if_pos (decide_eq_true h)]; exact h1 h
  · rw [if_neg (by rw [decide_eq_false h]; decide)]; exact h2 h
theorem ifN {p A B : Prop} [Decidable p] (h1 : ¬p → A) (h2 : p → B) : if (!decide p) = true then A else B := by
  by_cases h : p
  · rw [if_neg (by rw [decide_eq_true h]; decide)]; exact h2 h
  · rw [if_pos (by rw [decide_eq_false h]; rfl)]; exact h1 h
theorem ifB {b : Bool} {A B : Prop} (h1 : b = true → A) (h2 : b = false → B) : if b = true then A else B := by
  cases b with
  | true => rw [if_pos rfl]; exact h1 rfl
  | false => rw [if_neg (by decide)]; exact h2 rfl
theorem ifY {b : Bool} {A B : Prop} (h : b = true) (h1 : A) : if b = true then A else B := by rw [if_pos h]; exact h1
theorem ifNo {b : Bool} {A B : Prop} (h : b = false) (h1 : B) : if b = true then A else B := by rw [if_neg (by rw [h]; decide)]; exact h1
end
/-- an own error's class: where it stands, what is said of it, its __init__ -/
structure ExcD (K : PySem.W.Frag) (mg : Str → Option Value) (x : Str) (C fI : Addr) : Prop where
  m : mg x = some (.ref C)
  k : ExcK K C
  i : PySem.W.findIn K (.ref C) "__init__" = some (some (.ref fI))
/-- the __init__ that all of them have -/
structure IniD (P : Program) (w : World) (K : PySem.W.Frag) (mg : Str → Option Value) (base : Heap) (fI : Addr) : Prop where
  ex : ∃ fd : FuncData, PySem.W.typeIn K (.ref fI) = some (.type "function") ∧ FnOk P w K mg base CX0 1 fI fd ["self", "value"] (spInit K "value") ∧ Binds K fd ["self", "value"] []
theorem ps_raiseD {X : Cx} {W : WX} {x : Str} {C fI : Addr} {j : Nat} {e : Expr} {es : List Expr} {ta : TA} {p pos pos2 : Pos} (hC : ExcD X.K X.mg x C fI) (hI : IniD X.prog X.w X.K X.mg X.base fI) (hr : Room j X.A) (hj : 2 ≤ j) (tk : Takes X W) (ha : PA X (e :: es) ta)
    (hc : X.calm = true := by rfl) (hg : Gl X x := by rfl) (hdb : (x == ("__debug__" : Str)) = false := by decide)
    (he : starEach (e :: es) X.env = (false, eval e X.env) :: starEach es X.env := by rfl) (hpl : (backTo pos (starEach es X.env)).any (·.1) = false := by rfl) : PS X (.Raise (some (.Call (.Name x p) (e :: es) [] pos)) none pos2) (tRaiseO C W (spInit X.K "value") ta) := by
  obtain ⟨fd, h1, h2, h3⟩ := hI.ex
  exact ps_raise hc tk (pmk_oex hC.k.ox hC.i h1 h2 (hr.mono hj) h3 .nil pass0 hg hC.m ha hdb he hpl)
/-- WorthError's __init__ keeps its promise -/
theorem ini_ok {P : Program} {w : World} {K : PySem.W.Frag} {mg : Str → Option Value} {base : Heap} {st : Stmt} {f : Addr} {fd : FuncData} (F : Fun K "__init__" "WorthError.__init__" st f fd) (S : FnScope ["self", "value"] ["self", "value"] (defScope st))
    (h : ∀ (cdv : Value) (A : Around) (outer : List Env) (s : Shared) (H : Hp) (E : XK), PSs (cxOf CX0 P w K mg base ["self", "value"] "WorthError.__init__" (defScope st) f cdv A outer s H E).nox (defBody st) (tSeq (tDrop (tVeI K (tCons (tVar 0) (tCons (tVar 1) tNil)))) (tOst K "value" (tVar 0) (tVar 1)))) :
    FnOk P w K mg base CX0 1 f fd ["self", "value"] (spInit K "value") := by
  refine F.ok S (fun vs H Q E h => ?_) fun cdv A outer s H vs Q E hr hs => ⟨_, h cdv A outer s H E, ?_⟩
  · obtain ⟨a, C, v, rfl, _⟩ := h
    rfl
  · obtain ⟨a, C, v, rfl, T, hn, ea, k⟩ := hs
    exact ⟨_, rfl, _, rfl, a, C, [v], rfl, (by show 1 ≤ 1000; decide), T, ea, _, rfl, _, rfl, a, C, rfl, T, hn, .inl ⟨ea, fun dx h1 h2 => k dx h1 h2⟩⟩
theorem gs_mid {K : PySem.W.Frag} {W : WX} {X : XD} {μ : Mu} {ρ : Ro} {E : ED} {t u : TS} (M : Mu → Ro → Prop) (h : GS K W X μ ρ t { E with nx := M }) (k : ∀ μ1 ρ1, M μ1 ρ1 → GS K W X μ1 ρ1 u E) : GS K W X μ ρ (tSeq t u) E :=
  gs_seq (h.imp k (fun _ _ z => z) (fun _ _ z => z) (fun _ _ z => z))
theorem opx_ixA {K : PySem.W.Frag} {μ : Mu} {a : Addr} {es : List D} {i : Int} {d : D} {Φ : DP} (h : μ a = some (.lst es)) (ha : atI es i = some d) (q : Φ μ d) : OpX K (rIx K) μ (.at a) (.int i) Φ := opx_ix (x := .at a) h ha q
theorem tgx_subA {K : PySem.W.Frag} {W : WX} {X : XD} {μ : Mu} {ρ : Ro} {to ti : TE} {d : D} {Φ : Mu → Ro → Prop} {a : Addr} {ds : List D} {k : Int} {j : Nat} (h1 : μ a = some (.lst ds)) (hj : ixN ds.length k = some j) (q : Φ (mput μ a (.lst (ds.set j d))) ρ) (ho : ∀ Ψ : DP, Ψ μ (.at a) → EvX K W X μ ρ to Ψ) (hi : ∀ Ψ : DP, Ψ μ (.int k) → EvX K W X μ ρ ti Ψ) : TgX K W X μ ρ (gSub to ti rSetL) d Φ :=
  tgx_sub (ho _ (hi _ ⟨a, ds, k, j, rfl, rfl, h1, hj, q⟩))
theorem see_at {μ : Mu} {a : Addr} {ds : List D} (h : μ a = some (.lst ds)) : seeD μ (.at a) = .lst ds := by
  unfold seeD
  dsimp only
  rw [h]
theorem isL_lst {μ : Mu} {ds : List D} : IsL μ (.lst ds) ds (fun _ => True) := .inl ⟨.inl rfl, rfl⟩
theorem isL_frz {μ : Mu} {ds : List D} : IsL μ (.frz ds) ds (fun _ => True) := .inl ⟨.inr rfl, rfl⟩
theorem isL_at {μ : Mu} {a : Addr} {ds : List D} (h : μ a = some (.lst ds)) : IsL μ (.at a) ds (fun μ' => μ' a = some (.lst ds)) := .inr ⟨a, rfl, h, rfl⟩
theorem gs_never {K : PySem.W.Frag} {W : WX} {X : XD} {μ : Mu} {ρ : Ro} {E : ED} (h : False) : GS K W X μ ρ tNever E := h.elim
/-! ### the laws' decks -/
/-- a deck at a, its great cells at g, at most c draws so far -/
structure DeckAt (a g : Addr) (c : Int) (μ : Mu) (gs : List Int) (o m k : Int) : Prop where
  ne : a ≠ g
  ha : μ a = some (.lst [.at g, .int o, .int m, .int k])
  hg : μ g = some (.lst (gs.map D.int))
  gs : ∀ x ∈ gs, 0 ≤ x ∧ x.natAbs < 2 ^ 1048577
  o0 : 0 ≤ o
  o1 : o.natAbs < 2 ^ 1048577
  m0 : 0 ≤ m
  m1 : m ≤ 1000000000000000003
  k0 : 0 ≤ k
  k1 : k ≤ c
def Deck (a g : Addr) (c : Int) (μ : Mu) : Prop := ∃ gs o m k, DeckAt a g c μ gs o m k
/-- all but a and g as it was -/
def But (a g : Addr) (μ μ' : Mu) : Prop := ∀ b, b ≠ a → b ≠ g → μ' b = μ b
theorem But.refl (a g : Addr) (μ : Mu) : But a g μ μ := fun _ _ _ => rfl
theorem But.trans {a g : Addr} {μ μ1 μ2 : Mu} (h : But a g μ μ1) (k : But a g μ1 μ2) : But a g μ μ2 := fun b h1 h2 => (k b h1 h2).trans (h b h1 h2)
theorem But.put1 {a g : Addr} {μ : Mu} {o : MO} : But a g μ (mput μ a o) := fun b h1 _ => mput_ne h1
theorem But.put2 {a g : Addr} {μ : Mu} {o : MO} : But a g μ (mput μ g o) := fun b _ h2 => mput_ne h2
theorem Deck.mono {a g : Addr} {c c' : Int} {μ : Mu} (h : Deck a g c μ) (hc : c ≤ c') : Deck a g c' μ := by
  obtain ⟨gs, o, m, k, d⟩ := h
  exact ⟨gs, o, m, k, d.ne, d.ha, d.hg, d.gs, d.o0, d.o1, d.m0, d.m1, d.k0, by have := d.k1; omega⟩
/-- something else changes -/
theorem Deck.but {a g p : Addr} {c : Int} {μ : Mu} {o : MO} (h : Deck a g c μ) (h1 : p ≠ a) (h2 : p ≠ g) : Deck a g c (mput μ p o) := by
  obtain ⟨gs, o, m, k, d⟩ := h
  exact ⟨gs, o, m, k, d.ne, by rw [mput_ne (Ne.symm h1)]; exact d.ha, by rw [mput_ne (Ne.symm h2)]; exact d.hg, d.gs, d.o0, d.o1, d.m0, d.m1, d.k0, d.k1⟩
theorem kit_NoneType_list : kitB "NoneType" "list" = some false := by decide +kernel
theorem kit_NoneType_tuple : kitB "NoneType" "tuple" = some false := by decide +kernel
theorem kit_NoneType_str : kitB "NoneType" "str" = some false := by decide +kernel
theorem kit_NoneType_bool : kitB "NoneType" "bool" = some false := by decide +kernel
theorem kit_NoneType_int : kitB "NoneType" "int" = some false := by decide +kernel
theorem kit_NoneType_dict : kitB "NoneType" "dict" = some false := by decide +kernel
theorem kit_bool_list : kitB "bool" "list" = some false := by decide +kernel
theorem kit_bool_tuple : kitB "bool" "tuple" = some false := by decide +kernel
theorem kit_bool_str : kitB "bool" "str" = some false := by decide +kernel
theorem kit_bool_bool : kitB "bool" "bool" = some true := by decide +kernel
theorem kit_bool_int : kitB "bool" "int" = some true := by decide +kernel
theorem kit_bool_dict : kitB "bool" "dict" = some false := by decide +kernel
theorem kit_int_list : kitB "int" "list" = some false := by decide +kernel
theorem kit_int_tuple : kitB "int" "tuple" = some false := by decide +kernel
theorem kit_int_str : kitB "int" "str" = some false := by decide +kernel
theorem kit_int_bool : kitB "int" "bool" = some false := by decide +kernel
theorem kit_int_int : kitB "int" "int" = some true := by decide +kernel
theorem kit_int_dict : kitB "int" "dict" = some false := by decide +kernel
theorem kit_str_list : kitB "str" "list" = some false := by decide +kernel
theorem kit_str_tuple : kitB "str" "tuple" = some false := by decide +kernel
theorem kit_str_str : kitB "str" "str" = some true := by decide +kernel
theorem kit_str_bool : kitB "str" "bool" = some false := by decide +kernel
theorem kit_str_int : kitB "str" "int" = some false := by decide +kernel
theorem kit_str_dict : kitB "str" "dict" = some false := by decide +kernel
theorem kit_tuple_list : kitB "tuple" "list" = some false := by decide +kernel
theorem kit_tuple_tuple : kitB "tuple" "tuple" = some true := by decide +kernel
theorem kit_tuple_str : kitB "tuple" "str" = some false := by decide +kernel
theorem kit_tuple_bool : kitB "tuple" "bool" = some false := by decide +kernel
theorem kit_tuple_int : kitB "tuple" "int" = some false := by decide +kernel
theorem kit_tuple_dict : kitB "tuple" "dict" = some false := by decide +kernel
theorem kit_list_list : kitB "list" "list" = some true := by decide +kernel
theorem kit_list_tuple : kitB "list" "tuple" = some false := by decide +kernel
theorem kit_list_str : kitB "list" "str" = some false := by decide +kernel
theorem kit_list_bool : kitB "list" "bool" = some false := by decide +kernel
theorem kit_list_int : kitB "list" "int" = some false := by decide +kernel
theorem kit_list_dict : kitB "list" "dict" = some false := by decide +kernel
theorem kit_dict_list : kitB "dict" "list" = some false := by decide +kernel
theorem kit_dict_tuple : kitB "dict" "tuple" = some false := by decide +kernel
theorem kit_dict_str : kitB "dict" "str" = some false := by decide +kernel
theorem kit_dict_bool : kitB "dict" "bool" = some false := by decide +kernel
theorem kit_dict_int : kitB "dict" "int" = some false := by decide +kernel
theorem kit_dict_dict : kitB "dict" "dict" = some true := by decide +kernel
theorem kits_NoneType_lt : kitBs "NoneType" ["list", "tuple"] = some false := by decide +kernel
theorem kits_bool_lt : kitBs "bool" ["list", "tuple"] = some false := by decide +kernel
theorem kits_int_lt : kitBs "int" ["list", "tuple"] = some false := by decide +kernel
theorem kits_str_lt : kitBs "str" ["list", "tuple"] = some false := by decide +kernel
theorem kits_tuple_lt : kitBs "tuple" ["list", "tuple"] = some true := by decide +kernel
theorem kits_list_lt : kitBs "list" ["list", "tuple"] = some true := by decide +kernel
theorem kits_dict_lt : kitBs "dict" ["list", "tuple"] = some false := by decide +kernel
/-- nobody may call it so: a promise of nothing -/
theorem cal_false {P : Program} {w : World} {K : PySem.W.Frag} {mg : Str → Option Value} {base : Heap} {x : Str} {st : Stmt} {ps : List Str} {n : Nat} (h : Std K mg x st)
    (hbi : ∀ (kV doc pm : Value) (an : Option Addr) (cdv ct : Value) (us : List Value), us.length = ps.length → bindArgs (PySem.W.fnOf x x (defArgs st) (defBody st) (defScope st) .none kV doc pm an cdv ct) ⟨us, []⟩ = pure (ps.zip us)) :
    Cal P w K mg base CX0 0 x st ps (spD K n (fun _ _ _ _ => False)) := by
  obtain ⟨f, fd, h1, F⟩ := h
  exact ⟨f, fd, h1, F, ⟨fun vs H Q E ⟨_, _, _, _, _, _, _, z, _⟩ => z.elim, fun A outer s H args us vs Q E hr he hb hv ⟨_, _, _, _, _, _, _, z, _⟩ => z.elim⟩, F.binds hbi⟩
/-- plain data, at most n deep -/
def alD : Nat → D → Bool
  | _, .non => true
  | _, .bl _ => true
  | _, .int _ => true
  | _, .str _ => true
  | n + 1, .tup ds => ds.all (alD n) && decide (ds.length ≤ 1000000)
  | n + 1, .lst ds => ds.all (alD n) && decide (ds.length ≤ 1000000)
  | _, _ => false
/-- the laws' comparison: of what is the same -/
def P_alike : Nat → PD
  | 0 => fun _ _ _ _ => False
  | n + 1 => fun μ ds post _ => ∃ d, ds = [d, d] ∧ alD n d = true ∧ post μ (.bl true)
theorem gs_neverH {K : PySem.W.Frag} {W : WX} {X : XD} {μ : Mu} {ρ : Ro} {E : ED} {t : TS} (h : False) : GS K W X μ ρ t E := h.elim
theorem pairs_same {ds : List D} {i : Nat} {d : D} (h : (pairsD ds ds)[i]? = some d) : ∃ x, x ∈ ds ∧ d = .tup [x, x] := by
  obtain ⟨x, y, h1, h2, e⟩ := pairsD_get h
  rw [h1] at h2
  cases h2
  exact ⟨x, List.mem_of_getElem? h1, e⟩
theorem denL_ints {K : PySem.W.Frag} {μ : Mu} {H : Hp} : ∀ ns : List Int, DenL K μ H (ns.map D.int) (ns.map V.int)
  | [] => DenL.nil
  | n :: ns => DenL.cons (by unfold Den; rfl) (denL_ints ns)
theorem bits_lt {z : Int} (h : Builtin.Int.intBits z ≤ 1048576) : z.natAbs < 2 ^ 1048576 := by
  unfold Builtin.Int.intBits at h
  split at h
  · rename_i h0
    have : z.natAbs = 0 := by simpa using h0
    rw [this]
    exact Nat.two_pow_pos _
  · rename_i h0
    have h1 : z.natAbs ≠ 0 := by simpa using h0
    exact (Nat.log2_lt h1).mp (by omega)
/-- a law's promise, from its P at the script -/
theorem sp_start {K : PySem.W.Frag} {P : PD} (h : ∀ ns : List Int, ns.length ≤ 63 → (∀ n ∈ ns, n.natAbs < 2 ^ 1048576) → P (fun _ => none) [.frz (ns.map D.int)] (fun _ d => d = .bl true) excN)
    (H : Hp) (a : Addr) (ns : List Int) (hl : ns.length ≤ 63) (hb : ∀ z ∈ ns, Builtin.Int.intBits z ≤ 1048576) (hO : Only H) (hs : SqL K H a (ns.map V.int)) : spD K 1 P [.ref a] H (fun v _ => v = .bl true) fun _ _ _ => False := by
  refine ⟨fun _ => none, [.frz (ns.map D.int)], (fun _ d => d = .bl true), excN, ?_, ?_, rfl, h ns hl (fun n hn => bits_lt (hb n hn)), ?_, ?_⟩
  · intro b o e
    cases e
  · refine DenL.cons ?_ DenL.nil
    unfold Den
    refine ⟨a, _, rfl, ?_, denL_ints ns⟩
    rcases hs with hs | hs
    · exact .inl ⟨rfl, hs⟩
    · exact .inr hs
  · intro μ' d v H' hd _ _ dv
    have hd' : d = .bl true := hd
    subst hd'
    unfold Den at dv
    exact dv
  · intro μ' C d dx v H' z
    exact z.elim
theorem cal_at {P : Program} {w : World} {K : PySem.W.Frag} {mg : Str → Option Value} {base : Heap} {CX : CXT} {k : Nat} {x : Str} {st : Stmt} {ps : List Str} {sp : Sp} {f : Addr} {fd : FuncData} (c : Cal P w K mg base CX k x st ps sp) (hm : mg x = some (.ref f)) (F : Fun K x x st f fd) : FnOk P w K mg base CX k f fd ps sp := by
  obtain ⟨f', fd', h1, F', G, _⟩ := c.ex
  rw [hm] at h1
  cases h1
  obtain ⟨_, _, _, _, _, _, _, _, _, _, l1, _⟩ := F.ex
  obtain ⟨_, _, _, _, _, _, _, _, _, _, l2, _⟩ := F'.ex
  rw [l1] at l2
  have := Option.some.inj l2
  cases this
  exact G
/-- f(k = v, ..) whose errors are wished for at the caller's slots -/
def tCallKS (sp : Sp) (gV : List V → List V → List V) (E : L2.St → XK) (tk : TA) : TE := fun σ H Q => tk σ H fun zs H2 => sp (gV [] zs) H2 Q (E σ)
section
variable {X : Cx} {CX : CXT} {k j : Nat} {f : Addr} {fd : FuncData} {ps ks : List Str} {sp : Sp} {x : Str} {p pos : Pos} {kws : List Keyword} {tk : TA} {g : List Value → List Value → List Value} {gV : List V → List V → List V} {st : Stmt} {n m : Nat} {pm : List Nat} {E : L2.St → XK}
theorem pe_callK0S (F : FnOk X.prog X.w X.K X.mg X.base CX k f fd ps sp) (hr : Room k X.A) (hg : Gl X x) (hm : X.mg x = some (.ref f)) (hk : PySem.W.keepIn X.K (.ref f) = true) (hb : KBinds X.K fd ps ks g gV) (hx : ∀ σ, PassesAt CX X σ (E σ))
    (hkw : PK X kws tk) (hall : (backToKw pos (keywordEach kws X.env)).all (·.1.isSome) = true := by rfl) (hks : (backToKw pos (keywordEach kws X.env)).filterMap (·.1) = ks := by rfl)
    (hdb : (x == ("__debug__" : Str)) = false := by decide) (hn : ((backTo pos (starEach [] X.env)).any (·.1) || (backToKw pos (keywordEach kws X.env)).any (·.1.isNone)) = false := by rfl) :
    PE X (.Call (.Name x p) [] kws pos) (tCallKS sp gV E tk) := by
  constructor
  intro pins s σ H Q I h
  apply wpAny_Call_Name_kw (ld_glob I hg hm ?_ hdb)
  refine PySem.W.callWith_KW0 (h₀ := X.base) I.ok.mod.kin hk hall ?_ hn
  refine thn (hkw.run pos pins s σ H _ I h) fun ws s2 hh => ?_
  obtain ⟨zs, H2, I2, rz, q2⟩ := hh
  refine ⟨I2.kIn, ?_⟩
  rw [hks]
  have r2 := hb.rel (vs := []) (us := []) .nil rz
  have hl : (g [] ws).length = ps.length := r2.length.symm.trans (F.len _ _ _ _ q2)
  refine wpAny_call (codeAny_mono (F.run X.A X.stack s2 H2 ⟨[], ks.zip ws⟩ (g [] ws) (gV [] zs) Q (E σ) hr I2.env0 (hb.to s2 [] ws I2.kIn hl) r2 q2) fun r s' hq => ?_)
  rcases r with e | (_ | _ | _ | u)
  · exact hx σ pins H2 s2 e s' I2 hq
  · exact False.elim hq
  · exact False.elim hq
  · exact False.elim hq
  · exact I2.after hq
theorem pe_ckS {W : WX} (c : Cal X.prog X.w X.K X.mg X.base (L2.CX X.prog X.w) k x st ps sp) (hr : Room j X.A) (hj : k ≤ j) (hp : ps ≠ []) (tw : Takes X W)
    (h : ∀ (kV doc pv : Value) (an : Option Addr) (cdv ct : Value) (us ws : List Value), us.length = n → ws.length = m → bindArgs (PySem.W.fnOf x x (defArgs st) (defBody st) (defScope st) .none kV doc pv an cdv ct) ⟨us, ks.zip ws⟩ = pure (ps.zip (pm.filterMap fun i => (us ++ ws)[i]?)))
    (hkw : PK X kws tk) (hg : Gl X x := by rfl) (hall : (backToKw pos (keywordEach kws X.env)).all (·.1.isSome) = true := by rfl) (hks : (backToKw pos (keywordEach kws X.env)).filterMap (·.1) = ks := by rfl)
    (hdb : (x == ("__debug__" : Str)) = false := by decide) (hn : ((backTo pos (starEach [] X.env)).any (·.1) || (backToKw pos (keywordEach kws X.env)).any (·.1.isNone)) = false := by rfl) :
    PE X (.Call (.Name x p) [] kws pos) (tCallKS sp (permG n m pm) (WE W) tk) := by
  obtain ⟨f, fd, h1, F, G, b⟩ := c.ex
  exact pe_callK0S G (hr.mono hj) hg h1 F.kp (kb_of F hp h) (fun σ => passAt tw σ) hkw hall hks hdb hn
end
theorem evx_ckS {K : PySem.W.Frag} {W : WX} {X : XD} {μ : Mu} {ρ : Ro} {Φ : DP} {n a b : Nat} {pm : List Nat} {P : PD} {tk : TA} (h : EvL K W X μ ρ tk fun μ2 es => (permG a b pm [] es).length = n ∧ P μ2 (permG a b pm [] es) Φ fun μ' C d => X μ' ρ C d) :
    EvX K W X μ ρ (tCallKS (spD K n P) (permG a b pm) (WE W) tk) Φ := fun σ H Q m e l k =>
  h σ H _ m e l fun μ1 ds vs H1 ⟨hl, hp⟩ g1 m1 d1 => ⟨μ1, _, Φ, _, m1, permG_den DenL.nil d1, hl, hp, fun μ' d v H' p g => k μ' d v H' p (g1.trans g), fun μ' C d dx v H' p g mm => l μ' ρ C d dx v σ H' p (g1.trans g) mm ((e.grow g1).grow g)⟩
/-! ### slices -/
def EvO (K : PySem.W.Frag) (W : WX) (X : XD) (μ : Mu) (ρ : Ro) (t : TO) (Φ : Mu → Option Int → Prop) : Prop := ∀ (σ : L2.St) (H : Hp) (Q : Option Int → Hp → Prop), Mem K μ H → EnvIs K μ H ρ σ → LiftX K μ H X W → (∀ μ' o H', Φ μ' o → Grow μ H μ' H' → Mem K μ' H' → Q o H') → t σ H Q
def SlX (K : PySem.W.Frag) (r : V → Option Int → Option Int → Hp → VK → Prop) (μ : Mu) (x : D) (l u : Option Int) (Φ : DP) : Prop := ∀ (H : Hp) (v : V) (Q : VK), Mem K μ H → Den K μ H x v → (∀ μ' d w H', Φ μ' d → Grow μ H μ' H' → Mem K μ' H' → Den K μ' H' d w → Q w H') → r v l u H Q
section
variable {K : PySem.W.Frag} {W : WX} {X : XD} {μ : Mu} {ρ : Ro} {Φ : DP} {te : TE} {tl th : TO}
theorem evo_none {Φ : Mu → Option Int → Prop} (h : Φ μ none) : EvO K W X μ ρ tNoPart Φ := fun σ H Q m e l k => k μ none H h (Grow.refl _ _) m
theorem evo_part {Φ : Mu → Option Int → Prop} (h : EvX K W X μ ρ te fun μ1 d => ∃ i, d = .int i ∧ Φ μ1 (some i)) : EvO K W X μ ρ (tPart te) Φ := fun σ H Q m e l k =>
  h σ H _ m e l fun μ1 d v H1 ⟨i, hd, hp⟩ g1 m1 d1 => ⟨i, by subst hd; unfold Den at d1; exact d1, k μ1 _ H1 hp g1 m1⟩
theorem evx_sl {r : V → Option Int → Option Int → Hp → VK → Prop} (h : EvX K W X μ ρ te fun μ1 x => EvO K W X μ1 ρ tl fun μ2 l => EvO K W X μ2 ρ th fun μ3 u => SlX K r μ3 x l u Φ) : EvX K W X μ ρ (L2.tSl r te tl th) Φ := fun σ H Q m e l k =>
  h σ H _ m e l fun μ1 x v H1 h1 g1 m1 d1 => h1 σ H1 _ m1 (e.grow g1) (l.grow g1) fun μ2 o1 H2 h2 g2 m2 => h2 σ H2 _ m2 ((e.grow g1).grow g2) ((l.grow g1).grow g2) fun μ3 o2 H3 h3 g3 m3 =>
    h3 H3 v Q m3 (Den.grow g3 _ _ (Den.grow g2 _ _ d1)) fun μ' d w H' p g => k μ' d w H' p (((g1.trans g2).trans g3).trans g)
theorem slx_S {z : Str} {lo hi : Option Int} (hz : z.length ≤ 1000000) (h : Φ μ (.str (cutS z lo hi))) : SlX K rSlS μ (.str z) lo hi Φ := fun H v Q m d k => by
  unfold Den at d
  exact ⟨z, d, Nat.le_trans hz (by decide), k μ _ _ H h (Grow.refl _ _) m (by unfold Den; rfl)⟩
end
/-- the same inside a try -/
theorem op_eqTr {X : Cx} {pn : List (Addr × Obj)} {xe : Value → Shared → Prop} (hu : X.A.units + 64 < cLine) : OpR (X.tr pn xe) (compareOp .Eq) (rEqU X.K) := op_eqU (X := X.tr pn xe) hu
theorem op_neTr {X : Cx} {pn : List (Addr × Obj)} {xe : Value → Shared → Prop} (hu : X.A.units + 64 < cLine) : OpR (X.tr pn xe) (compareOp .NotEq) (rNeU X.K) := op_neU (X := X.tr pn xe) hu
/-- list(a tuple): a fresh list that will change -/
theorem cax_listM {K : PySem.W.Frag} {μ : Mu} {es : List D} {Φ : DP} (h : ∀ p, μ p = none → Φ (mput μ p (.lst es)) (.at p)) :
    CaX K (fun xs H Q => ∃ p ys, xs = [.ref p] ∧ (SqL K H p ys ∨ SqT K H p ys) ∧ ∀ l, H l = none → Q (.ref l) (upd H l (.lst ys))) μ [.tup es] Φ := fun H vs Q m d k => by
  obtain ⟨v, e, a⟩ := denL1 d
  unfold Den at a
  obtain ⟨p, us, e2, s, b⟩ := a
  subst e2
  exact ⟨p, us, e, .inr s.sq, fun l hl => k _ _ _ _ (h l (m.free hl)) (Grow.newM hl) (m.newM hl ⟨us, upd_same, DenL.grow (Grow.newM hl) _ _ b⟩) (by unfold Den; rfl)⟩
/-! ### lists of texts, and what lists can do besides -/
section
variable {K : PySem.W.Frag} {W : WX} {X : XD} {μ : Mu} {H : Hp} {ρ : Ro} {Φ : DP} {te to : TE} {x y d : D} {ds xs ys : List D}
theorem isL_sq {S : Mu → Prop} {v : V} (m : Mem K μ H) (hd : IsL μ d ds S) (dv : Den K μ H d v) : ∃ p vs, v = .ref p ∧ SqL K H p vs ∧ DenL K μ H ds vs := by
  rcases hd with ⟨e1, hS⟩ | ⟨a, e1, ha, hS⟩
  · obtain ⟨p, vs, e2, s, b⟩ : ∃ p vs, v = .ref p ∧ StS K μ H p vs ∧ DenL K μ H ds vs := by
      rcases e1 with e1 | e1
      · subst e1; unfold Den at dv
        obtain ⟨p, vs, e2, s, b⟩ := dv
        exact ⟨p, vs, e2, .inl ⟨s.1, .inl s.2⟩, b⟩
      · subst e1; unfold Den at dv; exact dv
    exact ⟨p, vs, e2, s.sq, b⟩
  · subst e1
    unfold Den at dv
    obtain ⟨vs, q, b⟩ := m a _ ha
    exact ⟨a, vs, dv, SqL.of q, b⟩
/-- a list of the program's own making -/
def Real (μ : Mu) (d : D) (ds : List D) : Prop := d = .lst ds ∨ ∃ a, d = .at a ∧ μ a = some (.lst ds)
theorem real_lst {μ : Mu} : Real μ (.lst ds) ds := .inl rfl
theorem real_at {μ : Mu} {a : Addr} (h : μ a = some (.lst ds)) : Real μ (.at a) ds := .inr ⟨a, rfl, h⟩
theorem Real.hp {v : V} (m : Mem K μ H) (hd : Real μ d ds) (dv : Den K μ H d v) : ∃ p vs, v = .ref p ∧ H p = some (.lst vs) ∧ DenL K μ H ds vs := by
  rcases hd with e1 | ⟨a, e1, ha⟩
  · subst e1; unfold Den at dv
    obtain ⟨p, vs, e2, s, b⟩ := dv
    exact ⟨p, vs, e2, s.2, b⟩
  · subst e1
    unfold Den at dv
    obtain ⟨vs, q, b⟩ := m a _ ha
    exact ⟨a, vs, dv, q, b⟩
theorem denStr : ∀ {zs : List Str} {vs : List V}, DenL K μ H (zs.map D.str) vs → vs = zs.map V.str
  | [], vs, h => by unfold List.map DenL at h; exact h
  | z :: zs, vs, h => by
    rw [List.map_cons] at h
    unfold DenL at h
    obtain ⟨w, ws, e, a, b⟩ := h
    unfold Den at a
    subst e a
    rw [denStr b, List.map_cons]
theorem strDen : ∀ (zs : List Str), DenL K μ H (zs.map D.str) (zs.map V.str)
  | [] => DenL.nil
  | z :: zs => DenL.cons (by unfold Den; rfl) (strDen zs)
theorem DenL.drop : ∀ (n : Nat) {ds : List D} {vs : List V}, DenL K μ H ds vs → DenL K μ H (ds.drop n) (vs.drop n)
  | 0, ds, vs, h => h
  | n + 1, [], vs, h => by unfold DenL at h; subst h; exact DenL.nil
  | n + 1, d :: ds, vs, h => by
    unfold DenL at h
    obtain ⟨w, ws, e, a, b⟩ := h
    subst e
    exact DenL.drop n b
theorem DenL.take : ∀ (n : Nat) {ds : List D} {vs : List V}, DenL K μ H ds vs → DenL K μ H (ds.take n) (vs.take n)
  | 0, ds, vs, h => DenL.nil
  | n + 1, [], vs, h => by unfold DenL at h; subst h; exact DenL.nil
  | n + 1, d :: ds, vs, h => by
    unfold DenL at h
    obtain ⟨w, ws, e, a, b⟩ := h
    subst e
    exact DenL.cons a (DenL.take n b)
theorem DenL.eraseIdx : ∀ (n : Nat) {ds : List D} {vs : List V}, DenL K μ H ds vs → DenL K μ H (ds.eraseIdx n) (vs.eraseIdx n)
  | n, [], vs, h => by unfold DenL at h; subst h; exact DenL.nil
  | 0, d :: ds, vs, h => by
    unfold DenL at h
    obtain ⟨w, ws, e, a, b⟩ := h
    subst e
    exact b
  | n + 1, d :: ds, vs, h => by
    unfold DenL at h
    obtain ⟨w, ws, e, a, b⟩ := h
    subst e
    exact DenL.cons a (DenL.eraseIdx n b)
theorem DenL.reverse : ∀ {ds : List D} {vs : List V}, DenL K μ H ds vs → DenL K μ H ds.reverse vs.reverse
  | [], vs, h => by unfold DenL at h; subst h; exact DenL.nil
  | d :: ds, vs, h => by
    unfold DenL at h
    obtain ⟨w, ws, e, a, b⟩ := h
    subst e
    rw [List.reverse_cons, List.reverse_cons]
    exact (DenL.reverse b).append (DenL.cons a DenL.nil)
theorem DenL.rep (h : DenL K μ H ds vs) : ∀ n : Nat, DenL K μ H (List.replicate n ds).flatten (List.replicate n vs).flatten
  | 0 => DenL.nil
  | n + 1 => by
    rw [List.replicate_succ, List.replicate_succ, List.flatten_cons, List.flatten_cons]
    exact h.append (DenL.rep h n)
/-- ds[lo:hi] -/
def cutD (ds : List D) (lo hi : Option Int) : List D := (ds.drop (HT.sIx ds.length 0 lo)).take (HT.sIx ds.length ds.length hi - HT.sIx ds.length 0 lo)
theorem DenL.cut {vs : List V} (lo hi : Option Int) (h : DenL K μ H ds vs) : DenL K μ H (cutD ds lo hi) (cutV vs lo hi) := by
  unfold cutD cutV
  rw [h.length]
  exact (h.drop _).take _
theorem slx_L {S : Mu → Prop} {lo hi : Option Int} (hd : IsL μ x ds S) (h : Φ μ (.lst (cutD ds lo hi))) : SlX K (rSlL K) μ x lo hi Φ := fun H v Q m dv k => by
  obtain ⟨p, vs, e, sq, b⟩ := isL_sq m hd dv
  subst e
  exact ⟨p, vs, rfl, sq, fun p' hp => k μ _ _ _ h (Grow.new hp) (m.new hp) (by
    unfold Den
    exact ⟨p', _, rfl, ⟨m.free hp, upd_same⟩, DenL.grow (Grow.new hp) _ _ (b.cut lo hi)⟩)⟩
theorem slx_LM {S : Mu → Prop} {lo hi : Option Int} (hd : IsL μ x ds S) (h : ∀ p, μ p = none → Φ (mput μ p (.lst (cutD ds lo hi))) (.at p)) : SlX K (rSlL K) μ x lo hi Φ := fun H v Q m dv k => by
  obtain ⟨p, vs, e, sq, b⟩ := isL_sq m hd dv
  subst e
  exact ⟨p, vs, rfl, sq, fun p' hp => k _ _ _ _ (h p' (m.free hp)) (Grow.newM hp) (m.newM hp ⟨_, upd_same, DenL.grow (Grow.newM hp) _ _ (b.cut lo hi)⟩) (by unfold Den; rfl)⟩
/-- list(..) of a list -/
theorem cax_listL {S : Mu → Prop} (hd : IsL μ x ds S) (h : Φ μ (.lst ds)) :
    CaX K (fun xs H Q => ∃ p ys, xs = [.ref p] ∧ (SqL K H p ys ∨ SqT K H p ys) ∧ ∀ l, H l = none → Q (.ref l) (upd H l (.lst ys))) μ [x] Φ := fun H vs Q m d k => by
  obtain ⟨v, e, a⟩ := denL1 d
  obtain ⟨p, us, e2, sq, b⟩ := isL_sq m hd a
  subst e2
  exact ⟨p, us, e, .inl sq, fun l hl => k _ _ _ _ h (Grow.new hl) (m.new hl) (by
    unfold Den
    exact ⟨l, _, rfl, ⟨m.free hl, upd_same⟩, DenL.grow (Grow.new hl) _ _ b⟩)⟩
theorem cax_listLM {S : Mu → Prop} (hd : IsL μ x ds S) (h : ∀ p, μ p = none → Φ (mput μ p (.lst ds)) (.at p)) :
    CaX K (fun xs H Q => ∃ p ys, xs = [.ref p] ∧ (SqL K H p ys ∨ SqT K H p ys) ∧ ∀ l, H l = none → Q (.ref l) (upd H l (.lst ys))) μ [x] Φ := fun H vs Q m d k => by
  obtain ⟨v, e, a⟩ := denL1 d
  obtain ⟨p, us, e2, sq, b⟩ := isL_sq m hd a
  subst e2
  exact ⟨p, us, e, .inl sq, fun l hl => k _ _ _ _ (h l (m.free hl)) (Grow.newM hl) (m.newM hl ⟨_, upd_same, DenL.grow (Grow.newM hl) _ _ b⟩) (by unfold Den; rfl)⟩
abbrev rJoin (K : PySem.W.Frag) : V → List V → Hp → VK → Prop := fun x xs H Q => ∃ a p, ∃ ys : List Str, x = .str a ∧ xs = [.ref p] ∧ (SqL K H p (ys.map V.str) ∨ SqT K H p (ys.map V.str)) ∧
  (ys.map (·.length)).sum + ys.length * a.length ≤ 16777216 ∧ Q (.str (Txt.join a ys)) H
/-- sep.join(texts) -/
theorem evx_join (h : EvX K W X μ ρ to fun μ1 o => ∃ a, o = .str a ∧ EvX K W X μ1 ρ te fun μ2 d => ∃ (zs : List Str) (S : Mu → Prop), IsL μ2 d (zs.map D.str) S ∧ (zs.map (·.length)).sum + zs.length * a.length ≤ 1000000 ∧ Φ μ2 (.str (Txt.join a zs))) :
    EvX K W X μ ρ (tM1 (rJoin K) to te) Φ := fun σ H Q m e l k =>
  h σ H _ m e l fun μ1 o v H1 ⟨a, e1, h1⟩ g1 m1 d1 => by
    subst e1
    unfold Den at d1
    subst d1
    refine ⟨⟨a, rfl⟩, h1 σ H1 _ m1 (e.grow g1) (l.grow g1) fun μ2 d u H2 ⟨zs, S, hi, hz, hq⟩ g2 m2 d2 => ?_⟩
    obtain ⟨p, vs, e2, sq, b⟩ := isL_sq m2 hi d2
    subst e2
    rw [denStr b] at sq
    exact ⟨a, p, zs, rfl, rfl, .inl sq, Nat.le_trans hz (by decide), k μ2 _ _ H2 hq (g1.trans g2) m2 (by unfold Den; rfl)⟩
/-- sorted(texts) -/
theorem cax_sortedS {zs : List Str} {S : Mu → Prop} (hd : IsL μ x (zs.map D.str) S) (hl : zs.length < 64) (h : ∀ zs' : List Str, zs'.Perm zs → sortedS zs' = true → Φ μ (.lst (zs'.map D.str))) : CaX K (rSortedS K) μ [x] Φ := fun H vs Q m d k => by
  obtain ⟨v, e, a⟩ := denL1 d
  obtain ⟨p, us, e2, sq, b⟩ := isL_sq m hd a
  subst e2
  rw [denStr b] at sq
  exact ⟨p, zs, e, sq, hl, fun zs' p' hp hs hf => k μ _ _ _ (h zs' hp hs) (Grow.new hf) (m.new hf) (by
    unfold Den
    exact ⟨p', _, rfl, ⟨m.free hf, upd_same⟩, strDen zs'⟩)⟩
theorem opx_cat (hx : Real μ x xs) (hy : Real μ y ys) (hl : xs.length + ys.length ≤ 1000000) (h : Φ μ (.lst (xs ++ ys))) : OpX K rCat μ x y Φ := fun H v w Q m a b k => by
  obtain ⟨p, us, e1, q1, b1⟩ := hx.hp m a
  obtain ⟨p2, us2, e2, q2, b2⟩ := hy.hp m b
  subst e1 e2
  exact ⟨p, p2, us, us2, rfl, rfl, q1, q2, by rw [← b1.length, ← b2.length]; exact Nat.le_trans hl (by decide), fun p' hp => k μ _ _ _ h (Grow.new hp) (m.new hp) (by
    unfold Den
    exact ⟨p', _, rfl, ⟨m.free hp, upd_same⟩, DenL.grow (Grow.new hp) _ _ (b1.append b2)⟩)⟩
theorem opx_rep {n : Int} (hx : Real μ x xs) (h1 : -(2 ^ 63) ≤ n) (h2 : n < 2 ^ 63) (hl : xs.length * n.toNat ≤ 1000000) (h : Φ μ (.lst (List.replicate n.toNat xs).flatten)) : OpX K rRep μ x (.int n) Φ := fun H v w Q m a b k => by
  obtain ⟨p, us, e1, q1, b1⟩ := hx.hp m a
  subst e1
  unfold Den at b
  exact ⟨p, n, us, rfl, b, q1, h1, h2, by rw [← b1.length]; exact Nat.le_trans hl (by decide), fun p' hp => k μ _ _ _ h (Grow.new hp) (m.new hp) (by
    unfold Den
    exact ⟨p', _, rfl, ⟨m.free hp, upd_same⟩, DenL.grow (Grow.new hp) _ _ (b1.rep _)⟩)⟩
/-- xs.pop(i) -/
theorem evx_popAt (h : EvX K W X μ ρ to fun μ1 o => ∃ a ds0, o = .at a ∧ μ1 a = some (.lst ds0) ∧ EvX K W X μ1 ρ te fun μ2 i => ∃ ds n k d, i = .int n ∧ μ2 a = some (.lst ds) ∧ (-(2 ^ 63) ≤ n ∧ n < 2 ^ 63) ∧ seqIndex? n ds.length = some k ∧ ds[k]? = some d ∧
    Φ (mput μ2 a (.lst (ds.eraseIdx k))) d) : EvX K W X μ ρ (tBM K "list" rPopAt to (tCons te tNil)) Φ :=
  evx_bmL (h.imp fun μ1 o ⟨a, ds0, e1, h0, h1⟩ => ⟨a, ds0, e1, h0, evl_cons (h1.imp fun μ2 i ⟨ds, n, k', d, e, hp, hn, hk, hd, hq⟩ => evl_nil ⟨ds, hp, fun H vs ws Q m q b d2 k => by
    obtain ⟨w, e2, dw⟩ := denL1 d2
    subst e
    unfold Den at dw
    subst dw e2
    obtain ⟨v, h3, h4⟩ := b.get hd
    exact ⟨a, vs, n, k', v, rfl, rfl, q, hn.1, hn.2, by rw [← b.length]; exact hk, h3, k _ _ _ _ hq (Grow.wr hp) (m.wr hp ⟨_, upd_same, DenL.grow (Grow.wr hp) _ _ (b.eraseIdx k')⟩) (Den.grow (Grow.wr hp) _ _ h4)⟩⟩)⟩)
/-- xs.insert(i, e) -/
theorem evx_ins {ti : TE} (h : EvX K W X μ ρ to fun μ1 o => ∃ a ds0, o = .at a ∧ μ1 a = some (.lst ds0) ∧ EvX K W X μ1 ρ ti fun μ2 i => EvX K W X μ2 ρ te fun μ3 d => ∃ ds n, i = .int n ∧ μ3 a = some (.lst ds) ∧ ds.length ≤ 1000000 ∧ (0 ≤ n ∧ n < 2 ^ 63) ∧
    Φ (mput μ3 a (.lst (ds.take n.toNat ++ [d] ++ ds.drop n.toNat))) .non) : EvX K W X μ ρ (tBM K "list" rInsert to (tCons ti (tCons te tNil))) Φ :=
  evx_bmL (h.imp fun μ1 o ⟨a, ds0, e1, h0, h1⟩ => ⟨a, ds0, e1, h0, evl_cons (h1.imp fun μ2 i h2 => evl_cons (h2.imp fun μ3 d ⟨ds, n, e, hp, hz, hn, hq⟩ => evl_nil ⟨ds, hp, fun H vs ws Q m q b d2 k => by
    obtain ⟨w0, w, e2, dw0, dw⟩ := denL2 d2
    subst e
    unfold Den at dw0
    subst dw0 e2
    exact ⟨a, vs, n, w, rfl, rfl, q, by rw [← b.length]; exact Nat.lt_of_le_of_lt hz (by decide), hn.1, hn.2, k _ _ _ _ hq (Grow.wr hp) (m.wr hp ⟨_, upd_same, (((DenL.grow (Grow.wr hp) _ _ b).take _).append (DenL.cons (Den.grow (Grow.wr hp) _ _ dw) DenL.nil)).append ((DenL.grow (Grow.wr hp) _ _ b).drop _)⟩) (by unfold Den; rfl)⟩⟩))⟩)
/-- xs.extend(ys) -/
theorem evx_ext (h : EvX K W X μ ρ to fun μ1 o => ∃ a ds0, o = .at a ∧ μ1 a = some (.lst ds0) ∧ EvX K W X μ1 ρ te fun μ2 y => ∃ ds zs, μ2 a = some (.lst ds) ∧ Real μ2 y zs ∧ ds.length + zs.length ≤ 1000000 ∧ Φ (mput μ2 a (.lst (ds ++ zs))) .non) :
    EvX K W X μ ρ (tBM K "list" rExtend to (tCons te tNil)) Φ :=
  evx_bmL (h.imp fun μ1 o ⟨a, ds0, e1, h0, h1⟩ => ⟨a, ds0, e1, h0, evl_cons (h1.imp fun μ2 y ⟨ds, zs, hp, hr, hz, hq⟩ => evl_nil ⟨ds, hp, fun H vs ws Q m q b d2 k => by
    obtain ⟨w, e2, dw⟩ := denL1 d2
    obtain ⟨p, us, e3, q3, b3⟩ := hr.hp m dw
    subst e3 e2
    exact ⟨a, p, vs, us, rfl, rfl, q, q3, by rw [← b.length, ← b3.length]; exact Nat.le_trans hz (by decide), k _ _ _ _ hq (Grow.wr hp) (m.wr hp ⟨_, upd_same, (DenL.grow (Grow.wr hp) _ _ b).append (DenL.grow (Grow.wr hp) _ _ b3)⟩) (by unfold Den; rfl)⟩⟩)⟩)
/-- xs.reverse() -/
theorem evx_rev (h : EvX K W X μ ρ to fun μ1 o => ∃ a ds, o = .at a ∧ μ1 a = some (.lst ds) ∧ Φ (mput μ1 a (.lst ds.reverse)) .non) : EvX K W X μ ρ (tBM0 K "list" rReverse to) Φ :=
  evx_bmL0 (h.imp fun μ1 o ⟨a, ds, e1, hp, hq⟩ => ⟨a, ds, e1, hp, fun H vs Q m q b k =>
    ⟨a, vs, rfl, rfl, q, k _ _ _ _ hq (Grow.wr hp) (m.wr hp ⟨_, upd_same, DenL.grow (Grow.wr hp) _ _ b.reverse⟩) (by unfold Den; rfl)⟩⟩)
/-- xs.clear() -/
theorem evx_clear (h : EvX K W X μ ρ to fun μ1 o => ∃ a ds, o = .at a ∧ μ1 a = some (.lst ds) ∧ Φ (mput μ1 a (.lst [])) .non) : EvX K W X μ ρ (tBM0 K "list" rClear to) Φ :=
  evx_bmL0 (h.imp fun μ1 o ⟨a, ds, e1, hp, hq⟩ => ⟨a, ds, e1, hp, fun H vs Q m q b k =>
    ⟨a, vs, rfl, rfl, q, k _ _ _ _ hq (Grow.wr hp) (m.wr hp ⟨_, upd_same, DenL.nil⟩) (by unfold Den; rfl)⟩⟩)
/-! ### a sign in a text; texts in order -/
abbrev rInSign : R2 := fun x y H Q => ∃ (c : Nat) (z : Str), x = .str ⟨#[c]⟩ ∧ y = .str z ∧ Q (.bl (decide (c ∈ z.cps.toList))) H
abbrev rNotInSign : R2 := fun x y H Q => ∃ (c : Nat) (z : Str), x = .str ⟨#[c]⟩ ∧ y = .str z ∧ Q (.bl (!decide (c ∈ z.cps.toList))) H
theorem opx_inSign {c : Nat} {z : Str} (h : Φ μ (.bl (decide (c ∈ z.cps.toList)))) : OpX K rInSign μ (.str ⟨#[c]⟩) (.str z) Φ := fun H v w Q m a b k => by
  unfold Den at a b
  exact ⟨c, z, a, b, k μ _ _ H h (Grow.refl _ _) m (by unfold Den; rfl)⟩
theorem opx_notInSign {c : Nat} {z : Str} (h : Φ μ (.bl (!decide (c ∈ z.cps.toList)))) : OpX K rNotInSign μ (.str ⟨#[c]⟩) (.str z) Φ := fun H v w Q m a b k => by
  unfold Den at a b
  exact ⟨c, z, a, b, k μ _ _ H h (Grow.refl _ _) m (by unfold Den; rfl)⟩
abbrev rLeS : R2 := fun x y H Q => ∃ i j, x = .str i ∧ y = .str j ∧ Q (.bl (!decide (j.cps.toList < i.cps.toList))) H
theorem opx_leS {i j : Str} (h : Φ μ (.bl (!decide (j.cps.toList < i.cps.toList)))) : OpX K rLeS μ (.str i) (.str j) Φ := fun H v w Q m a b k => by
  unfold Den at a b
  exact ⟨i, j, a, b, k μ _ _ H h (Grow.refl _ _) m (by unfold Den; rfl)⟩
end
/-! ### what stays, but for a deck -/
/-- what stands stays, but for the deck a with its cells g -/
def Keep (a g : Addr) (μ μ' : Mu) : Prop := ∀ b o, b ≠ a → b ≠ g → μ b = some o → μ' b = some o
theorem Keep.refl (a g : Addr) (μ : Mu) : Keep a g μ μ := fun _ _ _ _ h => h
theorem Keep.trans {a g : Addr} {μ μ1 μ2 : Mu} (h : Keep a g μ μ1) (k : Keep a g μ1 μ2) : Keep a g μ μ2 := fun b o h1 h2 e => k b o h1 h2 (h b o h1 h2 e)
theorem But.keep {a g : Addr} {μ μ' : Mu} (h : But a g μ μ') : Keep a g μ μ' := fun b o h1 h2 e => (h b h1 h2).trans e
theorem Keep.new {a g p : Addr} {μ μ' : Mu} {o : MO} (h : Keep a g μ μ') (hp : μ p = none) : Keep a g μ (mput μ' p o) := fun b o' h1 h2 e => by
  have : b ≠ p := fun z => by rw [z, hp] at e; cases e
  rw [mput_ne this]
  exact h b o' h1 h2 e
theorem Keep.put {a g p : Addr} {μ : Mu} {o : MO} (hp : μ p = none) : Keep a g μ (mput μ p o) := (Keep.refl a g μ).new hp
theorem Deck.na {a g p : Addr} {c : Int} {μ : Mu} (h : Deck a g c μ) (hp : μ p = none) : p ≠ a ∧ p ≠ g := by
  obtain ⟨gs, o, m, k, d⟩ := h
  exact ⟨fun z => (by rw [z, d.ha] at hp; exact nomatch hp), fun z => (by rw [z, d.hg] at hp; exact nomatch hp)⟩
theorem Deck.off {a g p : Addr} {c : Int} {μ μ' : Mu} (h : Deck a g c μ) (h1 : p ≠ a) (h2 : p ≠ g) (hb : ∀ b, b ≠ p → μ' b = μ b) : Deck a g c μ' := by
  obtain ⟨gs, o, m, k, d⟩ := h
  exact ⟨gs, o, m, k, d.ne, by rw [hb _ (Ne.symm h1)]; exact d.ha, by rw [hb _ (Ne.symm h2)]; exact d.hg, d.gs, d.o0, d.o1, d.m0, d.m1, d.k0, d.k1⟩
theorem Deck.cut {a g p : Addr} {c : Int} {μ : Mu} (h : Deck a g c μ) (h1 : p ≠ a) (h2 : p ≠ g) : Deck a g c (mcut μ p) := h.off h1 h2 fun b hb => mcut_ne hb
theorem Keep.off {a g p : Addr} {μ μ1 μ' : Mu} (h : Keep a g μ μ1) (hp : μ p = none) (hb : ∀ b, b ≠ p → μ' b = μ1 b) : Keep a g μ μ' := fun b o h1 h2 e => by
  have : b ≠ p := fun z => by rw [z, hp] at e; cases e
  rw [hb b this]
  exact h b o h1 h2 e
/-! ### comprehensions -/
section
variable {K : PySem.W.Frag} {W : WX} {X : XD} {μ : Mu} {ρ : Ro} {Φ : DP} {te : TE} {tt : TT} {g : TG} {wi : TI}
/-- a comprehension whose turns change the store: I of the turn, the store and what is found; the list under way is at Dl -/
theorem evx_lcI {vs : List Nat} (h : ItX K W X μ ρ wi fun μ1 ds S => (ds.length ≤ 1000000 ∧ ∀ m, S m) ∧ ∃ I : Nat → Mu → List D → Prop, I 0 μ1 [] ∧
    (∀ Dl, μ1 Dl = none → ∀ i acc μ' μ'', (∀ b, b ≠ Dl → μ'' b = μ' b) → I i μ' acc → I i μ'' acc) ∧
    (∀ Dl, μ1 Dl = none → ∀ i d μ' acc, ds[i]? = some d → acc.length ≤ i → μ' Dl = some (.lst acc) → I i μ' acc → TcX K W X vs μ' (wipeD ρ vs) g d fun μ2 ρ2 =>
      EvB K W X μ2 ρ2 tt fun μ3 b => μ3 Dl = some (.lst acc) ∧ if b = true then EvX K W X μ3 ρ2 te fun μ4 y => μ4 Dl = some (.lst acc) ∧ I (i + 1) μ4 (acc ++ [y]) else I (i + 1) μ3 acc) ∧
    ((∀ μ' acc, acc.length ≤ ds.length → I ds.length μ' acc → Φ μ' (.lst acc)) ∨ (∀ p μ' acc, μ1 p = none → acc.length ≤ ds.length → μ' p = some (.lst acc) → I ds.length μ' acc → Φ μ' (.at p)))) : EvX K W X μ ρ (tLc wi g tt te vs) Φ := by
  refine evx_lc fun σ H R m e l k => h σ H R m e l fun μ1 ds S J H1 ⟨⟨hl, hS⟩, I, h0, hst, hstep, hend⟩ g1 m1 ok => k μ1 ds S J H1 (fun Dl hD => ?_) g1 m1 ok
  refine ⟨fun i μ' acc => acc.length ≤ i ∧ I i μ' acc, ⟨Nat.le_refl _, hst Dl hD 0 [] μ1 _ (fun b hb => mput_ne hb) h0⟩, ?_, ?_, ?_⟩
  · rintro i μ' acc hi _ ⟨ha, _⟩
    exact ⟨Nat.le_trans ha (Nat.le_trans hi hl), hS _⟩
  · rintro i d μ' acc hi hD' ⟨ha, hI⟩
    intro σ H v Q m e dd k
    refine hstep Dl hD i d μ' acc hi ha hD' hI σ H v Q m e dd fun ρ2 σ2 q2 e2 hw => k ρ2 σ2 ?_ e2 hw
    refine q2.imp fun μ3 b ⟨r1, r2⟩ => ⟨r1, ?_⟩
    cases b with
    | false =>
      rw [if_neg (by decide)] at r2 ⊢
      exact ⟨Nat.le_succ_of_le ha, r2⟩
    | true =>
      rw [if_pos rfl] at r2 ⊢
      refine r2.imp fun μ4 y ⟨s1, s2⟩ => ⟨s1, ?_, hst Dl hD _ _ μ4 _ (fun b hb => mput_ne hb) s2⟩
      rw [List.length_append, List.length_singleton]
      omega
  · rintro μ' acc hD' ⟨ha, hI⟩
    rcases hend with he | he
    · exact .inl (he _ _ ha (hst Dl hD _ _ μ' _ (fun b hb => mcut_ne hb) hI))
    · exact .inr (he Dl _ _ hD ha hD' hI)
/-- the same where a deck alone is drawn from: st cards a turn -/
theorem evx_lcDk {vs : List Nat} {a ga : Addr} (h : ItX K W X μ ρ wi fun μ1 ds S => (ds.length ≤ 1000000 ∧ ∀ m, S m) ∧ ∃ (c st : Int) (R : Nat → List D → Prop), Deck a ga c μ1 ∧ R 0 [] ∧
    (∀ i d μ' acc, ds[i]? = some d → acc.length ≤ i → R i acc → Deck a ga (c + st * i) μ' → Keep a ga μ1 μ' → TcX K W X vs μ' (wipeD ρ vs) g d fun μ2 ρ2 =>
      EvB K W X μ2 ρ2 tt fun μ3 b => if b = true then Keep a ga μ' μ3 ∧ EvX K W X μ3 ρ2 te fun μ4 y => Keep a ga μ' μ4 ∧ Deck a ga (c + st * (i + 1)) μ4 ∧ R (i + 1) (acc ++ [y]) else Keep a ga μ' μ3 ∧ Deck a ga (c + st * (i + 1)) μ3 ∧ R (i + 1) acc) ∧
    ∀ μ' acc, acc.length ≤ ds.length → R ds.length acc → Deck a ga (c + st * ds.length) μ' → Keep a ga μ1 μ' → Φ μ' (.lst acc)) : EvX K W X μ ρ (tLc wi g tt te vs) Φ := by
  refine evx_lcI fun σ H R m e l k => h σ H R m e l fun μ1 ds S J H1 ⟨hl, c, st, R, hd, h0, hstep, hend⟩ g1 m1 ok => k μ1 ds S J H1 ⟨hl, ?_⟩ g1 m1 ok
  refine ⟨fun i μ' acc => Deck a ga (c + st * i) μ' ∧ Keep a ga μ1 μ' ∧ R i acc, ⟨hd.mono (by simp), Keep.refl _ _ _, h0⟩, ?_, ?_, ?_⟩
  · rintro Dl hD i acc μ' μ'' hb ⟨h1, h2, h3⟩
    have hn := hd.na hD
    exact ⟨h1.off hn.1 hn.2 hb, h2.off hD hb, h3⟩
  · rintro Dl hD i d μ' acc hi ha hDl ⟨h1, h2, h3⟩
    have hn := hd.na hD
    intro σ H v Q m e dd k
    refine hstep i d μ' acc hi ha h3 h1 h2 σ H v Q m e dd fun ρ2 σ2 q2 e2 hw => k ρ2 σ2 ?_ e2 hw
    refine q2.imp fun μ3 b r => ?_
    cases b with
    | false =>
      rw [if_neg (by decide)] at r
      refine ⟨r.1 Dl _ hn.1 hn.2 hDl, ?_⟩
      rw [if_neg (by decide)]
      exact ⟨r.2.1.mono (by rw [Int.natCast_add]; exact Int.le_refl _), h2.trans r.1, r.2.2⟩
    | true =>
      rw [if_pos rfl] at r
      refine ⟨r.1 Dl _ hn.1 hn.2 hDl, ?_⟩
      rw [if_pos rfl]
      refine r.2.imp fun μ4 y ⟨s1, s2, s3⟩ => ⟨s1 Dl _ hn.1 hn.2 hDl, s2.mono (by rw [Int.natCast_add]; exact Int.le_refl _), h2.trans s1, s3⟩
  · exact .inl fun μ' acc ha ⟨h1, h2, h3⟩ => hend μ' acc ha h3 h1 h2
/-- a comprehension whose turns change nothing, the list found kept as one that will change -/
theorem evx_lcPM {vs : List Nat} (h : ItX K W X μ ρ wi fun μ1 ds S => (ds.length ≤ 1000000 ∧ ∀ m : Mu, (∀ b o, μ1 b = some o → m b = some o) → S m) ∧ ∃ (p : D → Bool) (f : D → D),
    (∀ d, d ∈ ds → ∀ μ' : Mu, (∀ b o, μ1 b = some o → μ' b = some o) → TcX K W X vs μ' (wipeD ρ vs) g d fun μ2 ρ2 => EvB K W X μ2 ρ2 tt fun μ3 b => μ3 = μ2 ∧ b = p d ∧ (p d = true → EvX K W X μ3 ρ2 te fun μ4 y => μ4 = μ3 ∧ y = f d)) ∧
    ∀ Dl, μ1 Dl = none → Φ (mput μ1 Dl (.lst ((ds.filter p).map f))) (.at Dl)) : EvX K W X μ ρ (tLc wi g tt te vs) Φ := by
  refine evx_lc fun σ H R m e l k => h σ H R m e l fun μ1 ds S J H1 ⟨⟨hl, hS⟩, p, f, hp, hq⟩ g1 m1 ok => k μ1 ds S J H1 (fun Dl hD => ?_) g1 m1 ok
  have up : ∀ μ' : Mu, (∀ b, b ≠ Dl → μ' b = μ1 b) → ∀ b o, μ1 b = some o → μ' b = some o := fun μ' hμ b o e => by
    rw [hμ b (fun z => by rw [z, hD] at e; cases e)]; exact e
  refine ⟨fun i μ' acc => acc = ((ds.take i).filter p).map f ∧ ∀ b, b ≠ Dl → μ' b = μ1 b, ⟨by simp, fun b hb => mput_ne hb⟩, ?_, ?_, ?_⟩
  · rintro i μ' acc hi _ ⟨rfl, hμ⟩
    refine ⟨?_, hS _ (up μ' hμ)⟩
    rw [List.length_map]
    refine Nat.le_trans (List.length_filter_le _ _) ?_
    rw [List.length_take]
    omega
  · rintro i d μ' acc hi hD' ⟨rfl, hμ⟩
    have hm : d ∈ ds := List.mem_of_getElem? hi
    have e1 : ds.take (i + 1) = ds.take i ++ [d] := by
      rw [List.take_succ, hi]; rfl
    intro σ H v Q m e dd k
    refine hp d hm μ' (up μ' hμ) σ H v Q m e dd fun ρ2 σ2 q2 e2 hw => k ρ2 σ2 ?_ e2 hw
    refine q2.imp fun μ3 b ⟨r1, r2, r3⟩ => ?_
    subst r1 r2
    refine ⟨hD', ?_⟩
    cases hpd : p d with
    | false =>
      rw [if_neg (by decide)]
      refine ⟨?_, hμ⟩
      rw [e1, List.filter_append, List.filter_cons, hpd]
      simp
    | true =>
      rw [if_pos rfl]
      refine (r3 hpd).imp fun μ4 y ⟨s1, s2⟩ => ?_
      subst s1 s2
      refine ⟨hD', ?_, fun b hb => by rw [mput_ne hb]; exact hμ b hb⟩
      rw [e1, List.filter_append, List.filter_cons, hpd]
      simp
  · rintro μ' acc hD' ⟨rfl, hμ⟩
    right
    have : μ' = mput μ1 Dl (.lst ((ds.filter p).map f)) := by
      funext b
      by_cases hb : b = Dl
      · subst hb; rw [mput_same, hD', List.take_length]
      · rw [mput_ne hb, hμ b hb]
    rw [this]
    exact hq Dl hD
end
/-! ### terms within a comprehension's block -/
theorem pe_via {X : Cx} {e : Expr} {te te' : TE} (h : PE X e te') (hk : te' = te) : PE X e te := hk ▸ h
theorem pg_via {X : Cx} {e : Expr} {g g' : TG} (h : PG X e g') (hk : g' = g) : PG X e g := hk ▸ h
theorem pts_via {X : Cx} {es : List Expr} {tt tt' : TT} (h : PTs X es tt') (hk : tt' = tt) : PTs X es tt := hk ▸ h
theorem op_eqBk {X : Cx} {s : Shared} {H : Hp} {sc : Scope} {ce : Env} {fp : List Addr} (hu : X.A.units + 64 < cLine) : OpR (X.blk s H sc ce fp) (compareOp .Eq) (rEqU X.K) := op_eqU (X := X.blk s H sc ce fp) hu
theorem op_neBk {X : Cx} {s : Shared} {H : Hp} {sc : Scope} {ce : Env} {fp : List Addr} (hu : X.A.units + 64 < cLine) : OpR (X.blk s H sc ce fp) (compareOp .NotEq) (rNeU X.K) := op_neU (X := X.blk s H sc ce fp) hu
/-! ### math.lcm of great numbers -/
def rLcm : List V → Hp → VK → Prop := fun vs H Q => ∃ a b : Int, vs = [.int a, .int b] ∧ a.natAbs < 2 ^ 6000 ∧ b.natAbs < 2 ^ 6000 ∧ Q (.int ((Nat.lcm a.natAbs b.natAbs : Nat) : Int)) H
theorem lcm_mul_lt {m n : Nat} (hm : m < 2 ^ 6000) (hn : n < 2 ^ 6000) : m.lcm n < 2 ^ 12000 := by
  have h1 : m.lcm n ≤ m * n := Nat.div_le_self _ _
  have h2 : m * n < 2 ^ 6000 * 2 ^ 6000 := Nat.mul_lt_mul'' hm hn
  rw [← Nat.pow_add] at h2
  exact Nat.lt_of_le_of_lt h1 h2
theorem log_lt {m n : Nat} (h : m < 2 ^ (n + 1)) : m.log2 ≤ n := by
  by_cases h0 : m = 0
  · subst h0; exact Nat.zero_le _
  · have := (Nat.log2_lt h0).mpr h
    omega
theorem cr_lcm {X : Cx} : CallR X (.builtin "math.lcm") rLcm := by
  intro pins s σ H vs us Q I r h
  obtain ⟨a, b, rfl, ha, hb, q⟩ := h
  obtain ⟨t, u, rfl⟩ := Vals.int2 r
  have hm1 : max 1 a.natAbs < 2 ^ (5999 + 1) := Nat.max_lt.mpr ⟨Nat.one_lt_two_pow (by decide), ha⟩
  have hm2 : max a.natAbs b.natAbs < 2 ^ (5999 + 1) := Nat.max_lt.mpr ⟨ha, hb⟩
  have e1 : Nat.lcm 1 a.natAbs = a.natAbs := by simp [Nat.lcm]
  have hz : (a.natAbs.lcm b.natAbs).log2 ≤ 11999 := log_lt (lcm_mul_lt ha hb)
  have l1 := log_lt hm1
  have l2 := log_lt hm2
  refine call_function_meets PySem.W.MGF.kind_lcm PySem.W.MGF.plain_lcm PySem.W.MGF.entry_lcm (PySem.W.MGF.args_lcm _ _) (PySem.W.mg_run_lcm a t b u (by omega) (by omega) ?_).meets ?_
  · rw [e1]
    show (a.natAbs.lcm b.natAbs).log2 < bitsLine
    rw [bitsLine_eq]
    omega
  · rw [e1]
    exact ⟨.int _, H, I.tok _, ⟨_, rfl⟩, q⟩
theorem cax_lcm {K : PySem.W.Frag} {μ : Mu} {i j : Int} {Φ : DP} (hi : i.natAbs < 2 ^ 6000) (hj : j.natAbs < 2 ^ 6000) (h : Φ μ (.int ((Nat.lcm i.natAbs j.natAbs : Nat) : Int))) : CaX K rLcm μ [.int i, .int j] Φ := fun H vs Q m d k => by
  obtain ⟨v, w, e, a, b⟩ := denL2 d
  unfold Den at a b
  subst a b
  exact ⟨i, j, e, hi, hj, k μ _ _ H h (Grow.refl _ _) m (by unfold Den; rfl)⟩
/-! ### plain data, at most n deep: what == may compare -/
def Nice (n : Nat) (d : D) : Prop := plainD d = true ∧ (toP d).canLay0 = true ∧ (toP d).depth ≤ n
theorem Nice.mono {n m : Nat} {d : D} (h : Nice n d) (hm : n ≤ m) : Nice m d := ⟨h.1, h.2.1, Nat.le_trans h.2.2 hm⟩
theorem Nice.shaped {n : Nat} {d : D} (h : Nice n d) (hn : n ≤ 64) : SeqAt.shaped (toP d) = true := by
  unfold SeqAt.shaped
  rw [h.2.1, Bool.true_and]
  exact decide_eq_true (Nat.le_trans h.2.2 hn)
theorem nice_int (n : Nat) (i : Int) : Nice n (.int i) := ⟨rfl, rfl, Nat.zero_le _⟩
theorem nice_bl (n : Nat) (b : Bool) : Nice n (.bl b) := ⟨rfl, rfl, Nat.zero_le _⟩
theorem nice_non (n : Nat) : Nice n .non := ⟨rfl, rfl, Nat.zero_le _⟩
theorem nice_str (n : Nat) {z : Str} (h : (PyData.str z).canLay0 = true) : Nice n (.str z) := ⟨by
  unfold plainD SeqAt.shaped
  rw [h]; rfl, h, Nat.zero_le _⟩
theorem nices {n : Nat} : ∀ {ds : List D}, (∀ d ∈ ds, Nice n d) → plainDs ds = true ∧ PyData.canLayAll0 (toPs ds) = true ∧ PyData.depthAll (toPs ds) ≤ n
  | [], _ => ⟨rfl, rfl, Nat.zero_le _⟩
  | d :: ds, h => by
    obtain ⟨a1, a2, a3⟩ := h d (List.mem_cons_self ..)
    obtain ⟨b1, b2, b3⟩ := nices fun e he => h e (List.mem_cons_of_mem _ he)
    refine ⟨?_, ?_, ?_⟩
    · unfold plainDs; rw [a1, b1]; rfl
    · show (PyData.canLay0 (toP d) && PyData.canLayAll0 (toPs ds)) = true
      rw [a2, b2]; rfl
    · show max (PyData.depth (toP d)) (PyData.depthAll (toPs ds)) ≤ n
      exact Nat.max_le.mpr ⟨a3, b3⟩
theorem nice_tup {n : Nat} {ds : List D} (h : ∀ d ∈ ds, Nice n d) : Nice (n + 1) (.tup ds) := by
  obtain ⟨b1, b2, b3⟩ := nices h
  refine ⟨by unfold plainD; exact b1, b2, ?_⟩
  show PyData.depthAll (toPs ds) + 1 ≤ n + 1
  omega
theorem nice_lst {n : Nat} {ds : List D} (h : ∀ d ∈ ds, Nice n d) : Nice (n + 1) (.lst ds) := by
  obtain ⟨b1, b2, b3⟩ := nices h
  refine ⟨by unfold plainD; exact b1, b2, ?_⟩
  show PyData.depthAll (toPs ds) + 1 ≤ n + 1
  omega
section
variable {K : PySem.W.Frag} {μ : Mu} {x y : D} {Φ : DP} {ds es : List D}
/-- == and != of nice data -/
theorem opx_eqN (hx : Nice 64 (seeD μ x)) (hy : Nice 64 (seeD μ y)) (h : Φ μ (.bl (eqD (seeD μ x) (seeD μ y)))) : OpX K (rOr rEq (rEqD K)) μ x y Φ :=
  opx_r (opx_eqD hx.1 (hx.shaped (Nat.le_refl _)) hy.1 (hy.shaped (Nat.le_refl _)) h)
theorem opx_neN (hx : Nice 64 (seeD μ x)) (hy : Nice 64 (seeD μ y)) (h : Φ μ (.bl (!eqD (seeD μ x) (seeD μ y)))) : OpX K (rOr rNe (rNeD K)) μ x y Φ :=
  opx_r (opx_neD hx.1 (hx.shaped (Nat.le_refl _)) hy.1 (hy.shaped (Nat.le_refl _)) h)
theorem eqD_nil' (ds : List D) : eqD (.lst ds) (.lst []) = ds.isEmpty := by
  cases ds with
  | nil => rfl
  | cons d ds => rfl
/-- xs != [] -/
theorem opx_neNil (hr : Real μ x ds) (hd : ∀ d ∈ ds, Nice 60 d) (h : Φ μ (.bl (!ds.isEmpty))) : OpX K (rOr rNe (rNeD K)) μ x (.lst []) Φ := by
  have e : seeD μ x = .lst ds := by
    rcases hr with rfl | ⟨a, rfl, ha⟩
    · rfl
    · unfold seeD; dsimp only; rw [ha]
  refine opx_neN (by rw [e]; exact (nice_lst hd).mono (by decide)) ⟨rfl, rfl, by show 0 + 1 ≤ 64; decide⟩ ?_
  rw [e]
  show Φ μ (.bl (!eqD (.lst ds) (.lst [])))
  rw [eqD_nil']
  exact h
end
/-- an item at a drawn place -/
theorem pick_any : ∀ {ds : List D} {x : Int}, 0 ≤ x → x < ds.length → ∃ d, d ∈ ds ∧ atI ds x = some d := fun {ds x} h0 h1 => by
  have hk : x.toNat < ds.length := by omega
  refine ⟨ds[x.toNat], List.getElem_mem hk, ?_⟩
  unfold atI ixN
  rw [if_pos h0, if_pos h1]
  exact List.getElem?_eq_getElem hk
section
variable {K : PySem.W.Frag} {W : WX} {X : XD} {μ : Mu} {ρ : Ro} {Φ : DP} {ta tb tc : TE} {r r' : R2}
/-- a < b < c -/
theorem evx_chain (h : EvX K W X μ ρ ta fun μ1 x => EvX K W X μ1 ρ tb fun μ2 y => OpX K r μ2 x y fun μ3 d => ∃ b, d = .bl b ∧ if b = true then EvX K W X μ3 ρ tc fun μ4 z => OpX K r' μ4 y z Φ else Φ μ3 (.bl false)) : EvX K W X μ ρ (tChain r r' ta tb tc) Φ := fun σ H Q m e l k =>
  h σ H _ m e l fun μ1 x v H1 h1 g1 m1 d1 => h1 σ H1 _ m1 (e.grow g1) (l.grow g1) fun μ2 y u H2 h2 g2 m2 d2 =>
    h2 H2 v u _ m2 (Den.grow g2 _ _ d1) d2 fun μ3 d w H3 ⟨b, e3, h3⟩ g3 m3 d3 => by
      subst e3
      unfold Den at d3
      refine ⟨b, d3, ?_⟩
      have gg := (g1.trans g2).trans g3
      cases b with
      | false =>
        rw [if_neg (by decide)] at h3
        exact k _ _ _ _ h3 gg m3 (by unfold Den; rfl)
      | true =>
        rw [if_pos rfl] at h3
        exact h3 σ H3 _ m3 (e.grow gg) (l.grow gg) fun μ4 z w' H4 h4 g4 m4 d4 => h4 H4 u w' Q m4 (Den.grow g4 _ _ (Den.grow g3 _ _ d2)) d4 fun μ' d' w'' H' p g => k μ' d' w'' H' p ((gg.trans g4).trans g)
end
/-- a, b, .. = a list -/
theorem tgx_lst {K : PySem.W.Frag} {W : WX} {X : XD} {μ : Mu} {ρ : Ro} {gs : TGs} {n : Nat} {d : D} {ds : List D} {S : Mu → Prop} {Φ : Mu → Ro → Prop} (hd : IsL μ d ds S) (hn : ds.length = n) (h : TgsX K W X μ ρ gs ds Φ) : TgX K W X μ ρ (gLst K n gs) d Φ := fun σ H v Q m e l dd k => by
  obtain ⟨p, vs, e1, sq, b⟩ := isL_sq m hd dd
  exact ⟨p, vs, e1, sq, by rw [← b.length, hn], h σ H vs Q m e l b k⟩
/-! ### a text backwards -/
def revT (z : Str) : Str := ⟨((Builtin.Str.strSliceIndices none none (-1) z.length).filterMap (z.cps[·]?)).toArray⟩
theorem revT_len (z : Str) : (revT z).length ≤ z.length := by
  show ((Builtin.Str.strSliceIndices none none (-1) z.length).filterMap (z.cps[·]?)).toArray.size ≤ _
  rw [List.size_toArray]
  exact Nat.le_trans (List.length_filterMap_le _ _) (sliceIndicesBy_le none none (-1) (by decide) z.length)
theorem revT_mem (z : Str) : ∀ c ∈ (revT z).cps.toList, c ∈ z.cps.toList := fun c hc => by
  have hc' : c ∈ ((Builtin.Str.strSliceIndices none none (-1) z.length).filterMap (z.cps[·]?)) := by
    have : (revT z).cps.toList = ((Builtin.Str.strSliceIndices none none (-1) z.length).filterMap (z.cps[·]?)) := List.toList_toArray ..
    rw [this] at hc; exact hc
  obtain ⟨i, _, hi⟩ := List.mem_filterMap.mp hc'
  rw [← Array.getElem?_toList] at hi
  exact List.mem_of_getElem? hi
def tRevT (te : TE) : TE := fun σ H Q => te σ H fun x H1 => ∃ z : Str, x = .str z ∧ z.length ≤ 1000000 ∧ Q (.str (revT z)) H1
theorem pe_revT {X : Cx} {e : Expr} {te : TE} {k : Nat} {p1 p2 p3 pos : Pos} (he : PE X e te) : PE X (.Subscript e (.Slice none none (some (.UnaryOp .USub (.Constant (.int 1) k p1) p2)) p3) pos) (tRevT te) := by
  refine ⟨fun pins s σ H Q I h => ?_⟩
  refine Subscript_ (thn (he.run pins s σ H _ I h) fun v s1 ⟨x, H1, I1, r1, q1⟩ => ?_)
  obtain ⟨z, ex, hz, q⟩ := q1
  subst ex
  obtain ⟨t, rfl⟩ := r1
  have hst : PO X (some (.UnaryOp .USub (.Constant (.int 1) k p1) p2)) (tPart (tUn (rU fun i => .int (-i)) (tC (.int 1)))) := po_some (pe_un un_neg pe_int)
  refine wpAny_Slice (thn (po_none.run pins s1 σ H1 (fun o H2 => o = none ∧ H2 = H1) I1 ⟨rfl, rfl⟩) fun vl s2 ⟨l, H2, I2, pl, el, e2⟩ => ?_)
  subst el e2
  refine thn (po_none.run pins s2 σ H2 (fun o H3 => o = none ∧ H3 = H2) I2 ⟨rfl, rfl⟩) fun vu s3 ⟨u, H3, I3, pu, eu, e3⟩ => ?_
  subst eu e3
  refine thn (hst.run pins s3 σ H3 (fun o H4 => o = some (-1) ∧ H4 = H3) I3 ⟨1, rfl, -1, rfl, rfl, rfl⟩) fun vs s4 ⟨o, H4, I4, ps, eo, e4⟩ => ?_
  subst eo e4
  have I5 : Inv X pins σ H4 { s4 with heap := s4.heap.push { cls := .type "slice", data := .fields #[vl, vu, vs] } } := I4.kept (t' := s4.toks) fun b ob q => Heap.get?_push_of_some _ q
  obtain ⟨l', rfl, hl'⟩ := IsPart.raw pl
  obtain ⟨u', rfl, hu'⟩ := IsPart.raw pu
  obtain ⟨o', rfl, ho'⟩ := IsPart.raw ps
  have hl2 : l' = none := by cases l' with | none => rfl | some _ => exact nomatch hl'
  have hu2 : u' = none := by cases u' with | none => rfl | some _ => exact nomatch hu'
  obtain ⟨tk, rfl⟩ : ∃ tk, o' = some (-1, tk) := by
    cases o' with
    | none => exact nomatch ho'
    | some q => exact ⟨q.2, by obtain ⟨a, b⟩ := q; simp at ho'; rw [← ho']⟩
  subst hl2 hu2
  refine tail_any (ops := [.str z t, .ref s4.heap.objs.size]) (typeIs_str _ _ _) (F.slot_str_getitem.lookup) ?_ (by with_unfolding_all rfl)
  refine wpAny_getItem_str_slice (l := none) (u := none) (st := some (-1, tk)) ⟨_, Heap.get?_push_size _ rfl, rfl, rfl⟩ rfl ?_
  show Made.post (if ((-1 : Int) == 1 && (Builtin.Str.strSliceIndices none none (-1) z.length).length == z.length) = true then Made.val (.str z t)
    else Made.str (revT z)) (EP X pins σ Q) _
  rw [if_neg (by simp)]
  exact ⟨Nat.le_trans (revT_len z) (Nat.le_trans hz (by decide)), .str _, _, I5.tok _, ⟨_, rfl⟩, q⟩
theorem evx_revT {K : PySem.W.Frag} {W : WX} {X : XD} {μ : Mu} {ρ : Ro} {te : TE} {Φ : DP} (h : EvX K W X μ ρ te fun μ1 d => ∃ z, d = .str z ∧ z.length ≤ 1000000 ∧ Φ μ1 (.str (revT z))) : EvX K W X μ ρ (tRevT te) Φ := fun σ H Q m e l k =>
  h σ H _ m e l fun μ1 d v H1 ⟨z, e1, hz, hq⟩ g1 m1 d1 => by
    subst e1
    unfold Den at d1
    exact ⟨z, d1, hz, k μ1 _ _ H1 hq g1 m1 (by unfold Den; rfl)⟩
abbrev rUpper : V → List V → Hp → VK → Prop := fun x xs H Q => ∃ a, x = .str a ∧ xs = [] ∧ a.length ≤ 5592405 ∧ Q (.str (Txt.upper a)) H
/-- z.upper() -/
theorem evx_upper {K : PySem.W.Frag} {W : WX} {X : XD} {μ : Mu} {ρ : Ro} {te : TE} {Φ : DP} (h : EvX K W X μ ρ te fun μ1 d => ∃ z, d = .str z ∧ z.length ≤ 1000000 ∧ Φ μ1 (.str (Txt.upper z))) : EvX K W X μ ρ (tM0 rUpper te) Φ := fun σ H Q m e l k =>
  h σ H _ m e l fun μ1 d v H1 ⟨z, e1, hz, hq⟩ g1 m1 d1 => by
    subst e1
    unfold Den at d1
    exact ⟨⟨z, d1⟩, z, d1, rfl, Nat.le_trans hz (by decide), k μ1 _ _ H1 hq g1 m1 (by unfold Den; rfl)⟩
/-! ### objects of own classes: what they hold -/
section
variable {K : PySem.W.Frag} {W : WX} {X : XD} {μ : Mu} {H : Hp} {ρ : Ro} {Φ : DP} {ta tv : TE} {E : ED}
theorem den_field {f : Str} {d : D} : ∀ {fs : List Str} {ds : List D} {vs : List V}, DenL K μ H ds vs → (fs.zip ds).lookup f = some d → ∃ v, (fs.zip vs).lookup f = some v ∧ Den K μ H d v
  | [], ds, vs, _, h => by rw [List.zip_nil_left] at h; exact nomatch h
  | g :: fs, [], vs, _, h => by rw [List.zip_nil_right] at h; exact nomatch h
  | g :: fs, e :: ds, vs, hd, h => by
    unfold DenL at hd
    obtain ⟨w, ws, e1, a, b⟩ := hd
    subst e1
    rw [List.zip_cons_cons, List.lookup_cons] at h ⊢
    cases hg : f == g with
    | true =>
      rw [hg] at h
      cases h
      exact ⟨w, rfl, a⟩
    | false =>
      rw [hg] at h
      exact den_field b h
/-- an object of class C: fixed, or one that may change -/
def ObjD (μ : Mu) (x : D) (C : Addr) (fs : List Str) (ds : List D) : Prop := x = .obj C fs ds ∨ ∃ a, x = .at a ∧ μ a = some (.obj C fs ds)
theorem ObjD.hp {x : D} {C : Addr} {fs : List Str} {ds : List D} {v : V} (m : Mem K μ H) (hx : ObjD μ x C fs ds) (dv : Den K μ H x v) : ∃ p dx vs, v = .ref p ∧ H p = some (.ins C dx (fs.zip vs)) ∧ DenL K μ H ds vs := by
  rcases hx with e1 | ⟨a, e1, ha⟩
  · subst e1; unfold Den at dv
    obtain ⟨p, dx, vs, e2, s, n, b⟩ := dv
    exact ⟨p, dx, vs, e2, s.2, b⟩
  · subst e1
    unfold Den at dv
    obtain ⟨dx, vs, q, n, b⟩ := m a _ ha
    exact ⟨a, dx, vs, dv, q, b⟩
/-- o.f -/
theorem evx_fld {f : Str} (h : EvX K W X μ ρ ta fun μ1 x => ∃ C fs ds d, ObjD μ1 x C fs ds ∧ Cls K C ∧ NoAttr K C f ∧ (fs.zip ds).lookup f = some d ∧ Φ μ1 d) : EvX K W X μ ρ (tFld K ta f) Φ := fun σ H Q m e l k =>
  h σ H _ m e l fun μ1 x v H1 ⟨C, fs, ds, d, ho, hc, hn, hl, hq⟩ g1 m1 d1 => by
    obtain ⟨p, dx, vs, e1, q, b⟩ := ho.hp m1 d1
    obtain ⟨w, h1, h2⟩ := den_field b hl
    exact ⟨p, C, dx, fs.zip vs, w, e1, q, hc, hn, h1, k μ1 d w H1 hq g1 m1 h2⟩
theorem putF_zip {f : Str} {w : V} : ∀ {fs : List Str} {vs : List V}, f ∉ fs → fs.length = vs.length → putF f w (fs.zip vs) = (fs ++ [f]).zip (vs ++ [w])
  | [], [], _, _ => rfl
  | g :: fs, v :: vs, hf, hn => by
    have h1 : ¬ g = f := fun z => hf (by rw [z]; exact List.mem_cons_self ..)
    have ih := putF_zip (w := w) (fs := fs) (vs := vs) (fun z => hf (List.mem_cons_of_mem _ z)) (by simpa using hn)
    show (if g = f then (g, w) :: fs.zip vs else (g, v) :: putF f w (fs.zip vs)) = (g, v) :: (fs ++ [f]).zip (vs ++ [w])
    rw [if_neg h1, ih]
/-- o.f = e, a field that is new -/
theorem gs_fld {f : Str} (h : EvX K W X μ ρ tv fun μ1 y => EvX K W X μ1 ρ ta fun μ2 x => ∃ a C fs ds, x = .at a ∧ μ2 a = some (.obj C fs ds) ∧ Cls K C ∧ NoAttr K C f ∧ fs.length < 1000 ∧ f ∉ fs ∧ E.nx (mput μ2 a (.obj C (fs ++ [f]) (ds ++ [y]))) ρ) : GS K W X μ ρ (sFld K ta tv f) E := fun σ H D m e l k =>
  h σ H _ m e l fun μ1 y w H1 h1 g1 m1 d1 => h1 σ H1 _ m1 (e.grow g1) (l.grow g1) fun μ2 x v H2 ⟨a, C, fs, ds, ex, ha, hc, hn, hl, hf, hq⟩ g2 m2 d2 => by
    subst ex
    unfold Den at d2
    subst d2
    obtain ⟨dx, vs, q, n, b⟩ := m2 a _ ha
    refine ⟨a, C, dx, fs.zip vs, rfl, q, hc, hn, by rw [List.length_zip]; omega, ?_⟩
    rw [putF_zip hf n]
    have dy := Den.grow g2 _ _ d1
    exact k.nx _ _ _ _ hq ((g1.trans g2).trans (Grow.wr ha)) (m2.wr ha ⟨dx, _, upd_same, by rw [List.length_append, List.length_append, n]; rfl, (DenL.grow (Grow.wr ha) _ _ b).append (DenL.cons (Den.grow (Grow.wr ha) _ _ dy) DenL.nil)⟩) ((e.grow (g1.trans g2)).grow (Grow.wr ha))
end
/-! ### C(e, ..) whose __init__ may raise -/
section
variable {X : Cx} {CX : CXT} {k j : Nat} {f C : Addr} {fd : FuncData} {ps : List Str} {sp : Sp} {E : XK} {x : Str} {p pos : Pos} {e : Expr} {es : List Expr} {t : TA}
theorem run_makeS {pins : List (Addr × Obj)} {σ : L2.St} {H : Hp} {s : Shared} {Q : VK} {us : List Value} {vs : List V} (M : Mk X.K C f) (F : FnOk X.prog X.w X.K X.mg X.base CX k f fd ps sp) (hr : Room (k + 1) X.A) (hb : Binds X.K fd ps [])
    (hx : PassesAt CX X σ E) (I : L2.Inv X pins σ H s) (r : Vals vs us)
    (h : ∀ x dx, H x = none → H dx = none → dx ≠ x → sp (.ref x :: vs) (upd (upd H dx (.own x)) x (.ins C dx [])) (fun v H2 => v = .non ∧ Q (.ref x) H2) E) :
    wpAny (model X.prog X.w) X.A (call (.ref C) us) (EP X pins σ Q) X.xe s := by
  have hq := h (s.heap.objs.size + 1) s.heap.objs.size (I.hok.fresh (Nat.le_succ _)) (I.hok.fresh (Nat.le_refl _)) (Nat.ne_of_lt (Nat.lt_succ_self _))
  have I2 := L2.Inv.made (C := C) I
  have r2 : Vals (V.ref (s.heap.objs.size + 1) :: vs) (Value.ref (s.heap.objs.size + 1) :: us) := .cons rfl r
  have hl : (Value.ref (s.heap.objs.size + 1) :: us ++ []).length = ps.length := by
    rw [List.append_nil]
    have e := r2.length
    rw [F.len _ _ _ _ hq] at e
    exact e.symm
  have hbb := hb _ (Value.ref (s.heap.objs.size + 1) :: us) I2.kIn hl
  rw [List.append_nil] at hbb
  refine wpAny_call (make_map (f := f) I.kIn M.makes M.init (beq_iff_eq.mp M.fn) (codeAny_mono (F.run _ X.stack _ _ ⟨Value.ref (s.heap.objs.size + 1) :: us, []⟩ (Value.ref (s.heap.objs.size + 1) :: us) _ _ E (hr.make C us [])
    (I2.env0.make C us []) hbb r2 hq) fun r s' hq' => ?_))
  cases r with
  | error e => exact hx pins _ _ e s' I2 hq'
  | ok fl =>
    cases fl with
    | ret u =>
      obtain ⟨v, H', I3, rv, ev, q3⟩ := I2.after hq'
      subst ev
      exact ⟨rv, ⟨V.ref (s.heap.objs.size + 1), H', I3, rfl, q3⟩⟩
    | next => exact False.elim hq'
    | brk => exact False.elim hq'
    | cont => exact False.elim hq'
def tMakeS (C : Addr) (sp : Sp) (E : L2.St → XK) (t : TA) : TE := fun σ H Q => t σ H fun vs H1 => ∀ x dx, H1 x = none → H1 dx = none → dx ≠ x →
  sp (.ref x :: vs) (upd (upd H1 dx (.own x)) x (.ins C dx [])) (fun v H2 => v = .non ∧ Q (.ref x) H2) (E σ)
theorem pe_makeS {ES : L2.St → XK} (M : Mk X.K C f) (F : FnOk X.prog X.w X.K X.mg X.base CX k f fd ps sp) (hr : Room (k + 1) X.A) (hg : Gl X x) (hm : X.mg x = some (.ref C)) (hb : Binds X.K fd ps []) (hx : ∀ σ, PassesAt CX X σ (ES σ))
    (ha : PA X (e :: es) t) (hdb : (x == ("__debug__" : Str)) = false := by decide) (he : starEach (e :: es) X.env = (false, eval e X.env) :: starEach es X.env := by rfl) (hpl : (backTo pos (starEach es X.env)).any (·.1) = false := by rfl) :
    PE X (.Call (.Name x p) (e :: es) [] pos) (tMakeS C sp ES t) := by
  refine ⟨fun pins s σ H Q I h => ?_⟩
  refine wpAny_Call_Name_kw (ld_glob I hg hm ?_ hdb)
  refine PySem.W.callWith_K (h₀ := X.base) I.ok.mod.kin M.kp (thn (ha.run pos pins s σ H _ I h) fun us s1 ⟨vs, H1, I1, r, q⟩ => ⟨I1.kIn, ?_⟩) he hpl
  exact run_makeS M F hr hb (hx σ) I1 r q
end
section
variable {K : PySem.W.Frag} {W : WX} {X : XD} {μ : Mu} {ρ : Ro} {Φ : DP} {C : Addr} {n : Nat} {P : PD} {t : TA}
theorem evx_makeS (h : EvL K W X μ ρ t fun μ1 ds => ∀ x, μ1 x = none → ds.length + 1 = n ∧ P (mput μ1 x (.obj C [] [])) (.at x :: ds) (fun μ2 d => d = .non ∧ Φ μ2 (.at x)) fun μ' A d => X μ' ρ A d) : EvX K W X μ ρ (tMakeS C (spD K n P) (WE W) t) Φ := fun σ H Q m e l k =>
  h σ H _ m e l fun μ1 ds vs H1 hh g1 m1 d1 => fun x dx hx hdx hne => by
    have g2 : Grow μ1 H1 μ1 (upd H1 dx (.own x)) := Grow.new hdx
    have m2 : Mem K μ1 (upd H1 dx (.own x)) := m1.new hdx
    have hx2 : (upd H1 dx (.own x)) x = none := by rw [upd_ne (Ne.symm hne)]; exact hx
    have g3 : Grow μ1 (upd H1 dx (.own x)) (mput μ1 x (.obj C [] [])) (upd (upd H1 dx (.own x)) x (.ins C dx [])) := Grow.newM hx2
    have m3 := m2.newM (mo := .obj C [] []) (o := .ins C dx []) hx2 ⟨dx, [], upd_same, rfl, DenL.nil⟩
    obtain ⟨hl, hp⟩ := hh x (m1.free hx)
    have gg := (g1.trans g2).trans g3
    refine ⟨_, .at x :: ds, _, _, m3, DenL.cons (by unfold Den; rfl) (DenL.grow g3 _ _ (DenL.grow g2 _ _ d1)), by rw [List.length_cons]; exact hl, hp, ?_, ?_⟩
    · rintro μ' d v H' ⟨rfl, hq⟩ g mm dd
      unfold Den at dd
      exact ⟨dd, k μ' _ _ H' hq (gg.trans g) mm (by unfold Den; rfl)⟩
    · exact fun μ' A d dx v H' p g mm => l μ' ρ A d dx v σ H' p (gg.trans g) mm ((e.grow gg).grow g)
end
/-! ### C(k = v, ..) whose __init__ may raise -/
section
variable {X : Cx} {CX : CXT} {k n : Nat} {f C : Addr} {fd : FuncData} {ps ks : List Str} {sp : Sp} {E : XK} {x : Str} {p pos : Pos} {kws : List Keyword} {tk : TA} {g : List Value → List Value → List Value} {gV : List V → List V → List V}
def tMakeKS (C : Addr) (m : Nat) (sp : Sp) (gV : List V → List V → List V) (E : L2.St → XK) (tk : TA) : TE := fun σ H Q => tk σ H fun zs H2 => zs.length = m ∧ ∀ x dx, H2 x = none → H2 dx = none → dx ≠ x →
  sp (gV [.ref x] zs) (upd (upd H2 dx (.own x)) x (.ins C dx [])) (fun v H3 => v = .non ∧ Q (.ref x) H3) (E σ)
theorem run_makeKS {pins : List (Addr × Obj)} {σ : L2.St} {H : Hp} {s : Shared} {Q : VK} {ws : List Value} {zs : List V} (M : Mk X.K C f) (F : FnOk X.prog X.w X.K X.mg X.base CX k f fd ps sp) (hr : Room (k + 1) X.A) (hb : KBn X.K fd ps 1 ks g gV) (hx : PassesAt CX X σ E)
    (I : L2.Inv X pins σ H s) (rz : Vals zs ws) (l2 : zs.length = ks.length)
    (h : ∀ x dx, H x = none → H dx = none → dx ≠ x → sp (gV [.ref x] zs) (upd (upd H dx (.own x)) x (.ins C dx [])) (fun v H2 => v = .non ∧ Q (.ref x) H2) E) :
    wpAny (model X.prog X.w) X.A (call (.ref C) [] (ks.zip ws)) (EP X pins σ Q) X.xe s := by
  have hq := h (s.heap.objs.size + 1) s.heap.objs.size (I.hok.fresh (Nat.le_succ _)) (I.hok.fresh (Nat.le_refl _)) (Nat.ne_of_lt (Nat.lt_succ_self _))
  have I2 := L2.Inv.made (C := C) I
  have r1 : Vals [V.ref (s.heap.objs.size + 1)] [Value.ref (s.heap.objs.size + 1)] := .cons rfl .nil
  have r2 := hb.rel r1 rz
  refine wpAny_call (make_map (f := f) I.kIn M.makes M.init (beq_iff_eq.mp M.fn) (codeAny_mono (F.run _ X.stack _ _ ⟨[Value.ref (s.heap.objs.size + 1)], ks.zip ws⟩ (g [Value.ref (s.heap.objs.size + 1)] ws) _ _ E (hr.make C [] (ks.zip ws))
    (I2.env0.make C [] (ks.zip ws)) (hb.to _ [Value.ref (s.heap.objs.size + 1)] ws I2.kIn rfl (rz.length.symm.trans l2)) r2 hq) fun r s' hq' => ?_))
  cases r with
  | error e => exact hx pins _ _ e s' I2 hq'
  | ok fl =>
    cases fl with
    | ret u =>
      obtain ⟨v, H', I3, rv, ev, q3⟩ := I2.after hq'
      subst ev
      exact ⟨rv, ⟨V.ref (s.heap.objs.size + 1), H', I3, rfl, q3⟩⟩
    | next => exact False.elim hq'
    | brk => exact False.elim hq'
    | cont => exact False.elim hq'
theorem pe_makeKS {ES : L2.St → XK} (M : Mk X.K C f) (F : FnOk X.prog X.w X.K X.mg X.base CX k f fd ps sp) (hr : Room (k + 1) X.A) (hg : Gl X x) (hm : X.mg x = some (.ref C)) (hb : KBn X.K fd ps 1 ks g gV) (hx : ∀ σ, PassesAt CX X σ (ES σ)) (hkw : PK X kws tk)
    (hall : (backToKw pos (keywordEach kws X.env)).all (·.1.isSome) = true := by rfl) (hks : (backToKw pos (keywordEach kws X.env)).filterMap (·.1) = ks := by rfl) (hdb : (x == ("__debug__" : Str)) = false := by decide)
    (hpl : ((backTo pos (starEach [] X.env)).any (·.1) || (backToKw pos (keywordEach kws X.env)).any (·.1.isNone)) = false := by rfl) :
    PE X (.Call (.Name x p) [] kws pos) (tMakeKS C ks.length sp gV ES tk) := by
  refine ⟨fun pins s σ H Q I h => ?_⟩
  refine wpAny_Call_Name_kw (ld_glob I hg hm ?_ hdb)
  refine PySem.W.callWith_KW0 (h₀ := X.base) I.ok.mod.kin M.kp hall ?_ hpl
  refine thn (hkw.run pos pins s σ H _ I h) fun ws s2 ⟨zs, H2, I2, rz, l2, q2⟩ => ⟨I2.kIn, ?_⟩
  rw [hks]
  exact run_makeKS M F hr hb (hx σ) I2 rz l2 q2
end
section
variable {K : PySem.W.Frag} {W : WX} {X : XD} {μ : Mu} {ρ : Ro} {Φ : DP} {C : Addr} {n m a b : Nat} {pm : List Nat} {P : PD} {tk : TA}
theorem evx_makeKS (h : EvL K W X μ ρ tk fun μ1 ds => ds.length = m ∧ ∀ x, μ1 x = none → (permG a b pm [.at x] ds).length = n ∧ P (mput μ1 x (.obj C [] [])) (permG a b pm [.at x] ds) (fun μ2 d => d = .non ∧ Φ μ2 (.at x)) fun μ' A d => X μ' ρ A d) : EvX K W X μ ρ (tMakeKS C m (spD K n P) (permG a b pm) (WE W) tk) Φ := fun σ H Q mm0 e l k =>
  h σ H _ mm0 e l fun μ1 ds vs H1 hh g1 m1 d1 => ⟨by rw [← d1.length]; exact hh.1, fun x dx hx hdx hne => by
    have g2 : Grow μ1 H1 μ1 (upd H1 dx (.own x)) := Grow.new hdx
    have m2 : Mem K μ1 (upd H1 dx (.own x)) := m1.new hdx
    have hx2 : (upd H1 dx (.own x)) x = none := by rw [upd_ne (Ne.symm hne)]; exact hx
    have g3 : Grow μ1 (upd H1 dx (.own x)) (mput μ1 x (.obj C [] [])) (upd (upd H1 dx (.own x)) x (.ins C dx [])) := Grow.newM hx2
    have m3 := m2.newM (mo := .obj C [] []) (o := .ins C dx []) hx2 ⟨dx, [], upd_same, rfl, DenL.nil⟩
    obtain ⟨hl, hp⟩ := hh.2 x (m1.free hx)
    have gg := (g1.trans g2).trans g3
    have dx1 : DenL K (mput μ1 x (.obj C [] [])) (upd (upd H1 dx (.own x)) x (.ins C dx [])) [.at x] [.ref x] := DenL.cons (by unfold Den; rfl) DenL.nil
    refine ⟨_, permG a b pm [.at x] ds, _, _, m3, permG_den dx1 (DenL.grow g3 _ _ (DenL.grow g2 _ _ d1)), hl, hp, ?_, ?_⟩
    · rintro μ' d v H' ⟨rfl, hq⟩ g mm dd
      unfold Den at dd
      exact ⟨dd, k μ' _ _ H' hq (gg.trans g) mm (by unfold Den; rfl)⟩
    · exact fun μ' A d dx v H' p g mm => l μ' ρ A d dx v σ H' p (gg.trans g) mm ((e.grow gg).grow g)⟩
end
/-! ### dict comprehensions -/
def keyD : Key → D
  | .inl i => .int i
  | .inr x => .str x
section
variable {K : PySem.W.Frag} {W : WX} {X : XD} {μ : Mu} {H : Hp} {ρ : Ro} {Φ : DP} {tk tv : TE} {tt : TT} {g : TG} {wi : TI}
theorem den_key {k : Key} {v : V} (h : Den K μ H (keyD k) v) : v = kV k := by
  cases k <;> unfold keyD Den at h <;> exact h
theorem putK_zip {k : Key} {v : V} : ∀ {ks : List Key} {vs : List V}, k ∉ ks → ks.length = vs.length → putK (ks.zip vs) k v = (ks ++ [k]).zip (vs ++ [v]) := fun {ks vs} hk hl => by
  have h1 : ((ks.zip vs).any fun kv => decide (kv.1 = k)) = false := by
    rw [List.any_eq_false]
    intro p hp
    rw [decide_eq_true_eq]
    intro z
    obtain ⟨a, b⟩ := p
    exact hk (by rw [← show a = k from z]; exact (List.of_mem_zip hp).1)
  unfold putK
  rw [h1, if_neg (by decide), List.zip_append hl]
  rfl
/-- a dict comprehension: Iv by the turn, the store (the new dict in it), the keys and the data so far -/
theorem evx_dc {vs : List Nat} (h : ItX K W X μ ρ wi fun μ1 ds S => ∀ Dl, μ1 Dl = none → ∃ Iv : Nat → Mu → List Key → List D → Prop, Iv 0 (mput μ1 Dl (.dct [] [])) [] [] ∧
    (∀ i μ' ks acc, i ≤ ds.length → μ' Dl = some (.dct ks acc) → Iv i μ' ks acc → acc.length ≤ 1000000 ∧ S μ') ∧
    (∀ i d μ' ks acc, ds[i]? = some d → μ' Dl = some (.dct ks acc) → Iv i μ' ks acc → TcX K W X vs μ' (wipeD ρ vs) g d fun μ2 ρ2 =>
      EvB K W X μ2 ρ2 tt fun μ3 b => μ3 Dl = some (.dct ks acc) ∧ if b = true then EvX K W X μ3 ρ2 tk fun μ4 y => EvX K W X μ4 ρ2 tv fun μ5 z => ∃ k, y = keyD k ∧ μ5 Dl = some (.dct ks acc) ∧ k ∉ ks ∧ Iv (i + 1) (mput μ5 Dl (.dct (ks ++ [k]) (acc ++ [z]))) (ks ++ [k]) (acc ++ [z]) else Iv (i + 1) μ3 ks acc) ∧
    (∀ μ' ks acc, μ' Dl = some (.dct ks acc) → Iv ds.length μ' ks acc → Φ (mcut μ' Dl) (.dct ks acc) ∨ Φ μ' (.at Dl))) : EvX K W X μ ρ (tDc wi g tt tk tv vs) Φ := fun σ H Q m e l kk => by
  refine h σ H _ m e l fun μ1 ds S J H1 hp g1 m1 ok Dl hD => ?_
  obtain ⟨Iv, h0, hS, hs, hd⟩ := hp Dl (m1.free hD)
  obtain ⟨G, Y, w, hG, hY⟩ := ok.w
  have gn : Grow μ1 H1 (mput μ1 Dl (.dct [] [])) (upd H1 Dl (.dK [])) := Grow.newM hD
  have e1 := wipe_env (vs := vs) (e.grow g1)
  refine ⟨fun i m H' => m = ds.length - i ∧ i ≤ ds.length ∧ ∃ μ' ks acc, Iv i μ' ks acc ∧ μ' Dl = some (.dct ks acc) ∧ Grow μ1 H1 μ' H' ∧ Mem K μ' H', ⟨ds.length, by simp, Nat.zero_le _, _, [], [], h0, mput_same, gn, m1.newM hD ⟨[], upd_same, rfl, DenL.nil⟩⟩, ?_⟩
  rintro i n H' ⟨rfl, hi, μ', ks, acc, p, hl, gr, mm⟩
  have hz := hS i μ' ks acc hi hl p
  have hGG := hG μ' H' gr mm hz.2
  by_cases hlt : i < ds.length
  · refine .inr ⟨w.goes i H' hlt hGG, fun H'' => i + 1 ≤ ds.length ∧ ∃ μ' ks acc, Iv (i + 1) μ' ks acc ∧ μ' Dl = some (.dct ks acc) ∧ Grow μ1 H1 μ' H'' ∧ Mem K μ' H'', fun H'' nx => ⟨ds.length - (i + 1), by omega, rfl, nx.1, nx.2⟩, fun x H'' y => ?_⟩
    obtain ⟨q1, q2, q3⟩ := hY i μ' H' x H'' ds[i] gr mm hz.2 (w.yields i H' x H'' hlt hGG y) (by simp)
    have gg := gr.trans q1
    refine hs i ds[i] μ' ks acc (by simp) hl p (wipe σ vs) H'' x _ q2 (e1.grow gg) q3 fun ρ2 σ2 p2 e2 hw => ⟨by rw [hw, wipe_wipe], ?_⟩
    refine p2 σ2 H'' _ q2 e2 (l.grow (g1.trans gg)) fun μ3 b H3 ⟨hl3, p3⟩ g3 m3 => ?_
    cases b with
    | false =>
      rw [if_neg (by decide)] at p3 ⊢
      exact ⟨hlt, μ3, ks, acc, p3, hl3, gg.trans g3, m3⟩
    | true =>
      rw [if_pos rfl] at p3 ⊢
      refine p3 σ2 H3 _ m3 (e2.grow g3) (l.grow ((g1.trans gg).trans g3)) fun μ4 d v H4 p4 g4 m4 d4 => ?_
      refine p4 σ2 H4 _ m4 ((e2.grow g3).grow g4) (l.grow (((g1.trans gg).trans g3).trans g4)) fun μ5 z v5 H5 ⟨k, ey, hl5, hk, p5⟩ g5 m5 d5 => ?_
      subst ey
      obtain ⟨us, hu, hn, hb⟩ := m5 Dl _ hl5
      have ek := den_key d4
      subst ek
      refine ⟨_, k, rfl, hu, ?_, hlt, _, _, _, p5, mput_same, (((gg.trans g3).trans g4).trans g5).trans (Grow.wr hl5), m5.wr hl5 ⟨us ++ [v5], ?_, ?_, ?_⟩⟩
      · have : (ks.zip us).length ≤ us.length := by rw [List.length_zip]; exact Nat.min_le_right _ _
        have e2 := hb.length
        exact Nat.lt_of_le_of_lt (by omega : _ ≤ 1000000) (by decide)
      · rw [putK_zip hk hn, upd_same]
      · rw [List.length_append, List.length_append, hn]; rfl
      · exact (DenL.grow (Grow.wr hl5) _ _ hb).append (DenL.cons (Den.grow (Grow.wr hl5) _ _ d5) DenL.nil)
  · have e0 : i = ds.length := by omega
    subst e0
    refine .inl ⟨w.stops H' hGG, ?_⟩
    rcases hd μ' ks acc hl p with q | q
    · obtain ⟨us, hu, hn, hb⟩ := mm Dl _ hl
      exact kk _ _ _ H' q ((g1.trans gr).trans Grow.cut) mm.cut (by unfold Den; exact ⟨Dl, us, rfl, ⟨mcut_same, hu⟩, hn, DenL.less Less.cut _ _ hb⟩)
    · exact kk _ _ _ H' q (g1.trans gr) mm (by unfold Den; rfl)
/-- one whose turns change nothing, all keys unlike: from fk and f of the items -/
theorem evx_dcP {vs : List Nat} (h : ItX K W X μ ρ wi fun μ1 ds S => (ds.length ≤ 1000000 ∧ ∀ m : Mu, (∀ b o, μ1 b = some o → m b = some o) → S m) ∧ ∃ (fk : D → Key) (f : D → D), (ds.map fk).Nodup ∧
    (∀ d, d ∈ ds → ∀ μ' : Mu, (∀ b o, μ1 b = some o → μ' b = some o) → TcX K W X vs μ' (wipeD ρ vs) g d fun μ2 ρ2 => EvB K W X μ2 ρ2 tt fun μ3 b => μ3 = μ2 ∧ b = true ∧ EvX K W X μ3 ρ2 tk fun μ4 y => μ4 = μ3 ∧ y = keyD (fk d) ∧ EvX K W X μ4 ρ2 tv fun μ5 z => μ5 = μ4 ∧ z = f d) ∧
    Φ μ1 (.dct (ds.map fk) (ds.map f))) : EvX K W X μ ρ (tDc wi g tt tk tv vs) Φ := by
  refine evx_dc fun σ H R m e l k => h σ H R m e l fun μ1 ds S J H1 ⟨⟨hl, hS⟩, fk, f, hnd, hp, hq⟩ g1 m1 ok => k μ1 ds S J H1 (fun Dl hD => ?_) g1 m1 ok
  have up : ∀ μ' : Mu, (∀ b, b ≠ Dl → μ' b = μ1 b) → ∀ b o, μ1 b = some o → μ' b = some o := fun μ' hμ b o e => by
    rw [hμ b (fun z => by rw [z, hD] at e; cases e)]; exact e
  refine ⟨fun i μ' ks acc => ks = (ds.take i).map fk ∧ acc = (ds.take i).map f ∧ ∀ b, b ≠ Dl → μ' b = μ1 b, ⟨by simp, by simp, fun b hb => mput_ne hb⟩, ?_, ?_, ?_⟩
  · rintro i μ' ks acc hi _ ⟨rfl, rfl, hμ⟩
    refine ⟨?_, hS _ (up μ' hμ)⟩
    rw [List.length_map, List.length_take]
    omega
  · rintro i d μ' ks acc hi hD' ⟨rfl, rfl, hμ⟩
    have hm : d ∈ ds := List.mem_of_getElem? hi
    have e1 : ds.take (i + 1) = ds.take i ++ [d] := by
      rw [List.take_succ, hi]; rfl
    have hnk : fk d ∉ (ds.take i).map fk := by
      have h1 : (ds.take (i + 1)).map fk <+: ds.map fk := (List.take_prefix _ _).map fk
      have h2 := hnd.sublist h1.sublist
      rw [e1, List.map_append, List.nodup_append] at h2
      intro z
      exact h2.2.2 _ z (fk d) (List.mem_singleton.mpr rfl) rfl
    intro σ H v Q m e dd k
    refine hp d hm μ' (up μ' hμ) σ H v Q m e dd fun ρ2 σ2 q2 e2 hw => k ρ2 σ2 ?_ e2 hw
    refine q2.imp fun μ3 b ⟨r1, r2, r3⟩ => ?_
    subst r1 r2
    refine ⟨hD', ?_⟩
    rw [if_pos rfl]
    refine r3.imp fun μ4 y ⟨s1, s2, s3⟩ => ?_
    subst s1 s2
    refine s3.imp fun μ5 z ⟨t1, t2⟩ => ?_
    subst t1 t2
    refine ⟨fk d, rfl, hD', hnk, ?_, ?_, fun b hb => by rw [mput_ne hb]; exact hμ b hb⟩
    · rw [e1, List.map_append]; rfl
    · rw [e1, List.map_append]; rfl
  · rintro μ' ks acc hD' ⟨rfl, rfl, hμ⟩
    left
    have : mcut μ' Dl = μ1 := by
      funext b
      by_cases hb : b = Dl
      · subst hb; rw [mcut_same, hD]
      · rw [mcut_ne hb, hμ b hb]
    rw [this, List.take_length]
    exact hq
end
/-! ### methods of own classes -/
/-- the class (or one above it) has the method m, which keeps its promise -/
structure Met (P : Program) (w : World) (K : PySem.W.Frag) (mg : Str → Option Value) (base : Heap) (CX : CXT) (k : Nat) (C : Addr) (m : Str) (ps : List Str) (sp : Sp) : Prop where
  ex : ∃ (f : Addr) (fd : FuncData), PySem.W.findIn K (.ref C) m = some (some (.ref f)) ∧ PySem.W.isFn K (.ref f) = true ∧ PySem.W.keepIn K (.ref f) = true ∧ FnOk P w K mg base CX k f fd ps sp ∧ Binds K fd ps []
/-- where a method stands, with its text -/
def Mtd (K : PySem.W.Frag) (C : Addr) (m qual : Str) (st : Stmt) : Prop := ∃ (f : Addr) (fd : FuncData), PySem.W.findIn K (.ref C) m = some (some (.ref f)) ∧ PySem.W.isFn K (.ref f) = true ∧ Fun K m qual st f fd
section
variable {P : Program} {w : World} {K : PySem.W.Frag} {mg : Str → Option Value} {base : Heap} {C : Addr} {m qual : Str} {st : Stmt} {N ps : List Str} {k : Nat}
theorem met0 {Pd : PD} (h : Mtd K C m qual st) (S : FnScope N ps (defScope st))
    (hbi : ∀ (kV doc pm : Value) (an : Option Addr) (cdv ct : Value) (us : List Value), us.length = ps.length → bindArgs (PySem.W.fnOf m qual (defArgs st) (defBody st) (defScope st) .none kV doc pm an cdv ct) ⟨us, []⟩ = pure (ps.zip us))
    (hb : ∀ (f : Addr) (cdv : Value) (A : Around) (outer : List Env) (s : Shared) (H : Hp) (E : XK), Room k (A.deeper (envOfC qual (defScope st) s.heap.objs.size f cdv)) →
      ∃ t, PSs (cxOf CX0 P w K mg base N qual (defScope st) f cdv A outer s H E).nox (defBody st) t ∧ ∀ μ ds post exc, ds.length = ps.length → Pd μ ds post exc → GS K WN XN μ (startD N ds) t { nx := fun m _ => post m .non, rt := post }) :
    Met P w K mg base CX0 (k + 1) C m ps (spD K ps.length Pd) := by
  obtain ⟨f, fd, h1, h2, F⟩ := h
  exact ⟨f, fd, h1, h2, F.kp, def_ok F S (hb f), F.binds hbi⟩
theorem metX {Pd : PD} (h : Mtd K C m qual st) (S : FnScope N ps (defScope st))
    (hbi : ∀ (kV doc pm : Value) (an : Option Addr) (cdv ct : Value) (us : List Value), us.length = ps.length → bindArgs (PySem.W.fnOf m qual (defArgs st) (defBody st) (defScope st) .none kV doc pm an cdv ct) ⟨us, []⟩ = pure (ps.zip us))
    (hb : ∀ (f : Addr) (cdv : Value) (A : Around) (outer : List Env) (s : Shared) (H : Hp) (E : XK), Room k (A.deeper (envOfC qual (defScope st) s.heap.objs.size f cdv)) →
      ∃ t, PSs (cxOf (L2.CX P w) P w K mg base N qual (defScope st) f cdv A outer s H E) (defBody st) t ∧ ∀ μ ds post exc, ds.length = ps.length → Pd μ ds post exc → GS K (fun cls d _ H => E cls d H) (fun m _ C d => exc m C d) μ (startD N ds) t { nx := fun m _ => post m .non, rt := post }) :
    Met P w K mg base (L2.CX P w) (k + 1) C m ps (spD K ps.length Pd) := by
  obtain ⟨f, fd, h1, h2, F⟩ := h
  exact ⟨f, fd, h1, h2, F.kp, def_okX F S (hb f), F.binds hbi⟩
theorem Met.imp {CX : CXT} {n : Nat} {P1 P2 : PD} (c : Met P w K mg base CX k C m ps (spD K n P1)) (h : ∀ μ ds post exc, P2 μ ds post exc → P1 μ ds post exc) : Met P w K mg base CX k C m ps (spD K n P2) := by
  obtain ⟨f, fd, h1, h2, h3, G, b⟩ := c.ex
  exact ⟨f, fd, h1, h2, h3, fn_imp G h, b⟩
end
/-! ### a property read -/
/-- the class has f as a property whose getter keeps its promise -/
structure Prp (P : Program) (w : World) (K : PySem.W.Frag) (mg : Str → Option Value) (base : Heap) (k : Nat) (C : Addr) (f : Str) (sp : Sp) : Prop where
  ex : ∃ (p g : Addr) (fd : FuncData), PropOf K C f p g ∧ FnOk P w K mg base CX0 k g fd ["self"] sp ∧ Binds K fd ["self"] []
theorem prp0 {P : Program} {w : World} {K : PySem.W.Frag} {mg : Str → Option Value} {base : Heap} {C p g : Addr} {m qual : Str} {st : Stmt} {N : List Str} {k : Nat} {Pd : PD} {fd : FuncData} (hp : PropOf K C m p g) (F : Fun K m qual st g fd) (S : FnScope N ["self"] (defScope st))
    (hbi : ∀ (kV doc pm : Value) (an : Option Addr) (cdv ct : Value) (us : List Value), us.length = 1 → bindArgs (PySem.W.fnOf m qual (defArgs st) (defBody st) (defScope st) .none kV doc pm an cdv ct) ⟨us, []⟩ = pure ((["self"] : List Str).zip us))
    (hb : ∀ (f : Addr) (cdv : Value) (A : Around) (outer : List Env) (s : Shared) (H : Hp) (E : XK), Room k (A.deeper (envOfC qual (defScope st) s.heap.objs.size f cdv)) →
      ∃ t, PSs (cxOf CX0 P w K mg base N qual (defScope st) f cdv A outer s H E).nox (defBody st) t ∧ ∀ μ ds post exc, ds.length = 1 → Pd μ ds post exc → GS K WN XN μ (startD N ds) t { nx := fun m _ => post m .non, rt := post }) :
    Prp P w K mg base (k + 1) C m (spD K 1 Pd) := ⟨p, g, fd, hp, def_ok F S (hb g), F.binds hbi⟩
section
variable {X : Cx} {k j : Nat} {C : Addr} {f : Str} {sp : Sp} {e : Expr} {pos : Pos} {ta : TE}
theorem pe_prp (he : PE X e ta) (c : Cls X.K C) (h : Prp X.prog X.w X.K X.mg X.base k C f sp) (hr : Room j X.A) (hj : k + 1 ≤ j) (hab : attributeBase e f X.env (eval e X.env) = eval e X.env := by rfl) : PE X (.Attribute e f pos) (tProp C sp [] E0 ta) := by
  obtain ⟨p, g, fd, hp, F, b⟩ := h.ex
  exact pe_prop he c hp F (hr.mono hj) b .nil pass0 hab
end
/-- an object of class C as data -/
theorem obj_at {K : PySem.W.Frag} {μ : Mu} {H : Hp} {x : D} {C : Addr} {fs : List Str} {ds : List D} {v : V} (m : Mem K μ H) (hx : ObjD μ x C fs ds) (dv : Den K μ H x v) : ∃ p dx gs, v = .ref p ∧ H p = some (.ins C dx gs) := by
  obtain ⟨p, dx, vs, e, h, _⟩ := hx.hp m dv
  exact ⟨p, dx, _, e, h⟩
section
variable {K : PySem.W.Frag} {W : WX} {X : XD} {μ : Mu} {ρ : Ro} {Φ : DP} {C : Addr} {P : PD} {ta : TE}
theorem evx_prp (h : EvX K W X μ ρ ta fun μ1 x => (∃ fs ds, ObjD μ1 x C fs ds) ∧ P μ1 [x] Φ excN) : EvX K W X μ ρ (tProp C (spD K 1 P) [] E0 ta) Φ := fun σ H Q m e l k =>
  h σ H _ m e l fun μ1 x v H1 ⟨⟨fs, ds, ho⟩, hp⟩ g1 m1 d1 => by
    obtain ⟨p, dx, gs, e1, hi⟩ := obj_at m1 ho d1
    subst e1
    exact ⟨p, dx, gs, rfl, hi, μ1, [x], Φ, excN, m1, DenL.cons d1 DenL.nil, rfl, hp, fun μ' d v H' p g => k μ' d v H' p (g1.trans g), fun _ _ _ _ _ _ z => z.elim⟩
end
/-! ### len(o) by an own __len__ -/
section
variable {X : Cx} {k : Nat} {C f : Addr} {fd : FuncData} {ps : List Str} {sp : Sp}
def rLenO (C : Addr) (sp : Sp) : List V → Hp → VK → Prop := fun xs H Q => ∃ (a dx : Addr) (fs : List (Str × V)), xs = [.ref a] ∧ H a = some (.ins C dx fs) ∧ sp [.ref a] H (fun v H' => ∃ n : Int, v = .int n ∧ 0 ≤ n ∧ n < 2 ^ 63 ∧ Q (.int n) H') E0
theorem call_lenO (hi : PySem.W.findIn X.K (.ref C) "__len__" = some (some (.ref f))) (ht : PySem.W.typeIn X.K (.ref f) = some (.type "function")) (F : FnOk X.prog X.w X.K X.mg X.base CX0 k f fd ps sp) (hr : Room (k + 1) X.A) (hb : Binds X.K fd ps []) : CallR X (.builtin "len") (rLenO C sp) := by
  intro pins s σ H xs us Q I r h
  obtain ⟨a, dx, fs, rfl, ha, q⟩ := h
  obtain ⟨u, rfl, ru⟩ : ∃ u, us = [u] ∧ RelV (.ref a) u := by
    cases r with
    | cons h1 h2 => cases h2; exact ⟨_, rfl, h1⟩
  obtain rfl : u = Value.ref a := ru
  obtain ⟨mA, O, _, _, _, _⟩ := ins_get I.hok ha
  obtain ⟨od, J, _⟩ := O.look
  refine Calls.call_function_entry kind_len plain_len entry_len (args_len1 _) ?_
  unfold Builtin.«len»
  refine wpAny_bind (m := oneArg "len" _) (wpAny_pure ?_)
  refine wpAny_bind (m := callSpecial? (.ref a) (Str.ofString "__len__")) (PySem.W.special_fn I.kIn J hi ht ?_)
  have hl : ([Value.ref a] ++ []).length = ps.length := by
    have e := F.len _ _ _ _ q
    exact e
  refine wpAny_call (codeAny_mono (F.run X.A.in1 X.stack s H ⟨[.ref a], []⟩ [.ref a] [.ref a] _ E0 hr.in1 I.env0.in1 (hb _ [.ref a] I.kIn hl) (.cons rfl .nil) q) fun r s' hq => ?_)
  rcases r with e | (_ | _ | _ | u)
  · exact False.elim hq
  · exact False.elim hq
  · exact False.elim hq
  · exact False.elim hq
  · obtain ⟨v, H', I3, rv, n, ev, n0, n1, q3⟩ := I.after hq
    subst ev
    obtain ⟨t, rfl⟩ := rv
    refine wpAny_bind (wpAny_holding (wpAny_pure ?_))
    refine wpAny_bind (wpAny_letGo ?_)
    show wpAny _ _ (if n < 0 then _ else _) _ _ _
    rw [if_neg (by omega)]
    show wpAny _ _ (if n ≥ 2 ^ 63 then _ else _) _ _ _
    rw [if_neg (by omega)]
    exact wpAny_bind (wpAny_mkInt (wpAny_pure ⟨_, rfl, .int n, H', I3.tok _, ⟨_, rfl⟩, q3⟩))
end
section
variable {X : Cx} {k j : Nat} {C : Addr} {ps : List Str} {sp : Sp}
/-- len(o), o of class C -/
theorem call_lenC (h : Met X.prog X.w X.K X.mg X.base CX0 k C "__len__" ps sp) (hr : Room j X.A) (hj : k + 1 ≤ j) : CallR X (.builtin "len") (rLenO C sp) := by
  obtain ⟨f, fd, h1, h2, _, F, b⟩ := h.ex
  exact call_lenO h1 (beq_iff_eq.mp h2) F (hr.mono hj) b
end
section
variable {K : PySem.W.Frag} {μ : Mu} {Φ : DP} {C : Addr} {P : PD} {x : D}
theorem cax_lenO (ho : ∃ fs ds, ObjD μ x C fs ds) (hp : P μ [x] (fun μ' d => ∃ n : Nat, d = .int n ∧ n ≤ 1000000 ∧ Φ μ' (.int n)) excN) : CaX K (rLenO C (spD K 1 P)) μ [x] Φ := fun H vs Q m d k => by
  obtain ⟨v, e, a⟩ := denL1 d
  obtain ⟨fs, ds, ho⟩ := ho
  obtain ⟨p, dx, gs, e1, hi⟩ := obj_at m ho a
  subst e1 e
  refine ⟨p, dx, gs, rfl, hi, μ, [x], _, excN, m, d, rfl, hp, ?_, fun _ _ _ _ _ _ z => z.elim⟩
  rintro μ' d' v' H' ⟨n, rfl, hn, hq⟩ g mm dd
  unfold Den at dd
  exact ⟨n, dd, by omega, by omega, k μ' _ _ H' hq g mm (by unfold Den; rfl)⟩
/-- isinstance(o, c), o of an own class -/
theorem cax_isO {c : Addr} {b : Bool} (ho : ∃ fs ds, ObjD μ x C fs ds) (cl : Cls K C) (ha : PySem.W.findIn K (.ref C) "__class__" = some (some (.builtin "object.__class__"))) (G : ClsG K) (hm : PySem.W.mroIn K C (.type "object") = some true)
    (hk : PySem.W.kitOne K (.ref C) (.ref c) = some b) (h : Φ μ (.bl b)) : CaX K (rIsU K) μ [x, .at c] Φ := fun H vs Q m dd k => by
  obtain ⟨v, v', e, a, a'⟩ := denL2 dd
  obtain ⟨fs, ds, ho⟩ := ho
  obtain ⟨p, dx, gs, e1, hi⟩ := obj_at m ho a
  unfold Den at a'
  subst a' e1
  exact .inl (.inl ⟨.ref p, .ref c, .ref C, .ref c, b, e, .own c, .base (.ins hi cl ha G.hn G.ht hm), hk, k μ _ _ H h (Grow.refl _ _) m (by unfold Den; rfl)⟩)
/-- isinstance of plain data, an own class -/
theorem cax_isP {T : String} {c : Addr} {b : Bool} (ht : tyM μ x = some T) (hk : PySem.W.kitOne K (.type T) (.ref c) = some b) (h : Φ μ (.bl b)) : CaX K (rIsU K) μ [x, .at c] Φ := fun H vs Q m d k => by
  obtain ⟨v, v', e, a, a'⟩ := denL2 d
  unfold Den at a'
  subst a'
  exact .inl (.inl ⟨v, .ref c, .type T, .ref c, b, e, .own c, den_ty m a ht, hk, k μ _ _ H h (Grow.refl _ _) m (by unfold Den; rfl)⟩)
end
/-! ### C(..) of an own class -/
/-- a class of the module, with its __init__ and its promise -/
structure MkC (P : Program) (w : World) (K : PySem.W.Frag) (mg : Str → Option Value) (base : Heap) (CX : CXT) (k : Nat) (x qual : Str) (C : Addr) (st : Stmt) (ps : List Str) (sp : Sp) : Prop where
  ex : ∃ (f : Addr) (fd : FuncData), mg x = some (.ref C) ∧ Mk K C f ∧ Fun K "__init__" qual st f fd ∧ FnOk P w K mg base CX k f fd ps sp ∧ Binds K fd ps []
theorem mkX {P : Program} {w : World} {K : PySem.W.Frag} {mg : Str → Option Value} {base : Heap} {C f : Addr} {x qual : Str} {st : Stmt} {N ps : List Str} {k : Nat} {Pd : PD} {fd : FuncData} (hm : mg x = some (.ref C)) (M : Mk K C f) (F : Fun K "__init__" qual st f fd) (S : FnScope N ps (defScope st))
    (hbi : ∀ (kV doc pm : Value) (an : Option Addr) (cdv ct : Value) (us : List Value), us.length = ps.length → bindArgs (PySem.W.fnOf "__init__" qual (defArgs st) (defBody st) (defScope st) .none kV doc pm an cdv ct) ⟨us, []⟩ = pure (ps.zip us))
    (hb : ∀ (f : Addr) (cdv : Value) (A : Around) (outer : List Env) (s : Shared) (H : Hp) (E : XK), Room k (A.deeper (envOfC qual (defScope st) s.heap.objs.size f cdv)) →
      ∃ t, PSs (cxOf (L2.CX P w) P w K mg base N qual (defScope st) f cdv A outer s H E) (defBody st) t ∧ ∀ μ ds post exc, ds.length = ps.length → Pd μ ds post exc → GS K (fun cls d _ H => E cls d H) (fun m _ C d => exc m C d) μ (startD N ds) t { nx := fun m _ => post m .non, rt := post }) :
    MkC P w K mg base (L2.CX P w) (k + 1) x qual C st ps (spD K ps.length Pd) := ⟨f, fd, hm, M, F, def_okX F S (hb f), F.binds hbi⟩
theorem mk0 {P : Program} {w : World} {K : PySem.W.Frag} {mg : Str → Option Value} {base : Heap} {C f : Addr} {x qual : Str} {st : Stmt} {N ps : List Str} {k : Nat} {Pd : PD} {fd : FuncData} (hm : mg x = some (.ref C)) (M : Mk K C f) (F : Fun K "__init__" qual st f fd) (S : FnScope N ps (defScope st))
    (hbi : ∀ (kV doc pm : Value) (an : Option Addr) (cdv ct : Value) (us : List Value), us.length = ps.length → bindArgs (PySem.W.fnOf "__init__" qual (defArgs st) (defBody st) (defScope st) .none kV doc pm an cdv ct) ⟨us, []⟩ = pure (ps.zip us))
    (hb : ∀ (f : Addr) (cdv : Value) (A : Around) (outer : List Env) (s : Shared) (H : Hp) (E : XK), Room k (A.deeper (envOfC qual (defScope st) s.heap.objs.size f cdv)) →
      ∃ t, PSs (cxOf CX0 P w K mg base N qual (defScope st) f cdv A outer s H E).nox (defBody st) t ∧ ∀ μ ds post exc, ds.length = ps.length → Pd μ ds post exc → GS K WN XN μ (startD N ds) t { nx := fun m _ => post m .non, rt := post }) :
    MkC P w K mg base CX0 (k + 1) x qual C st ps (spD K ps.length Pd) := ⟨f, fd, hm, M, F, def_ok F S (hb f), F.binds hbi⟩
theorem kbn_of {K : PySem.W.Frag} {x qual : Str} {st : Stmt} {ps : List Str} {f : Addr} {fd : FuncData} {n m : Nat} {pm : List Nat} {ks : List Str} (F : Fun K x qual st f fd) (hm : ks.length = m)
    (h : ∀ (kV doc pv : Value) (an : Option Addr) (cdv ct : Value) (us ws : List Value), us.length = n → ws.length = m → bindArgs (PySem.W.fnOf x qual (defArgs st) (defBody st) (defScope st) .none kV doc pv an cdv ct) ⟨us, ks.zip ws⟩ = pure (ps.zip (pm.filterMap fun i => (us ++ ws)[i]?))) :
    KBn K fd ps n ks (permG n m pm) (permG n m pm) := by
  obtain ⟨oc, od, kV, doc, pv, an, cdv, ct, osl, rfl, lk, hcd⟩ := F.ex
  refine ⟨fun s us ws _ h1 h2 => ?_, fun {vs us zs ws} r rz => ?_⟩
  · unfold permG
    rw [if_pos ⟨h1, h2.trans hm⟩]
    exact .of_eq (h kV doc pv an cdv ct us ws h1 (h2.trans hm))
  · unfold permG
    rw [r.length, rz.length]
    by_cases c : us.length = n ∧ ws.length = m
    · rw [if_pos c, if_pos c]
      exact perm_vals (r.append rz)
    · rw [if_neg c, if_neg c]
      exact .nil
section
variable {X : Cx} {W : WX} {k j m : Nat} {x qual : Str} {C : Addr} {st : Stmt} {ps ks : List Str} {sp : Sp} {p pos : Pos} {e : Expr} {es : List Expr} {t tk : TA} {kws : List Keyword} {pm : List Nat}
theorem pe_mkS (c : MkC X.prog X.w X.K X.mg X.base (L2.CX X.prog X.w) k x qual C st ps sp) (hr : Room j X.A) (hj : k + 1 ≤ j) (tw : Takes X W) (ha : PA X (e :: es) t) (hg : Gl X x := by rfl) (hdb : (x == ("__debug__" : Str)) = false := by decide)
    (he : starEach (e :: es) X.env = (false, eval e X.env) :: starEach es X.env := by rfl) (hpl : (backTo pos (starEach es X.env)).any (·.1) = false := by rfl) : PE X (.Call (.Name x p) (e :: es) [] pos) (tMakeS C sp (WE W) t) := by
  obtain ⟨f, fd, h1, M, _, F, b⟩ := c.ex
  exact pe_makeS M F (hr.mono hj) hg h1 b (fun σ => passAt tw σ) ha hdb he hpl
theorem pe_mk0 (c : MkC X.prog X.w X.K X.mg X.base CX0 k x qual C st ps sp) (hr : Room j X.A) (hj : k + 1 ≤ j) (ha : PA X (e :: es) t) (hg : Gl X x := by rfl) (hdb : (x == ("__debug__" : Str)) = false := by decide)
    (he : starEach (e :: es) X.env = (false, eval e X.env) :: starEach es X.env := by rfl) (hpl : (backTo pos (starEach es X.env)).any (·.1) = false := by rfl) : PE X (.Call (.Name x p) (e :: es) [] pos) (tMakeS C sp (fun _ => E0) t) := by
  obtain ⟨f, fd, h1, M, _, F, b⟩ := c.ex
  exact pe_makeS M F (hr.mono hj) hg h1 b (fun σ pins H s e s' I q => q.elim) ha hdb he hpl
theorem pe_mkKS (c : MkC X.prog X.w X.K X.mg X.base (L2.CX X.prog X.w) k x qual C st ps sp) (hr : Room j X.A) (hj : k + 1 ≤ j) (tw : Takes X W) (hm : ks.length = m)
    (h : ∀ (kV doc pv : Value) (an : Option Addr) (cdv ct : Value) (us ws : List Value), us.length = 1 → ws.length = m → bindArgs (PySem.W.fnOf "__init__" qual (defArgs st) (defBody st) (defScope st) .none kV doc pv an cdv ct) ⟨us, ks.zip ws⟩ = pure (ps.zip (pm.filterMap fun i => (us ++ ws)[i]?)))
    (hkw : PK X kws tk) (hg : Gl X x := by rfl) (hall : (backToKw pos (keywordEach kws X.env)).all (·.1.isSome) = true := by rfl) (hks : (backToKw pos (keywordEach kws X.env)).filterMap (·.1) = ks := by rfl)
    (hdb : (x == ("__debug__" : Str)) = false := by decide) (hn : ((backTo pos (starEach [] X.env)).any (·.1) || (backToKw pos (keywordEach kws X.env)).any (·.1.isNone)) = false := by rfl) :
    PE X (.Call (.Name x p) [] kws pos) (tMakeKS C ks.length sp (permG 1 m pm) (WE W) tk) := by
  obtain ⟨f, fd, h1, M, Ff, F, b⟩ := c.ex
  exact pe_makeKS M F (hr.mono hj) hg h1 (kbn_of Ff hm h) (fun σ => passAt tw σ) hkw hall hks hdb hn
end
section
variable {K : PySem.W.Frag} {W : WX} {X : XD} {μ : Mu} {ρ : Ro} {Φ : DP} {C : Addr} {n m a b : Nat} {pm : List Nat} {P : PD} {t tk : TA}
/-- an object just made, that will change no more -/
def Frozen (C : Addr) (x : Addr) (Φ : DP) (μ2 : Mu) (d : D) : Prop := d = .non ∧ ∃ fs ds, μ2 x = some (.obj C fs ds) ∧ Φ (mcut μ2 x) (.obj C fs ds)
theorem evx_makeSZ (h : EvL K W X μ ρ t fun μ1 ds => ∀ x, μ1 x = none → ds.length + 1 = n ∧ P (mput μ1 x (.obj C [] [])) (.at x :: ds) (Frozen C x Φ) fun μ' A d => X μ' ρ A d) : EvX K W X μ ρ (tMakeS C (spD K n P) (WE W) t) Φ := fun σ H Q m e l k =>
  h σ H _ m e l fun μ1 ds vs H1 hh g1 m1 d1 => fun x dx hx hdx hne => by
    have g2 : Grow μ1 H1 μ1 (upd H1 dx (.own x)) := Grow.new hdx
    have m2 : Mem K μ1 (upd H1 dx (.own x)) := m1.new hdx
    have hx2 : (upd H1 dx (.own x)) x = none := by rw [upd_ne (Ne.symm hne)]; exact hx
    have g3 : Grow μ1 (upd H1 dx (.own x)) (mput μ1 x (.obj C [] [])) (upd (upd H1 dx (.own x)) x (.ins C dx [])) := Grow.newM hx2
    have m3 := m2.newM (mo := .obj C [] []) (o := .ins C dx []) hx2 ⟨dx, [], upd_same, rfl, DenL.nil⟩
    obtain ⟨hl, hp⟩ := hh x (m1.free hx)
    have gg := (g1.trans g2).trans g3
    refine ⟨_, .at x :: ds, _, _, m3, DenL.cons (by unfold Den; rfl) (DenL.grow g3 _ _ (DenL.grow g2 _ _ d1)), by rw [List.length_cons]; exact hl, hp, ?_, ?_⟩
    · rintro μ' d v H' ⟨rfl, fs, es, hμ, hq⟩ g mm dd
      unfold Den at dd
      obtain ⟨dx', us, hi, hn, hb⟩ := mm x _ hμ
      exact ⟨dd, k _ _ _ H' hq ((gg.trans g).trans Grow.cut) mm.cut (by unfold Den; exact ⟨x, dx', us, rfl, ⟨mcut_same, hi⟩, hn, DenL.less Less.cut _ _ hb⟩)⟩
    · exact fun μ' A d dx v H' p g mm => l μ' ρ A d dx v σ H' p (gg.trans g) mm ((e.grow gg).grow g)
theorem evx_make0Z (h : EvL K W X μ ρ t fun μ1 ds => ∀ x, μ1 x = none → ds.length + 1 = n ∧ P (mput μ1 x (.obj C [] [])) (.at x :: ds) (Frozen C x Φ) excN) : EvX K W X μ ρ (tMakeS C (spD K n P) (fun _ => E0) t) Φ := fun σ H Q m e l k =>
  h σ H _ m e l fun μ1 ds vs H1 hh g1 m1 d1 => fun x dx hx hdx hne => by
    have g2 : Grow μ1 H1 μ1 (upd H1 dx (.own x)) := Grow.new hdx
    have m2 : Mem K μ1 (upd H1 dx (.own x)) := m1.new hdx
    have hx2 : (upd H1 dx (.own x)) x = none := by rw [upd_ne (Ne.symm hne)]; exact hx
    have g3 : Grow μ1 (upd H1 dx (.own x)) (mput μ1 x (.obj C [] [])) (upd (upd H1 dx (.own x)) x (.ins C dx [])) := Grow.newM hx2
    have m3 := m2.newM (mo := .obj C [] []) (o := .ins C dx []) hx2 ⟨dx, [], upd_same, rfl, DenL.nil⟩
    obtain ⟨hl, hp⟩ := hh x (m1.free hx)
    have gg := (g1.trans g2).trans g3
    refine ⟨_, .at x :: ds, _, _, m3, DenL.cons (by unfold Den; rfl) (DenL.grow g3 _ _ (DenL.grow g2 _ _ d1)), by rw [List.length_cons]; exact hl, hp, ?_, fun _ _ _ _ _ _ z => z.elim⟩
    · rintro μ' d v H' ⟨rfl, fs, es, hμ, hq⟩ g mm dd
      unfold Den at dd
      obtain ⟨dx', us, hi, hn, hb⟩ := mm x _ hμ
      exact ⟨dd, k _ _ _ H' hq ((gg.trans g).trans Grow.cut) mm.cut (by unfold Den; exact ⟨x, dx', us, rfl, ⟨mcut_same, hi⟩, hn, DenL.less Less.cut _ _ hb⟩)⟩
theorem evx_makeKSZ (h : EvL K W X μ ρ tk fun μ1 ds => ds.length = m ∧ ∀ x, μ1 x = none → (permG a b pm [.at x] ds).length = n ∧ P (mput μ1 x (.obj C [] [])) (permG a b pm [.at x] ds) (Frozen C x Φ) fun μ' A d => X μ' ρ A d) : EvX K W X μ ρ (tMakeKS C m (spD K n P) (permG a b pm) (WE W) tk) Φ := fun σ H Q mm0 e l k =>
  h σ H _ mm0 e l fun μ1 ds vs H1 hh g1 m1 d1 => ⟨by rw [← d1.length]; exact hh.1, fun x dx hx hdx hne => by
    have g2 : Grow μ1 H1 μ1 (upd H1 dx (.own x)) := Grow.new hdx
    have m2 : Mem K μ1 (upd H1 dx (.own x)) := m1.new hdx
    have hx2 : (upd H1 dx (.own x)) x = none := by rw [upd_ne (Ne.symm hne)]; exact hx
    have g3 : Grow μ1 (upd H1 dx (.own x)) (mput μ1 x (.obj C [] [])) (upd (upd H1 dx (.own x)) x (.ins C dx [])) := Grow.newM hx2
    have m3 := m2.newM (mo := .obj C [] []) (o := .ins C dx []) hx2 ⟨dx, [], upd_same, rfl, DenL.nil⟩
    obtain ⟨hl, hp⟩ := hh.2 x (m1.free hx)
    have gg := (g1.trans g2).trans g3
    have dx1 : DenL K (mput μ1 x (.obj C [] [])) (upd (upd H1 dx (.own x)) x (.ins C dx [])) [.at x] [.ref x] := DenL.cons (by unfold Den; rfl) DenL.nil
    refine ⟨_, permG a b pm [.at x] ds, _, _, m3, permG_den dx1 (DenL.grow g3 _ _ (DenL.grow g2 _ _ d1)), hl, hp, ?_, ?_⟩
    · rintro μ' d v H' ⟨rfl, fs, es, hμ, hq⟩ g mm dd
      unfold Den at dd
      obtain ⟨dx', us, hi, hn, hb⟩ := mm x _ hμ
      exact ⟨dd, k _ _ _ H' hq ((gg.trans g).trans Grow.cut) mm.cut (by unfold Den; exact ⟨x, dx', us, rfl, ⟨mcut_same, hi⟩, hn, DenL.less Less.cut _ _ hb⟩)⟩
    · exact fun μ' A d dx v H' p g mm => l μ' ρ A d dx v σ H' p (gg.trans g) mm ((e.grow gg).grow g)⟩
end
/-- a statement whose walk has begun, cut at its end -/
theorem gs_at {K : PySem.W.Frag} {W : WX} {X : XD} {μ : Mu} {ρ : Ro} {t : TS} {E : ED} (M : Mu → Ro → Prop) (h : GS K W X μ ρ t { E with nx := M }) (k : ∀ μ1 ρ1, M μ1 ρ1 → E.nx μ1 ρ1) : GS K W X μ ρ t E :=
  h.imp k (fun _ _ z => z) (fun _ _ z => z) (fun _ _ z => z)
section
variable {K : PySem.W.Frag} {W : WX} {X : XD} {μ : Mu} {ρ : Ro} {E : ED} {tt : TT} {t u : TS}
/-- an if whose test changes nothing, its ways joined: Ψ of the answer -/
theorem gs_ifB (Ψ : Bool → Prop) (h : EvB K W X μ ρ tt fun m b => m = μ ∧ Ψ b) (ht : Ψ true → GS K W X μ ρ t E) (hf : Ψ false → GS K W X μ ρ u E) : GS K W X μ ρ (tIfS tt t u) E :=
  gs_if (h.imp fun m b ⟨e, q⟩ => by
    subst e
    cases b with
    | true => rw [if_pos rfl]; exact ht q
    | false => rw [if_neg (by decide)]; exact hf q)
/-- the same where the test changes the store -/
theorem gs_ifM (Ψ : Mu → Bool → Prop) (h : EvB K W X μ ρ tt Ψ) (ht : ∀ m, Ψ m true → GS K W X m ρ t E) (hf : ∀ m, Ψ m false → GS K W X m ρ u E) : GS K W X μ ρ (tIfS tt t u) E :=
  gs_if (h.imp fun m b q => by
    cases b with
    | true => rw [if_pos rfl]; exact ht m q
    | false => rw [if_neg (by decide)]; exact hf m q)
end
/-! ### what may raise, called where nothing is raised -/
theorem takes_never {X : Cx} : Takes X WN := fun _ _ ⟨_, _, _, _, _, _, _, _, _, _, _, _, _, _, _, _, w⟩ => w.elim
/-! ### d[k] of a kept dict -/
section
variable {K : PySem.W.Frag} {W : WX} {X : XD} {μ : Mu} {H : Hp} {ρ : Ro} {Φ : DP} {ta tb : TE}
/-- what a dict has at a key -/
def atK (ks : List Key) (ds : List D) (k : Key) : Option D := ((ks.zip ds).find? fun kv => decide (kv.1 = k)).map (·.2)
theorem den_valV {k : Key} {d : D} : ∀ {ks : List Key} {ds : List D} {vs : List V}, DenL K μ H ds vs → atK ks ds k = some d → ∃ v, valV (ks.zip vs) k = some v ∧ Den K μ H d v
  | [], ds, vs, _, h => by unfold atK at h; rw [List.zip_nil_left] at h; exact nomatch h
  | g :: ks, [], vs, _, h => by unfold atK at h; rw [List.zip_nil_right] at h; exact nomatch h
  | g :: ks, e :: ds, vs, hd, h => by
    unfold DenL at hd
    obtain ⟨w, ws, e1, a, b⟩ := hd
    subst e1
    unfold atK at h
    rw [List.zip_cons_cons, List.find?_cons] at h
    by_cases hg : g = k
    · simp only [hg, decide_true] at h
      cases h
      exact ⟨w, valV_pos hg, a⟩
    · simp only [hg, decide_false] at h
      obtain ⟨v, h1, h2⟩ := den_valV b h
      exact ⟨v, by rw [List.zip_cons_cons, valV_neg hg]; exact h1, h2⟩
theorem evx_dget (h : EvX K W X μ ρ ta fun μ1 x => EvX K W X μ1 ρ tb fun μ2 y => ∃ ks ds k d, (x = .dct ks ds ∨ ∃ a, x = .at a ∧ μ2 a = some (.dct ks ds)) ∧ y = keyD k ∧ atK ks ds k = some d ∧ Φ μ2 d) : EvX K W X μ ρ (tDGet ta tb) Φ := fun σ H Q m e l kk =>
  h σ H _ m e l fun μ1 x v H1 h1 g1 m1 d1 => h1 σ H1 _ m1 (e.grow g1) (l.grow g1) fun μ2 y w H2 ⟨ks, ds, k, d, hx, hy, hl, hq⟩ g2 m2 d2 => by
    subst hy
    have ek := den_key d2
    subst ek
    have dx := Den.grow g2 _ _ d1
    obtain ⟨p, vs, e1, e2, b⟩ : ∃ p vs, v = .ref p ∧ H2 p = some (.dK (ks.zip vs)) ∧ DenL K μ2 H2 ds vs := by
      rcases hx with rfl | ⟨a, rfl, ha⟩
      · unfold Den at dx
        obtain ⟨p, vs, e1, s, n, b⟩ := dx
        exact ⟨p, vs, e1, s.2, b⟩
      · unfold Den at dx
        obtain ⟨vs, q, n, b⟩ := m2 a _ ha
        exact ⟨a, vs, dx, q, b⟩
    obtain ⟨u, h3, h4⟩ := den_valV b hl
    exact ⟨p, u, e1, by rw [← h3]; exact DGet.k e2, kk μ2 d u H2 hq (g1.trans g2) m2 h4⟩
/-! ### sum, any, all -/
theorem denInt : ∀ {zs : List Int} {vs : List V}, DenL K μ H (zs.map D.int) vs → vs = zs.map V.int
  | [], vs, h => by unfold List.map DenL at h; exact h
  | z :: zs, vs, h => by
    rw [List.map_cons] at h
    unfold DenL at h
    obtain ⟨w, ws, e, a, b⟩ := h
    unfold Den at a
    subst e a
    rw [denInt b, List.map_cons]
theorem denBl : ∀ {zs : List Bool} {vs : List V}, DenL K μ H (zs.map D.bl) vs → vs = zs.map V.bl
  | [], vs, h => by unfold List.map DenL at h; exact h
  | z :: zs, vs, h => by
    rw [List.map_cons] at h
    unfold DenL at h
    obtain ⟨w, ws, e, a, b⟩ := h
    unfold Den at a
    subst e a
    rw [denBl b, List.map_cons]
theorem cax_sum {x : D} {zs : List Int} {S : Mu → Prop} (hd : IsL μ x (zs.map D.int) S) (h : Φ μ (.int zs.sum)) : CaX K (rSum K) μ [x] Φ := fun H vs Q m d k => by
  obtain ⟨v, e, a⟩ := denL1 d
  obtain ⟨p, us, e2, sq, b⟩ := isL_sq m hd a
  subst e2
  rw [denInt b] at sq
  exact ⟨p, zs, e, sq, k μ _ _ H h (Grow.refl _ _) m (by unfold Den; rfl)⟩
theorem cax_any {x : D} {zs : List Bool} {S : Mu → Prop} (hd : IsL μ x (zs.map D.bl) S) (h : Φ μ (.bl (zs.any id))) : CaX K (rAny K) μ [x] Φ := fun H vs Q m d k => by
  obtain ⟨v, e, a⟩ := denL1 d
  obtain ⟨p, us, e2, sq, b⟩ := isL_sq m hd a
  subst e2
  rw [denBl b] at sq
  exact ⟨p, zs, e, sq, k μ _ _ H h (Grow.refl _ _) m (by unfold Den; rfl)⟩
theorem cax_all {x : D} {zs : List Bool} {S : Mu → Prop} (hd : IsL μ x (zs.map D.bl) S) (h : Φ μ (.bl (zs.all id))) : CaX K (rAll K) μ [x] Φ := fun H vs Q m d k => by
  obtain ⟨v, e, a⟩ := denL1 d
  obtain ⟨p, us, e2, sq, b⟩ := isL_sq m hd a
  subst e2
  rw [denBl b] at sq
  exact ⟨p, zs, e, sq, k μ _ _ H h (Grow.refl _ _) m (by unfold Den; rfl)⟩
end
/-! ### an instance called: o(e, ..), o(k = v, ..) -/
/-- the class has a __call__ that keeps its promise -/
structure CallC (P : Program) (w : World) (K : PySem.W.Frag) (mg : Str → Option Value) (base : Heap) (CX : CXT) (k : Nat) (qual : Str) (C : Addr) (st : Stmt) (ps : List Str) (sp : Sp) : Prop where
  ex : ∃ (f : Addr) (fd : FuncData), PySem.W.findIn K (.ref C) "__call__" = some (some (.ref f)) ∧ PySem.W.isFn K (.ref f) = true ∧ PySem.W.fnIn K f = true ∧ Fun K "__call__" qual st f fd ∧ FnOk P w K mg base CX k f fd ps sp ∧ Binds K fd ps []
theorem callX {P : Program} {w : World} {K : PySem.W.Frag} {mg : Str → Option Value} {base : Heap} {C f : Addr} {qual : Str} {st : Stmt} {N ps : List Str} {k : Nat} {Pd : PD} {fd : FuncData} (h1 : PySem.W.findIn K (.ref C) "__call__" = some (some (.ref f))) (h2 : PySem.W.isFn K (.ref f) = true) (h3 : PySem.W.fnIn K f = true)
    (F : Fun K "__call__" qual st f fd) (S : FnScope N ps (defScope st))
    (hbi : ∀ (kV doc pm : Value) (an : Option Addr) (cdv ct : Value) (us : List Value), us.length = ps.length → bindArgs (PySem.W.fnOf "__call__" qual (defArgs st) (defBody st) (defScope st) .none kV doc pm an cdv ct) ⟨us, []⟩ = pure (ps.zip us))
    (hb : ∀ (f : Addr) (cdv : Value) (A : Around) (outer : List Env) (s : Shared) (H : Hp) (E : XK), Room k (A.deeper (envOfC qual (defScope st) s.heap.objs.size f cdv)) →
      ∃ t, PSs (cxOf (L2.CX P w) P w K mg base N qual (defScope st) f cdv A outer s H E) (defBody st) t ∧ ∀ μ ds post exc, ds.length = ps.length → Pd μ ds post exc → GS K (fun cls d _ H => E cls d H) (fun m _ C d => exc m C d) μ (startD N ds) t { nx := fun m _ => post m .non, rt := post }) :
    CallC P w K mg base (L2.CX P w) (k + 1) qual C st ps (spD K ps.length Pd) := ⟨f, fd, h1, h2, h3, F, def_okX F S (hb f), F.binds hbi⟩
theorem CallC.imp {P : Program} {w : World} {K : PySem.W.Frag} {mg : Str → Option Value} {base : Heap} {CX : CXT} {k n : Nat} {qual : Str} {C : Addr} {st : Stmt} {ps : List Str} {P1 P2 : PD} (c : CallC P w K mg base CX k qual C st ps (spD K n P1)) (h : ∀ μ ds post exc, P2 μ ds post exc → P1 μ ds post exc) : CallC P w K mg base CX k qual C st ps (spD K n P2) := by
  obtain ⟨f, fd, h1, h2, h3, F, G, b⟩ := c.ex
  exact ⟨f, fd, h1, h2, h3, F, fn_imp G h, b⟩
theorem Call_kw {prog : Program} {w : World} {A : Around} {env : Env} {s : Shared} {E : Value → Shared → Prop} {func : Expr} {args : List Expr} {kws : List Keyword} {pos : Pos} {Q : Value → Shared → Prop}
    (hf : wpAny (model prog w) A (eval func env) (fun f s1 => wpAny (model prog w) A (callWith pos f [] (backTo pos (starEach args env)) (backToKw pos (keywordEach kws env))) Q E s1) E s)
    (ht : eval (.Call func args kws pos) env = (do callWith pos (← eval func env) [] (backTo pos (starEach args env)) (backToKw pos (keywordEach kws env)))) : wpAny (model prog w) A (eval (.Call func args kws pos) env) Q E s := by
  rw [ht]
  exact wpAny_bind hf
/-- the call's node where the callee is an instance, keywords too -/
theorem callO_kw {M : Model} {A : Around} {E : Value → Shared → Prop} {s : Shared} {a : Addr} {pos : Pos} {Q : Value → Shared → Prop} {args : List (Bool × Sem Value)} {kws : List (Option Str × Sem Value)} (hplain : (args.any (·.1) || kws.any (·.1.isNone)) = false)
    (h : wpAny M A (evalArgs (.ref a) true args kws) (fun z s₁ => (∃ C ox od, PySem.W.InstAt s₁.heap a ox C od ∧ ox.data = .plain) ∧ wpAny M A (call (.ref a) ([] ++ z.pos) z.kw) Q E s₁) E s) : wpAny M A (callWith pos (.ref a) [] args kws) Q E s := by
  unfold callWith
  refine wpAny_bind (wpAny_holding (wpAny_mono h (fun z s₁ h₁ => wpAny_bind (wpAny_standAt ?_)) fun _ _ y => y))
  obtain ⟨⟨C, ox, od, J, hd⟩, h₁⟩ := h₁
  have L := PySem.W.kco_keeper (M := M) J hd
  simp only [hplain]
  refine wpAny_bind (L.here ?_)
  have tail : ∀ {t : Sem Value}, wpAny M A t Q E s₁ → wpAny M A (t >>= fun r => holding [r] point >>= fun _ => pure r) Q E s₁ :=
    fun ht => wpAny_bind (wpAny_mono ht (fun r s₂ hr => wpAny_bind (wpAny_holding (wpAny_point (wpAny_pure hr)))) fun _ _ y => y)
  exact tail (wpAny_operateT h₁)
section
variable {X : Cx} {CX : CXT} {k j m : Nat} {C : Addr} {qual : Str} {st : Stmt} {fd : FuncData} {ps ks : List Str} {sp : Sp} {E : XK} {fe : Expr} {pos : Pos} {e : Expr} {es : List Expr} {tf : TE} {t tk : TA} {kws : List Keyword} {W : WX} {pm : List Nat}
theorem ins_at {pins : List (Addr × Obj)} {σ : L2.St} {H : Hp} {s : Shared} {a dx : Addr} {fs : List (Str × V)} (I : L2.Inv X pins σ H s) (h : H a = some (.ins C dx fs)) : ∃ ox od, PySem.W.InstAt s.heap a ox C od ∧ ox.data = .plain := by
  obtain ⟨mA, O, _⟩ := ins_get I.hok h
  obtain ⟨od, J, _⟩ := O.look
  exact ⟨_, _, J, rfl⟩
def tCallOS (C : Addr) (sp : Sp) (E : L2.St → XK) (tf : TE) (t : TA) : TE := fun σ H Q => tf σ H fun y H1 => ∃ a, y = V.ref a ∧ t σ H1 fun vs H2 => (∃ dx fs, H2 a = some (.ins C dx fs)) ∧ sp (V.ref a :: vs) H2 Q (E σ)
theorem pe_callOS {ES : L2.St → XK} (hf : PE X fe tf) (c : CallC X.prog X.w X.K X.mg X.base CX k qual C st ps sp) (hr : Room j X.A) (hj : k ≤ j) (hx : ∀ σ, PassesAt CX X σ (ES σ)) (ha : PA X (e :: es) t)
    (ht : eval (.Call fe (e :: es) [] pos) X.env = (do callWith pos (← eval fe X.env) [] (backTo pos (starEach (e :: es) X.env)) (backToKw pos (keywordEach [] X.env))) := by rfl)
    (he : starEach (e :: es) X.env = (false, eval e X.env) :: starEach es X.env := by rfl) (hpl : (backTo pos (starEach es X.env)).any (·.1) = false := by rfl) : PE X (.Call fe (e :: es) [] pos) (tCallOS C sp ES tf t) := by
  obtain ⟨g, fd, h1, h2, h3, _, F, b⟩ := c.ex
  refine ⟨fun pins s σ H Q I h => ?_⟩
  refine Call_ (thn (hf.run pins s σ H _ I h) fun u s1 ⟨y, H1, I1, ry, a, ey, q⟩ => ?_) ht
  subst ey
  obtain rfl : u = Value.ref a := ry
  refine StX.callO_with (thn (ha.run pos pins s1 σ H1 _ I1 q) fun us s2 ⟨vs, H2, I2, r, ⟨dx, fs, hi⟩, q2⟩ => ?_) he hpl
  obtain ⟨ox, od, J, hd⟩ := ins_at I2 hi
  refine ⟨⟨C, ox, od, J, hd⟩, wpAny_call (PySem.W.kco_code I2.kIn J hd h1 h2 h3 ?_)⟩
  have r2 : Vals (V.ref a :: vs) (Value.ref a :: us) := .cons rfl r
  have hl : (Value.ref a :: us ++ []).length = ps.length := by
    rw [List.append_nil]
    have e := r2.length
    rw [F.len _ _ _ _ q2] at e
    exact e.symm
  have hbb := b _ (Value.ref a :: us) I2.kIn hl
  rw [List.append_nil] at hbb
  refine codeAny_mono (F.run X.A X.stack s2 H2 ⟨Value.ref a :: us, []⟩ (Value.ref a :: us) _ Q (ES σ) (hr.mono hj) I2.env0 hbb r2 q2) fun r s' hq => ?_
  rcases r with e | (_ | _ | _ | u)
  · exact hx σ pins H2 s2 e s' I2 hq
  · exact False.elim hq
  · exact False.elim hq
  · exact False.elim hq
  · exact I2.after hq
def tCallOK (C : Addr) (sp : Sp) (gV : List V → List V → List V) (E : L2.St → XK) (n : Nat) (tf : TE) (tk : TA) : TE := fun σ H Q => tf σ H fun y H1 => ∃ a, y = V.ref a ∧ tk σ H1 fun zs H2 => zs.length = n ∧ (∃ dx fs, H2 a = some (.ins C dx fs)) ∧ sp (gV [V.ref a] zs) H2 Q (E σ)
theorem pe_callOK {ES : L2.St → XK} (hf : PE X fe tf) (c : CallC X.prog X.w X.K X.mg X.base CX k qual C st ps sp) (hr : Room j X.A) (hj : k ≤ j) (hx : ∀ σ, PassesAt CX X σ (ES σ)) (hm : ks.length = m)
    (h : ∀ (kV doc pv : Value) (an : Option Addr) (cdv ct : Value) (us ws : List Value), us.length = 1 → ws.length = m → bindArgs (PySem.W.fnOf "__call__" qual (defArgs st) (defBody st) (defScope st) .none kV doc pv an cdv ct) ⟨us, ks.zip ws⟩ = pure (ps.zip (pm.filterMap fun i => (us ++ ws)[i]?)))
    (hkw : PK X kws tk)
    (ht : eval (.Call fe [] kws pos) X.env = (do callWith pos (← eval fe X.env) [] (backTo pos (starEach [] X.env)) (backToKw pos (keywordEach kws X.env))) := by rfl)
    (hall : (backToKw pos (keywordEach kws X.env)).all (·.1.isSome) = true := by rfl) (hks : (backToKw pos (keywordEach kws X.env)).filterMap (·.1) = ks := by rfl)
    (hn : ((backTo pos (starEach [] X.env)).any (·.1) || (backToKw pos (keywordEach kws X.env)).any (·.1.isNone)) = false := by rfl) :
    PE X (.Call fe [] kws pos) (tCallOK C sp (permG 1 m pm) ES m tf tk) := by
  obtain ⟨g, fd, h1, h2, h3, Ff, F, b⟩ := c.ex
  refine ⟨fun pins s σ H Q I h0 => ?_⟩
  refine Call_kw (thn (hf.run pins s σ H _ I h0) fun u s1 ⟨y, H1, I1, ry, a, ey, q⟩ => ?_) ht
  subst ey
  obtain rfl : u = Value.ref a := ry
  refine callO_kw hn (PyProof.Rows.evalArgs_kw2_nil hall (thn (hkw.run pos pins s1 σ H1 _ I1 q) fun ws s2 ⟨zs, H2, I2, rz, hz, ⟨dx, fs, hi⟩, q2⟩ => ?_))
  obtain ⟨ox, od, J, hd⟩ := ins_at I2 hi
  refine ⟨⟨C, ox, od, J, hd⟩, wpAny_call (PySem.W.kco_code I2.kIn J hd h1 h2 h3 ?_)⟩
  have kb := kbn_of (n := 1) (m := m) (pm := pm) (ks := ks) Ff hm h
  rw [hks]
  have r1 : Vals [V.ref a] [Value.ref a] := .cons rfl .nil
  refine codeAny_mono (F.run X.A X.stack s2 H2 ⟨[Value.ref a], ks.zip ws⟩ _ _ Q (ES σ) (hr.mono hj) I2.env0 (kb.to _ [Value.ref a] ws I2.kIn rfl (by rw [← rz.length, hz, hm])) (kb.rel r1 rz) q2) fun r s' hq => ?_
  rcases r with e | (_ | _ | _ | u)
  · exact hx σ pins H2 s2 e s' I2 hq
  · exact False.elim hq
  · exact False.elim hq
  · exact False.elim hq
  · exact I2.after hq
theorem pe_oS (hf : PE X fe tf) (c : CallC X.prog X.w X.K X.mg X.base (L2.CX X.prog X.w) k qual C st ps sp) (hr : Room j X.A) (hj : k ≤ j) (tw : Takes X W) (ha : PA X (e :: es) t)
    (ht : eval (.Call fe (e :: es) [] pos) X.env = (do callWith pos (← eval fe X.env) [] (backTo pos (starEach (e :: es) X.env)) (backToKw pos (keywordEach [] X.env))) := by rfl)
    (he : starEach (e :: es) X.env = (false, eval e X.env) :: starEach es X.env := by rfl) (hpl : (backTo pos (starEach es X.env)).any (·.1) = false := by rfl) : PE X (.Call fe (e :: es) [] pos) (tCallOS C sp (WE W) tf t) :=
  pe_callOS hf c hr hj (fun σ => passAt tw σ) ha ht he hpl
theorem pe_oK (hf : PE X fe tf) (c : CallC X.prog X.w X.K X.mg X.base (L2.CX X.prog X.w) k qual C st ps sp) (hr : Room j X.A) (hj : k ≤ j) (tw : Takes X W) (hm : ks.length = m)
    (h : ∀ (kV doc pv : Value) (an : Option Addr) (cdv ct : Value) (us ws : List Value), us.length = 1 → ws.length = m → bindArgs (PySem.W.fnOf "__call__" qual (defArgs st) (defBody st) (defScope st) .none kV doc pv an cdv ct) ⟨us, ks.zip ws⟩ = pure (ps.zip (pm.filterMap fun i => (us ++ ws)[i]?)))
    (hkw : PK X kws tk)
    (ht : eval (.Call fe [] kws pos) X.env = (do callWith pos (← eval fe X.env) [] (backTo pos (starEach [] X.env)) (backToKw pos (keywordEach kws X.env))) := by rfl)
    (hall : (backToKw pos (keywordEach kws X.env)).all (·.1.isSome) = true := by rfl) (hks : (backToKw pos (keywordEach kws X.env)).filterMap (·.1) = ks := by rfl)
    (hn : ((backTo pos (starEach [] X.env)).any (·.1) || (backToKw pos (keywordEach kws X.env)).any (·.1.isNone)) = false := by rfl) :
    PE X (.Call fe [] kws pos) (tCallOK C sp (permG 1 m pm) (WE W) m tf tk) :=
  pe_callOK hf c hr hj (fun σ => passAt tw σ) hm h hkw ht hall hks hn
end
section
variable {K : PySem.W.Frag} {W : WX} {X : XD} {μ : Mu} {ρ : Ro} {Φ : DP} {C : Addr} {n m a b : Nat} {pm : List Nat} {P : PD} {tf : TE} {t tk : TA}
theorem ref_of {C' : Addr} {x : D} {v : V} {H : Hp} {fs : List Str} {es : List D} (m : Mem K μ H) (hx : ObjD μ x C' fs es) (dv : Den K μ H x v) : ∃ p, v = .ref p := by
  obtain ⟨p, _, _, e, _⟩ := hx.hp m dv
  exact ⟨p, e⟩
theorem evx_oS (h : EvX K W X μ ρ tf fun μ0 x => (∃ C' fs es, ObjD μ0 x C' fs es) ∧ EvL K W X μ0 ρ t fun μ1 ds => (∃ fs es, ObjD μ1 x C fs es) ∧ ds.length + 1 = n ∧ P μ1 (x :: ds) Φ fun μ' A d => X μ' ρ A d) : EvX K W X μ ρ (tCallOS C (spD K n P) (WE W) tf t) Φ := fun σ H Q m0 e l k =>
  h σ H _ m0 e l fun μ1 x v H1 ⟨⟨C', fs', es', ho⟩, h1⟩ g1 m1 d1 => by
    obtain ⟨p, e1⟩ := ref_of m1 ho d1
    refine ⟨p, e1, h1 σ H1 _ m1 (e.grow g1) (l.grow g1) fun μ2 ds vs H2 ⟨⟨fs, es, ho2⟩, hl, hp⟩ g2 m2 d2 => ?_⟩
    subst e1
    have dx := Den.grow g2 _ _ d1
    obtain ⟨p', dx', gs, e2, hi⟩ := obj_at m2 ho2 dx
    cases e2
    have gg := g1.trans g2
    exact ⟨⟨dx', gs, hi⟩, μ2, x :: ds, Φ, _, m2, DenL.cons dx d2, by rw [List.length_cons]; exact hl, hp, fun μ' d v H' p g => k μ' d v H' p (gg.trans g), fun μ' A d dx v H' p g mm => l μ' ρ A d dx v σ H' p (gg.trans g) mm ((e.grow gg).grow g)⟩
theorem evx_oK (h : EvX K W X μ ρ tf fun μ0 x => (∃ C' fs es, ObjD μ0 x C' fs es) ∧ EvL K W X μ0 ρ tk fun μ1 ds => ds.length = m ∧ (∃ fs es, ObjD μ1 x C fs es) ∧ (permG a b pm [x] ds).length = n ∧ P μ1 (permG a b pm [x] ds) Φ fun μ' A d => X μ' ρ A d) : EvX K W X μ ρ (tCallOK C (spD K n P) (permG a b pm) (WE W) m tf tk) Φ := fun σ H Q m0 e l k =>
  h σ H _ m0 e l fun μ1 x v H1 ⟨⟨C', fs', es', ho⟩, h1⟩ g1 m1 d1 => by
    obtain ⟨p, e1⟩ := ref_of m1 ho d1
    refine ⟨p, e1, h1 σ H1 _ m1 (e.grow g1) (l.grow g1) fun μ2 ds vs H2 ⟨hm, ⟨fs, es, ho2⟩, hl, hp⟩ g2 m2 d2 => ?_⟩
    subst e1
    have dx := Den.grow g2 _ _ d1
    obtain ⟨p', dx', gs, e2, hi⟩ := obj_at m2 ho2 dx
    cases e2
    have gg := g1.trans g2
    exact ⟨by rw [← d2.length]; exact hm, ⟨dx', gs, hi⟩, μ2, _, Φ, _, m2, permG_den (DenL.cons dx DenL.nil) d2, hl, hp, fun μ' d v H' p g => k μ' d v H' p (gg.trans g), fun μ' A d dx v H' p g mm => l μ' ρ A d dx v σ H' p (gg.trans g) mm ((e.grow gg).grow g)⟩
end
section
variable {K : PySem.W.Frag} {μ : Mu} {x y : D} {Φ : DP} {xs ys : List D}
/-- [..] * n, a list that will change -/
theorem opx_repM {n : Int} (hx : Real μ x xs) (h1 : -(2 ^ 63) ≤ n) (h2 : n < 2 ^ 63) (hl : xs.length * n.toNat ≤ 1000000) (h : ∀ p, μ p = none → Φ (mput μ p (.lst (List.replicate n.toNat xs).flatten)) (.at p)) : OpX K rRep μ x (.int n) Φ := fun H v w Q m a b k => by
  obtain ⟨p, us, e1, q1, b1⟩ := hx.hp m a
  subst e1
  unfold Den at b
  exact ⟨p, n, us, rfl, b, q1, h1, h2, by rw [← b1.length]; exact Nat.le_trans hl (by decide), fun p' hp => k _ _ _ _ (h p' (m.free hp)) (Grow.newM hp) (m.newM hp ⟨_, upd_same, DenL.grow (Grow.newM hp) _ _ (b1.rep _)⟩) (by unfold Den; rfl)⟩
/-- xs + ys, a list that will change -/
theorem opx_catM (hx : Real μ x xs) (hy : Real μ y ys) (hl : xs.length + ys.length ≤ 1000000) (h : ∀ p, μ p = none → Φ (mput μ p (.lst (xs ++ ys))) (.at p)) : OpX K rCat μ x y Φ := fun H v w Q m a b k => by
  obtain ⟨p, us, e1, q1, b1⟩ := hx.hp m a
  obtain ⟨p2, us2, e2, q2, b2⟩ := hy.hp m b
  subst e1 e2
  exact ⟨p, p2, us, us2, rfl, rfl, q1, q2, by rw [← b1.length, ← b2.length]; exact Nat.le_trans hl (by decide), fun p' hp => k _ _ _ _ (h p' (m.free hp)) (Grow.newM hp) (m.newM hp ⟨_, upd_same, DenL.grow (Grow.newM hp) _ _ (b1.append b2)⟩) (by unfold Den; rfl)⟩
end
theorem rep_flat {α : Type} (n : Nat) (x : α) : (List.replicate n [x]).flatten = List.replicate n x := by
  induction n with
  | zero => rfl
  | succ n ih => rw [List.replicate_succ, List.flatten_cons, ih, List.replicate_succ]; rfl
theorem mcut_put {μ : Mu} {p : Addr} {o : MO} (h : μ p = none) : mcut (mput μ p o) p = μ := by
  funext b
  by_cases hb : b = p
  · subst hb; rw [mcut_same, h]
  · rw [mcut_ne hb, mput_ne hb]
theorem mput_put {μ : Mu} {p : Addr} {o o' : MO} : mput (mput μ p o) p o' = mput μ p o' := by
  funext b
  by_cases hb : b = p
  · subst hb; rw [mput_same, mput_same]
  · rw [mput_ne hb, mput_ne hb, mput_ne hb]
/-! ### a def that may raise, where it raises nothing -/
section
variable {P : Program} {w : World} {K : PySem.W.Frag} {mg : Str → Option Value} {base : Heap} {k n : Nat} {f C : Addr} {fd : FuncData} {ps : List Str} {Pd P0 : PD} {x qual m : Str} {st : Stmt}
theorem fnX_0 (F : FnOk P w K mg base (L2.CX P w) k f fd ps (spD K n Pd)) (h : ∀ μ ds post exc, P0 μ ds post exc → Pd μ ds post excN) : FnOk P w K mg base CX0 k f fd ps (spD K n P0) := by
  have key : ∀ vs H Q E, spD K n P0 vs H Q E → spD K n Pd vs H Q fun _ _ _ => False := fun vs H Q E ⟨μ, ds, post, exc, m, d, hl, hp, h1, _⟩ => ⟨μ, ds, post, excN, m, d, hl, h _ _ _ _ hp, h1, fun _ _ _ _ _ _ z => z.elim⟩
  refine ⟨fun vs H Q E hs => F.len _ _ _ _ (key vs H Q E hs), fun A outer s H args us vs Q E hr he hb hv hs => ?_⟩
  refine codeAny_mono (F.run A outer s H args us vs Q _ hr he hb hv (key vs H Q E hs)) fun r s' hq => ?_
  cases r with
  | error e =>
    obtain ⟨_, _, _, _, _, _, _, _, _, _, _, _, hE⟩ := hq
    exact hE.elim
  | ok fl => cases fl <;> exact hq
theorem Cal.to0 (c : Cal P w K mg base (L2.CX P w) k x st ps (spD K n Pd)) (h : ∀ μ ds post exc, P0 μ ds post exc → Pd μ ds post excN) : Cal P w K mg base CX0 k x st ps (spD K n P0) := by
  obtain ⟨f, fd, h1, F, G, b⟩ := c.ex
  exact ⟨f, fd, h1, F, fnX_0 G h, b⟩
theorem MkC.to0 (c : MkC P w K mg base (L2.CX P w) k x qual C st ps (spD K n Pd)) (h : ∀ μ ds post exc, P0 μ ds post exc → Pd μ ds post excN) : MkC P w K mg base CX0 k x qual C st ps (spD K n P0) := by
  obtain ⟨f, fd, h1, M, F, G, b⟩ := c.ex
  exact ⟨f, fd, h1, M, F, fnX_0 G h, b⟩
theorem Met.to0 (c : Met P w K mg base (L2.CX P w) k C m ps (spD K n Pd)) (h : ∀ μ ds post exc, P0 μ ds post exc → Pd μ ds post excN) : Met P w K mg base CX0 k C m ps (spD K n P0) := by
  obtain ⟨f, fd, h1, h2, h3, G, b⟩ := c.ex
  exact ⟨f, fd, h1, h2, h3, fnX_0 G h, b⟩
theorem CallC.to0 (c : CallC P w K mg base (L2.CX P w) k qual C st ps (spD K n Pd)) (h : ∀ μ ds post exc, P0 μ ds post exc → Pd μ ds post excN) : CallC P w K mg base CX0 k qual C st ps (spD K n P0) := by
  obtain ⟨f, fd, h1, h2, h3, F, G, b⟩ := c.ex
  exact ⟨f, fd, h1, h2, h3, F, fnX_0 G h, b⟩
end
section
variable {X : Cx} {k j m : Nat} {C : Addr} {qual : Str} {st : Stmt} {ps ks : List Str} {sp : Sp} {fe : Expr} {pos : Pos} {e : Expr} {es : List Expr} {tf : TE} {t tk : TA} {kws : List Keyword} {pm : List Nat}
/-- o(e, ..), no error leaves it -/
theorem pe_o0 (hf : PE X fe tf) (c : CallC X.prog X.w X.K X.mg X.base CX0 k qual C st ps sp) (hr : Room j X.A) (hj : k ≤ j) (ha : PA X (e :: es) t)
    (ht : eval (.Call fe (e :: es) [] pos) X.env = (do callWith pos (← eval fe X.env) [] (backTo pos (starEach (e :: es) X.env)) (backToKw pos (keywordEach [] X.env))) := by rfl)
    (he : starEach (e :: es) X.env = (false, eval e X.env) :: starEach es X.env := by rfl) (hpl : (backTo pos (starEach es X.env)).any (·.1) = false := by rfl) : PE X (.Call fe (e :: es) [] pos) (tCallOS C sp (fun _ => E0) tf t) :=
  pe_callOS hf c hr hj (fun σ pins H s e s' I q => q.elim) ha ht he hpl
theorem pe_oK0 (hf : PE X fe tf) (c : CallC X.prog X.w X.K X.mg X.base CX0 k qual C st ps sp) (hr : Room j X.A) (hj : k ≤ j) (hm : ks.length = m)
    (h : ∀ (kV doc pv : Value) (an : Option Addr) (cdv ct : Value) (us ws : List Value), us.length = 1 → ws.length = m → bindArgs (PySem.W.fnOf "__call__" qual (defArgs st) (defBody st) (defScope st) .none kV doc pv an cdv ct) ⟨us, ks.zip ws⟩ = pure (ps.zip (pm.filterMap fun i => (us ++ ws)[i]?)))
    (hkw : PK X kws tk)
    (ht : eval (.Call fe [] kws pos) X.env = (do callWith pos (← eval fe X.env) [] (backTo pos (starEach [] X.env)) (backToKw pos (keywordEach kws X.env))) := by rfl)
    (hall : (backToKw pos (keywordEach kws X.env)).all (·.1.isSome) = true := by rfl) (hks : (backToKw pos (keywordEach kws X.env)).filterMap (·.1) = ks := by rfl)
    (hn : ((backTo pos (starEach [] X.env)).any (·.1) || (backToKw pos (keywordEach kws X.env)).any (·.1.isNone)) = false := by rfl) :
    PE X (.Call fe [] kws pos) (tCallOK C sp (permG 1 m pm) (fun _ => E0) m tf tk) :=
  pe_callOK hf c hr hj (fun σ pins H s e s' I q => q.elim) hm h hkw ht hall hks hn
end
section
variable {K : PySem.W.Frag} {W : WX} {X : XD} {μ : Mu} {ρ : Ro} {Φ : DP} {C : Addr} {n m a b : Nat} {pm : List Nat} {P : PD} {tf : TE} {t tk : TA}
theorem evx_o0 (h : EvX K W X μ ρ tf fun μ0 x => (∃ C' fs es, ObjD μ0 x C' fs es) ∧ EvL K W X μ0 ρ t fun μ1 ds => (∃ fs es, ObjD μ1 x C fs es) ∧ ds.length + 1 = n ∧ P μ1 (x :: ds) Φ excN) : EvX K W X μ ρ (tCallOS C (spD K n P) (fun _ => E0) tf t) Φ := fun σ H Q m0 e l k =>
  h σ H _ m0 e l fun μ1 x v H1 ⟨⟨C', fs', es', ho⟩, h1⟩ g1 m1 d1 => by
    obtain ⟨p, e1⟩ := ref_of m1 ho d1
    refine ⟨p, e1, h1 σ H1 _ m1 (e.grow g1) (l.grow g1) fun μ2 ds vs H2 ⟨⟨fs, es, ho2⟩, hl, hp⟩ g2 m2 d2 => ?_⟩
    subst e1
    have dx := Den.grow g2 _ _ d1
    obtain ⟨p', dx', gs, e2, hi⟩ := obj_at m2 ho2 dx
    cases e2
    have gg := g1.trans g2
    exact ⟨⟨dx', gs, hi⟩, μ2, x :: ds, Φ, _, m2, DenL.cons dx d2, by rw [List.length_cons]; exact hl, hp, fun μ' d v H' p g => k μ' d v H' p (gg.trans g), fun _ _ _ _ _ _ z => z.elim⟩
theorem evx_oK0 (h : EvX K W X μ ρ tf fun μ0 x => (∃ C' fs es, ObjD μ0 x C' fs es) ∧ EvL K W X μ0 ρ tk fun μ1 ds => ds.length = m ∧ (∃ fs es, ObjD μ1 x C fs es) ∧ (permG a b pm [x] ds).length = n ∧ P μ1 (permG a b pm [x] ds) Φ excN) : EvX K W X μ ρ (tCallOK C (spD K n P) (permG a b pm) (fun _ => E0) m tf tk) Φ := fun σ H Q m0 e l k =>
  h σ H _ m0 e l fun μ1 x v H1 ⟨⟨C', fs', es', ho⟩, h1⟩ g1 m1 d1 => by
    obtain ⟨p, e1⟩ := ref_of m1 ho d1
    refine ⟨p, e1, h1 σ H1 _ m1 (e.grow g1) (l.grow g1) fun μ2 ds vs H2 ⟨hm, ⟨fs, es, ho2⟩, hl, hp⟩ g2 m2 d2 => ?_⟩
    subst e1
    have dx := Den.grow g2 _ _ d1
    obtain ⟨p', dx', gs, e2, hi⟩ := obj_at m2 ho2 dx
    cases e2
    have gg := g1.trans g2
    exact ⟨by rw [← d2.length]; exact hm, ⟨dx', gs, hi⟩, μ2, _, Φ, _, m2, permG_den (DenL.cons dx DenL.nil) d2, hl, hp, fun μ' d v H' p g => k μ' d v H' p (gg.trans g), fun _ _ _ _ _ _ z => z.elim⟩
end
/-! ### text * int -/
def rMulS : R2 := fun x y H Q => ∃ a n, x = .str a ∧ y = .int n ∧ MulOk a n ∧ Q (.str (Txt.mul a n)) H
theorem op_mulS {X : Cx} : OpR X (binaryOp .Mult) rMulS := by
  intro pins s σ H x y v u Q I rx ry h
  obtain ⟨a, n, rfl, rfl, hz, q⟩ := h
  obtain ⟨t, rfl⟩ := rx
  obtain ⟨t', rfl⟩ := ry
  exact SB.mul hz fun t' tk => ⟨.str _, H, I.tok _, ⟨_, rfl⟩, q⟩
theorem mulOk {a : Str} {n : Int} (h0 : 0 ≤ n) (h1 : n ≤ 10000) (h2 : a.length ≤ 1000) : MulOk a n := by
  refine ⟨?_, fun h _ => ?_, fun h _ => ?_⟩
  · rw [Bool.or_eq_false_iff, decide_eq_false_iff_not, decide_eq_false_iff_not]
    omega
  · have h3 : (1000 : Int) ≤ (2 ^ 63 - 1) / n := by
      rw [Int.le_ediv_iff_mul_le (by omega)]
      omega
    omega
  · have h3 : a.length * n.toNat ≤ 1000 * 10000 := Nat.mul_le_mul h2 (by omega)
    unfold Builtin.Str.tooLong
    rw [decide_eq_false_iff_not]
    have e : sizeLine = 16777216 := by decide
    omega
theorem fold_app (z : Array Nat) : ∀ (n : Nat) (acc : Array Nat), ((List.replicate n z).foldl (· ++ ·) acc).toList = acc.toList ++ (List.replicate n z.toList).flatten
  | 0, acc => by simp
  | n + 1, acc => by
    rw [List.replicate_succ, List.foldl_cons, fold_app z n, List.replicate_succ, List.flatten_cons, Array.toList_append, List.append_assoc]
theorem mul_cps {a : Str} {n : Int} (h0 : 0 ≤ n) : (Txt.mul a n).cps.toList = (List.replicate n.toNat a.cps.toList).flatten := by
  unfold Txt.mul
  by_cases h1 : n < 1
  · rw [if_pos h1]
    have : n.toNat = 0 := by omega
    rw [this]; rfl
  · rw [if_neg h1]
    by_cases h2 : (n == 1 || a.length == 0) = true
    · rw [if_pos h2]
      rw [Bool.or_eq_true, beq_iff_eq, beq_iff_eq] at h2
      rcases h2 with h2 | h2
      · subst h2
        show a.cps.toList = (List.replicate 1 a.cps.toList).flatten
        simp
      · have : a.cps.toList = [] := List.eq_nil_of_length_eq_zero (by rw [Array.length_toList]; exact h2)
        rw [this]
        generalize n.toNat = k
        induction k with
        | zero => rfl
        | succ k ih => rw [List.replicate_succ, List.flatten_cons, ← ih]; rfl
    · rw [if_neg h2]
      have := fold_app a.cps n.toNat #[]
      simpa using this
section
variable {K : PySem.W.Frag} {μ : Mu} {x y : D} {Φ : DP} {xs ys : List D}
theorem opx_mulS {a : Str} {n : Int} (h0 : 0 ≤ n) (h1 : n ≤ 10000) (h2 : a.length ≤ 1000) (h : Φ μ (.str (Txt.mul a n))) : OpX K rMulS μ (.str a) (.int n) Φ := fun H v w Q m p q k => by
  unfold Den at p q
  exact ⟨a, n, p, q, mulOk h0 h1 h2, k μ _ _ H h (Grow.refl _ _) m (by unfold Den; rfl)⟩
/-- a tuple + a tuple -/
theorem opx_catT {x1 : D} (hl : (x1 :: xs).length + ys.length ≤ 1000000) (h : Φ μ (.tup ((x1 :: xs) ++ ys))) : OpX K (rCatT K) μ (.tup (x1 :: xs)) (.tup ys) Φ := fun H v w Q m a b k => by
  unfold Den at a b
  obtain ⟨p, us, e1, s1, b1⟩ := a
  obtain ⟨q, ws, e2, s2, b2⟩ := b
  subst e1 e2
  have l1 := b1.length
  have l2 := b2.length
  refine ⟨p, q, us, ws, rfl, rfl, s1.sq, s2.sq, ?_, by rw [← l1, ← l2]; exact Nat.le_trans hl (by decide), fun hy => ?_, fun _ p' hp => ?_⟩
  · intro z
    rw [z] at l1
    exact nomatch l1
  · subst hy
    have : ys = [] := List.eq_nil_of_length_eq_zero l2
    subst this
    rw [List.append_nil] at h
    exact k μ _ _ H h (Grow.refl _ _) m (by unfold Den; exact ⟨p, us, rfl, s1, b1⟩)
  · exact k μ _ _ _ h (Grow.new hp) (m.new hp) (by
      unfold Den
      exact ⟨p', _, rfl, .inl ⟨m.free hp, .inl upd_same⟩, DenL.grow (Grow.new hp) _ _ (b1.append b2)⟩)
/-- min of three -/
theorem cax_min3 {i j l : Int} (h : Φ μ (.int (if l < (if j < i then j else i) then l else (if j < i then j else i)))) : CaX K (rNuC3 nuMin3) μ [.int i, .int j, .int l] Φ := fun H vs Q m d k => by
  unfold DenL at d
  obtain ⟨v, ws, e, a, b⟩ := d
  obtain ⟨v2, v3, e2, a2, a3⟩ := denL2 b
  unfold Den at a a2 a3
  subst a a2 a3 e2 e
  refine ⟨_, _, _, .int (if l < (if j < i then j else i) then l else (if j < i then j else i)), rfl, ?_, k μ _ _ H h (Grow.refl _ _) m (by unfold Den; rfl)⟩
  unfold nuMin3 nuMin2 nuLt nuCB
  by_cases h1 : j < i
  · by_cases h2 : l < j
    · simp [h1, h2]
    · simp [h1, h2]
  · by_cases h2 : l < i
    · simp [h1, h2]
    · simp [h1, h2]
end
/-! ### sorted of data -/
def rSortedD (K : PySem.W.Frag) : List V → Hp → VK → Prop := fun xs H Q => ∃ (a : Addr) (vs : List V) (ds : List PyData), xs = [.ref a] ∧ SqL K H a vs ∧ DpAll K H vs ds ∧ PySem.W.AllAlike ds ∧ PySem.W.Sortable ds ∧ (∀ d ∈ ds, d.depth ≤ 60) ∧
  ∀ p, H p = none → Q (.ref p) (upd H p (.lst (((vs.zip ds).mergeSort (PySem.W.dataLe false Prod.snd)).map Prod.fst)))
theorem each_zip {K : PySem.W.Frag} {H : Hp} : ∀ {vs : List V} {us : List Value} {ds : List PyData}, Vals vs us → DpAll K H vs ds → PySem.W.EachIs (fun (u : Value) (b : V × PyData) => RelV b.1 u) us (vs.zip ds) ∧ (vs.zip ds).map Prod.snd = ds ∧ (vs.zip ds).map Prod.fst = vs
  | _, _, _, .nil, .nil => ⟨.nil, rfl, rfl⟩
  | _, _, _, .cons r rs, .cons d dd => by
    obtain ⟨h1, h2, h3⟩ := each_zip rs dd
    exact ⟨.cons r h1, by rw [List.zip_cons_cons, List.map_cons, h2], by rw [List.zip_cons_cons, List.map_cons, h3]⟩
theorem each_reads {X : Cx} {pins : List (Addr × Obj)} {σ : L2.St} {H : Hp} {s : Shared} (I : L2.Inv X pins σ H s) : ∀ {vs : List V} {us : List Value} {ds : List PyData}, Vals vs us → DpAll X.K H vs ds → PySem.W.EachIs (fun (u : Value) (b : V × PyData) => ∃ as, Reads s.heap u b.2 as) us (vs.zip ds)
  | _, _, _, .nil, .nil => .nil
  | _, _, _, .cons r rs, .cons d dd => .cons (Dp.reads I _ _ _ d r) (each_reads I rs dd)
theorem each_vals : ∀ {us : List Value} {bs : List (V × PyData)}, PySem.W.EachIs (fun (u : Value) (b : V × PyData) => RelV b.1 u) us bs → Vals (bs.map Prod.fst) us
  | _, _, .nil => .nil
  | _, _, .cons r rs => .cons r (each_vals rs)
theorem cr_sortedD {X : Cx} (hu : X.A.units + 64 < cLine) : CallR X (.builtin "sorted") (rSortedD X.K) := by
  intro pins s σ H xs us Q I rx h
  obtain ⟨a, vs, ds, rfl, hs, hd, ha, hso, hdep, q⟩ := h
  obtain ⟨u, rfl, r⟩ := vals1 rx
  obtain rfl : u = Value.ref a := r
  obtain ⟨its, rv, ⟨o, n, g1, g2, g3, g4⟩, hl⟩ := I.list hs
  obtain ⟨e1, e2, e3⟩ := each_zip rv hd
  have e4 := each_reads I rv hd
  refine PySem.W.sorted_data (vs := its) (bs := vs.zip ds) (enc := Prod.snd) (R := fun u b => RelV b.1 u) ⟨o, g1, g2, n, g4⟩ e1 e4 (by rw [e2]; exact ha) (by rw [e2]; exact hso) ?_ (fun b hb => ?_) fun out hlen he => ?_
  · have e := congrArg List.length e3
    rw [List.length_map] at e
    rw [e]; exact hl
  · have : b.2 ∈ ds := by rw [← e2]; exact List.mem_map.mpr ⟨b, hb, rfl⟩
    have := hdep _ this
    show X.A.units + 2 + _ < cLine
    omega
  · have hv := each_vals he
    have hf : H (s.heap.objs.size + 1) = none := by
      cases hx : H (s.heap.objs.size + 1) with
      | none => rfl
      | some o => exact absurd (I.hok.lt hx) (Nat.not_lt.mpr (Nat.le_succ _))
    refine ⟨.ref (s.heap.objs.size + 1), _, I.laid (fun b u hb => sortedAll_old hb) (Nat.le_succ _) (o := .lst _) ?_, rfl, q _ hf⟩
    obtain ⟨e, he⟩ := sortedAll_at s.heap its out.toArray
    unfold ObjOk
    refine ⟨?_, out, e, hv, he⟩
    rw [List.length_map, List.length_mergeSort]
    have e := congrArg List.length e3
    rw [List.length_map] at e
    rw [e]; exact hl
section
variable {K : PySem.W.Frag} {W : WX} {X : XD} {μ μ' : Mu} {H H' : Hp} {Φ : DP} {x : D} {ds : List D}
theorem dps_of {pd : D → PyData} : ∀ {ds : List D} {vs : List V}, (∀ d ∈ ds, ∀ v, Den K μ H d v → Dp K H v (pd d)) → DenL K μ H ds vs → DpAll K H vs (ds.map pd)
  | [], vs, _, h => by unfold DenL at h; subst h; exact .nil
  | d :: ds, vs, hp, h => by
    unfold DenL at h
    obtain ⟨w, ws, e, a, b⟩ := h
    subst e
    exact .cons (hp d (List.mem_cons_self ..) w a) (dps_of (fun e he => hp e (List.mem_cons_of_mem _ he)) b)
theorem zip_maps {pd : D → PyData} : ∀ {ds : List D} {vs : List V}, DenL K μ H ds vs → vs.zip (ds.map pd) = (vs.zip ds).map (fun t => (t.1, pd t.2)) ∧ (vs.zip ds).map Prod.snd = ds ∧ ∀ t ∈ vs.zip ds, Den K μ H t.2 t.1
  | [], vs, h => by unfold DenL at h; subst h; exact ⟨rfl, rfl, fun _ h => nomatch h⟩
  | d :: ds, vs, h => by
    unfold DenL at h
    obtain ⟨w, ws, e, a, b⟩ := h
    subst e
    obtain ⟨h1, h2, h3⟩ := zip_maps (pd := pd) b
    refine ⟨by rw [List.map_cons, List.zip_cons_cons, List.zip_cons_cons, List.map_cons, h1], by rw [List.zip_cons_cons, List.map_cons, h2], fun t ht => ?_⟩
    rw [List.zip_cons_cons] at ht
    rcases List.mem_cons.mp ht with rfl | ht
    · exact a
    · exact h3 t ht
theorem denL_ts : ∀ {ts : List (V × D)}, (∀ t ∈ ts, Den K μ H t.2 t.1) → DenL K μ H (ts.map Prod.snd) (ts.map Prod.fst)
  | [], _ => by unfold DenL; rfl
  | t :: ts, h => by
    rw [List.map_cons, List.map_cons]
    exact DenL.cons (h t (List.mem_cons_self ..)) (denL_ts fun e he => h e (List.mem_cons_of_mem _ he))
/-- the sorted list -/
def sortD (pd : D → PyData) (ds : List D) : List D := ds.mergeSort (PySem.W.dataLe false pd)
theorem sort_den {pd : D → PyData} {ds : List D} {vs : List V} (h : DenL K μ H ds vs) : DenL K μ H (sortD pd ds) (((vs.zip (ds.map pd)).mergeSort (PySem.W.dataLe false Prod.snd)).map Prod.fst) := by
  obtain ⟨h1, h2, h3⟩ := zip_maps (pd := pd) h
  have e1 : (vs.zip (ds.map pd)).mergeSort (PySem.W.dataLe false Prod.snd) = ((vs.zip ds).mergeSort (fun a b => PySem.W.dataLe false pd a.2 b.2)).map (fun t => (t.1, pd t.2)) := by
    rw [h1]
    exact (PySem.W.sort_maps (r := fun a b => PySem.W.dataLe false pd a.2 b.2) (s := PySem.W.dataLe false Prod.snd) (fun t : V × D => (t.1, pd t.2)) fun a _ b _ => rfl).symm
  have e2 : sortD pd ds = ((vs.zip ds).mergeSort (fun a b => PySem.W.dataLe false pd a.2 b.2)).map Prod.snd := by
    unfold sortD
    conv => lhs; rw [← h2]
    exact (PySem.W.sort_maps (r := fun a b => PySem.W.dataLe false pd a.2 b.2) (s := PySem.W.dataLe false pd) (Prod.snd : V × D → D) fun a _ b _ => rfl).symm
  rw [e1, e2, List.map_map]
  exact denL_ts fun t ht => h3 t (List.mem_mergeSort.mp ht)
theorem cax_sortedD {S : Mu → Prop} (pd : D → PyData) (hd : IsL μ x ds S) (hp : ∀ d ∈ ds, ∀ H v, Mem K μ H → Den K μ H d v → Dp K H v (pd d)) (ha : PySem.W.AllAlike (ds.map pd)) (hs : PySem.W.Sortable (ds.map pd)) (hdep : ∀ d ∈ ds, (pd d).depth ≤ 60) (h : Φ μ (.lst (sortD pd ds))) : CaX K (rSortedD K) μ [x] Φ := fun H vs Q m d k => by
  obtain ⟨v, e, a⟩ := denL1 d
  obtain ⟨p, us, e2, sq, b⟩ := isL_sq m hd a
  subst e2
  exact ⟨p, us, ds.map pd, e, sq, dps_of (fun d hd v hv => hp d hd H v m hv) b, ha, hs, fun d hd => by
    obtain ⟨y, hy, rfl⟩ := List.mem_map.mp hd
    exact hdep y hy, fun l hl => k _ _ _ _ h (Grow.new hl) (m.new hl) (by
    unfold Den
    exact ⟨l, _, rfl, ⟨m.free hl, upd_same⟩, DenL.grow (Grow.new hl) _ _ (sort_den b)⟩)⟩
theorem cax_sortedDM {S : Mu → Prop} (pd : D → PyData) (hd : IsL μ x ds S) (hp : ∀ d ∈ ds, ∀ H v, Mem K μ H → Den K μ H d v → Dp K H v (pd d)) (ha : PySem.W.AllAlike (ds.map pd)) (hs : PySem.W.Sortable (ds.map pd)) (hdep : ∀ d ∈ ds, (pd d).depth ≤ 60) (h : ∀ l, μ l = none → Φ (mput μ l (.lst (sortD pd ds))) (.at l)) : CaX K (rSortedD K) μ [x] Φ := fun H vs Q m d k => by
  obtain ⟨v, e, a⟩ := denL1 d
  obtain ⟨p, us, e2, sq, b⟩ := isL_sq m hd a
  subst e2
  exact ⟨p, us, ds.map pd, e, sq, dps_of (fun d hd v hv => hp d hd H v m hv) b, ha, hs, fun d hd => by
    obtain ⟨y, hy, rfl⟩ := List.mem_map.mp hd
    exact hdep y hy, fun l hl => k _ _ _ _ (h l (m.free hl)) (Grow.newM hl) (m.newM hl ⟨_, upd_same, DenL.grow (Grow.newM hl) _ _ (sort_den b)⟩) (by unfold Den; rfl)⟩
end
/-! ### live data seen as it is now -/
def muN : Mu := fun _ => none
mutual
/-- the data with all lists of the store written out, n deep -/
def seeF (μ : Mu) : Nat → D → D
  | 0, d => d
  | n + 1, .at a => match μ a with
    | some (.lst ds) => .lst (seeFs μ n ds)
    | _ => .at a
  | n + 1, .tup ds => .tup (seeFs μ n ds)
  | n + 1, .lst ds => .lst (seeFs μ n ds)
  | _ + 1, d => d
def seeFs (μ : Mu) : Nat → List D → List D
  | _, [] => []
  | n, d :: ds => seeF μ n d :: seeFs μ n ds
end
theorem seeFs_map (μ : Mu) (n : Nat) : ∀ ds : List D, seeFs μ n ds = ds.map (seeF μ n)
  | [] => by cases n <;> (unfold seeFs; rfl)
  | d :: ds => by
    have ih := seeFs_map μ n ds
    cases n <;> (unfold seeFs; rw [ih]; rfl)
section
variable {K : PySem.W.Frag} {μ μ' : Mu} {H H' : Hp} {W : WX} {X : XD} {ρ : Ro} {Φ : DP} {x y : D} {te : TE} {tr tk : TA} {n : Nat} {P : PD}
theorem less_muN : Less μ muN := fun _ _ => rfl
theorem mem_muN : Mem K muN H := fun a o h => nomatch h
theorem den_seeF (m : Mem K μ H) : ∀ (n : Nat), (∀ (d : D) (v : V), Den K μ H d v → Den K muN H (seeF μ n d) v) ∧ (∀ (ds : List D) (vs : List V), DenL K μ H ds vs → DenL K muN H (seeFs μ n ds) vs) := by
  intro n
  have step : ∀ n, (∀ (d : D) (v : V), Den K μ H d v → Den K muN H (seeF μ n d) v) → ∀ (ds : List D) (vs : List V), DenL K μ H ds vs → DenL K muN H (seeFs μ n ds) vs := by
    intro n hd ds
    rw [seeFs_map]
    induction ds with
    | nil => intro vs h; unfold DenL at h; subst h; exact .nil
    | cons d ds ih =>
      intro vs h
      unfold DenL at h
      obtain ⟨w, ws, e, a, b⟩ := h
      subst e
      exact .cons (hd d w a) (ih ws b)
  induction n with
  | zero =>
    have h0 : ∀ (d : D) (v : V), Den K μ H d v → Den K muN H (seeF μ 0 d) v := fun d v h => by
      unfold seeF; exact Den.less less_muN _ _ h
    exact ⟨h0, step 0 h0⟩
  | succ n ih =>
    have h1 : ∀ (d : D) (v : V), Den K μ H d v → Den K muN H (seeF μ (n + 1) d) v := by
      intro d v h
      cases d with
      | «at» a =>
        unfold seeF
        cases q : μ a with
        | none => exact Den.less less_muN _ _ h
        | some o =>
          cases o with
          | lst ds =>
            obtain ⟨vs, e, b⟩ := m a _ q
            unfold Den at h
            subst h
            show Den K muN H (.lst (seeFs μ n ds)) _
            unfold Den
            exact ⟨a, vs, rfl, ⟨rfl, e⟩, ih.2 ds vs b⟩
          | dct _ _ => exact Den.less less_muN _ _ h
          | obj _ _ _ => exact Den.less less_muN _ _ h
      | tup ds =>
        unfold seeF
        unfold Den at h ⊢
        obtain ⟨p, vs, e, s, b⟩ := h
        refine ⟨p, vs, e, ?_, ih.2 ds vs b⟩
        rcases s with ⟨a, b⟩ | s
        · exact .inl ⟨rfl, b⟩
        · exact .inr s
      | lst ds =>
        unfold seeF
        unfold Den at h ⊢
        obtain ⟨p, vs, e, s, b⟩ := h
        exact ⟨p, vs, e, ⟨rfl, s.2⟩, ih.2 ds vs b⟩
      | _ => unfold seeF; exact Den.less less_muN _ _ h
    exact ⟨h1, step (n + 1) h1⟩
/-- what a value that stands by itself is -/
def scal : D → Bool
  | .non | .bl _ | .int _ | .str _ | .ty _ => true
  | _ => false
theorem den_scal {d : D} {v : V} (h : scal d = true) (a : Den K μ H d v) : Den K μ' H' d v := by
  cases d <;> first | (unfold Den at a ⊢; exact a) | (simp [scal] at h)
theorem mem_whole (m : Mem K μ H) (g : Grow muN H μ' H') : Mem K μ H' := fun a o h => by
  have gg : Grow μ H μ H' := fun b u hb e => ⟨hb, (g b u rfl e).2⟩
  have q := m a o h
  cases o with
  | lst ds =>
    obtain ⟨vs, e, b⟩ := q
    exact ⟨vs, (g a _ rfl e).2, DenL.grow gg _ _ b⟩
  | dct ks ds =>
    obtain ⟨vs, e, n, b⟩ := q
    exact ⟨vs, (g a _ rfl e).2, n, DenL.grow gg _ _ b⟩
  | obj C fs ds =>
    obtain ⟨dx, vs, e, n, b⟩ := q
    exact ⟨dx, vs, (g a _ rfl e).2, n, DenL.grow gg _ _ b⟩
/-- a call that takes live data as they are now, and answers a value that stands by itself -/
theorem evx_callZ (i : Nat) (h : EvL K W X μ ρ tr fun μ1 ds => ds.length = n ∧ P muN (ds.map (seeF μ1 i)) (fun _ d => scal d = true ∧ Φ μ1 d) excN) : EvX K W X μ ρ (tCall (spD K n P) [] E0 tr) Φ := fun σ H Q m e l k =>
  h σ H _ m e l fun μ1 ds vs H1 ⟨hl, hp⟩ g1 m1 d1 => ⟨muN, ds.map (seeF μ1 i), _, excN, mem_muN, by rw [List.append_nil, ← seeFs_map]; exact (den_seeF m1 i).2 _ _ d1, by rw [List.length_map]; exact hl, hp, fun μ' d v H' ⟨hs, hq⟩ g mm dd =>
    k μ1 d v H' hq (g1.trans fun b u hb e => ⟨hb, (g b u rfl e).2⟩) (mem_whole m1 g) (den_scal hs dd), fun _ _ _ _ _ _ z => z.elim⟩
/-- x != y over live data -/
theorem opx_neZ (i : Nat) (hx : Nice 64 (seeF μ i x)) (hy : Nice 64 (seeF μ i y)) (h : Φ μ (.bl (!eqD (seeF μ i x) (seeF μ i y)))) : OpX K (rOr rNe (rNeD K)) μ x y Φ :=
  opx_r fun H v w Q m a b k => ⟨_, _, den_dp _ _ ((den_seeF m i).1 _ _ a) hx.1, den_dp _ _ ((den_seeF m i).1 _ _ b) hy.1, hx.shaped (Nat.le_refl _), hy.shaped (Nat.le_refl _), k μ _ _ H h (Grow.refl _ _) m (by unfold Den; rfl)⟩
theorem opx_eqZ (i : Nat) (hx : Nice 64 (seeF μ i x)) (hy : Nice 64 (seeF μ i y)) (h : Φ μ (.bl (eqD (seeF μ i x) (seeF μ i y)))) : OpX K (rOr rEq (rEqD K)) μ x y Φ :=
  opx_r fun H v w Q m a b k => ⟨_, _, den_dp _ _ ((den_seeF m i).1 _ _ a) hx.1, den_dp _ _ ((den_seeF m i).1 _ _ b) hy.1, hx.shaped (Nat.le_refl _), hy.shaped (Nat.le_refl _), k μ _ _ H h (Grow.refl _ _) m (by unfold Den; rfl)⟩
theorem dp_seeF (i : Nat) {d : D} {v : V} (m : Mem K μ H) (h : Den K μ H d v) (p : plainD (seeF μ i d) = true) : Dp K H v (toP (seeF μ i d)) := den_dp _ _ ((den_seeF m i).1 _ _ h) p
/-- what is told is looked at otherwise: parts of the store are let go -/
theorem evx_less {Ψ : DP} (h : EvX K W X μ ρ te Ψ) (hq : ∀ μ' d, Ψ μ' d → ∃ μ'' d', Less μ' μ'' ∧ (∀ b o, μ'' b = some o → μ' b = some o) ∧ (∀ H v, Mem K μ' H → Den K μ' H d v → Den K μ'' H d' v) ∧ Φ μ'' d') : EvX K W X μ ρ te Φ := fun σ H Q m e l k =>
  h σ H _ m e l fun μ' d v H' p g mm dd => by
    obtain ⟨μ'', d', l1, l2, l3, hφ⟩ := hq μ' d p
    exact k μ'' d' v H' hφ (fun b o hb e => ⟨l1 b (g b o hb e).1, (g b o hb e).2⟩) (mm.less l1 l2) (l3 H' v mm dd)
/-- enumerate of a list -/
def enumD (xs : List D) : List D := xs.zipIdx.map fun p => .tup [.int (p.2 : Nat), p.1]
theorem enumD_len (xs : List D) : (enumD xs).length = xs.length := by unfold enumD; simp
theorem enumD_get {xs : List D} {i : Nat} {d : D} (h : (enumD xs)[i]? = some d) : ∃ x, xs[i]? = some x ∧ d = .tup [.int (i : Nat), x] := by
  unfold enumD at h
  rw [List.getElem?_map, List.getElem?_zipIdx] at h
  cases e : xs[i]? with
  | none => rw [e] at h; cases h
  | some x =>
    rw [e] at h
    simp at h
    exact ⟨x, rfl, h.symm⟩
theorem itx_enum {Ψ : Mu → List D → (Mu → Prop) → Prop} (h : EvL K W X μ ρ tr fun μ1 ds => ∃ a xs S, ds = [a] ∧ IsL μ1 a xs S ∧ (∀ m, S m) ∧ Ψ μ1 (enumD xs) fun _ => True) : ItX K W X μ ρ (iEnum K tr) Ψ := fun σ H R m e l k =>
  h σ H _ m e l fun μ1 ds vs H1 ⟨a, xs, S, hd, ha, hs, hp⟩ g1 m1 d1 => by
    subst hd
    obtain ⟨v1, e2, da⟩ := denL1 d1
    subst e2
    have key : ∃ p vs, v1 = .ref p ∧ StS K μ1 H1 p vs ∧ DenL K μ1 H1 xs vs := by
      rcases ha with ⟨e1 | e1, _⟩ | ⟨a, _, _, hS⟩
      · subst e1; unfold Den at da
        obtain ⟨p, vs, e2, s, b⟩ := da
        exact ⟨p, vs, e2, .inl ⟨s.1, .inl s.2⟩, b⟩
      · subst e1; unfold Den at da; exact da
      · subst hS
        have := hs (fun _ => none)
        cases this
    obtain ⟨p, us, e1, sp, bp⟩ := key
    subst e1
    refine ⟨p, us, rfl, sp.sq, k μ1 _ _ _ H1 hp g1 m1 (itok_pair (n := 0) (xs := fun _ _ => none) (ys := fun _ _ => none) (Y := YPair (fun i => some (V.int ↑i)) fun i => us[i]?) (G := fun H => SqL K H p us) (by rw [enumD_len, bp.length]; exact walk_enum) (fun μ' H' gr mm _ => (gr.stS sp).sq) ?_)⟩
    rintro i μ' H' v H'' d gr mm _ ⟨T, x, y, rfl, hT, rfl, hx, hy⟩ hd
    obtain ⟨dx, ex, rfl⟩ := enumD_get hd
    obtain ⟨u1, q1, r1⟩ := (DenL.grow gr _ _ bp).get ex
    have hy' : us[i]? = some y := hy
    rw [hy'] at q1; cases q1
    have hx' : some (V.int ↑i) = some x := hx
    cases hx'
    exact ⟨T, .int (i : Nat), dx, _, y, rfl, hT, rfl, rfl, by unfold Den; rfl, r1⟩
end
/-! ### methods of own objects: o.m(..), o.m(k = ..) -/
/-- the class has the method m, which keeps its promise; with its text -/
structure MetC (P : Program) (w : World) (K : PySem.W.Frag) (mg : Str → Option Value) (base : Heap) (CX : CXT) (k : Nat) (C : Addr) (m qual : Str) (st : Stmt) (ps : List Str) (sp : Sp) : Prop where
  ex : ∃ (f : Addr) (fd : FuncData), Meth K C m f ∧ Fun K m qual st f fd ∧ FnOk P w K mg base CX k f fd ps sp ∧ Binds K fd ps []
  cl : Cls K C
section
variable {P : Program} {w : World} {K : PySem.W.Frag} {mg : Str → Option Value} {base : Heap} {C : Addr} {m qual : Str} {st : Stmt} {N ps : List Str} {k : Nat}
theorem metC0 {Pd : PD} (h : Mtd K C m qual st) (cl : Cls K C) (S : FnScope N ps (defScope st))
    (hbi : ∀ (kV doc pm : Value) (an : Option Addr) (cdv ct : Value) (us : List Value), us.length = ps.length → bindArgs (PySem.W.fnOf m qual (defArgs st) (defBody st) (defScope st) .none kV doc pm an cdv ct) ⟨us, []⟩ = pure (ps.zip us))
    (hb : ∀ (f : Addr) (cdv : Value) (A : Around) (outer : List Env) (s : Shared) (H : Hp) (E : XK), Room k (A.deeper (envOfC qual (defScope st) s.heap.objs.size f cdv)) →
      ∃ t, PSs (cxOf CX0 P w K mg base N qual (defScope st) f cdv A outer s H E).nox (defBody st) t ∧ ∀ μ ds post exc, ds.length = ps.length → Pd μ ds post exc → GS K WN XN μ (startD N ds) t { nx := fun m _ => post m .non, rt := post }) :
    MetC P w K mg base CX0 (k + 1) C m qual st ps (spD K ps.length Pd) := by
  obtain ⟨f, fd, h1, h2, F⟩ := h
  exact ⟨⟨f, fd, ⟨h1, h2, F.kp⟩, F, def_ok F S (hb f), F.binds hbi⟩, cl⟩
theorem metCX {Pd : PD} (h : Mtd K C m qual st) (cl : Cls K C) (S : FnScope N ps (defScope st))
    (hbi : ∀ (kV doc pm : Value) (an : Option Addr) (cdv ct : Value) (us : List Value), us.length = ps.length → bindArgs (PySem.W.fnOf m qual (defArgs st) (defBody st) (defScope st) .none kV doc pm an cdv ct) ⟨us, []⟩ = pure (ps.zip us))
    (hb : ∀ (f : Addr) (cdv : Value) (A : Around) (outer : List Env) (s : Shared) (H : Hp) (E : XK), Room k (A.deeper (envOfC qual (defScope st) s.heap.objs.size f cdv)) →
      ∃ t, PSs (cxOf (L2.CX P w) P w K mg base N qual (defScope st) f cdv A outer s H E) (defBody st) t ∧ ∀ μ ds post exc, ds.length = ps.length → Pd μ ds post exc → GS K (fun cls d _ H => E cls d H) (fun m _ C d => exc m C d) μ (startD N ds) t { nx := fun m _ => post m .non, rt := post }) :
    MetC P w K mg base (L2.CX P w) (k + 1) C m qual st ps (spD K ps.length Pd) := by
  obtain ⟨f, fd, h1, h2, F⟩ := h
  exact ⟨⟨f, fd, ⟨h1, h2, F.kp⟩, F, def_okX F S (hb f), F.binds hbi⟩, cl⟩
theorem MetC.to0 {n : Nat} {P0 Pd : PD} (c : MetC P w K mg base (L2.CX P w) k C m qual st ps (spD K n Pd)) (h : ∀ μ ds post exc, P0 μ ds post exc → Pd μ ds post excN) : MetC P w K mg base CX0 k C m qual st ps (spD K n P0) := by
  obtain ⟨f, fd, h1, F, G, b⟩ := c.ex
  exact ⟨⟨f, fd, h1, F, fnX_0 G h, b⟩, c.cl⟩
theorem MetC.imp {CX : CXT} {n : Nat} {P1 P2 : PD} (c : MetC P w K mg base CX k C m qual st ps (spD K n P1)) (h : ∀ μ ds post exc, P2 μ ds post exc → P1 μ ds post exc) : MetC P w K mg base CX k C m qual st ps (spD K n P2) := by
  obtain ⟨f, fd, h1, F, G, b⟩ := c.ex
  exact ⟨⟨f, fd, h1, F, fn_imp G h, b⟩, c.cl⟩
end
/-- the call of a method: the object, what is found there, then the arguments -/
theorem meth_kw {M : Model} {A : Around} {env : Env} {s : Shared} {E : Value → Shared → Prop} {o : Expr} {m : Str} {apos pos : Pos} {pl : Sem Bool} {args : List Expr} {kws : List Keyword} {Q : Value → Shared → Prop}
    (hf : wpAny M A (eval o env) (fun ov s1 => wpAny M A (getMethod ov m pl) (fun fx s2 => wpAny M A (callWith pos fx.1 fx.2 (backTo pos (starEach args env)) (backToKw pos (keywordEach kws env))) Q E s2) E s1) E s)
    (ht : eval (.Call (.Attribute o m apos) args kws pos) env = (do
      let ov ← eval o env
      standAt apos.atName
      let __x ← holding [ov] (getMethod ov m pl)
      match __x with
      | (f, first) => callWith pos f first (backTo pos (starEach args env)) (backToKw pos (keywordEach kws env)))) : wpAny M A (eval (.Call (.Attribute o m apos) args kws pos) env) Q E s := by
  rw [ht]
  refine wpAny_bind (wpAny_mono hf (fun ov s1 h1 => wpAny_bind (wpAny_standAt (wpAny_bind (wpAny_holding (wpAny_mono h1 (fun fx s2 h2 => ?_) fun _ _ y => y))))) fun _ _ y => y)
  exact h2
section
variable {X : Cx} {CX : CXT} {k j n : Nat} {C : Addr} {m qual : Str} {st : Stmt} {ps ks : List Str} {sp : Sp} {o : Expr} {pos apos : Pos} {e : Expr} {es : List Expr} {tf : TE} {t tk : TA} {kws : List Keyword} {W : WX} {pm : List Nat} {pl : Sem Bool}
def tMetOS (C : Addr) (m : Str) (sp : Sp) (E : L2.St → XK) (tf : TE) (t : TA) : TE := fun σ H Q => tf σ H fun y H1 => ∃ a dx fs, y = V.ref a ∧ H1 a = some (.ins C dx fs) ∧ fs.lookup m = none ∧ t σ H1 fun vs H2 => sp (V.ref a :: vs) H2 Q (E σ)
def tMetOK (C : Addr) (m : Str) (sp : Sp) (gV : List V → List V → List V) (E : L2.St → XK) (n : Nat) (tf : TE) (tk : TA) : TE := fun σ H Q => tf σ H fun y H1 => ∃ a dx fs, y = V.ref a ∧ H1 a = some (.ins C dx fs) ∧ fs.lookup m = none ∧ tk σ H1 fun zs H2 => zs.length = n ∧ sp (gV [V.ref a] zs) H2 Q (E σ)
theorem pe_metOS {ES : L2.St → XK} (hf : PE X o tf) (c : MetC X.prog X.w X.K X.mg X.base CX k C m qual st ps sp) (hr : Room j X.A) (hj : k ≤ j) (hx : ∀ σ, PassesAt CX X σ (ES σ)) (ha : PA X (e :: es) t)
    (ht : eval (.Call (.Attribute o m apos) (e :: es) [] pos) X.env = (do
      let ov ← eval o X.env
      standAt apos.atName
      let __x ← holding [ov] (getMethod ov m pl)
      match __x with
      | (f, first) => callWith pos f first (backTo pos (starEach (e :: es) X.env)) (backToKw pos (keywordEach [] X.env))))
    (he : starEach (e :: es) X.env = (false, eval e X.env) :: starEach es X.env) (hpl : (backTo pos (starEach es X.env)).any (·.1) = false) : PE X (.Call (.Attribute o m apos) (e :: es) [] pos) (tMetOS C m sp ES tf t) := by
  obtain ⟨g, fd, h1, _, F, b⟩ := c.ex
  refine ⟨fun pins s σ H Q I h => ?_⟩
  refine meth_kw (thn (hf.run pins s σ H _ I h) fun u s1 ⟨y, H1, I1, ry, a, dx, fs, ey, hi, hn, q⟩ => ?_) ht
  subst ey
  obtain rfl : u = Value.ref a := ry
  refine L2.getmeth_ok I1 hi c.cl h1 hn ?_
  refine PySem.W.callWith_K (h₀ := X.base) I.ok.mod.kin h1.kp (thn (ha.run pos pins s1 σ H1 _ I1 q) fun us s2 ⟨vs, H2, I2, r, q2⟩ => ?_) he hpl
  refine ⟨I2.kIn, wpAny_call ?_⟩
  have r2 : Vals (V.ref a :: vs) (Value.ref a :: us) := .cons rfl r
  have hl : (Value.ref a :: us ++ []).length = ps.length := by
    rw [List.append_nil]
    have e := r2.length
    rw [F.len _ _ _ _ q2] at e
    exact e.symm
  have hbb := b _ (Value.ref a :: us) I2.kIn hl
  rw [List.append_nil] at hbb
  refine codeAny_mono (F.run X.A X.stack s2 H2 ⟨Value.ref a :: us, []⟩ (Value.ref a :: us) _ Q (ES σ) (hr.mono hj) I2.env0 hbb r2 q2) fun r s' hq => ?_
  rcases r with e | (_ | _ | _ | u)
  · exact hx σ pins H2 s2 e s' I2 hq
  · exact False.elim hq
  · exact False.elim hq
  · exact False.elim hq
  · exact I2.after hq
theorem pe_metOK {ES : L2.St → XK} (hf : PE X o tf) (c : MetC X.prog X.w X.K X.mg X.base CX k C m qual st ps sp) (hr : Room j X.A) (hj : k ≤ j) (hx : ∀ σ, PassesAt CX X σ (ES σ)) (hm : ks.length = n)
    (h : ∀ (kV doc pv : Value) (an : Option Addr) (cdv ct : Value) (us ws : List Value), us.length = 1 → ws.length = n → bindArgs (PySem.W.fnOf m qual (defArgs st) (defBody st) (defScope st) .none kV doc pv an cdv ct) ⟨us, ks.zip ws⟩ = pure (ps.zip (pm.filterMap fun i => (us ++ ws)[i]?)))
    (hkw : PK X kws tk)
    (ht : eval (.Call (.Attribute o m apos) [] kws pos) X.env = (do
      let ov ← eval o X.env
      standAt apos.atName
      let __x ← holding [ov] (getMethod ov m pl)
      match __x with
      | (f, first) => callWith pos f first (backTo pos (starEach [] X.env)) (backToKw pos (keywordEach kws X.env))))
    (hall : (backToKw pos (keywordEach kws X.env)).all (·.1.isSome) = true) (hks : (backToKw pos (keywordEach kws X.env)).filterMap (·.1) = ks)
    (hn : ((backTo pos (starEach [] X.env)).any (·.1) || (backToKw pos (keywordEach kws X.env)).any (·.1.isNone)) = false) :
    PE X (.Call (.Attribute o m apos) [] kws pos) (tMetOK C m sp (permG 1 n pm) ES n tf tk) := by
  obtain ⟨g, fd, h1, Ff, F, b⟩ := c.ex
  refine ⟨fun pins s σ H Q I h0 => ?_⟩
  refine meth_kw (thn (hf.run pins s σ H _ I h0) fun u s1 ⟨y, H1, I1, ry, a, dx, fs, ey, hi, hnn, q⟩ => ?_) ht
  subst ey
  obtain rfl : u = Value.ref a := ry
  refine L2.getmeth_ok I1 hi c.cl h1 hnn ?_
  refine PySem.W.callWith_KW0 (h₀ := X.base) I.ok.mod.kin h1.kp hall (thn (hkw.run pos pins s1 σ H1 _ I1 q) fun ws s2 ⟨zs, H2, I2, rz, hz, q2⟩ => ?_) hn
  refine ⟨I2.kIn, wpAny_call ?_⟩
  have kb := kbn_of (n := 1) (m := n) (pm := pm) (ks := ks) Ff hm h
  rw [hks]
  have r1 : Vals [V.ref a] [Value.ref a] := .cons rfl .nil
  refine codeAny_mono (F.run X.A X.stack s2 H2 ⟨[Value.ref a], ks.zip ws⟩ _ _ Q (ES σ) (hr.mono hj) I2.env0 (kb.to _ [Value.ref a] ws I2.kIn rfl (by rw [← rz.length, hz, hm])) (kb.rel r1 rz) q2) fun r s' hq => ?_
  rcases r with e | (_ | _ | _ | u)
  · exact hx σ pins H2 s2 e s' I2 hq
  · exact False.elim hq
  · exact False.elim hq
  · exact False.elim hq
  · exact I2.after hq
theorem pe_mtS (hf : PE X o tf) (c : MetC X.prog X.w X.K X.mg X.base (L2.CX X.prog X.w) k C m qual st ps sp) (hr : Room j X.A) (hj : k ≤ j) (tw : Takes X W) (ha : PA X (e :: es) t)
    (ht : eval (.Call (.Attribute o m apos) (e :: es) [] pos) X.env = (do
      let ov ← eval o X.env
      standAt apos.atName
      let __x ← holding [ov] (getMethod ov m pl)
      match __x with
      | (f, first) => callWith pos f first (backTo pos (starEach (e :: es) X.env)) (backToKw pos (keywordEach [] X.env))) := by rfl)
    (he : starEach (e :: es) X.env = (false, eval e X.env) :: starEach es X.env := by rfl) (hpl : (backTo pos (starEach es X.env)).any (·.1) = false := by rfl) : PE X (.Call (.Attribute o m apos) (e :: es) [] pos) (tMetOS C m sp (WE W) tf t) :=
  pe_metOS hf c hr hj (fun σ => passAt tw σ) ha ht he hpl
theorem pe_mt0 (hf : PE X o tf) (c : MetC X.prog X.w X.K X.mg X.base CX0 k C m qual st ps sp) (hr : Room j X.A) (hj : k ≤ j) (ha : PA X (e :: es) t)
    (ht : eval (.Call (.Attribute o m apos) (e :: es) [] pos) X.env = (do
      let ov ← eval o X.env
      standAt apos.atName
      let __x ← holding [ov] (getMethod ov m pl)
      match __x with
      | (f, first) => callWith pos f first (backTo pos (starEach (e :: es) X.env)) (backToKw pos (keywordEach [] X.env))) := by rfl)
    (he : starEach (e :: es) X.env = (false, eval e X.env) :: starEach es X.env := by rfl) (hpl : (backTo pos (starEach es X.env)).any (·.1) = false := by rfl) : PE X (.Call (.Attribute o m apos) (e :: es) [] pos) (tMetOS C m sp (fun _ => E0) tf t) :=
  pe_metOS hf c hr hj (fun σ pins H s e s' I q => q.elim) ha ht he hpl
theorem pe_mtKS (hf : PE X o tf) (c : MetC X.prog X.w X.K X.mg X.base (L2.CX X.prog X.w) k C m qual st ps sp) (hr : Room j X.A) (hj : k ≤ j) (tw : Takes X W) (hm : ks.length = n)
    (h : ∀ (kV doc pv : Value) (an : Option Addr) (cdv ct : Value) (us ws : List Value), us.length = 1 → ws.length = n → bindArgs (PySem.W.fnOf m qual (defArgs st) (defBody st) (defScope st) .none kV doc pv an cdv ct) ⟨us, ks.zip ws⟩ = pure (ps.zip (pm.filterMap fun i => (us ++ ws)[i]?)))
    (hkw : PK X kws tk)
    (ht : eval (.Call (.Attribute o m apos) [] kws pos) X.env = (do
      let ov ← eval o X.env
      standAt apos.atName
      let __x ← holding [ov] (getMethod ov m pl)
      match __x with
      | (f, first) => callWith pos f first (backTo pos (starEach [] X.env)) (backToKw pos (keywordEach kws X.env))) := by rfl)
    (hall : (backToKw pos (keywordEach kws X.env)).all (·.1.isSome) = true := by rfl) (hks : (backToKw pos (keywordEach kws X.env)).filterMap (·.1) = ks := by rfl)
    (hn : ((backTo pos (starEach [] X.env)).any (·.1) || (backToKw pos (keywordEach kws X.env)).any (·.1.isNone)) = false := by rfl) :
    PE X (.Call (.Attribute o m apos) [] kws pos) (tMetOK C m sp (permG 1 n pm) (WE W) n tf tk) :=
  pe_metOK hf c hr hj (fun σ => passAt tw σ) hm h hkw ht hall hks hn
theorem pe_mtK0 (hf : PE X o tf) (c : MetC X.prog X.w X.K X.mg X.base CX0 k C m qual st ps sp) (hr : Room j X.A) (hj : k ≤ j) (hm : ks.length = n)
    (h : ∀ (kV doc pv : Value) (an : Option Addr) (cdv ct : Value) (us ws : List Value), us.length = 1 → ws.length = n → bindArgs (PySem.W.fnOf m qual (defArgs st) (defBody st) (defScope st) .none kV doc pv an cdv ct) ⟨us, ks.zip ws⟩ = pure (ps.zip (pm.filterMap fun i => (us ++ ws)[i]?)))
    (hkw : PK X kws tk)
    (ht : eval (.Call (.Attribute o m apos) [] kws pos) X.env = (do
      let ov ← eval o X.env
      standAt apos.atName
      let __x ← holding [ov] (getMethod ov m pl)
      match __x with
      | (f, first) => callWith pos f first (backTo pos (starEach [] X.env)) (backToKw pos (keywordEach kws X.env))) := by rfl)
    (hall : (backToKw pos (keywordEach kws X.env)).all (·.1.isSome) = true := by rfl) (hks : (backToKw pos (keywordEach kws X.env)).filterMap (·.1) = ks := by rfl)
    (hn : ((backTo pos (starEach [] X.env)).any (·.1) || (backToKw pos (keywordEach kws X.env)).any (·.1.isNone)) = false := by rfl) :
    PE X (.Call (.Attribute o m apos) [] kws pos) (tMetOK C m sp (permG 1 n pm) (fun _ => E0) n tf tk) :=
  pe_metOK hf c hr hj (fun σ pins H s e s' I q => q.elim) hm h hkw ht hall hks hn
end
theorem lookup_zip {α : Type} {m : Str} : ∀ {fs : List Str} {vs : List α}, m ∉ fs → (fs.zip vs).lookup m = none
  | [], vs, _ => by rw [List.zip_nil_left]; rfl
  | f :: fs, [], _ => by rw [List.zip_nil_right]; rfl
  | f :: fs, v :: vs, h => by
    rw [List.zip_cons_cons, List.lookup_cons]
    have hne : (m == f) = false := by
      rw [beq_eq_false_iff_ne]
      exact fun z => h (by rw [z]; exact List.mem_cons_self ..)
    rw [hne]
    exact lookup_zip fun z => h (List.mem_cons_of_mem _ z)
section
variable {K : PySem.W.Frag} {W : WX} {X : XD} {μ : Mu} {ρ : Ro} {Φ : DP} {C : Addr} {m : Str} {n r a b : Nat} {pm : List Nat} {P : PD} {tf : TE} {t tk : TA}
/-- o.m(..) -/
theorem evx_mtS (h : EvX K W X μ ρ tf fun μ0 x => ∃ fs es, ObjD μ0 x C fs es ∧ m ∉ fs ∧ EvL K W X μ0 ρ t fun μ1 ds => ds.length + 1 = n ∧ P μ1 (x :: ds) Φ fun μ' A d => X μ' ρ A d) : EvX K W X μ ρ (tMetOS C m (spD K n P) (WE W) tf t) Φ := fun σ H Q m0 e l k =>
  h σ H _ m0 e l fun μ1 x v H1 ⟨fs, es, ho, hm, h1⟩ g1 m1 d1 => by
    obtain ⟨p, dx, vs, e2, hi, _⟩ := ho.hp m1 d1
    subst e2
    refine ⟨p, dx, _, rfl, hi, lookup_zip hm, h1 σ H1 _ m1 (e.grow g1) (l.grow g1) fun μ2 ds vs H2 ⟨hl, hp⟩ g2 m2 d2 => ?_⟩
    have gg := g1.trans g2
    exact ⟨μ2, x :: ds, Φ, _, m2, DenL.cons (Den.grow g2 _ _ d1) d2, by rw [List.length_cons]; exact hl, hp, fun μ' d v H' p g => k μ' d v H' p (gg.trans g), fun μ' A d dx v H' p g mm => l μ' ρ A d dx v σ H' p (gg.trans g) mm ((e.grow gg).grow g)⟩
theorem evx_mt0 (h : EvX K W X μ ρ tf fun μ0 x => ∃ fs es, ObjD μ0 x C fs es ∧ m ∉ fs ∧ EvL K W X μ0 ρ t fun μ1 ds => ds.length + 1 = n ∧ P μ1 (x :: ds) Φ excN) : EvX K W X μ ρ (tMetOS C m (spD K n P) (fun _ => E0) tf t) Φ := fun σ H Q m0 e l k =>
  h σ H _ m0 e l fun μ1 x v H1 ⟨fs, es, ho, hm, h1⟩ g1 m1 d1 => by
    obtain ⟨p, dx, vs, e2, hi, _⟩ := ho.hp m1 d1
    subst e2
    refine ⟨p, dx, _, rfl, hi, lookup_zip hm, h1 σ H1 _ m1 (e.grow g1) (l.grow g1) fun μ2 ds vs H2 ⟨hl, hp⟩ g2 m2 d2 => ?_⟩
    have gg := g1.trans g2
    exact ⟨μ2, x :: ds, Φ, _, m2, DenL.cons (Den.grow g2 _ _ d1) d2, by rw [List.length_cons]; exact hl, hp, fun μ' d v H' p g => k μ' d v H' p (gg.trans g), fun _ _ _ _ _ _ z => z.elim⟩
/-- o.m(k = ..) -/
theorem evx_mtKS (h : EvX K W X μ ρ tf fun μ0 x => ∃ fs es, ObjD μ0 x C fs es ∧ m ∉ fs ∧ EvL K W X μ0 ρ tk fun μ1 ds => ds.length = r ∧ (permG a b pm [x] ds).length = n ∧ P μ1 (permG a b pm [x] ds) Φ fun μ' A d => X μ' ρ A d) : EvX K W X μ ρ (tMetOK C m (spD K n P) (permG a b pm) (WE W) r tf tk) Φ := fun σ H Q m0 e l k =>
  h σ H _ m0 e l fun μ1 x v H1 ⟨fs, es, ho, hm, h1⟩ g1 m1 d1 => by
    obtain ⟨p, dx, vs, e2, hi, _⟩ := ho.hp m1 d1
    subst e2
    refine ⟨p, dx, _, rfl, hi, lookup_zip hm, h1 σ H1 _ m1 (e.grow g1) (l.grow g1) fun μ2 ds vs H2 ⟨hr, hl, hp⟩ g2 m2 d2 => ?_⟩
    have gg := g1.trans g2
    exact ⟨by rw [← d2.length]; exact hr, μ2, _, Φ, _, m2, permG_den (DenL.cons (Den.grow g2 _ _ d1) DenL.nil) d2, hl, hp, fun μ' d v H' p g => k μ' d v H' p (gg.trans g), fun μ' A d dx v H' p g mm => l μ' ρ A d dx v σ H' p (gg.trans g) mm ((e.grow gg).grow g)⟩
theorem evx_mtK0 (h : EvX K W X μ ρ tf fun μ0 x => ∃ fs es, ObjD μ0 x C fs es ∧ m ∉ fs ∧ EvL K W X μ0 ρ tk fun μ1 ds => ds.length = r ∧ (permG a b pm [x] ds).length = n ∧ P μ1 (permG a b pm [x] ds) Φ excN) : EvX K W X μ ρ (tMetOK C m (spD K n P) (permG a b pm) (fun _ => E0) r tf tk) Φ := fun σ H Q m0 e l k =>
  h σ H _ m0 e l fun μ1 x v H1 ⟨fs, es, ho, hm, h1⟩ g1 m1 d1 => by
    obtain ⟨p, dx, vs, e2, hi, _⟩ := ho.hp m1 d1
    subst e2
    refine ⟨p, dx, _, rfl, hi, lookup_zip hm, h1 σ H1 _ m1 (e.grow g1) (l.grow g1) fun μ2 ds vs H2 ⟨hr, hl, hp⟩ g2 m2 d2 => ?_⟩
    have gg := g1.trans g2
    exact ⟨by rw [← d2.length]; exact hr, μ2, _, Φ, _, m2, permG_den (DenL.cons (Den.grow g2 _ _ d1) DenL.nil) d2, hl, hp, fun μ' d v H' p g => k μ' d v H' p (gg.trans g), fun _ _ _ _ _ _ z => z.elim⟩
end
/-- len where the reading must not name the frame (inside a try) -/
theorem call_lenK {X : Cx} {K : PySem.W.Frag} (h : X.K = K) : CallR X (.builtin "len") fun xs H Q => ∃ x n, xs = [x] ∧ LenV K x H n ∧ Q (.int (n : Nat)) H := by
  subst h
  exact call_len
theorem ix_seqK {X : Cx} {K : PySem.W.Frag} (h : X.K = K) : IxR X (rIx K) := by
  subst h
  exact ix_seq
theorem op_addUK {X : Cx} {K : PySem.W.Frag} (h : X.K = K) : OpR X (binaryOp .Add) (rAddU K) := by
  subst h
  exact op_addU
/-! ### where draws come from -/
/-- S c: at most c draws so far; what it says hangs on what stands at a and g alone -/
structure Src (S : Int → Mu → Prop) (a g : Addr) : Prop where
  mono : ∀ {c c' : Int} {μ : Mu}, S c μ → c ≤ c' → S c' μ
  na : ∀ {c : Int} {μ : Mu} {p : Addr}, S c μ → μ p = none → p ≠ a ∧ p ≠ g
  off : ∀ {c : Int} {μ μ' : Mu} {p : Addr}, S c μ → p ≠ a → p ≠ g → (∀ b, b ≠ p → μ' b = μ b) → S c μ'
theorem Src.put {S : Int → Mu → Prop} {a g p : Addr} {c : Int} {μ : Mu} {o : MO} (s : Src S a g) (h : S c μ) (h1 : p ≠ a) (h2 : p ≠ g) : S c (mput μ p o) := s.off h h1 h2 fun b hb => mput_ne hb
theorem Src.cut {S : Int → Mu → Prop} {a g p : Addr} {c : Int} {μ : Mu} (s : Src S a g) (h : S c μ) (h1 : p ≠ a) (h2 : p ≠ g) : S c (mcut μ p) := s.off h h1 h2 fun b hb => mcut_ne hb
theorem deck_src (a g : Addr) : Src (Deck a g) a g := ⟨fun h q => h.mono q, fun h q => h.na q, fun h h1 h2 q => h.off h1 h2 q⟩
section
variable {K : PySem.W.Frag} {W : WX} {X : XD} {μ : Mu} {ρ : Ro} {Φ : DP} {te : TE} {tt : TT} {g : TG} {wi : TI}
theorem evx_mid (M : DP) (h : EvX K W X μ ρ te M) (k : ∀ m d, M m d → Φ m d) : EvX K W X μ ρ te Φ := h.imp k
/-- a comprehension that draws: st cards a turn -/
theorem evx_lcSk {vs : List Nat} {a ga : Addr} (S0 : Int → Mu → Prop) (hS0 : Src S0 a ga) (h : ItX K W X μ ρ wi fun μ1 ds S => (ds.length ≤ 1000000 ∧ ∀ m, S m) ∧ ∃ (c st : Int) (R : Nat → List D → Prop), S0 c μ1 ∧ R 0 [] ∧
    (∀ i d μ' acc, ds[i]? = some d → acc.length ≤ i → R i acc → S0 (c + st * i) μ' → Keep a ga μ1 μ' → TcX K W X vs μ' (wipeD ρ vs) g d fun μ2 ρ2 =>
      EvB K W X μ2 ρ2 tt fun μ3 b => if b = true then Keep a ga μ' μ3 ∧ EvX K W X μ3 ρ2 te fun μ4 y => Keep a ga μ' μ4 ∧ S0 (c + st * (i + 1)) μ4 ∧ R (i + 1) (acc ++ [y]) else Keep a ga μ' μ3 ∧ S0 (c + st * (i + 1)) μ3 ∧ R (i + 1) acc) ∧
    ∀ μ' acc, acc.length ≤ ds.length → R ds.length acc → S0 (c + st * ds.length) μ' → Keep a ga μ1 μ' → Φ μ' (.lst acc)) : EvX K W X μ ρ (tLc wi g tt te vs) Φ := by
  refine evx_lcI fun σ H R m e l k => h σ H R m e l fun μ1 ds S J H1 ⟨hl, c, st, R, hd, h0, hstep, hend⟩ g1 m1 ok => k μ1 ds S J H1 ⟨hl, ?_⟩ g1 m1 ok
  refine ⟨fun i μ' acc => S0 (c + st * i) μ' ∧ Keep a ga μ1 μ' ∧ R i acc, ⟨hS0.mono hd (by simp), Keep.refl _ _ _, h0⟩, ?_, ?_, ?_⟩
  · rintro Dl hD i acc μ' μ'' hb ⟨h1, h2, h3⟩
    have hn := hS0.na hd hD
    exact ⟨hS0.off h1 hn.1 hn.2 hb, h2.off hD hb, h3⟩
  · rintro Dl hD i d μ' acc hi ha hDl ⟨h1, h2, h3⟩
    have hn := hS0.na hd hD
    intro σ H v Q m e dd k
    refine hstep i d μ' acc hi ha h3 h1 h2 σ H v Q m e dd fun ρ2 σ2 q2 e2 hw => k ρ2 σ2 ?_ e2 hw
    refine q2.imp fun μ3 b r => ?_
    cases b with
    | false =>
      rw [if_neg (by decide)] at r
      refine ⟨r.1 Dl _ hn.1 hn.2 hDl, ?_⟩
      rw [if_neg (by decide)]
      exact ⟨hS0.mono r.2.1 (by rw [Int.natCast_add]; exact Int.le_refl _), h2.trans r.1, r.2.2⟩
    | true =>
      rw [if_pos rfl] at r
      refine ⟨r.1 Dl _ hn.1 hn.2 hDl, ?_⟩
      rw [if_pos rfl]
      refine r.2.imp fun μ4 y ⟨s1, s2, s3⟩ => ⟨s1 Dl _ hn.1 hn.2 hDl, hS0.mono s2 (by rw [Int.natCast_add]; exact Int.le_refl _), h2.trans s1, s3⟩
  · exact .inl fun μ' acc ha ⟨h1, h2, h3⟩ => hend μ' acc ha h3 h1 h2
end
/-! ### list(text) -/
theorem sign_vals : ∀ {cs : List Nat} {us : List Value}, us.length = cs.length → (∀ (j : Nat) (v : Value), us[j]? = some v → ∃ c u, cs[j]? = some c ∧ v = .str ⟨#[c]⟩ u) → Vals (cs.map fun c => V.str ⟨#[c]⟩) us
  | [], [], _, _ => .nil
  | [], _ :: _, h, _ => nomatch h
  | _ :: _, [], h, _ => nomatch h
  | c :: cs, u :: us, hl, h => by
    obtain ⟨c', t, e1, e2⟩ := h 0 u rfl
    have e1' : c = c' := Option.some.inj e1
    subst e1' e2
    exact .cons ⟨t, rfl⟩ (sign_vals (by simpa using hl) fun j v e => h (j + 1) v e)
abbrev rListT : List V → Hp → VK → Prop := fun xs H Q => ∃ z : Str, xs = [.str z] ∧ z.length ≤ 1000000 ∧ ∀ l, H l = none → Q (.ref l) (upd H l (.lst (z.cps.toList.map fun c => V.str ⟨#[c]⟩)))
theorem call_listT {X : Cx} (hcalm : X.calm = true) : CallR X (.type "list") rListT := by
  intro pins s σ H xs us Q I r h
  obtain ⟨z, rfl, hz, q⟩ := h
  obtain ⟨u, rfl, rx⟩ := vals1 r
  obtain ⟨t, rfl⟩ := rx
  refine call_list_str (I.ok.hd hcalm) z t (fun h' tk acc' c' hk hD hacc => ?_) (Nat.le_trans hz (by decide))
  have hv : Vals (z.cps.toList.map fun c => V.str ⟨#[c]⟩) acc'.toList := by
    refine sign_vals (by rw [Array.length_toList, Array.length_toList]; exact hacc.1) fun j v e => ?_
    obtain ⟨c, u, hc, hv⟩ := hacc.2 j v (by rw [← Array.getElem?_toList]; exact e)
    exact ⟨c, u, by rw [Array.getElem?_toList]; exact hc, hv⟩
  exact ⟨.ref s.heap.objs.size, upd H s.heap.objs.size (.lst (z.cps.toList.map fun c => V.str ⟨#[c]⟩)), I.laid (t' := tk) hk (Nat.le_refl _)
    (show ObjOk X.prog X.w _ _ _ (.lst (z.cps.toList.map fun c => V.str ⟨#[c]⟩)) from ⟨by rw [List.length_map, Array.length_toList]; exact Nat.le_trans hz (by decide), acc'.toList, c', hv, by rw [Array.toArray_toList]; exact hD⟩), rfl, q _ (I.hok.fresh (Nat.le_refl _))⟩
section
variable {K : PySem.W.Frag} {W : WX} {X : XD} {μ : Mu} {H : Hp} {ρ : Ro} {Φ : DP} {ta tb tv te : TE} {E : ED}
theorem signs_den (z : Str) : DenL K μ H (signsD z) (z.cps.toList.map fun c => V.str ⟨#[c]⟩) := by
  unfold signsD
  generalize z.cps.toList = cs
  induction cs with
  | nil => exact DenL.nil
  | cons c cs ih => exact DenL.cons (by unfold Den; rfl) ih
theorem cax_listTM {z : Str} (hz : z.length ≤ 1000000) (h : ∀ p, μ p = none → Φ (mput μ p (.lst (signsD z))) (.at p)) : CaX K rListT μ [.str z] Φ := fun H vs Q m d k => by
  obtain ⟨v, e, a⟩ := denL1 d
  unfold Den at a
  subst a
  exact ⟨z, e, hz, fun l hl => k _ _ _ _ (h l (m.free hl)) (Grow.newM hl) (m.newM hl ⟨_, upd_same, signs_den z⟩) (by unfold Den; rfl)⟩
theorem cax_listT {z : Str} (hz : z.length ≤ 1000000) (h : Φ μ (.lst (signsD z))) : CaX K rListT μ [.str z] Φ := fun H vs Q m d k => by
  obtain ⟨v, e, a⟩ := denL1 d
  unfold Den at a
  subst a
  exact ⟨z, e, hz, fun l hl => k _ _ _ _ h (Grow.new hl) (m.new hl) (by unfold Den; exact ⟨l, _, rfl, ⟨m.free hl, upd_same⟩, signs_den z⟩)⟩
/-! ### dicts -/
instance decKey (k : Key) (ks : List Key) : Decidable (k ∈ ks) := @List.instDecidableMemOfLawfulBEq Key instBEqOfDecidableEq inferInstance k ks
theorem evx_dnewM (h : ∀ p, μ p = none → Φ (mput μ p (.dct [] [])) (.at p)) : EvX K W X μ ρ tDNewK Φ := fun σ H Q m e l k p hp =>
  k _ _ _ _ (h p (m.free hp)) (Grow.newM hp) (m.newM hp ⟨[], upd_same, rfl, DenL.nil⟩) (by unfold Den; rfl)
/-- d[k] = v: the keys and the data behind it -/
def putKs (ks : List Key) (k : Key) : List Key := if k ∈ ks then ks else ks ++ [k]
def putDs {α : Type} (ks : List Key) (ds : List α) (k : Key) (d : α) : List α := if k ∈ ks then (ks.zip ds).map fun p => if p.1 = k then d else p.2 else ds ++ [d]
theorem any_mem {α : Type} {k : Key} : ∀ {ks : List Key} {ds : List α}, ks.length = ds.length → ((ks.zip ds).any fun kv => decide (kv.1 = k)) = decide (k ∈ ks)
  | [], ds, _ => by rw [List.zip_nil_left]; rfl
  | g :: ks, [], h => nomatch h
  | g :: ks, d :: ds, h => by
    rw [List.zip_cons_cons, List.any_cons, any_mem (by simpa using h)]
    by_cases hg : g = k
    · simp [hg]
    · simp [hg, Ne.symm hg]
theorem map_zip {α : Type} {k : Key} {v : α} : ∀ {ks : List Key} {vs : List α}, ks.length = vs.length → (ks.zip vs).map (fun kv => if kv.1 = k then (kv.1, v) else kv) = ks.zip ((ks.zip vs).map fun p => if p.1 = k then v else p.2)
  | [], vs, _ => by rw [List.zip_nil_left, List.zip_nil_left]; rfl
  | g :: ks, [], h => nomatch h
  | g :: ks, w :: vs, h => by
    rw [List.zip_cons_cons, List.map_cons, List.map_cons, List.zip_cons_cons, map_zip (by simpa using h)]
    by_cases hg : g = k
    · rw [if_pos hg, if_pos hg]
    · rw [if_neg hg, if_neg hg]
theorem putK_any {k : Key} {v : V} {ks : List Key} {vs : List V} (h : ks.length = vs.length) : putK (ks.zip vs) k v = (putKs ks k).zip (putDs ks vs k v) ∧ (putKs ks k).length = (putDs ks vs k v).length := by
  unfold putK putKs putDs
  rw [any_mem h]
  by_cases hk : k ∈ ks
  · rw [if_pos (decide_eq_true hk), if_pos hk, if_pos hk, map_zip h]
    refine ⟨rfl, ?_⟩
    rw [List.length_map, List.length_zip, h, Nat.min_self]
  · rw [if_neg (by rw [decide_eq_false hk]; decide), if_neg hk, if_neg hk, List.zip_append h]
    refine ⟨rfl, ?_⟩
    rw [List.length_append, List.length_append, h]; rfl
theorem den_putDs {k : Key} {d : D} {v : V} (r : Den K μ H d v) : ∀ {ks : List Key} {ds : List D} {vs : List V}, DenL K μ H ds vs → DenL K μ H ((ks.zip ds).map fun p => if p.1 = k then d else p.2) ((ks.zip vs).map fun p => if p.1 = k then v else p.2)
  | [], ds, vs, h => by rw [List.zip_nil_left, List.zip_nil_left]; exact DenL.nil
  | g :: ks, [], vs, h => by unfold DenL at h; subst h; exact DenL.nil
  | g :: ks, e :: ds, vs, h => by
    unfold DenL at h
    obtain ⟨w, ws, e1, a, b⟩ := h
    subst e1
    rw [List.zip_cons_cons, List.zip_cons_cons, List.map_cons, List.map_cons]
    refine DenL.cons ?_ (den_putDs r b)
    by_cases hg : g = k
    · rw [if_pos hg, if_pos hg]; exact r
    · rw [if_neg hg, if_neg hg]; exact a
theorem den_putD {k : Key} {d : D} {v : V} (r : Den K μ H d v) {ks : List Key} {ds : List D} {vs : List V} (h : DenL K μ H ds vs) : DenL K μ H (putDs ks ds k d) (putDs ks vs k v) := by
  unfold putDs
  by_cases hk : k ∈ ks
  · rw [if_pos hk, if_pos hk]; exact den_putDs r h
  · rw [if_neg hk, if_neg hk]; exact h.append (DenL.cons r DenL.nil)
theorem gs_dput (h : EvX K W X μ ρ tv fun μ1 d => EvX K W X μ1 ρ ta fun μ2 x => EvX K W X μ2 ρ tb fun μ3 y => ∃ a ks ds k, x = .at a ∧ y = keyD k ∧ μ3 a = some (.dct ks ds) ∧ ks.length ≤ 1000000 ∧ E.nx (mput μ3 a (.dct (putKs ks k) (putDs ks ds k d))) ρ) : GS K W X μ ρ (sDPut ta tb tv) E := fun σ H D m e l k =>
  h σ H _ m e l fun μ1 d v H1 h1 g1 m1 d1 => h1 σ H1 _ m1 (e.grow g1) (l.grow g1) fun μ2 x w H2 h2 g2 m2 d2 => h2 σ H2 _ m2 ((e.grow g1).grow g2) ((l.grow g1).grow g2) fun μ3 y u H3 ⟨a, ks, ds, kk, ex, ey, ha, hl, hq⟩ g3 m3 d3 => by
    subst ex ey
    have ek := den_key d3
    subst ek
    unfold Den at d2
    subst d2
    obtain ⟨vs, q, n, b⟩ := m3 a _ ha
    have gg := (g1.trans g2).trans g3
    have dv := Den.grow (g2.trans g3) _ _ d1
    obtain ⟨e1, e2⟩ := putK_any (k := kk) (v := v) n
    refine ⟨a, _, rfl, DPut.k q (by rw [List.length_zip, n, Nat.min_self, ← n]; exact Nat.lt_of_le_of_lt hl (by decide)), ?_⟩
    rw [e1]
    exact k.nx _ _ _ _ hq (gg.trans (Grow.wr ha)) (m3.wr ha ⟨_, upd_same, e2, DenL.grow (Grow.wr ha) _ _ (den_putD dv b)⟩) ((e.grow gg).grow (Grow.wr ha))
theorem valV_none {k : Key} : ∀ {ks : List Key} {vs : List V}, ks.length = vs.length → (valV (ks.zip vs) k).isSome = decide (k ∈ ks)
  | [], vs, _ => by rw [List.zip_nil_left]; rfl
  | g :: ks, [], h => nomatch h
  | g :: ks, w :: vs, h => by
    rw [List.zip_cons_cons]
    by_cases hg : g = k
    · rw [valV_pos hg]; simp [hg]
    · rw [valV_neg hg, valV_none (by simpa using h)]; simp [Ne.symm hg]
/-- a dict: kept, or one that may change -/
def DctD (μ : Mu) (x : D) (ks : List Key) (ds : List D) : Prop := x = .dct ks ds ∨ ∃ a, x = .at a ∧ μ a = some (.dct ks ds)
theorem DctD.hp {x : D} {ks : List Key} {ds : List D} {v : V} (m : Mem K μ H) (hx : DctD μ x ks ds) (dv : Den K μ H x v) : ∃ p vs, v = .ref p ∧ H p = some (.dK (ks.zip vs)) ∧ ks.length = vs.length ∧ DenL K μ H ds vs := by
  rcases hx with rfl | ⟨a, rfl, ha⟩
  · unfold Den at dv
    obtain ⟨p, vs, e1, s, n, b⟩ := dv
    exact ⟨p, vs, e1, s.2, n, b⟩
  · unfold Den at dv
    obtain ⟨vs, q, n, b⟩ := m a _ ha
    exact ⟨a, vs, dv, q, n, b⟩
theorem evx_din (h : EvX K W X μ ρ ta fun μ1 y => EvX K W X μ1 ρ tb fun μ2 x => ∃ ks ds k, DctD μ2 x ks ds ∧ y = keyD k ∧ Φ μ2 (.bl (decide (k ∈ ks)))) : EvX K W X μ ρ (tDIn ta tb) Φ := fun σ H Q m e l kk =>
  h σ H _ m e l fun μ1 y w H1 h1 g1 m1 d1 => h1 σ H1 _ m1 (e.grow g1) (l.grow g1) fun μ2 x v H2 ⟨ks, ds, k, hx, hy, hq⟩ g2 m2 d2 => by
    subst hy
    have ek := den_key d1
    subst ek
    obtain ⟨p, vs, e1, e2, n, _⟩ := hx.hp m2 d2
    exact ⟨p, _, e1, DGet.k e2, kk μ2 _ _ H2 hq (g1.trans g2) m2 (by unfold Den; rw [valV_none n])⟩
theorem evx_dnotin (h : EvX K W X μ ρ ta fun μ1 y => EvX K W X μ1 ρ tb fun μ2 x => ∃ ks ds k, DctD μ2 x ks ds ∧ y = keyD k ∧ Φ μ2 (.bl (!decide (k ∈ ks)))) : EvX K W X μ ρ (tDNotIn ta tb) Φ := fun σ H Q m e l kk =>
  h σ H _ m e l fun μ1 y w H1 h1 g1 m1 d1 => h1 σ H1 _ m1 (e.grow g1) (l.grow g1) fun μ2 x v H2 ⟨ks, ds, k, hx, hy, hq⟩ g2 m2 d2 => by
    subst hy
    have ek := den_key d1
    subst ek
    obtain ⟨p, vs, e1, e2, n, _⟩ := hx.hp m2 d2
    exact ⟨p, _, e1, DGet.k e2, kk μ2 _ _ H2 hq (g1.trans g2) m2 (by unfold Den; rw [valV_none n])⟩
abbrev rDictP (K : PySem.W.Frag) : List V → Hp → VK → Prop := fun xs H Q => ∃ (a : Addr) (ps : List Addr) (kvs : List (Key × V)), xs = [.ref a] ∧ SqL K H a (ps.map V.ref) ∧ Paired (fun p kv => SqT K H p [kV kv.1, kv.2]) ps kvs ∧
    ∀ p, H p = none → Q (.ref p) (upd H p (.dK (mergeK [] kvs)))
theorem pairs_den : ∀ {ks : List Key} {es : List D} {vs : List V}, ks.length = es.length → DenL K μ H ((ks.zip es).map fun p => .tup [keyD p.1, p.2]) vs → ∃ (ps : List Addr) (us : List V), vs = ps.map V.ref ∧ ks.length = us.length ∧ DenL K μ H es us ∧ Paired (fun p kv => SqT K H p [kV kv.1, kv.2]) ps (ks.zip us)
  | [], [], vs, _, h => by
    rw [List.zip_nil_left] at h
    unfold List.map DenL at h
    subst h
    exact ⟨[], [], rfl, rfl, DenL.nil, .nil⟩
  | [], _ :: _, vs, hl, _ => nomatch hl
  | _ :: _, [], vs, hl, _ => nomatch hl
  | k :: ks, d :: es, vs, hl, h => by
    rw [List.zip_cons_cons, List.map_cons] at h
    unfold DenL at h
    obtain ⟨w, ws, e1, a, b⟩ := h
    obtain ⟨ps, us, e2, n, b2, pr⟩ := pairs_den (by simpa using hl) b
    unfold Den at a
    obtain ⟨p, zs, e3, st, dz⟩ := a
    obtain ⟨z1, z2, e4, dk, dd⟩ := denL2 dz
    have ek := den_key dk
    subst ek e4 e3 e2 e1
    refine ⟨p :: ps, z2 :: us, rfl, by rw [List.length_cons, List.length_cons, n], DenL.cons dd b2, ?_⟩
    rw [List.zip_cons_cons]
    exact .cons st.sq pr
theorem mergeK_nd : ∀ {ks : List Key} {us : List V} {ks0 : List Key} {us0 : List V}, ks.length = us.length → ks0.length = us0.length → (ks0 ++ ks).Nodup → mergeK (ks0.zip us0) (ks.zip us) = (ks0 ++ ks).zip (us0 ++ us)
  | [], us, ks0, us0, h, h0, _ => by
    have : us = [] := List.eq_nil_of_length_eq_zero h.symm
    subst this
    rw [List.zip_nil_left, List.append_nil, List.append_nil]; rfl
  | k :: ks, [], ks0, us0, h, _, _ => nomatch h
  | k :: ks, u :: us, ks0, us0, h, h0, hn => by
    rw [List.zip_cons_cons]
    unfold mergeK
    rw [List.foldl_cons]
    show mergeK (putK (ks0.zip us0) k u) (ks.zip us) = _
    have hk : k ∉ ks0 := fun hm => by
      rw [List.nodup_append] at hn
      exact hn.2.2 _ hm _ (List.mem_cons_self ..) rfl
    rw [putK_zip hk h0, mergeK_nd (by simpa using h) (by rw [List.length_append, List.length_append, h0]; rfl) (by rw [List.append_assoc]; exact hn), List.append_assoc, List.append_assoc]
    rfl
/-- dict(pairs), all keys unlike -/
theorem cax_dictP {x : D} {S : Mu → Prop} {ks : List Key} {es : List D} (hd : IsL μ x ((ks.zip es).map fun p => .tup [keyD p.1, p.2]) S) (hl : ks.length = es.length) (hn : ks.Nodup) (h : Φ μ (.dct ks es)) : CaX K (rDictP K) μ [x] Φ := fun H vs Q m d k => by
  obtain ⟨v, e, a⟩ := denL1 d
  obtain ⟨p, us, e1, sq, b⟩ := isL_sq m hd a
  obtain ⟨ps, ws, e2, n, b2, pr⟩ := pairs_den hl b
  subst e e1 e2
  refine ⟨p, ps, ks.zip ws, rfl, sq, pr, fun q hq => ?_⟩
  have em := mergeK_nd (ks0 := []) (us0 := []) n rfl (by rw [List.nil_append]; exact hn)
  rw [List.zip_nil_left, List.nil_append, List.nil_append] at em
  rw [em]
  exact k _ _ _ _ h (Grow.new hq) (m.new hq) (by unfold Den; exact ⟨q, ws, rfl, ⟨m.free hq, upd_same⟩, n, DenL.grow (Grow.new hq) _ _ b2⟩)
end
/-! ### xs[lo:hi:step] -/
def stepIx (n : Nat) (lo hi : Option Int) (st : Int) : List Nat := sliceRange (sliceBounds lo hi (some st) n).1 (sliceBounds lo hi (some st) n).2.1 (sliceBounds lo hi (some st) n).2.2
def stepD {α : Type} (xs : List α) (lo hi : Option Int) (st : Int) : List α := (stepIx xs.length lo hi st).filterMap fun i => xs[i]?
def tStepL (K : PySem.W.Frag) (te : TE) (tl th : TO) (st : Int) : TE := fun σ H Q => te σ H fun x H1 => tl σ H1 fun lo H2 => th σ H2 fun hi H3 => ∃ a xs, x = .ref a ∧ SqL K H3 a xs ∧ ∀ p, H3 p = none → Q (.ref p) (upd H3 p (.lst (stepD xs lo hi st)))
theorem pe_stepL {X : Cx} {e : Expr} {te : TE} {lo hi : Option Expr} {tl th : TO} {k : Int} {kk : Nat} {p1 p3 pos : Pos} (h0 : k ≠ 0) (he : PE X e te) (hlo : PO X lo tl) (hhi : PO X hi th) : PE X (.Subscript e (.Slice lo hi (some (.Constant (.int k) kk p1)) p3) pos) (tStepL X.K te tl th k) := by
  refine ⟨fun pins s σ H Q I h => ?_⟩
  refine Subscript_ (thn (he.run pins s σ H _ I h) fun v s1 ⟨x, H1, I1, r1, q1⟩ => ?_)
  have hst : PO X (some (.Constant (.int k) kk p1)) (tPart (tC (.int k))) := po_some pe_int
  refine wpAny_Slice (thn (hlo.run pins s1 σ H1 _ I1 q1) fun vl s2 ⟨l, H2, I2, pl, q2⟩ => ?_)
  refine thn (hhi.run pins s2 σ H2 _ I2 q2) fun vu s3 ⟨u, H3, I3, pu, a, xs, ex, hx, q⟩ => ?_
  subst ex
  cases r1
  refine thn (hst.run pins s3 σ H3 (fun o H4 => o = some k ∧ H4 = H3) I3 ⟨k, rfl, rfl, rfl⟩) fun vs s4 ⟨o, H4, I4, ps, eo, e4⟩ => ?_
  subst eo e4
  have I5 : Inv X pins σ H4 { s4 with heap := s4.heap.push { cls := .type "slice", data := .fields #[vl, vu, vs] } } := I4.kept (t' := s4.toks) fun b ob q => Heap.get?_push_of_some _ q
  obtain ⟨its, r, ht, hz⟩ := I5.list hx
  have hlen := r.length
  show wpAny (model X.prog X.w) X.A (subscriptTail e (.Slice lo hi (some (.Constant (.int k) kk p1)) p3) (.ref a) (.ref s4.heap.objs.size)) (EP X pins σ Q) X.xe { s4 with heap := s4.heap.push { cls := .type "slice", data := .fields #[vl, vu, vs] } }
  refine tail_any (ops := [.ref a, .ref s4.heap.objs.size]) ht.isList.typeIs (PySem.slot_list_getitem.lookup) ?_ (by with_unfolding_all rfl)
  refine wpAny_getItem_list_slice ht.isList (Heap.IsSliceOf.new _ vl vu vs) pl pu ps (by simpa using h0) ?_ (by rw [List.size_toArray]; omega)
  have hv : Vals (stepD xs l u k) ((stepIx xs.length l u k).filterMap fun i => its[i]?) := perm_vals r
  have hpk : slicePick its.toArray l u (some k) = ((stepIx xs.length l u k).filterMap fun i => its[i]?).toArray := by
    unfold slicePick stepIx
    rw [List.size_toArray, hlen]
    congr 1
    congr 1
    funext i
    exact List.getElem?_toArray ..
  rw [hpk]
  refine ⟨.ref _, _, I5.laid (t' := s4.toks) (o := .lst (stepD xs l u k)) (fun b ob q => Heap.get?_push_of_some _ q) (Nat.le_refl _) ?_, rfl, q _ (I5.hok.fresh (Nat.le_refl _))⟩
  refine ⟨?_, _, 0, hv, Heap.get?_push_size _ rfl⟩
  have h1 := slicePick_size_le its.toArray l u (some k)
  rw [hpk, List.size_toArray, List.size_toArray, ← hv.length, ← hlen] at h1
  exact Nat.le_trans h1 hz
section
variable {K : PySem.W.Frag} {W : WX} {X : XD} {μ : Mu} {H : Hp} {ρ : Ro} {Φ : DP} {ta tb tv te : TE} {tl th : TO} {E : ED} {st : Int} {n : Nat} {P : PD} {tk : TA}
theorem evx_stepL (h : EvX K W X μ ρ te fun μ1 x => EvO K W X μ1 ρ tl fun μ2 l => EvO K W X μ2 ρ th fun μ3 u => ∃ ds S, IsL μ3 x ds S ∧ Φ μ3 (.lst (stepD ds l u st))) : EvX K W X μ ρ (tStepL K te tl th st) Φ := fun σ H Q m e l k =>
  h σ H _ m e l fun μ1 x v H1 h1 g1 m1 d1 => h1 σ H1 _ m1 (e.grow g1) (l.grow g1) fun μ2 lo H2 h2 g2 m2 => h2 σ H2 _ m2 ((e.grow g1).grow g2) ((l.grow g1).grow g2) fun μ3 hi H3 ⟨ds, S, hd, hq⟩ g3 m3 => by
    obtain ⟨p, vs, e1, sq, b⟩ := isL_sq m3 hd (Den.grow (g2.trans g3) _ _ d1)
    refine ⟨p, vs, e1, sq, fun q hq' => k _ _ _ _ hq (((g1.trans g2).trans g3).trans (Grow.new hq')) (m3.new hq') ?_⟩
    unfold Den
    refine ⟨q, _, rfl, ⟨m3.free hq', upd_same⟩, ?_⟩
    unfold stepD
    rw [b.length]
    exact DenL.grow (Grow.new hq') _ _ (perm_den b)
/-- xs[::-1] -/
theorem evx_revL (h : EvX K W X μ ρ te fun μ1 x => ∃ ds S, IsL μ1 x ds S ∧ Φ μ1 (.lst ds.reverse)) : EvX K W X μ ρ (tRevL K te) Φ := fun σ H Q m e l k =>
  h σ H _ m e l fun μ1 x v H1 ⟨ds, S, hd, hq⟩ g1 m1 d1 => by
    obtain ⟨p, vs, e1, sq, b⟩ := isL_sq m1 hd d1
    exact ⟨p, vs, e1, sq, fun q hq' => k _ _ _ _ hq (g1.trans (Grow.new hq')) (m1.new hq') (by
      unfold Den
      exact ⟨q, _, rfl, ⟨m1.free hq', upd_same⟩, DenL.grow (Grow.new hq') _ _ b.reverse⟩)⟩
/-- what a slice keeps -/
theorem cut_to {α : Type} (f : α → D) (xs : List α) (k : Nat) : cutD (xs.map f) none (some (k : Int)) = (xs.take k).map f := by
  unfold cutD
  simp only [HT.sIx_none, HT.sIx_nat]
  rw [List.drop_zero, Nat.sub_zero, List.length_map, ← List.map_take]
  congr 1
  exact List.take_eq_take_iff.mpr (by omega)
theorem cut_from {α : Type} (f : α → D) (xs : List α) (k : Nat) : cutD (xs.map f) (some (k : Int)) none = (xs.drop k).map f := by
  unfold cutD
  simp only [HT.sIx_none, HT.sIx_nat]
  rw [List.length_map, ← List.map_drop, ← List.map_take]
  congr 1
  rw [List.take_of_length_le (by rw [List.length_drop]; omega)]
  rcases Nat.lt_or_ge k xs.length with h | h
  · rw [Nat.min_eq_left (by omega)]
  · rw [Nat.min_eq_right h, List.drop_eq_nil_of_le (Nat.le_refl _), List.drop_eq_nil_of_le h]
/-- a pure call by keywords over live data -/
theorem evx_ckZ {a b : Nat} {pm : List Nat} (i : Nat) (h : EvL K W X μ ρ tk fun μ1 es => (permG a b pm [] es).length = n ∧ P muN ((permG a b pm [] es).map (seeF μ1 i)) (fun _ d => scal d = true ∧ Φ μ1 d) excN) : EvX K W X μ ρ (tCallK (spD K n P) (permG a b pm) E0 tNil tk) Φ := fun σ H Q m e l k =>
  h σ H _ m e l fun μ1 es vs H1 ⟨hl, hp⟩ g1 m1 d1 => ⟨muN, (permG a b pm [] es).map (seeF μ1 i), _, excN, mem_muN, by rw [← seeFs_map]; exact (den_seeF m1 i).2 _ _ (permG_den DenL.nil d1), by rw [List.length_map]; exact hl, hp, fun μ' d v H' ⟨hs, hq⟩ g mm dd =>
    k μ1 d v H' hq (g1.trans fun b u hb e => ⟨hb, (g b u rfl e).2⟩) (mem_whole m1 g) (den_scal hs dd), fun _ _ _ _ _ _ z => z.elim⟩
end
theorem pi_via {X : Cx} {tg e : Expr} {w w' : TI} (h : PI X tg e w') (hk : w' = w) : PI X tg e w := hk ▸ h
theorem pc_dinBk {X : Cx} {s : Shared} {H : Hp} {sc : Scope} {ce : Env} {fp : List Addr} {i o : Expr} {ty td : TE} (hu : X.A.units + 1 < cLine) (hi : PE (X.blk s H sc ce fp) i ty) (ho : PE (X.blk s H sc ce fp) o td) : PC (X.blk s H sc ce fp) .In i o (tDIn ty td) := pc_din (X := X.blk s H sc ce fp) hu hi ho
theorem pc_dnotinBk {X : Cx} {s : Shared} {H : Hp} {sc : Scope} {ce : Env} {fp : List Addr} {i o : Expr} {ty td : TE} (hu : X.A.units + 1 < cLine) (hi : PE (X.blk s H sc ce fp) i ty) (ho : PE (X.blk s H sc ce fp) o td) : PC (X.blk s H sc ce fp) .NotIn i o (tDNotIn ty td) := pc_dnotin (X := X.blk s H sc ce fp) hu hi ho
/-! ### [e for x in xs for y in ys] -/
section
variable {K : PySem.W.Frag} {W : WX} {X : XD} {μ : Mu} {ρ : Ro} {Φ : DP} {te : TE} {g g1 : TG} {wi wi1 : TI}
theorem evx_lc2P {vs vs1 : List Nat} (h : ItX K W X μ ρ wi fun μ1 ds S => (∀ m : Mu, (∀ b o, μ1 b = some o → m b = some o) → S m) ∧ ∃ (fs : D → List D),
    (∀ d, d ∈ ds → ∀ μ' : Mu, (∀ b o, μ1 b = some o → μ' b = some o) → TcX K W X vs μ' (wipeD ρ vs) g d fun μ2 ρ2 => ItX K W X μ2 ρ2 wi1 fun μ3 es S1 => μ3 = μ2 ∧ (∀ m, S1 m) ∧ es.length = (fs d).length ∧
      ∀ (j : Nat) (e : D), es[j]? = some e → ∀ μ'' : Mu, (∀ b o, μ1 b = some o → μ'' b = some o) → TcX K W X vs1 μ'' (wipeD ρ2 vs1) g1 e fun μ4 ρ4 => EvX K W X μ4 ρ4 te fun μ5 y => μ5 = μ4 ∧ (fs d)[j]? = some y) ∧
    (ds.flatMap fs).length ≤ 1000000 ∧ Φ μ1 (.lst (ds.flatMap fs))) : EvX K W X μ ρ (tLc2 wi g tYes wi1 g1 tYes te vs vs1) Φ := fun σ H Q m e l k => by
  refine h σ H _ m e l fun μ1 ds S J H1 ⟨hS, fs, hp, hlen, hq⟩ gr1 m1 ok Dl hD => ?_
  have hDm := m1.free hD
  have up : ∀ acc : List D, ∀ b o, μ1 b = some o → mput μ1 Dl (.lst acc) b = some o := fun acc b o e => by
    rw [mput_ne (fun z => by rw [z, hDm] at e; cases e)]; exact e
  have cutp : ∀ acc : List D, mcut (mput μ1 Dl (.lst acc)) Dl = μ1 := fun acc => by
    funext b
    by_cases hb : b = Dl
    · rw [hb, mcut_same, hDm]
    · rw [mcut_ne hb, mput_ne hb]
  have putp : ∀ acc acc' : List D, mput (mput μ1 Dl (.lst acc)) Dl (.lst acc') = mput μ1 Dl (.lst acc') := fun acc acc' => by
    funext b
    by_cases hb : b = Dl
    · rw [hb, mput_same, mput_same]
    · rw [mput_ne hb, mput_ne hb, mput_ne hb]
  obtain ⟨G, Y, w, hG, hY⟩ := ok.w
  have gn : Grow μ1 H1 (mput μ1 Dl (.lst [])) (upd H1 Dl (.lst [])) := Grow.newM hD
  have e1 := wipe_env (vs := vs) (e.grow gr1)
  let Pv : List D → Hp → Prop := fun acc H' => Grow μ1 H1 (mput μ1 Dl (.lst acc)) H' ∧ Mem K (mput μ1 Dl (.lst acc)) H'
  refine ⟨fun i m H' => m = ds.length - i ∧ i ≤ ds.length ∧ Pv ((ds.take i).flatMap fs) H', ⟨ds.length, by simp, Nat.zero_le _, gn, m1.newM hD ⟨[], upd_same, DenL.nil⟩⟩, ?_⟩
  rintro i mm H' ⟨rfl, hi, gr, me⟩
  have q := hG _ H' gr me (hS _ (up _))
  by_cases hlt : i < ds.length
  · refine .inr ⟨w.goes i H' hlt q, Pv ((ds.take (i + 1)).flatMap fs), fun H'' p' => ⟨ds.length - (i + 1), by omega, rfl, hlt, p'⟩, fun x H'' y => ?_⟩
    have hdi : ds[i]? = some ds[i] := List.getElem?_eq_getElem hlt
    have y0 := w.yields i H' x H'' hlt q y
    obtain ⟨q1, q2, q3⟩ := hY i _ H' x H'' ds[i] gr me (hS _ (up _)) y0 hdi
    have gg := gr.trans q1
    refine hp ds[i] (List.getElem_mem hlt) _ (up _) (wipe σ vs) H'' x _ q2 (e1.grow gg) q3 fun ρ2 σ2 it e2 hw => ⟨by rw [hw, wipe_wipe], ?_⟩
    unfold tYes
    dsimp only
    rw [if_pos rfl]
    refine it σ2 H'' _ q2 e2 (l.grow (gr1.trans gg)) fun μ3 es S1 J1 H4 ⟨e3, hS1, hle, hin⟩ g3 m3 ok1 => ?_
    subst e3
    obtain ⟨G1, Y1, w1, hG1, hY1⟩ := ok1.w
    have hfl : ds.take (i + 1) = ds.take i ++ [ds[i]] := by rw [List.take_succ, hdi]; rfl
    have hacc : (ds.take (i + 1)).flatMap fs = (ds.take i).flatMap fs ++ fs ds[i] := by
      rw [hfl, List.flatMap_append]
      show _ ++ (fs ds[i] ++ []) = _
      rw [List.append_nil]
    have hle2 : ((ds.take (i + 1)).flatMap fs).length ≤ 1000000 := by
      refine Nat.le_trans ?_ hlen
      conv => rhs; rw [← List.take_append_drop (i + 1) ds, List.flatMap_append, List.length_append]
      omega
    rw [hacc, List.length_append] at hle2
    let A := (ds.take i).flatMap fs
    refine ⟨fun j k H5 => k = es.length - j ∧ j ≤ es.length ∧ Grow (mput μ1 Dl (.lst A)) H4 (mput μ1 Dl (.lst (A ++ (fs ds[i]).take j))) H5 ∧ Pv (A ++ (fs ds[i]).take j) H5, ⟨es.length, by simp, Nat.zero_le _, by rw [List.take_zero, List.append_nil]; exact Grow.refl _ _, by rw [List.take_zero, List.append_nil]; exact ⟨gg.trans g3, m3⟩⟩, ?_⟩
    rintro j kk H5 ⟨rfl, hj, gz, g5, m5⟩
    have hs1 := hG1 _ H5 gz m5 (hS1 _)
    by_cases hjl : j < es.length
    · refine .inr ⟨w1.goes j H5 hjl hs1, fun H6 => Grow (mput μ1 Dl (.lst A)) H4 (mput μ1 Dl (.lst (A ++ (fs ds[i]).take (j + 1)))) H6 ∧ Pv (A ++ (fs ds[i]).take (j + 1)) H6, fun H6 p' => ⟨es.length - (j + 1), by omega, rfl, hjl, p'⟩, fun x1 H6 y1 => ?_⟩
      have hej : es[j]? = some es[j] := List.getElem?_eq_getElem hjl
      have y2 := w1.yields j H5 x1 H6 hjl hs1 y1
      obtain ⟨r1, r2, r3⟩ := hY1 j _ H5 x1 H6 es[j] gz m5 (hS1 _) y2 hej
      have gz2 := gz.trans r1
      have e5 := wipe_env (vs := vs1) ((e2.grow g3).grow gz2)
      have lg : LiftX K (mput μ1 Dl (.lst (A ++ (fs ds[i]).take j))) H6 X W := l.grow ((gr1.trans g5).trans r1)
      refine hin j es[j] hej _ (up _) (wipe σ2 vs1) H6 x1 _ r2 e5 r3 fun ρ4 σ4 p4 e4 hw4 => ⟨by rw [hw4, wipe_wipe], ?_⟩
      first | (dsimp only; rw [if_pos rfl]) | (unfold tYes; dsimp only; rw [if_pos rfl])
      refine p4 σ4 H6 _ r2 e4 lg fun μ5 yd yv H7 ⟨e6, hy⟩ g7 m7 dy => ?_
      subst e6
      have hl7 : mput μ1 Dl (.lst (A ++ (fs ds[i]).take j)) Dl = some (.lst (A ++ (fs ds[i]).take j)) := mput_same
      obtain ⟨us, hu, hb⟩ := m7 Dl _ hl7
      have et : (fs ds[i]).take (j + 1) = (fs ds[i]).take j ++ [yd] := by rw [List.take_succ, hy]; rfl
      have hsz : (A ++ (fs ds[i]).take j).length ≤ 1000000 := by
        rw [List.length_append]
        have h1 : ((fs ds[i]).take j).length ≤ (fs ds[i]).length := List.length_take_le' ..
        show ((ds.take i).flatMap fs).length + _ ≤ _
        omega
      have m8 := m7.wr (mo' := .lst ((A ++ (fs ds[i]).take j) ++ [yd])) hl7 ⟨us ++ [yv], upd_same, (DenL.grow (Grow.wr hl7) _ _ hb).append (DenL.cons (Den.grow (Grow.wr hl7) _ _ dy) DenL.nil)⟩
      have g8 : Grow (mput μ1 Dl (.lst (A ++ (fs ds[i]).take j))) H7 (mput (mput μ1 Dl (.lst (A ++ (fs ds[i]).take j))) Dl (.lst ((A ++ (fs ds[i]).take j) ++ [yd]))) (upd H7 Dl (.lst (us ++ [yv]))) := Grow.wr hl7
      rw [putp] at m8 g8
      rw [List.append_assoc, ← et] at m8 g8
      exact ⟨us, hu, by rw [← hb.length]; exact Nat.lt_of_le_of_lt hsz (by decide), (gz2.trans g7).trans g8, ((g5.trans r1).trans g7).trans g8, m8⟩
    · have e9 : j = es.length := by omega
      subst e9
      have ef : (fs ds[i]).take es.length = fs ds[i] := by rw [hle, List.take_length]
      rw [ef] at g5 m5
      refine .inl ⟨w1.stops H5 hs1, ?_⟩
      show Pv ((ds.take (i + 1)).flatMap fs) H5
      rw [hacc]
      exact ⟨g5, m5⟩
  · have ei : i = ds.length := by omega
    subst ei
    refine .inl ⟨w.stops H' q, ?_⟩
    rw [List.take_length] at gr me
    obtain ⟨us, hu, hb⟩ := me Dl _ mput_same
    have mc := me.cut (a := Dl)
    have gc : Grow μ1 H1 (mcut (mput μ1 Dl (.lst (ds.flatMap fs))) Dl) H' := gr.trans Grow.cut
    have db := DenL.less (Less.cut (a := Dl)) _ _ hb
    rw [cutp] at mc gc db
    exact k μ1 _ _ H' hq (gr1.trans gc) mc (by unfold Den; exact ⟨Dl, us, rfl, ⟨hDm, hu⟩, db⟩)
end
/-! ### numbers of the program: fractions -/
def numD (a b : Int) : D := .tup [.int a, .int b]
/-- the program's number of a fraction -/
def numQ (q : Rat) : D := numD q.num q.den
theorem numQ_inj {q r : Rat} (h : numQ q = numQ r) : q = r := by
  unfold numQ numD at h
  injection h with h
  injection h with h1 h2
  injection h2 with h2 _
  injection h1 with h1
  injection h2 with h2
  exact Rat.ext h1 (Int.ofNat.inj h2)
theorem rat_eq {q : Rat} {a b : Int} (hb : 0 < b) (hg : Nat.gcd a.natAbs b.natAbs = 1) (h : (a : Rat) = q * b) : q.num = a ∧ (q.den : Int) = b := by
  obtain ⟨d, rfl⟩ := Int.eq_ofNat_of_zero_le (Int.le_of_lt hb)
  have hd : d ≠ 0 := by omega
  have e : q = ⟨a, d, hd, by simpa using hg⟩ := by
    rw [Rat.mk_eq_divInt, Rat.divInt_eq_div, h]
    have : ((d : Int) : Rat) ≠ 0 := by
      intro z
      have : ((d : Int) : Rat) = ((0 : Int) : Rat) := z
      rw [Rat.intCast_inj] at this
      omega
    grind
  rw [e]
  exact ⟨rfl, rfl⟩
/-- a fraction by any two ints -/
theorem num_by {q : Rat} {a b : Int} (hb : b ≠ 0) : q = (a : Rat) / (b : Rat) ↔ (a : Rat) = q * b := by
  have : (b : Rat) ≠ 0 := by
    intro z
    have : (b : Rat) = ((0 : Int) : Rat) := z
    rw [Rat.intCast_inj] at this
    exact hb this
  grind
theorem rat_num_den (q : Rat) : (q.num : Rat) = q * ((q.den : Int) : Rat) := by
  have h := Rat.num_divInt_den q
  rw [Rat.divInt_eq_div] at h
  exact ((num_by (q := q) (a := q.num) (b := q.den) (by have := q.den_pos; omega)).mp h.symm)
theorem gcd_lower {a b : Int} (h : b ≠ 0) : ∃ (G x y : Int), 0 < G ∧ ((Nat.gcd a.natAbs b.natAbs : Nat) : Int) = G ∧ a = G * x ∧ b = G * y ∧ Nat.gcd x.natAbs y.natAbs = 1 := by
  have hg : 0 < Nat.gcd a.natAbs b.natAbs := Nat.gcd_pos_of_pos_right _ (by omega)
  obtain ⟨x, hx⟩ : ((Nat.gcd a.natAbs b.natAbs : Nat) : Int) ∣ a := Int.ofNat_dvd_left.mpr (Nat.gcd_dvd_left _ _)
  obtain ⟨y, hy⟩ : ((Nat.gcd a.natAbs b.natAbs : Nat) : Int) ∣ b := Int.ofNat_dvd_left.mpr (Nat.gcd_dvd_right _ _)
  refine ⟨_, x, y, by omega, rfl, hx, hy, ?_⟩
  have e1 : a.natAbs = Nat.gcd a.natAbs b.natAbs * x.natAbs := by
    conv => lhs; rw [hx]
    rw [Int.natAbs_mul]; rfl
  have e2 : b.natAbs = Nat.gcd a.natAbs b.natAbs * y.natAbs := by
    conv => lhs; rw [hy]
    rw [Int.natAbs_mul]; rfl
  have e3 : Nat.gcd a.natAbs b.natAbs * Nat.gcd x.natAbs y.natAbs = Nat.gcd a.natAbs b.natAbs := by
    rw [← Nat.gcd_mul_left, ← e1, ← e2]
  exact Nat.eq_of_mul_eq_mul_left hg (by rw [e3, Nat.mul_one])
/-- the sign of what lies below -/
theorem low_quot {a b s : Int} (h : b ≠ 0) (hs : s = if b < 0 then -((Nat.gcd a.natAbs b.natAbs : Nat) : Int) else ((Nat.gcd a.natAbs b.natAbs : Nat) : Int)) : numD (a.fdiv s) (b.fdiv s) = numQ ((a : Rat) / (b : Rat)) := by
  obtain ⟨G, x, y, hG, eG, ea, eb, hc⟩ := gcd_lower (a := a) h
  rw [eG] at hs
  have hy0 : y ≠ 0 := by rintro rfl; rw [Int.mul_zero] at eb; exact h eb
  have fin : ∀ x' y' : Int, 0 < y' → Nat.gcd x'.natAbs y'.natAbs = 1 → a * y' = x' * b → numD x' y' = numQ ((a : Rat) / (b : Rat)) := by
    intro x' y' h1 h2 h3
    have e : (x' : Rat) = ((a : Rat) / (b : Rat)) * (y' : Rat) := by
      have hb : (b : Rat) ≠ 0 := by
        intro z
        have : (b : Rat) = ((0 : Int) : Rat) := z
        rw [Rat.intCast_inj] at this
        exact h this
      have : (a : Rat) * (y' : Rat) = (x' : Rat) * (b : Rat) := by
        rw [← Rat.intCast_mul, ← Rat.intCast_mul, h3]
      grind
    obtain ⟨e1, e2⟩ := rat_eq h1 h2 e
    unfold numQ
    rw [e1, e2]
  by_cases hb : b < 0
  · rw [if_pos hb] at hs
    rw [hs]
    have e1 : a.fdiv (-G) = -x := by rw [ea, show G * x = (-G) * (-x) by grind, Int.mul_fdiv_cancel_left _ (by omega)]
    have e2 : b.fdiv (-G) = -y := by rw [eb, show G * y = (-G) * (-y) by grind, Int.mul_fdiv_cancel_left _ (by omega)]
    rw [e1, e2]
    have hy : y < 0 := by
      rcases Int.lt_trichotomy y 0 with q | q | q
      · exact q
      · exact absurd q hy0
      · have := Int.mul_pos hG q; omega
    exact fin _ _ (by omega) (by rw [Int.natAbs_neg, Int.natAbs_neg]; exact hc) (by rw [ea, eb]; grind)
  · rw [if_neg hb] at hs
    rw [hs]
    have e1 : a.fdiv G = x := by rw [ea, Int.mul_fdiv_cancel_left _ (by omega)]
    have e2 : b.fdiv G = y := by rw [eb, Int.mul_fdiv_cancel_left _ (by omega)]
    rw [e1, e2]
    have hy : 0 < y := by
      rcases Int.lt_trichotomy y 0 with q | q | q
      · have := Int.mul_neg_of_pos_of_neg hG q; omega
      · exact absurd q hy0
      · exact q
    exact fin _ _ hy hc (by rw [ea, eb]; grind)
/-! ### how great the two ints are -/
def Sz (n : Nat) (q : Rat) : Prop := q.num.natAbs < 2 ^ n ∧ q.den < 2 ^ n
theorem Sz.mono {n m : Nat} {q : Rat} (h : Sz n q) (hm : n ≤ m) : Sz m q := ⟨Nat.lt_of_lt_of_le h.1 (Nat.pow_le_pow_right (by decide) hm), Nat.lt_of_lt_of_le h.2 (Nat.pow_le_pow_right (by decide) hm)⟩
/-- a fraction by two ints is no greater than they -/
theorem div_le {q : Rat} {a b : Int} (hb : b ≠ 0) (h : (a : Rat) = q * b) : q.num.natAbs ≤ a.natAbs ∧ q.den ≤ b.natAbs := by
  have e : a * (q.den : Int) = q.num * b := by
    rw [← Rat.intCast_inj, Rat.intCast_mul, Rat.intCast_mul, h, rat_num_den q]
    grind
  have hd : q.den ∣ b.natAbs := by
    have h1 : (q.den : Int) ∣ q.num * b := ⟨a, by rw [← e]; grind⟩
    have h2 : q.den ∣ q.num.natAbs * b.natAbs := by
      have := Int.natAbs_dvd_natAbs.mpr h1
      rwa [Int.natAbs_mul] at this
    exact Nat.Coprime.dvd_of_dvd_mul_left (Nat.Coprime.symm q.reduced) h2
  obtain ⟨k, hk⟩ := hd
  have hk0 : 0 < k := Nat.pos_of_ne_zero (by rintro rfl; rw [Nat.mul_zero] at hk; omega)
  refine ⟨?_, by rw [hk]; exact Nat.le_mul_of_pos_right _ hk0⟩
  have e2 : a.natAbs * q.den = q.num.natAbs * b.natAbs := by
    have := congrArg Int.natAbs e
    rw [Int.natAbs_mul, Int.natAbs_mul] at this
    exact this
  rw [hk] at e2
  have e3 : a.natAbs = q.num.natAbs * k := by
    refine Nat.eq_of_mul_eq_mul_right q.den_pos ?_
    rw [e2]
    grind
  rw [e3]
  exact Nat.le_mul_of_pos_right _ hk0
theorem Sz.div {n : Nat} {a b : Int} (hb : b ≠ 0) (h1 : a.natAbs < 2 ^ n) (h2 : b.natAbs < 2 ^ n) : Sz n ((a : Rat) / (b : Rat)) := by
  obtain ⟨e1, e2⟩ := div_le (q := (a : Rat) / (b : Rat)) hb ((num_by hb).mp rfl)
  exact ⟨Nat.lt_of_le_of_lt e1 h1, Nat.lt_of_le_of_lt e2 h2⟩
theorem lt_pow_mul {a b n m : Nat} (h1 : a < 2 ^ n) (h2 : b < 2 ^ m) : a * b < 2 ^ (n + m) := by
  rw [Nat.pow_add]
  exact Nat.mul_lt_mul'' h1 h2
theorem lt_pow_add {a b n : Nat} (h1 : a < 2 ^ n) (h2 : b < 2 ^ n) : a + b < 2 ^ (n + 1) := by
  rw [Nat.pow_succ]; omega
theorem add_by (q r : Rat) : ((q.num * r.den + r.num * q.den : Int) : Rat) = (q + r) * ((q.den * r.den : Int) : Rat) := by
  rw [Rat.intCast_add, Rat.intCast_mul, Rat.intCast_mul, Rat.intCast_mul, rat_num_den q, rat_num_den r]
  grind
theorem mul_by (q r : Rat) : ((q.num * r.num : Int) : Rat) = (q * r) * ((q.den * r.den : Int) : Rat) := by
  rw [Rat.intCast_mul, Rat.intCast_mul, rat_num_den q, rat_num_den r]
  grind
theorem den_ne (q : Rat) : (q.den : Int) ≠ 0 := by have := q.den_pos; omega
theorem Sz.add {n m : Nat} {q r : Rat} (h1 : Sz n q) (h2 : Sz m r) : Sz (n + m + 1) (q + r) := by
  obtain ⟨e1, e2⟩ := div_le (Int.mul_ne_zero (den_ne q) (den_ne r)) (add_by q r)
  refine ⟨Nat.lt_of_le_of_lt e1 ?_, Nat.lt_of_le_of_lt e2 ?_⟩
  · refine Nat.lt_of_le_of_lt (Int.natAbs_add_le _ _) ?_
    rw [Int.natAbs_mul, Int.natAbs_mul, Int.natAbs_natCast, Int.natAbs_natCast]
    exact lt_pow_add (lt_pow_mul h1.1 h2.2) (by rw [Nat.add_comm n m]; exact lt_pow_mul h2.1 h1.2)
  · rw [Int.natAbs_mul, Int.natAbs_natCast, Int.natAbs_natCast]
    exact Nat.lt_of_lt_of_le (lt_pow_mul h1.2 h2.2) (Nat.pow_le_pow_right (by decide) (by omega))
theorem Sz.mul {n m : Nat} {q r : Rat} (h1 : Sz n q) (h2 : Sz m r) : Sz (n + m) (q * r) := by
  obtain ⟨e1, e2⟩ := div_le (Int.mul_ne_zero (den_ne q) (den_ne r)) (mul_by q r)
  refine ⟨Nat.lt_of_le_of_lt e1 ?_, Nat.lt_of_le_of_lt e2 ?_⟩
  · rw [Int.natAbs_mul]
    exact lt_pow_mul h1.1 h2.1
  · rw [Int.natAbs_mul, Int.natAbs_natCast, Int.natAbs_natCast]
    exact lt_pow_mul h1.2 h2.2
theorem sz0 (n : Nat) (h : 1 ≤ n) : Sz n 0 := ⟨Nat.two_pow_pos _, Nat.lt_of_lt_of_le (by decide : 1 < 2 ^ 1) (Nat.pow_le_pow_right (by decide) h)⟩
theorem sz1 (n : Nat) (h : 1 ≤ n) : Sz n 1 := ⟨Nat.lt_of_lt_of_le (by decide : 1 < 2 ^ 1) (Nat.pow_le_pow_right (by decide) h), Nat.lt_of_lt_of_le (by decide : 1 < 2 ^ 1) (Nat.pow_le_pow_right (by decide) h)⟩
/-! ### texts of signs, numbers: what many laws use -/
/-- the text of one sign -/
def sg (c : Nat) : Str := ⟨#[c]⟩
theorem join_sg : ∀ cs : List Nat, (Str.join ⟨#[]⟩ (cs.map sg)).cps.toList = cs
  | [] => rfl
  | [c] => rfl
  | c :: c' :: cs => by
    have ih := join_sg (c' :: cs)
    show ((sg c).cps ++ #[] ++ (Str.join ⟨#[]⟩ ((c' :: cs).map sg)).cps).toList = _
    rw [Array.toList_append, ih]
    rfl
theorem join_sg' (cs : List Nat) : Txt.join ⟨#[]⟩ (cs.map sg) = ⟨cs.toArray⟩ := by
  rw [TL.join_eq]
  have h := join_sg cs
  generalize Str.join ⟨#[]⟩ (cs.map sg) = z at h
  obtain ⟨a⟩ := z
  simp only at h
  rw [← h]
theorem rising_sg : ∀ (c : Nat) (cs : List Nat), risingS (sg c) (cs.map sg) = true → (c :: cs).Pairwise (· ≤ ·)
  | c, [], _ => List.pairwise_singleton _ _
  | c, d :: cs, h => by
    rw [List.map_cons] at h
    unfold risingS at h
    rw [Bool.and_eq_true] at h
    have ih := rising_sg d cs h.2
    have h1 : c ≤ d := by
      have h2 := h.1
      simp only [sg, ltCps, Bool.not_eq_true', Bool.or_eq_false_iff, decide_eq_false_iff_not] at h2
      omega
    refine List.Pairwise.cons (fun e he => ?_) ih
    rcases List.mem_cons.mp he with e1 | e1
    · omega
    · have := (List.pairwise_cons.mp ih).1 e e1
      omega
theorem sorted_sg : ∀ cs : List Nat, sortedS (cs.map sg) = true → cs.Pairwise (· ≤ ·)
  | [], _ => List.Pairwise.nil
  | c :: cs, h => rising_sg c cs h
/-- one to three letters, ascending -/
def Signs (z : Str) : Prop := z.cps.toList.Pairwise (· < ·) ∧ (∀ c ∈ z.cps.toList, 97 ≤ c ∧ c ≤ 122) ∧ 1 ≤ z.cps.toList.length ∧ z.cps.toList.length ≤ 3
def letters : List Nat := (Str.ofString "abcdefghijklmnopqrstuvwxyz").cps.toList
theorem letters_nd : letters.Nodup := by decide +kernel
theorem letters_in : ∀ c ∈ letters, 97 ≤ c ∧ c ≤ 122 := by decide +kernel
theorem letters_len : letters.length = 26 := by decide +kernel
theorem perm_map_sg {zs : List Str} : ∀ {cs : List Nat}, zs.Perm (cs.map sg) → ∃ es : List Nat, zs = es.map sg ∧ es.Perm cs := fun {cs} h => by
  refine ⟨zs.map fun z => z.cps.toList.headD 0, ?_, ?_⟩
  · rw [List.map_map]
    have : ∀ z ∈ zs, (sg ∘ fun z : Str => z.cps.toList.headD 0) z = z := fun z hz => by
      obtain ⟨c, _, rfl⟩ := List.mem_map.mp (h.mem_iff.mp hz)
      rfl
    conv => lhs; rw [← List.map_id zs]
    exact (List.map_congr_left fun z hz => (this z hz).symm)
  · have := h.map fun z : Str => z.cps.toList.headD 0
    rw [List.map_map] at this
    have e : ((fun z : Str => z.cps.toList.headD 0) ∘ sg) = id := by funext c; rfl
    rw [e, List.map_id] at this
    exact this
theorem signs_mk {zs : List Str} {es : List Nat} (hp : zs.Perm (es.map sg)) (hs : sortedS zs = true) (hn : es.Nodup) (hi : ∀ c ∈ es, c ∈ letters) (h1 : 1 ≤ es.length) (h3 : es.length ≤ 3) : ∃ z, Txt.join (Str.ofString "") zs = z ∧ Signs z := by
  obtain ⟨fs, rfl, hf⟩ := perm_map_sg hp
  refine ⟨_, rfl, ?_⟩
  have e : Txt.join (Str.ofString "") (fs.map sg) = ⟨fs.toArray⟩ := join_sg' fs
  rw [e]
  have hle := sorted_sg fs hs
  have hnd : fs.Nodup := hf.nodup_iff.mpr hn
  refine ⟨?_, fun c hc => letters_in c (hi c (hf.mem_iff.mp (by simpa using hc))), ?_, ?_⟩
  · show fs.toArray.toList.Pairwise _
    rw [List.toList_toArray]
    exact (List.Pairwise.and hle hnd).imp fun {a b} h => Nat.lt_of_le_of_ne h.1 h.2
  · show 1 ≤ fs.toArray.toList.length
    rw [List.toList_toArray, hf.length_eq]; exact h1
  · show fs.toArray.toList.length ≤ 3
    rw [List.toList_toArray, hf.length_eq]; exact h3
def sgD (c : Nat) : D := .str (sg c)
theorem sgD_map (cs : List Nat) : cs.map sgD = (cs.map sg).map D.str := by rw [List.map_map]; rfl
theorem signsD_eq (z : Str) : signsD z = z.cps.toList.map sgD := rfl
theorem perm_erase : ∀ {cs : List Nat} {k : Nat} (hk : k < cs.length), (cs[k] :: cs.eraseIdx k).Perm cs
  | c :: cs, 0, _ => List.Perm.refl _
  | c :: cs, k + 1, hk => by
    have ih := perm_erase (cs := cs) (k := k) (by rw [List.length_cons] at hk; omega)
    exact (List.Perm.swap _ _ _).trans (List.Perm.cons c ih)
theorem map_erase {α β : Type} (f : α → β) : ∀ (cs : List α) (k : Nat), (cs.map f).eraseIdx k = (cs.eraseIdx k).map f
  | [], _ => rfl
  | c :: cs, 0 => rfl
  | c :: cs, k + 1 => by
    show f c :: (cs.map f).eraseIdx k = f c :: (cs.eraseIdx k).map f
    rw [map_erase f cs k]
theorem pick_perm {cs es as : List Nat} {k : Nat} (hk : k < cs.length) (h : (cs ++ es).Perm as) : (cs.eraseIdx k ++ (es ++ [cs[k]])).Perm as := by
  refine List.Perm.trans ?_ h
  rw [← List.append_assoc]
  refine List.perm_append_comm.trans ?_
  rw [← List.append_assoc]
  exact List.Perm.append_right _ (perm_erase hk)
theorem sum_sg : ∀ cs : List Nat, ((cs.map sg).map (·.length)).sum = cs.length
  | [] => rfl
  | c :: cs => by
    rw [List.map_cons, List.map_cons, List.sum_cons, sum_sg cs, List.length_cons]
    show 1 + _ = _
    omega
theorem seq_nat {j : Int} {n : Nat} (h0 : 0 ≤ j) (h1 : j < n) : seqIndex? j n = some j.toNat := by
  have h2 : ¬ j < 0 := by omega
  unfold seqIndex?
  dsimp only
  rw [if_neg h2, if_pos (by rw [Bool.and_eq_true, decide_eq_true_eq, decide_eq_true_eq]; exact ⟨h0, h1⟩)]
def txt (cs : List Nat) : Str := ⟨cs.toArray⟩
theorem txt_cps (cs : List Nat) : (txt cs).cps.toList = cs := List.toList_toArray ..
theorem txt_len (cs : List Nat) : (txt cs).length = cs.length := by
  show cs.toArray.size = _
  rw [List.size_toArray]
theorem map_at {α : Type} {f : α → D} {l : List α} {i : Nat} {d : D} (h : (l.map f)[i]? = some d) : ∃ x, l[i]? = some x ∧ d = f x := by
  rw [List.getElem?_map] at h
  cases e : l[i]? with
  | none => rw [e] at h; exact nomatch h
  | some x => rw [e] at h; cases h; exact ⟨x, rfl, rfl⟩
theorem sg_inj {a b : Nat} (h : sg a = sg b) : a = b := by
  have : (sg a).cps.toList = (sg b).cps.toList := by rw [h]
  simpa [sg] using this
theorem mem_snc {α : Type} {l : List α} {d : α} {P : α → Prop} (h : ∀ e ∈ l, P e) (hd : P d) : ∀ e ∈ l ++ [d], P e := fun e he => by
  rcases List.mem_append.mp he with he | he
  · exact h e he
  · rw [List.mem_singleton] at he; subst he; exact hd
theorem take_snc {α : Type} {l : List α} {i : Nat} {d : α} (h : l[i]? = some d) : l.take (i + 1) = l.take i ++ [d] := by rw [List.take_succ, h]; rfl
theorem nice_numQ (n : Nat) (q : Rat) : Nice (n + 1) (numQ q) := nice_tup fun e he => by
  simp only [List.mem_cons, List.not_mem_nil, or_false] at he
  rcases he with rfl | rfl <;> exact nice_int _ _
theorem lay_sg1 {c : Nat} (h : c < 1114112) : (PyData.str (sg c)).canLay0 = true := by
  show Array.all #[c] (fun x => decide (x < 1114112)) = true
  simp [h]
theorem pick_anyB {α : Type} {ds : List α} {x : Int} (h0 : 0 ≤ x) (h1 : x < ds.length) : ∃ d, d ∈ ds ∧ atI ds x = some d := by
  have hk : x.toNat < ds.length := by omega
  refine ⟨ds[x.toNat], List.getElem_mem hk, ?_⟩
  unfold atI ixN
  rw [if_pos h0, if_pos h1]
  exact List.getElem?_eq_getElem hk
theorem str_txt (z : Str) : z = txt z.cps.toList := by
  obtain ⟨⟨l⟩⟩ := z
  rfl
theorem in_letters {k : Nat} (h1 : 97 ≤ k) (h2 : k ≤ 122) : k ∈ letters := by
  have hh : ∀ j : Fin 26, (97 + j.val) ∈ letters := by decide +kernel
  have := hh ⟨k - 97, by omega⟩
  rwa [show 97 + (k - 97) = k by omega] at this
theorem sum_len1 : ∀ ws : List Nat, ((ws.map sg).map (·.length)).sum = ws.length
  | [] => rfl
  | c :: ws => by
    have ih := sum_len1 ws
    show (sg c).length + ((ws.map sg).map (·.length)).sum = ws.length + 1
    rw [ih]
    show 1 + ws.length = _
    omega
theorem join_txt (ws : List Nat) : Txt.join (Str.ofString "") (ws.map sg) = txt ws := join_sg' ws
theorem add_txt (a b : List Nat) : txt a ++ txt b = txt (a ++ b) := by
  show (⟨a.toArray ++ b.toArray⟩ : Str) = ⟨(a ++ b).toArray⟩
  rw [List.append_toArray]
def isNum (a b : Int) : Bool := decide (1 ≤ b) && decide (((Nat.gcd a.natAbs b.natAbs : Nat) : Int) = 1)
def P_isnum : PD := fun μ ds post _ => ∃ a b : Int, ds = [numD a b] ∧ post μ (.bl (isNum a b))
theorem isNum_pos {a b : Int} (h : isNum a b = true) : 0 < b := by
  unfold isNum at h
  rw [Bool.and_eq_true, decide_eq_true_eq] at h
  omega
theorem isNum_q (q : Rat) : isNum q.num q.den = true := by
  unfold isNum
  have h1 := q.den_pos
  have h2 : Nat.gcd q.num.natAbs q.den = 1 := q.reduced
  rw [decide_eq_true (by omega), Int.natAbs_natCast, h2]
  rfl
/-- the signs of a machine -/
def okSigns (cs : List Nat) : Prop := cs.Pairwise (· < ·) ∧ (∀ c ∈ cs, c ∈ letters) ∧ cs ≠ []
def P_csigns (A : Addr) : PD := fun μ ds post exc => ∃ z : Str, ds = [.str z] ∧ (okSigns z.cps.toList → post μ .non) ∧ (¬ okSigns z.cps.toList → exc μ A (.str z))
def lastS (cs : List Nat) : Str := match cs.getLast? with | none => ⟨#[]⟩ | some c => sg c
theorem lastS_snoc (cs : List Nat) (c : Nat) : lastS (cs ++ [c]) = sg c := by unfold lastS; rw [List.getLast?_concat]
theorem le_last (cs : List Nat) (c : Nat) (h : cs.Pairwise (· < ·)) : (!decide ((lastS cs).cps.toList < (sg c).cps.toList)) = true ↔ ¬ (cs ++ [c]).Pairwise (· < ·) := by
  have e : ∀ a b : Nat, ((sg a).cps.toList < (sg b).cps.toList) ↔ a < b := fun a b => by
    have h1 : decide ((sg a).cps.toList < (sg b).cps.toList) = decide (a < b) := by
      rw [← PyProof.Rows.ltCps_eq]
      simp [ltCps, sg]
    exact decide_eq_decide.mp h1
  rw [Bool.not_eq_true', decide_eq_false_iff_not]
  refine not_congr ?_
  rcases List.eq_nil_or_concat cs with rfl | ⟨ds, d, rfl⟩
  · refine ⟨fun _ => List.pairwise_singleton _ _, fun _ => ?_⟩
    exact List.nil_lt_cons c []
  · rw [List.concat_eq_append] at h ⊢
    rw [lastS_snoc, e]
    refine ⟨fun hl => ?_, fun hp => ?_⟩
    · rw [List.pairwise_append]
      refine ⟨h, List.pairwise_singleton _ _, fun x hx y hy => ?_⟩
      rw [List.mem_singleton] at hy
      subst hy
      rcases List.mem_append.mp hx with hx | hx
      · have := (List.pairwise_append.mp h).2.2 x hx d (List.mem_singleton.mpr rfl)
        omega
      · rw [List.mem_singleton] at hx; omega
    · exact (List.pairwise_append.mp hp).2.2 d (List.mem_append_right _ (List.mem_singleton.mpr rfl)) c (List.mem_singleton.mpr rfl)
local macro_rules | `(tactic| walk_at "d2") => `(tactic| first
  | with_reducible refine gs_seq ?_
  | with_reducible refine gs_asg ?_
  | with_reducible refine gs_ret ?_
  | with_reducible refine gs_drop ?_
  | with_reducible refine gs_next ?_
  | with_reducible refine gs_par ?_
  | with_reducible refine gs_retN ?_
  | ((with_reducible refine evx_var (d := ?dd) ?hh ?_); (case hh => exact rfl))
  | with_reducible refine evx_int ?_
  | with_reducible refine evx_str ?_
  | with_reducible refine evx_bl ?_
  | with_reducible refine evx_non ?_
  | with_reducible refine evx_ty ?_
  | with_reducible refine evx_at ?_
  | with_reducible refine evx_op ?_
  | with_reducible refine evx_un ?_
  | ((with_reducible refine evx_isT (cs := ["list", "tuple"]) ?hr ?hc ?_); (case hr => exact fun μ1 Ψ q => evl_cons (evx_ty (evl_cons (evx_ty (evl_nil q))))); (case hc => decide))
  | ((fail_if_success (with_reducible show EvX _ _ _ _ _ (tCB _ (tCons _ (tCons (tTup _) tNil))) _)); (with_reducible refine evx_cb ?_))
  | with_reducible refine evl_cons ?_
  | with_reducible refine evl_nil ?_
  | with_reducible refine evx_tup ?_
  | with_reducible refine evx_if ?_
  | with_reducible refine evb_test ?_
  | with_reducible refine evb_B ?_
  | with_reducible refine evb_and ?_
  | with_reducible refine evb_or ?_
  | with_reducible refine evb_not ?_
  | with_reducible refine evx_andV ?_
  | with_reducible refine evx_orV ?_
  | with_reducible refine evx_notV ?_
  | with_reducible refine evx_isN ?_
  | with_reducible refine evx_notN ?_
  | with_reducible refine evx_xv ?_
  | with_reducible refine evx_call ?_
  | with_reducible refine evx_callS ?_
  | with_reducible refine evx_ck ?_
  | with_reducible refine evx_ckS ?_
  | with_reducible refine evx_sl ?_
  | with_reducible refine evo_none ?_
  | with_reducible refine evo_part ?_
  | ((with_reducible refine slx_S ?_ ?_); (exact Nat.le_of_ble_eq_true rfl))
  | with_reducible refine tgx_name ?_
  | ((with_reducible refine tgx_tup ?_ ?_); exact rfl)
  | with_reducible refine tgsx_cons ?_
  | with_reducible refine tgsx_nil ?_
  | with_reducible refine gs_break ?_
  | with_reducible refine gs_cont ?_
  | walk_at "dop")
local macro_rules | `(tactic| walk_at "d1") => `(tactic| first | walk_at "d2" | with_reducible refine gs_if ?_)
local macro_rules | `(tactic| walk_at "dl") => `(tactic| refine ⟨Nat.le_of_ble_eq_true rfl, ?_⟩)
local macro_rules | `(tactic| walk_at "dop") => `(tactic| first
  | with_reducible refine opx_i0 ?_
  | with_reducible refine opx_b0 ?_
  | with_reducible refine opx_l (opx_i0 ?_)
  | with_reducible refine opx_l (opx_eqI ?_)
  | with_reducible refine opx_l (opx_neI ?_)
  | with_reducible refine opx_l (opx_eqS ?_)
  | with_reducible refine opx_l (opx_neS ?_)
  | with_reducible refine opx_l (opx_eqB ?_)
  | with_reducible refine opx_l (opx_neB ?_)
  | ((with_reducible refine opx_i ?_ ?_); walk_at "ds")
  | ((with_reducible refine opx_l (opx_i ?_ ?_)); walk_at "ds")
  | with_reducible refine unx_i ?_
  | ((with_reducible refine cax_is (T := ?tt) (b := ?bb) ?ht ?hk ?_); (case ht => exact rfl); (case hk => walk_at "dty"))
  | ((refine cax_len (n := ?nn) ?hx ?_); (case hx => exact rfl))
  | with_reducible refine cax_abs ?_
  | with_reducible refine cax_int ?_
  | with_reducible refine cax_gcd ?_
  | with_reducible refine cax_max2 ?_
  | with_reducible refine cax_min2 ?_
  | ((with_reducible show OpX _ (rIx _) _ (D.at _) _ _); (refine opx_ixA (es := ?ee) (d := ?dd) ?h1 ?h2 ?_); (case h1 => first | assumption | exact mput_same); (case h2 => exact rfl))
  | ((with_reducible show OpX _ (rIx _) _ _ _ _); (refine opx_ix (es := ?ee) (d := ?dd) ?h1 ?h2 ?_); (case h1 => first | exact rfl | assumption); (case h2 => first | exact rfl | assumption))
  | (refine ⟨Nat.le_of_ble_eq_true rfl, ?_⟩)
  | with_reducible refine ⟨_, rfl, ?_⟩
  | ((refine ⟨?tt, ?bb, ?ht, ?hk, ?_⟩); (case ht => exact rfl); (case hk => walk_at "dtys"))
  | with_reducible refine ⟨_, _, rfl, ?_⟩
  | (refine ⟨rfl, ?_⟩))
/-- a side condition: known, or plain arithmetic -/
local macro_rules | `(tactic| walk_at "ds") => `(tactic| first | assumption | exact ⟨by decide, by decide⟩ | (exact by decide) | omega)
local macro_rules | `(tactic| walk_at "dix") => `(tactic| first | (exact rfl; exact rfl) | (first | assumption | exact rfl); (first | assumption | exact rfl))
local macro_rules | `(tactic| walk_at "dx") => `(tactic| ((repeat (walk_at "d1")); try dsimp only))
/-- as dx, but up to an if -/
local macro_rules | `(tactic| walk_at "dn") => `(tactic| ((repeat (walk_at "d2")); try dsimp only))
local macro_rules | `(tactic| walk_at "d0") => `(tactic| try dsimp only [cxOf, Cx.nox, Cx.wish, Cx.tr, Cx.suite])
local macro_rules | `(tactic| walk_at "dty") => `(tactic| first | exact kit_int_int | exact kit_int_bool | exact kit_int_str | exact kit_int_list | exact kit_int_tuple | exact kit_bool_bool | exact kit_bool_int | exact kit_bool_str | exact kit_str_str | exact kit_tuple_tuple | exact kit_tuple_list | exact kit_list_list | exact kit_list_tuple | exact kit_NoneType_int | exact kit_NoneType_bool | exact kit_NoneType_str | exact kit_NoneType_list | exact kit_tuple_str | exact kit_list_str | exact kit_str_bool | exact kit_str_int | exact kit_str_list | exact kit_str_tuple | exact kit_bool_list | exact kit_bool_tuple)
local macro_rules | `(tactic| walk_at "dtys") => `(tactic| first | exact kits_int_lt | exact kits_bool_lt | exact kits_str_lt | exact kits_tuple_lt | exact kits_list_lt | exact kits_NoneType_lt)
local macro_rules | `(tactic| walk_at "dz") => `(tactic| ((walk_at "dx"); (repeat ((first | refine ifY rfl ?_ | refine ifNo rfl ?_); walk_at "dx"))))
def top (i : Nat) : Stmt := PySem.Challenge.pw_textworths_k73_messages_that_are_asked.main.body.getD i (.Pass ⟨0, 0, 0, 0⟩)
abbrev s_WorthError___init__ : Stmt := inClass (top 2) 0
theorem sc_WorthError___init__ : FnScope ["self", "value"] ["self", "value"] (defScope s_WorthError___init__) := ⟨rfl, rfl, rfl, by decide +kernel, rfl, by decide +kernel, by decide +kernel⟩
abbrev s_is_number : Stmt := top 7
theorem sc_is_number : FnScope ["value", "above", "below"] ["value"] (defScope s_is_number) := ⟨rfl, rfl, rfl, by decide +kernel, rfl, by decide +kernel, by decide +kernel⟩
abbrev s_checked_signs : Stmt := top 10
theorem sc_checked_signs : FnScope ["signs", "last", "sign"] ["signs"] (defScope s_checked_signs) := ⟨rfl, rfl, rfl, by decide +kernel, rfl, by decide +kernel, by decide +kernel⟩
abbrev s_messages_of : Stmt := top 11
theorem sc_messages_of : FnScope ["signs", "length", "found", "_", "message", "sign"] ["signs", "length"] (defScope s_messages_of) := ⟨rfl, rfl, rfl, by decide +kernel, rfl, by decide +kernel, by decide +kernel⟩
abbrev s_messages_below : Stmt := top 12
theorem sc_messages_below : FnScope ["signs", "length", "found", "size"] ["signs", "length"] (defScope s_messages_below) := ⟨rfl, rfl, rfl, by decide +kernel, rfl, by decide +kernel, by decide +kernel⟩
abbrev s_checked_size : Stmt := top 14
theorem sc_checked_size : FnScope ["size"] ["size"] (defScope s_checked_size) := ⟨rfl, rfl, rfl, by decide +kernel, rfl, by decide +kernel, by decide +kernel⟩
abbrev s_checked_answers : Stmt := top 15
theorem sc_checked_answers : FnScope ["signs", "answers", "found", "answer", "message", "number", "known", "sign"] ["signs", "answers"] (defScope s_checked_answers) := ⟨rfl, rfl, rfl, by decide +kernel, rfl, by decide +kernel, by decide +kernel⟩
abbrev s_asked : Stmt := top 16
theorem sc_asked : FnScope ["signs", "size"] ["signs", "size"] (defScope s_asked) := ⟨rfl, rfl, rfl, by decide +kernel, rfl, by decide +kernel, by decide +kernel⟩
abbrev s_next_message : Stmt := top 17
theorem sc_next_message : FnScope ["signs", "size", "answers", "wanted", "found", "message"] ["signs", "size", "answers"] (defScope s_next_message) := ⟨rfl, rfl, rfl, by decide +kernel, rfl, by decide +kernel, by decide +kernel⟩
abbrev s__law_well : Stmt := top 19
theorem sc__law_well : FnScope ["_law_script", "_law_k", "_law_cell"] ["_law_script", "_law_k"] (defScope s__law_well) := ⟨rfl, rfl, rfl, by decide +kernel, rfl, by decide +kernel, by decide +kernel⟩
abbrev s__law_draw : Stmt := top 20
theorem sc__law_draw : FnScope ["_law_well_here", "_law_many", "_law_found", "_law_mixed"] ["_law_well_here", "_law_many"] (defScope s__law_draw) := ⟨rfl, rfl, rfl, by decide +kernel, rfl, by decide +kernel, by decide +kernel⟩
abbrev s__law_letters : Stmt := top 21
theorem sc__law_letters : FnScope ["_law_well_here", "_law_many", "_law_left", "_law_found", "_law_turn"] ["_law_well_here", "_law_many"] (defScope s__law_letters) := ⟨rfl, rfl, rfl, by decide +kernel, rfl, by decide +kernel, by decide +kernel⟩
abbrev s__law_messages : Stmt := top 22
theorem sc__law_messages : FnScope ["_law_letters_here", "_law_many", "_law_found", "_law_last", "_law_turn", "_law_more", "_law_head", "_law_letter"] ["_law_letters_here", "_law_many"] (defScope s__law_messages) := ⟨rfl, rfl, rfl, by decide +kernel, rfl, by decide +kernel, by decide +kernel⟩
abbrev s__law_order : Stmt := top 23
theorem sc__law_order : FnScope ["_law_well_here", "_law_rows", "_law_kind", "_law_left", "_law_spot", "_law_found", "_law_turn"] ["_law_well_here", "_law_rows"] (defScope s__law_order) := ⟨rfl, rfl, rfl, by decide +kernel, rfl, by decide +kernel, by decide +kernel⟩
abbrev s__law_some : Stmt := top 24
theorem sc__law_some : FnScope ["_law_well_here", "_law_due", "_law_kind", "_law_spot", "_law_one"] ["_law_well_here", "_law_due"] (defScope s__law_some) := ⟨rfl, rfl, rfl, by decide +kernel, rfl, by decide +kernel, by decide +kernel⟩
abbrev s__law_longer : Stmt := top 25
theorem sc__law_longer : FnScope ["_law_well_here", "_law_letters_here", "_law_most", "_law_found", "_law_turn", "_law_j"] ["_law_well_here", "_law_letters_here", "_law_most"] (defScope s__law_longer) := ⟨rfl, rfl, rfl, by decide +kernel, rfl, by decide +kernel, by decide +kernel⟩
abbrev s__law_number : Stmt := top 26
theorem sc__law_number : FnScope ["_law_well_here", "_law_kind"] ["_law_well_here"] (defScope s__law_number) := ⟨rfl, rfl, rfl, by decide +kernel, rfl, by decide +kernel, by decide +kernel⟩
abbrev s__law_listed : Stmt := top 27
theorem sc__law_listed : FnScope ["_law_well_here", "_law_letters_here", "_law_most", "_law_due", "_law_made", "_law_one"] ["_law_well_here", "_law_letters_here", "_law_most", "_law_due"] (defScope s__law_listed) := ⟨rfl, rfl, rfl, by decide +kernel, rfl, by decide +kernel, by decide +kernel⟩
abbrev s__law_next : Stmt := top 28
theorem sc__law_next : FnScope ["_law_letters_here", "_law_most", "_law_notes", "_law_by_name", "_law_handed", "_law_made", "_law_same"] ["_law_letters_here", "_law_most", "_law_notes", "_law_by_name"] (defScope s__law_next) := ⟨rfl, rfl, rfl, by decide +kernel, rfl, by decide +kernel, by decide +kernel⟩
abbrev s__law_nexts : Stmt := top 29
theorem sc__law_nexts : FnScope ["_law_well_here", "_law_letters_here", "_law_most", "_law_due", "_law_notes", "_law_turn", "_law_known", "_law_left", "_law_made", "_law_more", "_law_one", "_law_note"] ["_law_well_here", "_law_letters_here", "_law_most", "_law_due", "_law_notes"] (defScope s__law_nexts) := ⟨rfl, rfl, rfl, by decide +kernel, rfl, by decide +kernel, by decide +kernel⟩
abbrev s_law : Stmt := top 30
theorem sc_law : FnScope ["_law_script", "_law_k", "_law_well_here", "_law_letters_here", "_law_most", "_law_due", "_law_picked", "_law_notes", "_law_one"] ["_law_script"] (defScope s_law) := ⟨rfl, rfl, rfl, by decide +kernel, rfl, by decide +kernel, by decide +kernel⟩
/-- a well at a: what a great cell has more, a mixed number, at most c mixed draws so far -/
def Well (a : Addr) (c : Int) (μ : Mu) : Prop := ∃ g n t : Int, μ a = some (.lst [.int g, .int n, .int t]) ∧ 0 ≤ g ∧ g.natAbs < 2 ^ 1048577 ∧ 0 ≤ n ∧ n ≤ 1000000000000000000000000000000000000 ∧ 0 ≤ t ∧ t ≤ c
theorem Well.mono {a : Addr} {c c' : Int} {μ : Mu} (h : Well a c μ) (hc : c ≤ c') : Well a c' μ := by
  obtain ⟨g, n, t, h1, h2, h3, h4, h5, h6, h7⟩ := h
  exact ⟨g, n, t, h1, h2, h3, h4, h5, h6, by omega⟩
theorem well_src (a : Addr) : Src (Well a) a a := ⟨fun h q => h.mono q, fun h q => by
  obtain ⟨g, n, t, h1, _⟩ := h
  exact ⟨fun z => (by rw [z, h1] at q; exact nomatch q), fun z => (by rw [z, h1] at q; exact nomatch q)⟩, fun h h1 h2 q => by
  obtain ⟨g, n, t, r1, r⟩ := h
  exact ⟨g, n, t, by rw [q _ (Ne.symm h1)]; exact r1, r⟩⟩
def P_well : PD := fun μ ds post _ => ∃ (ns : List Int) (k : Nat), ds = [.frz (ns.map D.int), .int k] ∧ ns.length ≤ 63 ∧ k ≤ 63 ∧ (∀ n ∈ ns, n.natAbs < 2 ^ 1048576) ∧
  ∀ a μ', μ a = none → Well a 0 μ' → (∀ b, b ≠ a → μ' b = μ b) → post μ' (.at a)
def P_wdraw : PD := fun μ ds post _ => ∃ (a : Addr) (c n : Int), ds = [.at a, .int n] ∧ Well a c μ ∧ c ≤ 1000000 ∧ 0 < n ∧ n.natAbs < 2 ^ 9000 ∧
  ∀ μ' x, 0 ≤ x → x < n → Well a (c + 1) μ' → (∀ b, b ≠ a → μ' b = μ b) → post μ' (.int x)
theorem p10_33 : (10 : Int) ^ (33 : Int).toNat = 1000000000000000000000000000000000 := by decide
theorem p10_39 : (10 : Int) ^ (39 : Int).toNat = 1000000000000000000000000000000000000000 := by decide
theorem p10_37 : (10 : Int) ^ (37 : Int).toNat = 10000000000000000000000000000000000000 := by decide
theorem p10_11 : (10 : Int) ^ (11 : Int).toNat = 100000000000 := by decide
theorem p10_18 : (10 : Int) ^ (18 : Int).toNat = 1000000000000000000 := by decide
theorem keep_of {a : Addr} {μ μ' : Mu} (h : ∀ b, b ≠ a → μ' b = μ b) : Keep a a μ μ' := fun b o h1 _ e => (h b h1).trans e
theorem cp10 {n : Int} (h0 : 0 ≤ n) (h : n ≤ 100) : CPowB 10 n := ⟨h0, 4, by decide, by omega⟩
theorem fmod_nn {x n : Int} (h : 0 < n) : 0 ≤ x.fmod n ∧ x.fmod n < n := by
  rw [Int.fmod_eq_emod_of_nonneg _ (by omega)]
  exact ⟨Int.emod_nonneg _ (by omega), Int.emod_lt_of_pos _ h⟩
theorem fdiv_nn {x n : Int} {b : Nat} (h : 0 < n) (hx : 0 ≤ x) (hb : x.natAbs < b) : 0 ≤ x.fdiv n ∧ (x.fdiv n).natAbs < b := by
  rw [Int.fdiv_eq_ediv_of_nonneg _ (by omega)]
  have h1 := Int.ediv_nonneg hx (Int.le_of_lt h)
  have h2 : x / n ≤ x := Int.ediv_le_self _ hx
  omega
theorem small_lt {n : Int} (h0 : 0 ≤ n) (h : n ≤ 10 ^ 31) : n.natAbs < 2 ^ 9000 := by
  have h1 : n.natAbs < 2 ^ 128 := by omega
  exact Nat.lt_of_lt_of_le h1 (Nat.pow_le_pow_right (by decide) (by decide))
theorem great_ok {n : Int} (h : n.natAbs < 2 ^ 1048576) : 0 ≤ (if (if n < 0 then -n else n) - 1000000000000000000 > 0 then (if n < 0 then -n else n) - 1000000000000000000 else 0) ∧
    (if (if n < 0 then -n else n) - 1000000000000000000 > 0 then (if n < 0 then -n else n) - 1000000000000000000 else 0).natAbs < 2 ^ 1048577 := by
  have e : (2 : Nat) ^ 1048577 = 2 ^ 1048576 * 2 := Nat.pow_succ ..
  generalize (2 : Nat) ^ 1048577 = A at *
  generalize (2 : Nat) ^ 1048576 = B at *
  split <;> split <;> omega
section
variable {P : Program} {w : World} {K : PySem.W.Frag} {mg : Str → Option Value} {base : Heap}
theorem c_well (h : Std K mg "_law_well" s__law_well) (n_int : mg "int" = none) (n_len : mg "len" = none) (n_max : mg "max" = none) (n_abs : mg "abs" = none) : Cal P w K mg base CX0 1 "_law_well" s__law_well ["_law_script", "_law_k"] (spD K 2 P_well) := by
  refine cal0 h sc__law_well (fun _ _ _ _ _ _ us hl => match us, hl with | [_, _], _ => rfl) fun f cdv A outer s H E hr => ⟨_,
    have hu64 := hr.units; (pss_cons (ps_set (i := 2) sc__law_well.nd rfl (Or.inl rfl) pe_int)
 (pss_cons (ps_if (pt_cmpR op_lt (pv 1) (pe_callB call_len (by rfl) n_len (by decide +kernel) (pa_cons (pv 0) pa_nil)) (nomark _))
 (pss_one (ps_set (i := 2) sc__law_well.nd rfl (Or.inl rfl) (pe_callTy call_int1 (by rfl) n_int (by decide +kernel) (pa_cons (pe_ix ix_seq (pv 0) (pv 1) (fun _ _ => rfl)) pa_nil))))
 pss_nil)
 (pss_one (ps_ret (pe_lst (pa_cons (pe_callB (call_max2 rfl) (by rfl) n_max (by decide +kernel) (pa_cons pe_int (pa_cons (pe_op op_sub (pe_callB call_abs (by rfl) n_abs (by decide +kernel) (pa_cons (pv 2) pa_nil)) (pe_op op_powB pe_int pe_int)) pa_nil))) (pa_cons (pe_op op_addU (pe_op op_addU (pe_op op_mulU (pe_op op_modN (pe_callTy call_int1 (by rfl) n_int (by decide +kernel) (pa_cons (pv 2) pa_nil)) (pe_op op_addU (pe_op op_powB pe_int pe_int) pe_int)) pe_int) (pe_op op_mulU pe_int (pv 1))) pe_int) (pa_cons pe_int pa_nil)))))))), fun μ ds post exc hl hP => ?_⟩
  obtain ⟨ns, k, rfl, hl63, hk, hb, hp⟩ := hP
  have q18 := cp10 (n := 18) (by decide) (by decide)
  have q33 := cp10 (n := 33) (by decide) (by decide)
  walk_at "d0"
  walk_at "dn"
  refine gs_at (fun μ' ρ' => μ' = μ ∧ ∃ n : Int, n.natAbs < 2 ^ 1048576 ∧ ρ' = [some (.frz (ns.map D.int)), some (.int k), some (.int n)]) ?_ ?_
  · walk_at "dx"
    rw [List.length_map]
    refine ifD (fun hk1 => ?_) (fun hk1 => ?_)
    · have hlt : k < ns.length := by omega
      have hat : atI (ns.map D.int) (k : Int) = some (.int ns[k]) := atI_pos (by rw [List.getElem?_map, List.getElem?_eq_getElem hlt]; rfl)
      walk_at "dx"
      exact ⟨_, hb _ (List.getElem_mem hlt), rfl⟩
    · walk_at "dx"
      exact ⟨0, Nat.two_pow_pos _, rfl⟩
  rintro μ1 ρ1 ⟨rfl, n, hn, rfl⟩
  have gr := great_ok hn
  have f1 := fmod_nn (x := n) (n := 1000000000000000000000000000000061) (by decide)
  walk_at "dx"
  refine evx_lstM ?_
  walk_at "dx"
  rw [p10_18, p10_33, show ((1000000000000000000000000000000000 : Int) + 61) = 1000000000000000000000000000000061 from rfl]
  have c1 : CMulB (n.fmod 1000000000000000000000000000000061) 41 := ⟨128, 64, by omega, by decide, by decide⟩
  have c2 : CMulB 13 (k : Int) := ⟨64, 64, by decide, by omega, by decide⟩
  walk_at "dx"
  intro p hp0
  exact hp p _ hp0 ⟨_, _, _, mput_same, gr.1, gr.2, by omega, by omega, by decide, by decide⟩ fun b hb => mput_ne hb
theorem c_wdraw (h : Std K mg "_law_draw" s__law_draw) (n_int : mg "int" = none) : Cal P w K mg base CX0 1 "_law_draw" s__law_draw ["_law_well_here", "_law_many"] (spD K 2 P_wdraw) := by
  refine cal0 h sc__law_draw (fun _ _ _ _ _ _ us hl => match us, hl with | [_, _], _ => rfl) fun f cdv A outer s H E hr => ⟨_,
    have hu64 := hr.units; (pss_cons (ps_if (pt_cmpR op_gt (pe_ix ix_seq (pv 0) pe_int (fun _ _ => rfl)) pe_int (nomark _))
 (pss_cons (ps_set (i := 2) sc__law_draw.nd rfl (Or.inl rfl) (pe_op op_modN (pe_callTy call_int1 (by rfl) n_int (by decide +kernel) (pa_cons (pe_ix ix_seq (pv 0) pe_int (fun _ _ => rfl)) pa_nil)) (pv 1)))
 (pss_cons (ps_asg (pe_op op_divB (pe_ix ix_seq (pv 0) pe_int (fun _ _ => rfl)) (pv 1)) (pg_sub (pv 0) pe_int set_list))
 (pss_one (ps_ret (pv 2)))))
 pss_nil)
 (pss_cons (ps_asg (pe_op op_addU (pe_ix ix_seq (pv 0) pe_int (fun _ _ => rfl)) pe_int) (pg_sub (pv 0) pe_int set_list))
 (pss_cons (ps_set (i := 3) sc__law_draw.nd rfl (Or.inl rfl) (pe_op op_modN (pe_callTy call_int1 (by rfl) n_int (by decide +kernel) (pa_cons (pe_op op_addU (pe_op op_powB (pe_op op_addU (pe_ix ix_seq (pv 0) pe_int (fun _ _ => rfl)) (pe_op op_mulU pe_int (pe_ix ix_seq (pv 0) pe_int (fun _ _ => rfl)))) pe_int) (pe_ix ix_seq (pv 0) pe_int (fun _ _ => rfl))) pa_nil)) (pe_op op_addU (pe_op op_powB pe_int pe_int) pe_int)))
 (pss_cons (ps_set (i := 3) sc__law_draw.nd rfl (Or.inl rfl) (pe_op op_modN (pe_callTy call_int1 (by rfl) n_int (by decide +kernel) (pa_cons (pe_op op_addU (pe_op op_powB (pe_op op_addU (pv 3) (pe_op op_mulU pe_int (pe_ix ix_seq (pv 0) pe_int (fun _ _ => rfl)))) pe_int) (pv 3)) pa_nil)) (pe_op op_addU (pe_op op_powB pe_int pe_int) pe_int)))
 (pss_one (ps_ret (pe_op op_modN (pe_callTy call_int1 (by rfl) n_int (by decide +kernel) (pa_cons (pe_op op_divB (pv 3) (pe_op op_powB pe_int pe_int)) pa_nil)) (pv 1)))))))), fun μ ds post exc hl hP => ?_⟩
  obtain ⟨a, c, n, rfl, ⟨gr, m, t, ha, g0, g1, m0, m1, t0, t1⟩, hc, hn, hn2, hp⟩ := hP
  have hn0 : n ≠ 0 := by omega
  have hdv : CDivB gr n := ⟨hn0, hn2⟩
  walk_at "d0"
  walk_at "dx"
  refine ifD (fun h0 => ?_) (fun h0 => ?_)
  · walk_at "dx"
    have f1 := fmod_nn (x := gr) hn
    have f2 := fdiv_nn hn g0 g1
    refine tgx_subA (a := a) (k := 0) (j := 0) ha rfl ?_ (fun Ψ q => by walk_at "dx"; exact q) (fun Ψ q => by walk_at "dx"; exact q)
    walk_at "dx"
    exact hp _ _ f1.1 f1.2 ⟨_, m, t, mput_same, f2.1, f2.2, m0, m1, t0, by omega⟩ fun b hb => mput_ne hb
  · walk_at "dx"
    refine tgx_subA (a := a) (k := 2) (j := 2) ha rfl ?_ (fun Ψ q => by walk_at "dx"; exact q) (fun Ψ q => by walk_at "dx"; exact q)
    have q39 := cp10 (n := 39) (by decide) (by decide)
    have q37 := cp10 (n := 37) (by decide) (by decide)
    have q11 := cp10 (n := 11) (by decide) (by decide)
    have ht1 : t + 1 ≤ 1000001 := by omega
    have c1 : CMulB 86028121 (t + 1) := ⟨64, 64, by decide, by omega, by decide⟩
    have c2 : CPowB (m + 86028121 * (t + 1)) 3 := ⟨by decide, 128, by omega, by decide⟩
    walk_at "dx"
    rw [p10_39, show ((1000000000000000000000000000000000000000 : Int) + 3) = 1000000000000000000000000000000000000003 from rfl]
    generalize (m + 86028121 * (t + 1)) ^ (3 : Int).toNat + (t + 1) = z
    have f1 := fmod_nn (x := z) (n := 1000000000000000000000000000000000000003) (by decide)
    walk_at "dx"
    generalize z.fmod 1000000000000000000000000000000000000003 = v at f1 ⊢
    have c3 : CMulB 32452843 (t + 1) := ⟨64, 64, by decide, by omega, by decide⟩
    have c4 : CPowB (v + 32452843 * (t + 1)) 3 := ⟨by decide, 256, by omega, by decide⟩
    walk_at "dx"
    rw [p10_37, show ((10000000000000000000000000000000000000 : Int) + 43) = 10000000000000000000000000000000000043 from rfl]
    generalize (v + 32452843 * (t + 1)) ^ (3 : Int).toNat + v = y
    have f2 := fmod_nn (x := y) (n := 10000000000000000000000000000000000043) (by decide)
    walk_at "dx"
    generalize y.fmod 10000000000000000000000000000000000043 = x at f2 ⊢
    rw [p10_11]
    have c5 : CDivB x 100000000000 := ⟨by decide, by decide⟩
    walk_at "dx"
    have f3 := fmod_nn (x := x.fdiv 100000000000) hn
    exact hp _ _ f3.1 f3.2 ⟨gr, m, t + 1, mput_same, g0, g1, m0, m1, by omega, by omega⟩ fun b hb => mput_ne hb
end
section
variable {P : Program} {w : World} {K : PySem.W.Frag} {mg : Str → Option Value} {base : Heap} {fI : Addr}
theorem c_csigns {A_InvalidSigns : Addr} {tL : Tok} (h : Std K mg "checked_signs" s_checked_signs) (m_LETTERS : mg "LETTERS" = some (.str "abcdefghijklmnopqrstuvwxyz" tL)) (X_InvalidSigns : ExcD K mg "InvalidSigns" A_InvalidSigns fI) (G_init : IniD P w K mg base fI) : Cal P w K mg base (L2.CX P w) 3 "checked_signs" s_checked_signs ["signs"] (spD K 1 (P_csigns A_InvalidSigns)) := by
  refine calX h sc_checked_signs (fun _ _ _ _ _ _ us hl => match us, hl with | [_], _ => rfl) fun f cdv A outer s H E hr => ⟨_,
    have hu64 := hr.units; (pss_cons (ps_set (i := 1) sc_checked_signs.nd rfl (Or.inl rfl) pe_str)
 (pss_cons (ps_for (passes_of rfl) rfl (pi_str (pv 0)) (pg_name (i := 2) sc_checked_signs.nd rfl (Or.inl rfl))
 (pss_cons (ps_if (PW.pt (pw_or (pt_cmpR op_notIn_sign (pv 2) (pe_glob (v := .str "abcdefghijklmnopqrstuvwxyz") rfl m_LETTERS ⟨_, rfl⟩) rfl) (pw_or1 (pt_cmpR op_le_str (pv 2) (pv 1) (nomark _)))))
 (pss_one (ps_raiseD X_InvalidSigns G_init hr (by decide) (takes_of rfl rfl rfl rfl) (pa_cons (pv 0) pa_nil)))
 pss_nil)
 (pss_one (ps_set (i := 1) sc_checked_signs.nd rfl (Or.inl rfl) (pv 2)))))
 (pss_one (ps_if (pt_cmpR (op_eqU hu64) (pv 0) pe_str (nomark _))
 (pss_one (ps_raiseD X_InvalidSigns G_init hr (by decide) (takes_of rfl rfl rfl rfl) (pa_cons (pv 0) pa_nil)))
 pss_nil)))), fun μ ds post exc hl hP => ?_⟩
  obtain ⟨z, rfl, hok, hno⟩ := hP
  walk_at "d0"
  walk_at "dx"
  refine gs_for (itx_str ?_)
  walk_at "dx"
  refine ⟨fun i μ' ρ' => μ' = μ ∧ ∃ v : Option D, ρ' = [some (.str z), some (.str (lastS (z.cps.toList.take i))), v] ∧ (z.cps.toList.take i).Pairwise (· < ·) ∧ ∀ c ∈ z.cps.toList.take i, c ∈ letters,
    ⟨rfl, none, rfl, List.Pairwise.nil, fun _ h => nomatch h⟩, fun _ _ _ _ _ => True.intro, ?_, ?_⟩
  · rintro i d μ' ρ' hd ⟨rfl, v, rfl, p1, p2⟩
    rw [signsD_eq, List.getElem?_map] at hd
    cases hc : z.cps.toList[i]? with
    | none => rw [hc] at hd; exact nomatch hd
    | some c =>
      rw [hc] at hd
      cases hd
      have et : z.cps.toList.take (i + 1) = z.cps.toList.take i ++ [c] := by rw [List.take_succ, hc]; rfl
      have hpre : ∀ l : List Nat, l <+: z.cps.toList → okSigns z.cps.toList → l.Pairwise (· < ·) ∧ ∀ c ∈ l, c ∈ letters := fun l hl ho => ⟨ho.1.sublist hl.sublist, fun c hc => ho.2.1 c (hl.subset hc)⟩
      have hpt : z.cps.toList.take i ++ [c] <+: z.cps.toList := by rw [← et]; exact List.take_prefix _ _
      walk_at "dx"
      refine opx_notInSign ?_
      walk_at "dx"
      refine ifN (fun hnl => ?_) (fun hin => ?_)
      · refine ifY rfl ?_
        refine gs_raise X_InvalidSigns.k.ox X_InvalidSigns.k.nv ?_
        walk_at "dx"
        exact hno fun ho => hnl ((hpre _ hpt ho).2 c (List.mem_append_right _ (List.mem_singleton.mpr rfl)))
      · walk_at "dx"
        refine opx_leS ?_
        walk_at "dx"
        have hl := le_last (z.cps.toList.take i) c p1
        cases hb : (!decide ((lastS (z.cps.toList.take i)).cps.toList < (sg c).cps.toList)) with
        | true =>
          refine ifY rfl ?_
          refine gs_raise X_InvalidSigns.k.ox X_InvalidSigns.k.nv ?_
          walk_at "dx"
          exact hno fun ho => hl.mp hb (hpre _ hpt ho).1
        | false =>
          refine ifNo rfl ?_
          walk_at "dx"
          rw [et, lastS_snoc]
          have hp : (z.cps.toList.take i ++ [c]).Pairwise (· < ·) := Classical.byContradiction fun hn => by
            have := hl.mpr hn
            rw [hb] at this
            exact nomatch this
          refine ⟨some (sgD c), rfl, hp, fun e he => ?_⟩
          rcases List.mem_append.mp he with he | he
          · exact p2 e he
          · rw [List.mem_singleton] at he; subst he; exact hin
  · rintro μ' ρ' ⟨rfl, v, rfl, p1, p2⟩
    have eL : (signsD z).length = z.cps.toList.length := by rw [signsD_eq, List.length_map]
    rw [eL, List.take_length] at p1 p2
    walk_at "dx"
    refine ifD (fun e => ?_) (fun e => ?_)
    · refine gs_raise X_InvalidSigns.k.ox X_InvalidSigns.k.nv ?_
      walk_at "dx"
      exact hno fun ho => ho.2.2 (by rw [e]; rfl)
    · walk_at "dx"
      refine hok ⟨p1, p2, fun hn => e ?_⟩
      obtain ⟨⟨l⟩⟩ := z
      have : l = [] := hn
      rw [this]
      rfl
end
section
variable {P : Program} {w : World} {K : PySem.W.Frag} {mg : Str → Option Value} {base : Heap} {A_IN fI : Addr}
theorem c_is_number (h : Std K mg "is_number" s_is_number) (m_gcd : mg "gcd" = some (.builtin "math.gcd")) : Cal P w K mg base CX0 1 "is_number" s_is_number ["value"] (spD K 1 P_isnum) := by
  refine cal0 h sc_is_number (fun _ _ _ _ _ _ us hl => match us, hl with | [_], _ => rfl) fun f cdv A outer s H E hr => ⟨_,
    have hu64 := hr.units; (pss_cons (ps_asg (pv 0) (pg_tup rfl (pgs_cons (pg_name (i := 1) sc_is_number.nd rfl (Or.inl rfl)) (pgs_cons (pg_name (i := 2) sc_is_number.nd rfl (Or.inl rfl)) pgs_nil))))
 (pss_one (ps_ret (pe_and (pe_cmpR op_ge (pv 2) pe_int (nomark _)) (pe_one (pe_cmpR (op_eqU hu64) (pe_callBfun cr_gcd (by rfl) m_gcd (pa_cons (pv 1) (pa_cons (pv 2) pa_nil))) pe_int (nomark _))))))), fun μ ds post exc hl hP => ?_⟩
  obtain ⟨a, b, rfl, hp⟩ := hP
  unfold numD isNum at *
  walk_at "d0"
  walk_at "dx"
  refine ifD (fun hb => ?_) (fun hb => ?_)
  · rw [decide_eq_true hb, Bool.true_and] at hp
    walk_at "dx"
    exact hp
  · rw [decide_eq_false hb, Bool.false_and] at hp
    exact hp
end
/-! ### messages -/
def longer (cs : List Nat) (L : List (List Nat)) : List (List Nat) := L.flatMap fun w => cs.map fun c => w ++ [c]
def msgs (cs : List Nat) : Nat → List (List Nat)
  | 0 => [[]]
  | n + 1 => longer cs (msgs cs n)
def below (cs : List Nat) (n : Nat) : List (List Nat) := (List.range n).flatMap (msgs cs)
def strsD (ws : List (List Nat)) : List D := ws.map fun w => .str (txt w)
theorem longer_len (cs : List Nat) : ∀ L : List (List Nat), (longer cs L).length = L.length * cs.length
  | [] => by unfold longer; simp
  | w :: L => by
    have ih := longer_len cs L
    unfold longer at ih ⊢
    rw [List.flatMap_cons, List.length_append, ih, List.length_map, List.length_cons, Nat.add_mul, Nat.one_mul, Nat.add_comm]
theorem msgs_count (cs : List Nat) : ∀ n, (msgs cs n).length = cs.length ^ n
  | 0 => rfl
  | n + 1 => by
    show (longer cs (msgs cs n)).length = _
    rw [longer_len, msgs_count cs n, Nat.pow_succ]
theorem msgs_len {cs : List Nat} : ∀ {n : Nat} {w : List Nat}, w ∈ msgs cs n → w.length = n ∧ ∀ c ∈ w, c ∈ cs
  | 0, w, h => by
    rw [List.mem_singleton.mp h]
    exact ⟨rfl, fun _ h => nomatch h⟩
  | n + 1, w, h => by
    obtain ⟨v, hv, hw⟩ := List.mem_flatMap.mp h
    obtain ⟨c, hc, rfl⟩ := List.mem_map.mp hw
    obtain ⟨h1, h2⟩ := msgs_len hv
    exact ⟨by rw [List.length_append, h1]; rfl, mem_snc h2 hc⟩
theorem below_succ (cs : List Nat) (n : Nat) : below cs (n + 1) = below cs n ++ msgs cs n := by
  unfold below
  rw [List.range_succ, List.flatMap_append]
  show _ ++ (msgs cs n ++ []) = _
  rw [List.append_nil]
theorem below_count {cs : List Nat} {m : Nat} : ∀ {n : Nat}, (∀ k, k ≤ n → cs.length ^ k ≤ m) → (below cs n).length ≤ n * m
  | 0, _ => Nat.zero_le _
  | n + 1, h => by
    rw [below_succ, List.length_append, msgs_count, Nat.add_mul, Nat.one_mul]
    exact Nat.add_le_add (below_count fun k hk => h k (by omega)) (h n (by omega))
theorem below_mem {cs : List Nat} {n : Nat} {w : List Nat} (h : w ∈ below cs n) : w.length < n ∧ ∀ c ∈ w, c ∈ cs := by
  obtain ⟨k, hk, hw⟩ := List.mem_flatMap.mp h
  obtain ⟨h1, h2⟩ := msgs_len hw
  exact ⟨by rw [h1]; exact List.mem_range.mp hk, h2⟩
structure Few (cs : List Nat) (n : Nat) : Prop where
  ll : cs.length ≤ 26
  nn : n ≤ 100
  cc : ∀ k, k ≤ n → cs.length ^ k ≤ 1000
def P_msgs : PD := fun μ ds post _ => ∃ (cs : List Nat) (n : Nat), ds = [.str (txt cs), .int n] ∧ Few cs n ∧ post μ (.lst (strsD (msgs cs n)))
def P_below : PD := fun μ ds post _ => ∃ (cs : List Nat) (n : Nat), ds = [.str (txt cs), .int n] ∧ Few cs n ∧ ∀ p, μ p = none → post (mput μ p (.lst (strsD (below cs n)))) (.at p)
def P_size0 : PD := fun μ ds post _ => ∃ n : Nat, ds = [.int n] ∧ post μ .non
def P_asked : PD := fun μ ds post _ => ∃ (cs : List Nat) (n : Nat), ds = [.str (txt cs), .int n] ∧ okSigns cs ∧ Few cs (2 * n) ∧ ∀ p, μ p = none → post (mput μ p (.lst (strsD (below cs (2 * n))))) (.at p)
/-! ### answers -/
abbrev Note := List Nat × Rat
def noteD (n : Note) : D := .tup [.str (txt n.1), numQ n.2]
def keyN (n : Note) : Key := .inr (txt n.1)
theorem txt_inj {a b : List Nat} (h : txt a = txt b) : a = b := by
  have := congrArg (fun z : Str => z.cps.toList) h
  simpa [txt_cps] using this
theorem keyN_mem {w : List Nat} : ∀ {ns : List Note}, ((.inr (txt w) : Key) ∈ ns.map keyN) ↔ w ∈ ns.map Prod.fst := fun {ns} => by
  constructor
  · intro h
    obtain ⟨n, hn, e⟩ := List.mem_map.mp h
    have : txt n.1 = txt w := Sum.inr.inj e
    exact List.mem_map.mpr ⟨n, hn, txt_inj this⟩
  · intro h
    obtain ⟨n, hn, e⟩ := List.mem_map.mp h
    exact List.mem_map.mpr ⟨n, hn, by unfold keyN; rw [e]⟩
structure GoodN (cs : List Nat) (ns : List Note) : Prop where
  s : ∀ n ∈ ns, ∀ c ∈ n.1, c ∈ cs
  d : (ns.map Prod.fst).Nodup
  l : ∀ n ∈ ns, n.1.length ≤ 1000
  c : ns.length ≤ 10000
def P_answers : PD := fun μ ds post _ => ∃ (cs : List Nat) (ns : List Note), ds = [.str (txt cs), .lst (ns.map noteD)] ∧ GoodN cs ns ∧ ∀ p, μ p = none → post (mput μ p (.dct (ns.map keyN) (ns.map fun n => numQ n.2))) (.at p)
def nextW (cs : List Nat) (n : Nat) (ns : List Note) : Option (List Nat) := (below cs (2 * n)).find? fun w => !decide (w ∈ ns.map Prod.fst)
def optD : Option (List Nat) → D
  | some w => .str (txt w)
  | none => .non
def P_next : PD := fun μ ds post _ => ∃ (cs : List Nat) (n : Nat) (ns : List Note), ds = [.str (txt cs), .int n, .lst (ns.map noteD)] ∧ okSigns cs ∧ Few cs (2 * n) ∧ GoodN cs ns ∧ ∀ μ', post μ' (optD (nextW cs n ns))
theorem add_sg (w : List Nat) (c : Nat) : txt w ++ sg c = txt (w ++ [c]) := add_txt w [c]
def moreD (cs : List Nat) : D → List D
  | .str z => cs.map fun c => .str (z ++ sg c)
  | _ => []
theorem more_longer (cs : List Nat) : ∀ L : List (List Nat), (strsD L).flatMap (moreD cs) = strsD (longer cs L)
  | [] => rfl
  | w :: L => by
    have ih := more_longer cs L
    unfold strsD longer at ih ⊢
    rw [List.map_cons, List.flatMap_cons, List.flatMap_cons, ih, List.map_append, List.map_map]
    congr 1
    show (cs.map fun c => D.str (txt w ++ sg c)) = _
    exact List.map_congr_left fun c _ => by rw [add_sg]; rfl
section
variable {P : Program} {w : World} {K : PySem.W.Frag} {mg : Str → Option Value} {base : Heap}
theorem c_msgs (h : Std K mg "messages_of" s_messages_of) (n_range : mg "range" = none) : Cal P w K mg base CX0 1 "messages_of" s_messages_of ["signs", "length"] (spD K 2 P_msgs) := by
  refine cal0 h sc_messages_of (fun _ _ _ _ _ _ us hl => match us, hl with | [_, _], _ => rfl) fun f cdv A outer s H E hr => ⟨_,
    have hu64 := hr.units; (pss_cons (ps_set (i := 2) sc_messages_of.nd rfl (Or.inl rfl) (pe_lst (pa_cons pe_str pa_nil)))
 (pss_cons (ps_for PassesOwn.never rfl (pi_range1 rfl n_range (pa_cons (pv 1) pa_nil)) (pg_name (i := 3) sc_messages_of.nd rfl (Or.inl rfl))
 (pss_one (ps_setLc2 (i := 2) (own := [("message", 4), ("sign", 5)]) (vs1 := [5]) rfl sc_messages_of.nd rfl rfl (sw_true rfl rfl rfl (by decide +kernel)) (pi_list (pv 2)) (blkOk_by (own := [("message", 4), ("sign", 5)]) (N := ["signs", "length", "found", "_", "message", "sign"]) (sc := defScope s_messages_of) (by decide +kernel)) (by decide) (fun _ _ _ _ _ => pg_via (g := (gName 4)) (pg_name (i := 4) sc_messages_of.nd rfl (Or.inl rfl)) (by (try dsimp only [Cx.blk, Cx.nox, Cx.tr]) <;> exact rfl)) (fun _ _ _ _ _ => pts_via pts_nil (by (try dsimp only [Cx.blk, Cx.nox, Cx.tr]) <;> exact rfl)) (fun _ _ _ _ _ => pi_via (pi_str (pv 0)) (by (try dsimp only [Cx.blk, Cx.nox, Cx.tr]) <;> exact rfl)) (fun _ _ _ _ _ => pg_via (g := (gName 5)) (pg_name (i := 5) sc_messages_of.nd rfl (Or.inl rfl)) (by (try dsimp only [Cx.blk, Cx.nox, Cx.tr]) <;> exact rfl)) (fun _ _ _ _ _ => pts_via pts_nil (by (try dsimp only [Cx.blk, Cx.nox, Cx.tr]) <;> exact rfl)) (fun _ _ _ _ _ => pe_via (pe_op op_addU (pv 4) (pv 5)) (by (try dsimp only [Cx.blk, Cx.nox, Cx.tr]) <;> exact rfl)))))
 (pss_one (ps_ret (pv 2))))), fun μ ds post exc hl hP => ?_⟩
  obtain ⟨cs, n, rfl, few, hp⟩ := hP
  have hn := few.nn
  have hl := few.ll
  have zl : (txt cs).cps.toList = cs := txt_cps cs
  walk_at "d0"
  walk_at "dx"
  refine evx_lst ?_
  walk_at "dx"
  refine gs_for (itx_range1 ?_)
  walk_at "dx"
  refine ⟨⟨by omega, by omega⟩, ?_⟩
  refine ⟨fun i μ' ρ' => μ' = μ ∧ ∃ u3 u4 u5 : Option D, ρ' = [some (.str (txt cs)), some (.int n), some (.lst (strsD (msgs cs i))), u3, u4, u5], ⟨rfl, _, _, _, rfl⟩, fun _ _ _ _ _ => True.intro, ?_, ?_⟩
  · rintro i d μ' ρ' hd ⟨rfl, u3, u4, u5, rfl⟩
    obtain ⟨hi, rfl⟩ := rangeD_get hd
    have hin : i < n := by omega
    have hc := few.cc (i + 1) (by omega)
    have hml : ∀ w ∈ msgs cs i, w.length = i := fun w hw => (msgs_len hw).1
    have hlen : (strsD (longer cs (msgs cs i))).length ≤ 1000 := by
      unfold strsD
      rw [List.length_map]
      show (msgs cs (i + 1)).length ≤ _
      rw [msgs_count]; exact hc
    have em : msgs cs (i + 1) = longer cs (msgs cs i) := rfl
    generalize msgs cs i = L at hml hlen em ⊢
    walk_at "dx"
    refine evx_lc2P (itx_list ?_)
    walk_at "dx"
    refine ⟨_, _, isL_lst, fun _ _ => True.intro, moreD cs, ?_, ?_, ?_⟩
    · intro d hd μ2 hμ
      obtain ⟨w, hw, rfl⟩ := List.mem_map.mp hd
      have hwl := hml w hw
      refine tcx_name (by decide) ?_
      refine itx_str ?_
      walk_at "dx"
      rw [signsD_eq, zl]
      refine ⟨fun _ => True.intro, by unfold moreD; rw [List.length_map, List.length_map], fun j e he μ3 hμ3 => ?_⟩
      obtain ⟨c, hcj, rfl⟩ := map_at he
      refine tcx_name (by decide) ?_
      walk_at "dx"
      refine opx_r (opx_l (opx_addS (by rw [txt_len]; show _ + 1 ≤ _; omega) ?_))
      refine ⟨rfl, ?_⟩
      unfold moreD
      rw [List.getElem?_map, hcj]; rfl
    · rw [more_longer]; omega
    · rw [more_longer]
      walk_at "dx"
      rw [em]
      exact ⟨_, _, _, rfl⟩
  rintro μ' ρ' ⟨rfl, u3, u4, u5, rfl⟩
  rw [rangeD_len]
  walk_at "dx"
  exact hp
theorem c_below (h : Std K mg "messages_below" s_messages_below) (n_range : mg "range" = none) (C_messages_of : Cal P w K mg base CX0 1 "messages_of" s_messages_of ["signs", "length"] (spD K 2 P_msgs)) : Cal P w K mg base CX0 2 "messages_below" s_messages_below ["signs", "length"] (spD K 2 P_below) := by
  refine cal0 h sc_messages_below (fun _ _ _ _ _ _ us hl => match us, hl with | [_, _], _ => rfl) fun f cdv A outer s H E hr => ⟨_,
    have hu64 := hr.units; (pss_cons (ps_set (i := 2) sc_messages_below.nd rfl (Or.inl rfl) (pe_lst pa_nil))
 (pss_cons (ps_for PassesOwn.never rfl (pi_range1 rfl n_range (pa_cons (pv 1) pa_nil)) (pg_name (i := 3) sc_messages_below.nd rfl (Or.inl rfl))
 (pss_one (ps_expr (pe_bm PySem.F.plainAttrs_list PySem.F.slot_list_extend PySem.F.type_list_extend mt_extend (pv 2) (pa_cons (pe_c C_messages_of hr (by first | decide | omega) (pa_cons (pv 0) (pa_cons (pv 3) pa_nil))) pa_nil)))))
 (pss_one (ps_ret (pv 2))))), fun μ ds post exc hl hP => ?_⟩
  obtain ⟨cs, n, rfl, few, hp⟩ := hP
  have hn := few.nn
  walk_at "d0"
  walk_at "dx"
  refine evx_lstM ?_
  walk_at "dx"
  intro p hp0
  walk_at "dx"
  refine gs_for (itx_range1 ?_)
  walk_at "dx"
  refine ⟨⟨by omega, by omega⟩, ?_⟩
  refine ⟨fun i μ' ρ' => μ' = mput μ p (.lst (strsD (below cs i))) ∧ ∃ u3 : Option D, ρ' = [some (.str (txt cs)), some (.int n), some (.at p), u3], ⟨rfl, _, rfl⟩, fun _ _ _ _ _ => True.intro, ?_, ?_⟩
  · rintro i d μ' ρ' hd ⟨rfl, u3, rfl⟩
    obtain ⟨hi, rfl⟩ := rangeD_get hd
    have hin : i < n := by omega
    have z0 : (0 : Int) + (i : Int) = (i : Int) := Int.zero_add _
    rw [z0]
    have hb : (below cs i).length ≤ i * 1000 := below_count fun k hk => few.cc k (by omega)
    have hm : (msgs cs i).length ≤ 1000 := by rw [msgs_count]; exact few.cc i (by omega)
    have hmul : i * 1000 ≤ 100 * 1000 := Nat.mul_le_mul_right _ (by omega)
    walk_at "dx"
    refine evx_ext ?_
    walk_at "dx"
    refine ⟨p, _, rfl, mput_same, ?_⟩
    walk_at "dx"
    refine ⟨cs, i, rfl, ⟨few.ll, by omega, fun k hk => few.cc k (by omega)⟩, ?_⟩
    refine ⟨_, _, mput_same, real_lst, by unfold strsD; rw [List.length_map, List.length_map]; omega, ?_, _, rfl⟩
    rw [mput_put, below_succ]
    unfold strsD
    rw [List.map_append]
  rintro μ' ρ' ⟨rfl, u3, rfl⟩
  rw [rangeD_len]
  walk_at "dx"
  exact hp p hp0
theorem c_size0 (h : Std K mg "checked_size" s_checked_size) : Cal P w K mg base CX0 1 "checked_size" s_checked_size ["size"] (spD K 1 P_size0) := by
  refine cal0 h sc_checked_size (fun _ _ _ _ _ _ us hl => match us, hl with | [_], _ => rfl) fun f cdv A outer s H E hr => ⟨_,
    have hu64 := hr.units; (pss_one (ps_if (pt_cmpR op_lt (pv 0) pe_int (nomark _))
 (pss_one ps_never)
 pss_nil)), fun μ ds post exc hl hP => ?_⟩
  obtain ⟨n, rfl, hp⟩ := hP
  walk_at "d0"
  walk_at "dx"
  refine ifD (fun h0 => absurd h0 (by omega)) (fun _ => ?_)
  walk_at "dx"
  exact hp
def P_csigns0 : PD := fun μ ds post _ => ∃ cs : List Nat, ds = [.str (txt cs)] ∧ okSigns cs ∧ post μ .non
theorem c_csigns0 {A : Addr} (c : Cal P w K mg base (L2.CX P w) 3 "checked_signs" s_checked_signs ["signs"] (spD K 1 (P_csigns A))) : Cal P w K mg base CX0 3 "checked_signs" s_checked_signs ["signs"] (spD K 1 P_csigns0) := by
  refine c.to0 ?_
  rintro μ ds post exc ⟨cs, rfl, ho, hp⟩
  have e : (txt cs).cps.toList = cs := txt_cps cs
  exact ⟨txt cs, rfl, fun _ => hp, fun hn => absurd (by rw [e]; exact ho) hn⟩
theorem c_asked (h : Std K mg "asked" s_asked) (C_checked_signs : Cal P w K mg base CX0 3 "checked_signs" s_checked_signs ["signs"] (spD K 1 P_csigns0)) (C_checked_size : Cal P w K mg base CX0 1 "checked_size" s_checked_size ["size"] (spD K 1 P_size0)) (C_messages_below : Cal P w K mg base CX0 2 "messages_below" s_messages_below ["signs", "length"] (spD K 2 P_below)) : Cal P w K mg base CX0 4 "asked" s_asked ["signs", "size"] (spD K 2 P_asked) := by
  refine cal0 h sc_asked (fun _ _ _ _ _ _ us hl => match us, hl with | [_, _], _ => rfl) fun f cdv A outer s H E hr => ⟨_,
    have hu64 := hr.units; (pss_cons (ps_expr (pe_c C_checked_signs hr (by first | decide | omega) (pa_cons (pv 0) pa_nil)))
 (pss_cons (ps_expr (pe_c C_checked_size hr (by first | decide | omega) (pa_cons (pv 1) pa_nil)))
 (pss_one (ps_ret (pe_c C_messages_below hr (by first | decide | omega) (pa_cons (pv 0) (pa_cons (pe_op op_mulU pe_int (pv 1)) pa_nil))))))), fun μ ds post exc hl hP => ?_⟩
  obtain ⟨cs, n, rfl, ho, few, hp⟩ := hP
  have hn := few.nn
  have c1 : CMulB 2 (n : Int) := ⟨64, 64, by decide, by omega, by decide⟩
  walk_at "d0"
  walk_at "dx"
  refine ⟨cs, rfl, ho, ?_⟩
  walk_at "dx"
  refine ⟨n, rfl, ?_⟩
  walk_at "dx"
  exact ⟨cs, 2 * n, rfl, few, hp⟩
end
theorem all_known (cs w : List Nat) (h : ∀ c ∈ w, c ∈ cs) : (w.map fun c => decide (c ∈ cs)).all id = true := by
  rw [List.all_eq_true]
  intro b hb
  obtain ⟨c, hc, rfl⟩ := List.mem_map.mp hb
  exact decide_eq_true (h c hc)
theorem find_take {α : Type} {p : α → Bool} {l : List α} {i : Nat} {x : α} (h : l[i]? = some x) (hp : p x = true) (hn : ∀ y ∈ l.take i, p y = false) : l.find? p = some x := by
  have hi : i < l.length := (List.getElem?_eq_some_iff.mp h).1
  have e : l = l.take i ++ x :: l.drop (i + 1) := by
    have h2 : l.drop i = x :: l.drop (i + 1) := by
      rw [List.drop_eq_getElem_cons hi]
      congr 1
      exact (List.getElem?_eq_some_iff.mp h).2
    rw [← h2, List.take_append_drop]
  rw [e, List.find?_append, List.find?_eq_none.mpr (fun y hy => by rw [hn y hy]; decide), Option.none_or, List.find?_cons, hp]
section
variable {P : Program} {w : World} {K : PySem.W.Frag} {mg : Str → Option Value} {base : Heap}
theorem c_answers (h : Std K mg "checked_answers" s_checked_answers) (n_all : mg "all" = none) (C_is_number : Cal P w K mg base CX0 1 "is_number" s_is_number ["value"] (spD K 1 P_isnum)) : Cal P w K mg base CX0 2 "checked_answers" s_checked_answers ["signs", "answers"] (spD K 2 P_answers) := by
  refine cal0 h sc_checked_answers (fun _ _ _ _ _ _ us hl => match us, hl with | [_, _], _ => rfl) fun f cdv A outer s H E hr => ⟨_,
    have hu64 := hr.units; have hu := hu_of hr; (pss_cons (ps_set (i := 2) sc_checked_answers.nd rfl (Or.inl rfl) pe_dnewK)
 (pss_cons (ps_for PassesOwn.never rfl (pi_list (pv 1)) (pg_name (i := 3) sc_checked_answers.nd rfl (Or.inl rfl))
 (pss_cons (ps_asg (pv 3) (pg_tup rfl (pgs_cons (pg_name (i := 4) sc_checked_answers.nd rfl (Or.inl rfl)) (pgs_cons (pg_name (i := 5) sc_checked_answers.nd rfl (Or.inl rfl)) pgs_nil))))
 (pss_cons (ps_set (i := 6) sc_checked_answers.nd rfl (Or.inl rfl) (pe_callB (cr_all rfl) (by rfl) n_all (by decide +kernel) (pa_cons (pe_lc (own := [("sign", 7)]) rfl sc_checked_answers.nd (pi_str (pv 4)) (blkOk_by (own := [("sign", 7)]) (N := ["signs", "answers", "found", "answer", "message", "number", "known", "sign"]) (sc := defScope s_checked_answers) (by decide +kernel)) (fun _ _ _ _ _ => pg_via (g := (gName 7)) (pg_name (i := 7) sc_checked_answers.nd rfl (Or.inl rfl)) (by (try dsimp only [Cx.blk, Cx.nox, Cx.tr]) <;> exact rfl)) (fun _ _ _ _ _ => pts_via pts_nil (by (try dsimp only [Cx.blk, Cx.nox, Cx.tr]) <;> exact rfl)) (fun _ _ _ _ _ => pe_via (pe_cmpR op_in_sign (pv 7) (pv 0) rfl) (by (try dsimp only [Cx.blk, Cx.nox, Cx.tr]) <;> exact rfl))) pa_nil)))
 (pss_cons (ps_if (PW.pt (pw_or (pt_not (pt_val (pv 6))) (pw_or (pt_cmp (pc_din hu (pv 4) (pv 2))) (pw_or1 (pt_not (pt_val (pe_c C_is_number hr (by first | decide | omega) (pa_cons (pv 5) pa_nil))))))))
 (pss_one ps_never)
 pss_nil)
 (pss_one (ps_dput hu (pv 2) (pv 4) (pv 5) rfl))))))
 (pss_one (ps_ret (pv 2))))), fun μ ds post exc hl hP => ?_⟩
  obtain ⟨cs, ns, rfl, gd, hp⟩ := hP
  have zl : (txt cs).cps.toList = cs := txt_cps cs
  have hc := gd.c
  walk_at "d0"
  walk_at "dx"
  refine evx_dnewM fun p hp0 => ?_
  walk_at "dx"
  refine gs_for (itx_list ?_)
  walk_at "dx"
  refine ⟨_, _, isL_lst, ?_⟩
  refine ⟨fun i μ' ρ' => μ' = mput μ p (.dct ((ns.take i).map keyN) ((ns.take i).map fun n => numQ n.2)) ∧ ∃ u3 u4 u5 u6 u7 : Option D, ρ' = [some (.str (txt cs)), some (.lst (ns.map noteD)), some (.at p), u3, u4, u5, u6, u7], ⟨rfl, _, _, _, _, _, rfl⟩, fun _ _ _ _ _ => True.intro, ?_, ?_⟩
  · rintro i d μ' ρ' hd ⟨rfl, u3, u4, u5, u6, u7, rfl⟩
    obtain ⟨n, hn, rfl⟩ := map_at hd
    have hnm := List.mem_of_getElem? hn
    have hi : i < ns.length := (List.getElem?_eq_some_iff.mp hn).1
    have hs := gd.s n hnm
    have hln := gd.l n hnm
    have hnew : keyN n ∉ (ns.take i).map keyN := fun hm => by
      have h2 := keyN_mem.mp hm
      have h3 := gd.d
      have h4 : ns.take (i + 1) = ns.take i ++ [n] := take_snc hn
      have h5 : ((ns.take (i + 1)).map Prod.fst).Nodup := h3.sublist ((List.take_sublist _ _).map _)
      rw [h4, List.map_append, List.nodup_append] at h5
      exact h5.2.2 _ h2 _ (List.mem_singleton.mpr rfl) rfl
    have ek : (ns.take (i + 1)).map keyN = putKs ((ns.take i).map keyN) (keyN n) := by
      unfold putKs
      rw [if_neg hnew, take_snc hn, List.map_append]; rfl
    have ed : (ns.take (i + 1)).map (fun n => numQ n.2) = putDs ((ns.take i).map keyN) ((ns.take i).map fun n => numQ n.2) (keyN n) (numQ n.2) := by
      unfold putDs
      rw [if_neg hnew, take_snc hn, List.map_append]; rfl
    have hll : ((ns.take i).map keyN).length ≤ 1000000 := by rw [List.length_map, List.length_take]; omega
    generalize (ns.take i).map keyN = ks at hnew hll ek ed ⊢
    generalize (ns.take i).map (fun n => numQ n.2) = es at ed ⊢
    have hq := isNum_q n.2
    unfold noteD
    walk_at "dx"
    refine evx_lcP (itx_str ?_)
    walk_at "dx"
    refine ⟨⟨by rw [signsD_eq, List.length_map, txt_cps]; omega, fun _ _ => True.intro⟩, fun _ => true, fun d => match d with | .str ⟨cs'⟩ => .bl (decide (cs'.toList.headD 0 ∈ cs)) | _ => .non, ?_, ?_⟩
    · intro d hd μ2 hμ
      rw [signsD_eq] at hd
      obtain ⟨ch, _, rfl⟩ := List.mem_map.mp hd
      refine tcx_name (by decide) ?_
      refine evb_yes ⟨rfl, rfl, fun _ => ?_⟩
      walk_at "dx"
      refine opx_inSign ?_
      rw [zl]
      exact ⟨rfl, rfl⟩
    rw [List.filter_eq_self.mpr (fun _ _ => rfl), signsD_eq, List.map_map, txt_cps]
    have em : (n.1.map ((fun d => match d with | D.str ⟨cs'⟩ => D.bl (decide (cs'.toList.headD 0 ∈ cs)) | _ => .non) ∘ sgD)) = (n.1.map fun c => decide (c ∈ cs)).map D.bl := by
      rw [List.map_map]; rfl
    rw [em]
    walk_at "dx"
    refine cax_all isL_lst ?_
    rw [all_known cs n.1 hs]
    walk_at "dz"
    refine evx_din ?_
    walk_at "dx"
    refine ⟨ks, es, keyN n, .inr ⟨p, rfl, mput_same⟩, rfl, ?_⟩
    rw [decide_eq_false hnew]
    walk_at "dz"
    refine ⟨n.2.num, n.2.den, rfl, ?_⟩
    rw [hq]
    walk_at "dz"
    refine gs_dput ?_
    walk_at "dx"
    refine ⟨p, ks, es, keyN n, rfl, rfl, mput_same, hll, ?_⟩
    rw [mput_put, ek, ed]
    exact ⟨rfl, _, _, _, _, _, rfl⟩
  rintro μ' ρ' ⟨rfl, u3, u4, u5, u6, u7, rfl⟩
  rw [List.length_map, List.take_length]
  walk_at "dx"
  exact hp p hp0
theorem c_next (h : Std K mg "next_message" s_next_message) (C_asked : Cal P w K mg base CX0 4 "asked" s_asked ["signs", "size"] (spD K 2 P_asked)) (C_checked_answers : Cal P w K mg base CX0 2 "checked_answers" s_checked_answers ["signs", "answers"] (spD K 2 P_answers)) : Cal P w K mg base CX0 5 "next_message" s_next_message ["signs", "size", "answers"] (spD K 3 P_next) := by
  refine cal0 h sc_next_message (fun _ _ _ _ _ _ us hl => match us, hl with | [_, _, _], _ => rfl) fun f cdv A outer s H E hr => ⟨_,
    have hu64 := hr.units; have hu := hu_of hr; (pss_cons (ps_set (i := 3) sc_next_message.nd rfl (Or.inl rfl) (pe_c C_asked hr (by first | decide | omega) (pa_cons (pv 0) (pa_cons (pv 1) pa_nil))))
 (pss_cons (ps_set (i := 4) sc_next_message.nd rfl (Or.inl rfl) (pe_c C_checked_answers hr (by first | decide | omega) (pa_cons (pv 0) (pa_cons (pv 2) pa_nil))))
 (pss_cons (ps_for PassesOwn.never rfl (pi_list (pv 3)) (pg_name (i := 5) sc_next_message.nd rfl (Or.inl rfl))
 (pss_one (ps_if (pt_cmp (pc_dnotin hu (pv 5) (pv 4)))
 (pss_one (ps_ret (pv 5)))
 pss_nil)))
 (pss_one (ps_ret pe_non))))), fun μ ds post exc hl hP => ?_⟩
  obtain ⟨cs, n, ns, rfl, ho, few, gd, hp⟩ := hP
  walk_at "d0"
  walk_at "dx"
  refine ⟨cs, n, rfl, ho, few, fun p hp0 => ?_⟩
  refine tgx_name ?_
  refine gs_freeze (p := p) (i := 3) mput_same rfl rfl ?_
  rw [mcut_put hp0]
  walk_at "dx"
  refine ⟨cs, ns, rfl, gd, fun d hd0 => ?_⟩
  refine tgx_name ?_
  have hd2 : mput μ d (.dct (ns.map keyN) (ns.map fun n => numQ n.2)) d = some (.dct (ns.map keyN) (ns.map fun n => numQ n.2)) := mput_same
  generalize mput μ d (.dct (ns.map keyN) (ns.map fun n => numQ n.2)) = μ1 at hd2 ⊢
  walk_at "dx"
  refine gs_for (itx_list ?_)
  walk_at "dx"
  refine ⟨_, _, isL_lst, ?_⟩
  refine ⟨fun i μ' ρ' => μ' = μ1 ∧ (∀ w ∈ (below cs (2 * n)).take i, (!decide (w ∈ ns.map Prod.fst)) = false) ∧ ∃ u5 : Option D, ρ' = [some (.str (txt cs)), some (.int n), some (.lst (ns.map noteD)), some (.lst (strsD (below cs (2 * n)))), some (.at d), u5], ⟨rfl, (fun _ h => nomatch h), _, rfl⟩, fun _ _ _ _ _ => True.intro, ?_, ?_⟩
  · rintro i dd μ' ρ' hd ⟨rfl, hno, u5, rfl⟩
    obtain ⟨w, hw, rfl⟩ := map_at (f := fun w => D.str (txt w)) hd
    walk_at "dx"
    refine evx_dnotin ?_
    walk_at "dx"
    refine ⟨_, _, .inr (txt w), .inr ⟨d, rfl, hd2⟩, rfl, ?_⟩
    walk_at "dx"
    refine ifN (fun h1 => ?_) (fun h1 => ?_)
    · walk_at "dx"
      have h2 : w ∉ ns.map Prod.fst := fun hm => h1 (keyN_mem.mpr hm)
      have h3 := find_take hw (p := fun w => !decide (w ∈ ns.map Prod.fst)) (by rw [decide_eq_false h2]; rfl) hno
      have h4 := hp μ'
      unfold nextW at h4
      rw [h3] at h4
      exact h4
    · walk_at "dx"
      have h2 := keyN_mem.mp h1
      refine ⟨fun v hv => ?_, _, rfl⟩
      rw [take_snc hw] at hv
      rcases List.mem_append.mp hv with hv | hv
      · exact hno v hv
      · rw [List.mem_singleton.mp hv, decide_eq_true h2]; rfl
  rintro μ' ρ' ⟨rfl, hno, u5, rfl⟩
  walk_at "dx"
  unfold strsD at hno
  rw [List.length_map, List.take_length] at hno
  have h4 := hp μ'
  unfold nextW at h4
  rw [List.find?_eq_none.mpr (fun w hw => by rw [hno w hw]; decide)] at h4
  exact h4
end
theorem letters_mk {zs : List Str} {es : List Nat} (hp : zs.Perm (es.map sg)) (hs : sortedS zs = true) (hn : es.Nodup) (hi : ∀ c ∈ es, c ∈ letters) (h1 : 1 ≤ es.length) : ∃ fs : List Nat, Txt.join (Str.ofString "") zs = txt fs ∧ okSigns fs ∧ fs.length = es.length := by
  obtain ⟨fs, rfl, hf⟩ := perm_map_sg hp
  have hle := sorted_sg fs hs
  have hnd : fs.Nodup := hf.nodup_iff.mpr hn
  refine ⟨fs, join_txt fs, ⟨(List.Pairwise.and hle hnd).imp fun {a b} h => Nat.lt_of_le_of_ne h.1 h.2, fun c hc => hi c (hf.mem_iff.mp hc), fun e => ?_⟩, hf.length_eq⟩
  have := hf.length_eq
  rw [e] at this
  have h0 : es.length = 0 := this.symm
  omega
def P_wletters : PD := fun μ ds post _ => ∃ (a : Addr) (c : Int) (n : Nat), ds = [.at a, .int n] ∧ Well a c μ ∧ c ≤ 900000 ∧ 1 ≤ n ∧ n ≤ 3 ∧
  ∀ μ' cs, okSigns cs → cs.length = n → Well a (c + n) μ' → Keep a a μ μ' → post μ' (.str (txt cs))
def P_lmsgs : PD := fun μ ds post _ => ∃ (cs : List Nat) (n : Nat), ds = [.str (txt cs), .int n] ∧ Few cs n ∧ post μ (.lst (strsD (below cs n)))
def P_lnum : PD := fun μ ds post _ => ∃ (a : Addr) (c : Int), ds = [.at a] ∧ Well a c μ ∧ c ≤ 900000 ∧ ∀ μ' q, Well a (c + 2) μ' → Keep a a μ μ' → post μ' (numQ q)
def P_some : PD := fun μ ds post _ => ∃ (a : Addr) (c : Int) (L : List (List Nat)), ds = [.at a, .lst (strsD L)] ∧ Well a c μ ∧ c ≤ 900000 ∧ L.length ≤ 5000 ∧
  ∀ μ' L', L'.Sublist L → Well a (c + 2 + L.length) μ' → Keep a a μ μ' → post μ' (.lst (strsD L'))
def P_longer : PD := fun μ ds post _ => ∃ (a : Addr) (c : Int) (cs : List Nat) (n : Nat), ds = [.at a, .str (txt cs), .int n] ∧ Well a c μ ∧ c ≤ 900000 ∧ n ≤ 100 ∧ 1 ≤ cs.length ∧ cs.length ≤ 26 ∧
  ∀ μ' L', L'.Pairwise (fun a b => a.length < b.length) → (∀ w ∈ L', 2 * n ≤ w.length ∧ w.length ≤ 2 * n + 2 ∧ ∀ c ∈ w, c ∈ cs) → L'.length ≤ 3 → Well a (c + 1 + 3 * 300) μ' → Keep a a μ μ' → post μ' (.lst (strsD L'))
theorem longer_snoc (cs : List Nat) (L : List (List Nat)) (w : List Nat) : longer cs (L ++ [w]) = longer cs L ++ cs.map fun c => w ++ [c] := by
  unfold longer
  rw [List.flatMap_append]
  show _ ++ ((cs.map fun c => w ++ [c]) ++ []) = _
  rw [List.append_nil]
theorem strs_app (a b : List (List Nat)) : strsD a ++ strsD b = strsD (a ++ b) := List.map_append.symm
theorem numQ_int (n : Int) : numQ (n : Rat) = .tup [.int n, .int 1] := by
  unfold numQ numD
  rw [Rat.num_intCast, Rat.den_intCast]; rfl
theorem numQ_half {x : Int} (h : x.natAbs % 2 = 1) : ∃ q : Rat, numQ q = .tup [.int x, .int 2] := by
  have hg : Nat.gcd x.natAbs (2 : Int).natAbs = 1 := by
    show Nat.gcd x.natAbs 2 = 1
    rw [Nat.gcd_comm, Nat.gcd_rec, h]; rfl
  have h2 : (x : Rat) = ((x : Rat) / ((2 : Int) : Rat)) * ((2 : Int) : Rat) := (num_by (by decide)).mp rfl
  obtain ⟨e1, e2⟩ := rat_eq (q := (x : Rat) / ((2 : Int) : Rat)) (by decide) hg h2
  exact ⟨_, by unfold numQ numD; rw [e1, e2]⟩
section
variable {P : Program} {w : World} {K : PySem.W.Frag} {mg : Str → Option Value} {base : Heap}
theorem c_wletters (h : Std K mg "_law_letters" s__law_letters) (n_range : mg "range" = none) (n_len : mg "len" = none) (n_list : mg "list" = none) (n_sorted : mg "sorted" = none) (C__law_draw : Cal P w K mg base CX0 1 "_law_draw" s__law_draw ["_law_well_here", "_law_many"] (spD K 2 P_wdraw)) : Cal P w K mg base CX0 2 "_law_letters" s__law_letters ["_law_well_here", "_law_many"] (spD K 2 P_wletters) := by
  refine cal0 h sc__law_letters (fun _ _ _ _ _ _ us hl => match us, hl with | [_, _], _ => rfl) fun f cdv A outer s H E hr => ⟨_,
    have hu64 := hr.units; (pss_cons (ps_par (i := 2) (j := 3) rfl sc__law_letters.nd rfl rfl (by decide) rfl rfl (pa_cons (pe_callTy (call_listT rfl) (by rfl) n_list (by decide +kernel) (pa_cons pe_str pa_nil)) (pa_cons (pe_lst pa_nil) pa_nil)) (by rfl))
 (pss_cons (ps_for PassesOwn.never rfl (pi_range1 rfl n_range (pa_cons (pv 1) pa_nil)) (pg_name (i := 4) sc__law_letters.nd rfl (Or.inl rfl))
 (pss_one (ps_expr (pe_bm PySem.F.plainAttrs_list PySem.F.slot_list_append PySem.F.type_list_append mt_append (pv 3) (pa_cons (pe_bm PySem.F.plainAttrs_list PySem.F.slot_list_pop PySem.F.type_list_pop mt_popAt (pv 2) (pa_cons (pe_c C__law_draw hr (by first | decide | omega) (pa_cons (pv 0) (pa_cons (pe_callB call_len (by rfl) n_len (by decide +kernel) (pa_cons (pv 2) pa_nil)) pa_nil))) pa_nil)) pa_nil)))))
 (pss_one (ps_ret (pe_join pe_str (pe_callB cr_sortedS (by rfl) n_sorted (by decide +kernel) (pa_cons (pv 3) pa_nil))))))), fun μ ds post exc hl hP => ?_⟩
  obtain ⟨a, c, n, rfl, W0, hc, hn1, hn3, hp⟩ := hP
  have S := well_src a
  walk_at "d0"
  walk_at "dx"
  refine cax_listTM (by decide) fun p hp0 => ?_
  rw [signsD_eq, show (Str.ofString "abcdefghijklmnopqrstuvwxyz").cps.toList = letters from rfl]
  walk_at "dx"
  refine evx_lstM ?_
  walk_at "dx"
  intro q hq0
  have hpa := (S.na W0 hp0).1
  have W1 : Well a c (mput μ p (.lst (letters.map sgD))) := S.put W0 hpa hpa
  have hqa := (S.na W1 hq0).1
  have W2 := S.put (o := .lst []) W1 hqa hqa
  have hqp : q ≠ p := fun z => by rw [z, mput_same] at hq0; exact nomatch hq0
  have hqm : μ q = none := by rw [mput_ne hqp] at hq0; exact hq0
  have K1 : Keep a a μ (mput (mput μ p (.lst (letters.map sgD))) q (.lst [])) := ((Keep.refl a a μ).new hp0).new hqm
  have e1 : mput (mput μ p (.lst (letters.map sgD))) q (.lst []) p = some (.lst (letters.map sgD)) := by rw [mput_ne (Ne.symm hqp)]; exact mput_same
  have e2 : mput (mput μ p (.lst (letters.map sgD))) q (.lst []) q = some (.lst []) := mput_same
  walk_at "dx"
  generalize mput (mput μ p (.lst (letters.map sgD))) q (.lst []) = μ1 at W2 K1 e1 e2 ⊢
  refine gs_for (itx_range1 ?_)
  walk_at "dx"
  refine ⟨⟨by omega, by omega⟩, ?_⟩
  refine ⟨fun i μ' ρ' => ∃ (cs es : List Nat) (u4 : Option D), ρ' = [some (.at a), some (.int n), some (.at p), some (.at q), u4] ∧ Well a (c + i) μ' ∧ Keep a a μ μ' ∧ (cs ++ es).Perm letters ∧ es.length = i ∧ μ' p = some (.lst (cs.map sgD)) ∧ μ' q = some (.lst (es.map sgD)),
    ⟨letters, [], _, rfl, S.mono W2 (by omega), K1, by rw [List.append_nil], rfl, e1, e2⟩, fun _ _ _ _ _ => True.intro, ?_, ?_⟩
  · rintro i d μ' ρ' hd ⟨cs, es, u4, rfl, W3, K3, r1, r2, r3, r4⟩
    obtain ⟨hi, rfl⟩ := rangeD_get hd
    have hin : i < n := by omega
    have hlen : cs.length + es.length = 26 := by rw [← List.length_append, r1.length_eq, letters_len]
    walk_at "dx"
    refine evx_app ?_
    walk_at "dx"
    refine ⟨q, _, rfl, r4, ?_⟩
    refine evx_popAt ?_
    walk_at "dx"
    refine ⟨p, _, rfl, r3, ?_⟩
    walk_at "dx"
    refine cax_len (n := cs.length) ⟨_, r3, by rw [List.length_map]⟩ ?_
    walk_at "dx"
    refine ⟨a, _, _, rfl, W3, by omega, by omega, small_lt (by omega) (by omega), fun μ4 j hj0 hj1 W4 B4 => ?_⟩
    have hk : j.toNat < cs.length := by omega
    refine ⟨_, j, j.toNat, sgD cs[j.toNat], rfl, (B4 p hpa).trans r3, ⟨by omega, by omega⟩, seq_nat hj0 (by rw [List.length_map]; exact hj1), by rw [List.getElem?_map, List.getElem?_eq_getElem hk]; rfl, ?_⟩
    refine ⟨_, by rw [mput_ne hqp]; exact (B4 q hqa).trans r4, by rw [List.length_map]; omega, cs.eraseIdx j.toNat, es ++ [cs[j.toNat]], _, rfl, ?_, ((K3.trans (keep_of B4)).new hp0).new hqm, pick_perm hk r1, by rw [List.length_append, r2]; rfl, ?_, ?_⟩
    · exact S.mono (S.put (S.put W4 hpa hpa) hqa hqa) (by rw [Int.natCast_add]; omega)
    · rw [mput_ne (Ne.symm hqp), mput_same, map_erase]
    · rw [mput_same, List.map_append]; rfl
  rintro μ' ρ' ⟨cs, es, u4, rfl, W3, K3, r1, r2, r3, r4⟩
  rw [rangeD_len] at r2 W3
  have hnd : es.Nodup := ((List.nodup_append.mp (r1.nodup_iff.mpr letters_nd)).2).1
  have hin : ∀ c ∈ es, c ∈ letters := fun c hc => r1.mem_iff.mp (List.mem_append_right _ hc)
  walk_at "dx"
  refine evx_join ?_
  walk_at "dx"
  refine cax_sortedS (zs := es.map sg) (by rw [← sgD_map]; exact isL_at r4) (by rw [List.length_map]; omega) (fun zs hz hs => ?_)
  obtain ⟨fs, ez, ok, hf⟩ := letters_mk hz hs hnd hin (by omega)
  refine ⟨zs, fun _ => True, isL_lst, ?_, ?_⟩
  · have e5 : (zs.map (·.length)).sum = es.length := by
      rw [← sum_sg es]
      exact (hz.map _).sum_nat
    have e6 : (Str.ofString "").length = 0 := rfl
    rw [e5, e6]
    omega
  · rw [ez]
    exact hp _ _ ok (by omega) (S.mono W3 (by omega)) K3
theorem c_lmsgs (h : Std K mg "_law_messages" s__law_messages) (n_range : mg "range" = none) : Cal P w K mg base CX0 1 "_law_messages" s__law_messages ["_law_letters_here", "_law_many"] (spD K 2 P_lmsgs) := by
  refine cal0 h sc__law_messages (fun _ _ _ _ _ _ us hl => match us, hl with | [_, _], _ => rfl) fun f cdv A outer s H E hr => ⟨_,
    have hu64 := hr.units; (pss_cons (ps_par (i := 2) (j := 3) rfl sc__law_messages.nd rfl rfl (by decide) rfl rfl (pa_cons (pe_lst pa_nil) (pa_cons (pe_lst (pa_cons pe_str pa_nil)) pa_nil)) (by rfl))
 (pss_cons (ps_for PassesOwn.never rfl (pi_range1 rfl n_range (pa_cons (pv 1) pa_nil)) (pg_name (i := 4) sc__law_messages.nd rfl (Or.inl rfl))
 (pss_cons (ps_expr (pe_bm PySem.F.plainAttrs_list PySem.F.slot_list_extend PySem.F.type_list_extend mt_extend (pv 2) (pa_cons (pv 3) pa_nil)))
 (pss_cons (ps_set (i := 5) sc__law_messages.nd rfl (Or.inl rfl) (pe_lst pa_nil))
 (pss_cons (ps_for PassesOwn.never rfl (pi_list (pv 3)) (pg_name (i := 6) sc__law_messages.nd rfl (Or.inr rfl))
 (pss_one (ps_expr (pe_bm PySem.F.plainAttrs_list PySem.F.slot_list_extend PySem.F.type_list_extend mt_extend (pv 5) (pa_cons (pe_lc (own := [("_law_letter", 7)]) rfl sc__law_messages.nd (pi_str (pv 0)) (blkOk_by (own := [("_law_letter", 7)]) (N := ["_law_letters_here", "_law_many", "_law_found", "_law_last", "_law_turn", "_law_more", "_law_head", "_law_letter"]) (sc := defScope s__law_messages) (by decide +kernel)) (fun _ _ _ _ _ => pg_via (g := (gName 7)) (pg_name (i := 7) sc__law_messages.nd rfl (Or.inl rfl)) (by (try dsimp only [Cx.blk, Cx.nox, Cx.tr]) <;> exact rfl)) (fun _ _ _ _ _ => pts_via pts_nil (by (try dsimp only [Cx.blk, Cx.nox, Cx.tr]) <;> exact rfl)) (fun _ _ _ _ _ => pe_via (pe_op op_addU (pv 6) (pv 7)) (by (try dsimp only [Cx.blk, Cx.nox, Cx.tr]) <;> exact rfl))) pa_nil)))))
 (pss_one (ps_set (i := 3) sc__law_messages.nd rfl (Or.inl rfl) (pv 5)))))))
 (pss_one (ps_ret (pv 2))))), fun μ ds post exc hl hP => ?_⟩
  obtain ⟨cs, n, rfl, few, hp⟩ := hP
  have hn := few.nn
  have hl := few.ll
  have zl : (txt cs).cps.toList = cs := txt_cps cs
  walk_at "d0"
  walk_at "dx"
  refine evx_lstM ?_
  walk_at "dx"
  intro p hp0
  walk_at "dx"
  refine evx_lst ?_
  walk_at "dx"
  refine gs_for (itx_range1 ?_)
  walk_at "dx"
  refine ⟨⟨by omega, by omega⟩, ?_⟩
  refine ⟨fun i μ' ρ' => ∃ (u4 u5 u6 u7 : Option D), ρ' = [some (.str (txt cs)), some (.int n), some (.at p), some (.lst (strsD (msgs cs i))), u4, u5, u6, u7] ∧ μ' = mput μ p (.lst (strsD (below cs i))),
    ⟨_, _, _, _, rfl, rfl⟩, fun _ _ _ _ _ => True.intro, ?_, ?_⟩
  · rintro i d μ' ρ' hd ⟨u4, u5, u6, u7, rfl, rfl⟩
    obtain ⟨hi, rfl⟩ := rangeD_get hd
    have hin : i < n := by omega
    have hb : (below cs i).length ≤ i * 1000 := below_count fun k hk => few.cc k (by omega)
    have hm : (msgs cs i).length ≤ 1000 := by rw [msgs_count]; exact few.cc i (by omega)
    have hmul : i * 1000 ≤ 100 * 1000 := Nat.mul_le_mul_right _ (by omega)
    have hc1 := few.cc (i + 1) (by omega)
    rw [Nat.pow_succ, ← msgs_count] at hc1
    have hml : ∀ w ∈ msgs cs i, w.length = i := fun w hw => (msgs_len hw).1
    have em : msgs cs (i + 1) = longer cs (msgs cs i) := rfl
    have eb := below_succ cs i
    generalize msgs cs i = L at hm hml em eb hc1 ⊢
    walk_at "dx"
    refine evx_ext ?_
    walk_at "dx"
    refine ⟨p, _, rfl, mput_same, ?_⟩
    walk_at "dx"
    refine ⟨_, _, mput_same, real_lst, by unfold strsD; rw [List.length_map, List.length_map]; omega, ?_⟩
    rw [mput_put, strs_app, ← eb]
    have hp1 : mput μ p (.lst (strsD (below cs (i + 1)))) p = some (.lst (strsD (below cs (i + 1)))) := mput_same
    generalize hm1 : mput μ p (.lst (strsD (below cs (i + 1)))) = μ1 at hp1 ⊢
    walk_at "dx"
    refine evx_lstM ?_
    walk_at "dx"
    intro q hq0
    walk_at "dx"
    refine gs_for (itx_list ?_)
    walk_at "dx"
    refine ⟨_, _, isL_lst, ?_⟩
    refine ⟨fun j μ' ρ' => ∃ (u6 u7 : Option D), ρ' = [some (.str (txt cs)), some (.int n), some (.at p), some (.lst (strsD L)), some (.int (0 + i)), some (.at q), u6, u7] ∧ μ' = mput μ1 q (.lst (strsD (longer cs (L.take j)))),
      ⟨_, _, rfl, rfl⟩, fun _ _ _ _ _ => True.intro, ?_, ?_⟩
    · rintro j d μ2 ρ2 hd ⟨v6, v7, rfl, rfl⟩
      obtain ⟨w, hw, rfl⟩ := map_at (f := fun w => D.str (txt w)) hd
      have hwl := hml w (List.mem_of_getElem? hw)
      have hjl : j < L.length := (List.getElem?_eq_some_iff.mp hw).1
      have ej : longer cs (L.take (j + 1)) = longer cs (L.take j) ++ cs.map fun c => w ++ [c] := by rw [take_snc hw, longer_snoc]
      have hlj : (longer cs (L.take j)).length ≤ 1000 := by
        rw [longer_len, List.length_take]
        exact Nat.le_trans (Nat.mul_le_mul_right _ (Nat.min_le_right _ _)) hc1
      generalize longer cs (L.take j) = Lj at ej hlj ⊢
      walk_at "dx"
      refine evx_ext ?_
      walk_at "dx"
      refine ⟨q, _, rfl, mput_same, ?_⟩
      refine evx_lcP (itx_str ?_)
      walk_at "dx"
      refine ⟨⟨by rw [signsD_eq, List.length_map, zl]; omega, fun _ _ => True.intro⟩, fun _ => true, fun d => match d with | .str z => .str (txt w ++ z) | _ => .non, ?_, ?_⟩
      · intro d hd μ3 hμ
        rw [signsD_eq] at hd
        obtain ⟨ch, _, rfl⟩ := List.mem_map.mp hd
        refine tcx_name (by decide) ?_
        refine evb_yes ⟨rfl, rfl, fun _ => ?_⟩
        walk_at "dx"
        refine opx_r (opx_l (opx_addS (by rw [txt_len]; show _ + 1 ≤ _; omega) ?_))
        exact ⟨rfl, rfl⟩
      rw [List.filter_eq_self.mpr (fun _ _ => rfl), signsD_eq, zl, List.map_map]
      have ec : (cs.map ((fun d => match d with | D.str z => D.str (txt w ++ z) | _ => .non) ∘ sgD)) = strsD (cs.map fun c => w ++ [c]) := by
        unfold strsD
        rw [List.map_map]
        exact List.map_congr_left fun c _ => by
          show D.str (txt w ++ sg c) = _
          rw [add_sg]; rfl
      rw [ec]
      refine ⟨_, _, mput_same, real_lst, by unfold strsD; rw [List.length_map, List.length_map, List.length_map]; omega, _, _, rfl, ?_⟩
      rw [mput_put, strs_app, ej]
    rintro μ2 ρ2 ⟨v6, v7, rfl, rfl⟩
    unfold strsD
    rw [List.length_map, List.take_length, ← em]
    refine gs_freeze (p := q) (i := 5) mput_same rfl rfl ?_
    rw [mcut_put hq0]
    walk_at "dx"
    rw [← hm1]
    exact ⟨_, _, _, _, rfl, rfl⟩
  rintro μ' ρ' ⟨u4, u5, u6, u7, rfl, rfl⟩
  rw [rangeD_len]
  refine gs_freeze (p := p) (i := 2) mput_same rfl rfl ?_
  rw [mcut_put hp0]
  walk_at "dx"
  exact hp
end
/-- what an order of some things keeps -/
structure Ord (A B : List Note) : Prop where
  m : ∀ x ∈ A, x ∈ B
  d : (B.map Prod.fst).Nodup → (A.map Prod.fst).Nodup
  l : A.length ≤ 2 * B.length
theorem ord_perm {A B : List Note} (h : A.Perm B) : Ord A B := ⟨fun x hx => h.mem_iff.mp hx, fun hn => (h.map _).nodup_iff.mpr hn, by rw [h.length_eq]; omega⟩
theorem ord_ix {B : List Note} {ix : List Nat} (hn : ix.Nodup) (hl : ix.length ≤ 2 * B.length) : Ord (ix.filterMap fun i => B[i]?) B := by
  refine ⟨fun x hx => ?_, fun hB => ?_, Nat.le_trans (List.length_filterMap_le _ _) hl⟩
  · obtain ⟨i, _, h⟩ := List.mem_filterMap.mp hx
    exact List.mem_of_getElem? h
  · rw [List.map_filterMap]
    refine List.Pairwise.filterMap _ (fun i j hij x hx y hy => ?_) hn
    intro hxy
    subst hxy
    rw [Option.map_eq_some_iff] at hx hy
    obtain ⟨u, hu, rfl⟩ := hx
    obtain ⟨v, hv, e⟩ := hy
    have h1 : (B.map Prod.fst)[i]? = some u.1 := by rw [List.getElem?_map, hu]; rfl
    have h2 : (B.map Prod.fst)[j]? = some u.1 := by rw [List.getElem?_map, hv, ← e]; rfl
    have hi := (List.getElem?_eq_some_iff.mp h1).1
    exact hij (List.getElem?_inj hi hB |>.mp (h1.trans h2.symm))
theorem step_even {n i : Nat} (h : i ∈ stepIx n none none 2) : i % 2 = 0 := by
  unfold stepIx sliceRange at h
  obtain ⟨k, _, rfl⟩ := List.mem_map.mp h
  show (0 + 2 * (k : Int)).toNat % 2 = 0
  omega
theorem step_odd {n i : Nat} (hn : 1 ≤ n) (h : i ∈ stepIx n (some 1) none 2) : i % 2 = 1 := by
  unfold stepIx sliceRange at h
  obtain ⟨k, _, rfl⟩ := List.mem_map.mp h
  show (max 0 (min (1 : Int) n) + 2 * (k : Int)).toNat % 2 = 1
  rw [show max 0 (min (1 : Int) n) = 1 by omega]
  omega
theorem step_nd {a b : Int} (ha : 0 ≤ a) : (sliceRange a b 2).Nodup := by
  unfold sliceRange
  refine List.Pairwise.map _ (fun i j hij e => ?_) List.nodup_range
  have e' : (a + 2 * (i : Int)).toNat = (a + 2 * (j : Int)).toNat := e
  have hij' : i ≠ j := hij
  omega
theorem step_len0 {n : Nat} : (stepIx n none none 2).length ≤ n := sliceRange_length_le _ _ _ _ (fun _ => ⟨(by show (0 : Int) ≤ 0; omega), Int.le_refl _⟩) (fun h => absurd (show (2 : Int) > 0 by decide) h)
theorem step_len1 {n : Nat} : (stepIx n (some 1) none 2).length ≤ n := sliceRange_length_le _ _ _ _ (fun _ => ⟨(by show (0 : Int) ≤ max 0 (min 1 (n : Int)); omega), Int.le_refl _⟩) (fun h => absurd (show (2 : Int) > 0 by decide) h)
theorem stepD_map {α : Type} (f : α → D) (xs : List α) (lo hi : Option Int) (st : Int) : stepD (xs.map f) lo hi st = (stepD xs lo hi st).map f := by
  unfold stepD
  rw [List.length_map, List.map_filterMap]
  congr 1
  funext i
  rw [List.getElem?_map]
theorem ord_step (B : List Note) : Ord (stepD B (some 1) none 2 ++ stepD B none none 2) B := by
  unfold stepD
  rw [← List.filterMap_append]
  refine ord_ix ?_ (by rw [List.length_append]; have := step_len0 (n := B.length); have := step_len1 (n := B.length); omega)
  rw [List.nodup_append]
  refine ⟨step_nd (by show (0 : Int) ≤ max 0 (min 1 (B.length : Int)); omega), step_nd (by show (0 : Int) ≤ 0; omega), fun i hi j hj e => ?_⟩
  subst e
  have h1 := step_even hj
  rcases Nat.eq_zero_or_pos B.length with h0 | h0
  · rw [h0] at hi
    have h2 : stepIx 0 (some 1) none 2 = [] := by decide
    rw [h2] at hi
    exact nomatch hi
  · have h2 := step_odd h0 hi
    omega
theorem ord_turn (B : List Note) (k : Nat) : Ord (B.drop k ++ B.take k) B := ord_perm (List.perm_append_comm.trans (by rw [List.take_append_drop]))
def P_order : PD := fun μ ds post _ => ∃ (a : Addr) (c : Int) (B : List Note), ds = [.at a, .lst (B.map noteD)] ∧ Well a c μ ∧ c ≤ 900000 ∧ B.length ≤ 5000 ∧
  ∀ μ' A, Ord A B → Well a (c + 2 + B.length) μ' → Keep a a μ μ' → post μ' (.lst (A.map noteD))
section
variable {P : Program} {w : World} {K : PySem.W.Frag} {mg : Str → Option Value} {base : Heap}
theorem c_lnum (h : Std K mg "_law_number" s__law_number) (C__law_draw : Cal P w K mg base CX0 1 "_law_draw" s__law_draw ["_law_well_here", "_law_many"] (spD K 2 P_wdraw)) : Cal P w K mg base CX0 2 "_law_number" s__law_number ["_law_well_here"] (spD K 1 P_lnum) := by
  refine cal0 h sc__law_number (fun _ _ _ _ _ _ us hl => match us, hl with | [_], _ => rfl) fun f cdv A outer s H E hr => ⟨_,
    have hu64 := hr.units; (pss_cons (ps_set (i := 1) sc__law_number.nd rfl (Or.inl rfl) (pe_c C__law_draw hr (by first | decide | omega) (pa_cons (pv 0) (pa_cons pe_int pa_nil))))
 (pss_cons (ps_if (pt_cmpR (op_eqU hu64) (pv 1) pe_int (nomark _))
 (pss_one (ps_ret (pe_tup (pa_cons (pe_op op_sub (pe_c C__law_draw hr (by first | decide | omega) (pa_cons (pv 0) (pa_cons pe_int pa_nil))) pe_int) (pa_cons pe_int pa_nil)))))
 pss_nil)
 (pss_cons (ps_if (pt_cmpR (op_eqU hu64) (pv 1) pe_int (nomark _))
 (pss_one (ps_ret (pe_tup (pa_cons (pe_op op_sub (pe_op op_mulU pe_int (pe_c C__law_draw hr (by first | decide | omega) (pa_cons (pv 0) (pa_cons pe_int pa_nil)))) pe_int) (pa_cons pe_int pa_nil)))))
 pss_nil)
 (pss_one (ps_ret (pe_tup (pa_cons (pe_op op_addU (pe_op op_powB pe_int pe_int) (pe_c C__law_draw hr (by first | decide | omega) (pa_cons (pv 0) (pa_cons (pe_op op_mulU pe_int (pe_op op_powB pe_int pe_int)) pa_nil)))) (pa_cons pe_int pa_nil)))))))), fun μ ds post exc hl hP => ?_⟩
  obtain ⟨a, c, rfl, W0, hc, hp⟩ := hP
  have q8 := cp10 (n := 8) (by decide) (by decide)
  have p10_8 : (10 : Int) ^ (8 : Int).toNat = 100000000 := by decide
  walk_at "d0"
  walk_at "dx"
  refine ⟨a, c, 3, rfl, W0, by omega, by decide, by decide, fun μ1 k hk0 hk1 W1 B1 => ?_⟩
  walk_at "dx"
  refine ifD (fun h0 => ?_) (fun h0 => ?_)
  · walk_at "dx"
    refine ⟨a, _, 19, rfl, W1, by omega, by decide, by decide, fun μ2 x hx0 hx1 W2 B2 => ?_⟩
    walk_at "dx"
    rw [← numQ_int]
    exact hp _ _ (W2.mono (by omega)) ((keep_of B1).trans (keep_of B2))
  walk_at "dx"
  refine ifD (fun h1 => ?_) (fun h1 => ?_)
  · walk_at "dx"
    refine ⟨a, _, 9, rfl, W1, by omega, by decide, by decide, fun μ2 x hx0 hx1 W2 B2 => ?_⟩
    have c1 : CMulB 2 x := ⟨64, 64, by decide, by omega, by decide⟩
    walk_at "dx"
    obtain ⟨q, hq⟩ := numQ_half (x := 2 * x - 9) (by omega)
    rw [← hq]
    exact hp _ _ (W2.mono (by omega)) ((keep_of B1).trans (keep_of B2))
  walk_at "dx"
  rw [p10_8]
  have c1 : CMulB 9 100000000 := ⟨64, 64, by decide, by decide, by decide⟩
  walk_at "dx"
  refine ⟨a, _, _, rfl, W1, by omega, by decide, by decide, fun μ2 x hx0 hx1 W2 B2 => ?_⟩
  walk_at "dx"
  rw [← numQ_int]
  exact hp _ _ (W2.mono (by omega)) ((keep_of B1).trans (keep_of B2))
theorem c_some (h : Std K mg "_law_some" s__law_some) (n_len : mg "len" = none) (n_list : mg "list" = none) (C__law_draw : Cal P w K mg base CX0 1 "_law_draw" s__law_draw ["_law_well_here", "_law_many"] (spD K 2 P_wdraw)) : Cal P w K mg base CX0 2 "_law_some" s__law_some ["_law_well_here", "_law_due"] (spD K 2 P_some) := by
  refine cal0 h sc__law_some (fun _ _ _ _ _ _ us hl => match us, hl with | [_, _], _ => rfl) fun f cdv A outer s H E hr => ⟨_,
    have hu64 := hr.units; (pss_cons (ps_par (i := 2) (j := 3) rfl sc__law_some.nd rfl rfl (by decide) rfl rfl (pa_cons (pe_c C__law_draw hr (by first | decide | omega) (pa_cons (pv 0) (pa_cons pe_int pa_nil))) (pa_cons (pe_c C__law_draw hr (by first | decide | omega) (pa_cons (pv 0) (pa_cons (pe_op op_addU (pe_callB call_len (by rfl) n_len (by decide +kernel) (pa_cons (pv 1) pa_nil)) pe_int) pa_nil))) pa_nil)) (by rfl))
 (pss_cons (ps_if (pt_cmpR (op_eqU hu64) (pv 2) pe_int (nomark _))
 (pss_one (ps_ret (pe_lst pa_nil)))
 pss_nil)
 (pss_cons (ps_if (pt_cmpR (op_eqU hu64) (pv 2) pe_int (nomark _))
 (pss_one (ps_ret (pe_callTy call_list_of (by rfl) n_list (by decide +kernel) (pa_cons (pv 1) pa_nil))))
 pss_nil)
 (pss_cons (ps_if (pt_cmpR (op_eqU hu64) (pv 2) pe_int (nomark _))
 (pss_one (ps_ret (pe_slice sl_list (pv 1) po_none (po_some (pv 3)))))
 pss_nil)
 (pss_cons (ps_if (pt_cmpR (op_eqU hu64) (pv 2) pe_int (nomark _))
 (pss_one (ps_ret (pe_op op_addU (pe_slice sl_list (pv 1) po_none (po_some (pv 3))) (pe_slice sl_list (pv 1) (po_some (pe_op op_addU (pv 3) pe_int)) po_none))))
 pss_nil)
 (pss_cons (ps_if (pt_cmpR (op_eqU hu64) (pv 2) pe_int (nomark _))
 (pss_one (ps_ret (pe_slice sl_list (pv 1) (po_some (pv 3)) po_none)))
 pss_nil)
 (pss_one (ps_ret (pe_lc (own := [("_law_one", 4)]) rfl sc__law_some.nd (pi_list (pv 1)) (blkOk_by (own := [("_law_one", 4)]) (N := ["_law_well_here", "_law_due", "_law_kind", "_law_spot", "_law_one"]) (sc := defScope s__law_some) (by decide +kernel)) (fun _ _ _ _ _ => pg_via (g := (gName 4)) (pg_name (i := 4) sc__law_some.nd rfl (Or.inl rfl)) (by (try dsimp only [Cx.blk, Cx.nox, Cx.tr]) <;> exact rfl)) (fun _ _ _ _ _ => pts_via (pts_one (pt_cmpR op_gt (pe_c C__law_draw hr (by first | decide | omega) (pa_cons (pv 0) (pa_cons pe_int pa_nil))) pe_int (nomark _))) (by (try dsimp only [Cx.blk, Cx.nox, Cx.tr]) <;> exact rfl)) (fun _ _ _ _ _ => pe_via (pv 4) (by (try dsimp only [Cx.blk, Cx.nox, Cx.tr]) <;> exact rfl))))))))))), fun μ ds post exc hl hP => ?_⟩
  obtain ⟨a, c, L, rfl, W0, hc, hL, hp⟩ := hP
  have hLl : (strsD L).length = L.length := List.length_map ..
  have S := well_src a
  walk_at "d0"
  walk_at "dx"
  refine ⟨a, c, 6, rfl, W0, by omega, by decide, by decide, fun μ1 k hk0 hk1 W1 B1 => ?_⟩
  walk_at "dx"
  refine ⟨a, _, _, rfl, W1, by omega, by omega, small_lt (by omega) (by omega), fun μ2 t ht0 ht1 W2 B2 => ?_⟩
  obtain ⟨t, rfl⟩ := Int.eq_ofNat_of_zero_le ht0
  have K2 := (keep_of B1).trans (keep_of B2)
  have fin : ∀ L', L'.Sublist L → post μ2 (.lst (strsD L')) := fun L' hs => hp _ _ hs (W2.mono (by omega)) K2
  walk_at "dx"
  refine ifD (fun h0 => ?_) (fun h0 => ?_)
  · walk_at "dx"
    refine evx_lst ?_
    walk_at "dx"
    exact fin [] (List.nil_sublist _)
  walk_at "dx"
  refine ifD (fun h0 => ?_) (fun h0 => ?_)
  · walk_at "dx"
    refine cax_listL isL_lst ?_
    exact fin L (List.Sublist.refl _)
  walk_at "dx"
  refine ifD (fun h0 => ?_) (fun h0 => ?_)
  · walk_at "dx"
    refine slx_L isL_lst ?_
    unfold strsD
    rw [cut_to]
    exact fin _ (List.take_sublist _ _)
  walk_at "dx"
  refine ifD (fun h0 => ?_) (fun h0 => ?_)
  · walk_at "dx"
    refine slx_L isL_lst ?_
    walk_at "dx"
    refine slx_L isL_lst ?_
    unfold strsD
    rw [cut_to, show ((t : Int) + 1) = ((t + 1 : Nat) : Int) by omega, cut_from]
    have hle1 : (L.take t).length ≤ L.length := List.length_take_le' ..
    refine opx_r (opx_r (opx_l (opx_cat real_lst real_lst (by rw [List.length_map, List.length_map, List.length_drop]; omega) ?_)))
    have hs : (L.take t ++ L.drop (t + 1)).Sublist L := by
      conv => rhs; rw [← List.take_append_drop t L]
      exact (List.Sublist.refl _).append (List.drop_sublist_drop_left _ (by omega))
    have := fin _ hs
    unfold strsD at this
    rw [List.map_append] at this
    exact this
  walk_at "dx"
  refine ifD (fun h0 => ?_) (fun h0 => ?_)
  · walk_at "dx"
    refine slx_L isL_lst ?_
    unfold strsD
    rw [cut_from]
    exact fin _ (List.drop_sublist _ _)
  walk_at "dx"
  refine evx_lcSk (Well a) S (itx_list ?_)
  walk_at "dx"
  refine ⟨_, _, isL_lst, ⟨by omega, fun _ => True.intro⟩, _, 1, fun i acc => ∃ L', acc = strsD L' ∧ L'.Sublist (L.take i), W2, ⟨[], rfl, List.nil_sublist _⟩, ?_, ?_⟩
  · rintro i d μ' acc hd ha ⟨L', rfl, hs⟩ W3 K3
    obtain ⟨w, hw, rfl⟩ := map_at (f := fun w => D.str (txt w)) hd
    have hi : i < L.length := (List.getElem?_eq_some_iff.mp hw).1
    refine tcx_name (by decide) ?_
    walk_at "dx"
    refine ⟨a, _, 3, rfl, W3, by omega, by decide, by decide, fun μ4 y hy0 hy1 W4 B4 => ?_⟩
    walk_at "dx"
    refine ifD (fun hy => ?_) (fun hy => ?_)
    · refine ⟨keep_of B4, ?_⟩
      walk_at "dx"
      refine ⟨keep_of B4, W4.mono (by omega), L' ++ [w], ?_, ?_⟩
      · unfold strsD; rw [List.map_append]; rfl
      · rw [take_snc hw]; exact hs.append (List.Sublist.refl _)
    · refine ⟨keep_of B4, W4.mono (by omega), L', rfl, ?_⟩
      rw [take_snc hw]
      exact hs.trans (List.sublist_append_left _ _)
  rintro μ' acc ha ⟨L', rfl, hs⟩ W3 K3
  rw [hLl] at hs W3
  rw [List.take_length] at hs
  exact hp _ _ hs (W3.mono (by omega)) (K2.trans K3)
end
theorem perm_eraseA {α : Type} : ∀ {cs : List α} {k : Nat} (hk : k < cs.length), (cs[k] :: cs.eraseIdx k).Perm cs
  | c :: cs, 0, _ => List.Perm.refl _
  | c :: cs, k + 1, hk => by
    have ih := perm_eraseA (cs := cs) (k := k) (by rw [List.length_cons] at hk; omega)
    exact (List.Perm.swap _ _ _).trans (List.Perm.cons c ih)
section
variable {P : Program} {w : World} {K : PySem.W.Frag} {mg : Str → Option Value} {base : Heap}
theorem c_longer (h : Std K mg "_law_longer" s__law_longer) (n_range : mg "range" = none) (n_len : mg "len" = none) (C__law_draw : Cal P w K mg base CX0 1 "_law_draw" s__law_draw ["_law_well_here", "_law_many"] (spD K 2 P_wdraw)) : Cal P w K mg base CX0 2 "_law_longer" s__law_longer ["_law_well_here", "_law_letters_here", "_law_most"] (spD K 3 P_longer) := by
  refine cal0 h sc__law_longer (fun _ _ _ _ _ _ us hl => match us, hl with | [_, _, _], _ => rfl) fun f cdv A outer s H E hr => ⟨_,
    have hu64 := hr.units; (pss_cons (ps_set (i := 3) sc__law_longer.nd rfl (Or.inl rfl) (pe_lst pa_nil))
 (pss_cons (ps_for PassesOwn.never rfl (pi_range1 rfl n_range (pa_cons (pe_c C__law_draw hr (by first | decide | omega) (pa_cons (pv 0) (pa_cons pe_int pa_nil))) pa_nil)) (pg_name (i := 4) sc__law_longer.nd rfl (Or.inl rfl))
 (pss_one (ps_expr (pe_bm PySem.F.plainAttrs_list PySem.F.slot_list_append PySem.F.type_list_append mt_append (pv 3) (pa_cons (pe_join pe_str (pe_lc (own := [("_law_j", 5)]) rfl sc__law_longer.nd (pi_range1 rfl n_range (pa_cons (pe_op op_addU (pe_op op_mulU pe_int (pv 2)) (pv 4)) pa_nil)) (blkOk_by (own := [("_law_j", 5)]) (N := ["_law_well_here", "_law_letters_here", "_law_most", "_law_found", "_law_turn", "_law_j"]) (sc := defScope s__law_longer) (by decide +kernel)) (fun _ _ _ _ _ => pg_via (g := (gName 5)) (pg_name (i := 5) sc__law_longer.nd rfl (Or.inl rfl)) (by (try dsimp only [Cx.blk, Cx.nox, Cx.tr]) <;> exact rfl)) (fun _ _ _ _ _ => pts_via pts_nil (by (try dsimp only [Cx.blk, Cx.nox, Cx.tr]) <;> exact rfl)) (fun _ _ _ _ _ => pe_via (pe_ix ix_seq (pv 1) (pe_c C__law_draw hr (by first | decide | omega) (pa_cons (pv 0) (pa_cons (pe_callB call_len (by rfl) n_len (by decide +kernel) (pa_cons (pv 1) pa_nil)) pa_nil))) (fun _ _ => rfl)) (by (try dsimp only [Cx.blk, Cx.nox, Cx.tr]) <;> exact rfl)))) pa_nil)))))
 (pss_one (ps_ret (pv 3))))), fun μ ds post exc hl hP => ?_⟩
  obtain ⟨a, c, cs, n, rfl, W0, hc, hn, h1, h3, hp⟩ := hP
  have S := well_src a
  have zl : (txt cs).cps.toList = cs := txt_cps cs
  have zl2 := txt_len cs
  have c1 : CMulB 2 (n : Int) := ⟨64, 64, by decide, by omega, by decide⟩
  walk_at "d0"
  walk_at "dx"
  refine evx_lstM ?_
  walk_at "dx"
  intro q hq0
  have hqa := (S.na W0 hq0).1
  have W1 := S.put (o := .lst []) W0 hqa hqa
  have K1 : Keep a a μ (mput μ q (.lst [])) := Keep.put hq0
  have e1 : mput μ q (.lst []) q = some (.lst []) := mput_same
  generalize mput μ q (.lst []) = μ1 at W1 K1 e1 ⊢
  walk_at "dx"
  refine gs_for (itx_range1 ?_)
  walk_at "dx"
  refine ⟨a, _, 3, rfl, W1, by omega, by decide, by decide, fun μ2 k hk0 hk1 W2 B2 => ?_⟩
  have e2 := (B2 q hqa).trans e1
  have K2 := K1.trans (keep_of B2)
  walk_at "dx"
  refine ⟨⟨by omega, by omega⟩, ?_⟩
  refine ⟨fun i μ' ρ' => ∃ (L' : List (List Nat)) (u4 u5 : Option D), ρ' = [some (.at a), some (.str (txt cs)), some (.int n), some (.at q), u4, u5] ∧ μ' q = some (.lst (strsD L')) ∧ Well a (c + 1 + 300 * i) μ' ∧ Keep a a μ μ' ∧ L'.length = i ∧
      L'.Pairwise (fun a b => a.length < b.length) ∧ (∀ w ∈ L', 2 * n ≤ w.length ∧ w.length < 2 * n + i ∧ ∀ c ∈ w, c ∈ cs),
    ⟨[], _, _, rfl, e2, W2.mono (by omega), K2, rfl, List.Pairwise.nil, fun _ h => nomatch h⟩, fun _ _ _ _ _ => True.intro, ?_, ?_⟩
  · rintro i d μ3 ρ3 hd ⟨L', u4, u5, rfl, r1, W3, K3, r2, r3, r4⟩
    obtain ⟨hi, rfl⟩ := rangeD_get hd
    have hi3 : i < 3 := by omega
    walk_at "dx"
    refine evx_app ?_
    walk_at "dx"
    refine ⟨q, _, rfl, r1, ?_⟩
    refine evx_join ?_
    walk_at "dx"
    refine evx_lcSk (Well a) S (itx_range1 ?_)
    walk_at "dx"
    refine ⟨⟨by omega, by omega⟩, ⟨by rw [rangeD_len]; omega, fun _ => True.intro⟩, ?_⟩
    refine ⟨_, 1, fun i acc => ∃ ws : List Nat, acc = (ws.map sg).map D.str ∧ ws.length = i ∧ ∀ x ∈ ws, x ∈ cs, W3, ⟨[], rfl, rfl, fun _ h => nomatch h⟩, ?_, ?_⟩
    · rintro j d μ' acc hd2 ha ⟨ws, rfl, s1, s2⟩ W4 K4
      obtain ⟨hj, rfl⟩ := rangeD_get hd2
      refine tcx_name (by decide) ?_
      refine evb_yes ?_
      rw [if_pos rfl]
      refine ⟨Keep.refl _ _ _, ?_⟩
      walk_at "dx"
      refine cax_len (n := (txt cs).length) ⟨by omega, rfl⟩ ?_
      walk_at "dx"
      refine ⟨a, _, _, rfl, W4, by omega, by omega, small_lt (by omega) (by omega), fun μ8 y hy0 hy1 W8 B8 => ?_⟩
      obtain ⟨ch, hch, hat2⟩ := pick_anyB (ds := (txt cs).cps.toList) hy0 (by rw [zl, ← zl2]; exact hy1)
      refine opx_ixS (by omega) hat2 ?_
      rw [zl] at hch
      exact ⟨keep_of B8, W8.mono (by omega), ws ++ [ch], by rw [List.map_append, List.map_append]; rfl, by rw [List.length_append, s1]; rfl, mem_snc s2 hch⟩
    rintro μ4 acc hl ⟨ws, rfl, s1, s2⟩ W4 K4
    rw [rangeD_len] at s1 W4
    refine ⟨_, _, isL_lst, ?_, ?_⟩
    · rw [sum_len1]
      show ws.length + (ws.map sg).length * 0 ≤ _
      omega
    rw [join_txt]
    have e4 := K4 q _ hqa hqa r1
    refine ⟨_, e4, by unfold strsD; rw [List.length_map]; omega, L' ++ [ws], _, _, rfl, ?_, S.put (S.mono W4 (by omega)) hqa hqa, ?_, by rw [List.length_append, r2]; rfl, ?_, ?_⟩
    · rw [mput_same]; unfold strsD; rw [List.map_append]; rfl
    · exact fun b o h1 h2 e => by
        by_cases hb : b = q
        · rw [hb, hq0] at e; cases e
        · rw [mput_ne hb]; exact (K3.trans K4) b o h1 h2 e
    · rw [List.pairwise_append]
      refine ⟨r3, List.pairwise_singleton _ _, fun x hx y hy => ?_⟩
      rw [List.mem_singleton.mp hy]
      have := (r4 x hx).2.1
      omega
    · intro x hx
      rcases List.mem_append.mp hx with hx | hx
      · obtain ⟨t1, t2, t3⟩ := r4 x hx
        exact ⟨t1, by omega, t3⟩
      · rw [List.mem_singleton.mp hx]
        exact ⟨by omega, by omega, s2⟩
  rintro μ3 ρ3 ⟨L', u4, u5, rfl, r1, W3, K3, r2, r3, r4⟩
  rw [rangeD_len] at r2 W3 r4
  refine gs_freeze (p := q) (i := 3) r1 rfl rfl ?_
  walk_at "dx"
  refine hp _ L' r3 (fun w hw => ?_) (by omega) (S.mono (S.cut W3 hqa hqa) (by omega)) fun b o h1 h2 e => ?_
  · obtain ⟨t1, t2, t3⟩ := r4 w hw
    exact ⟨t1, by omega, t3⟩
  · have : b ≠ q := fun z => by rw [z, hq0] at e; cases e
    rw [mcut_ne this]
    exact K3 b o h1 h2 e
theorem c_order (h : Std K mg "_law_order" s__law_order) (n_range : mg "range" = none) (n_len : mg "len" = none) (n_list : mg "list" = none) (C__law_draw : Cal P w K mg base CX0 1 "_law_draw" s__law_draw ["_law_well_here", "_law_many"] (spD K 2 P_wdraw)) : Cal P w K mg base CX0 2 "_law_order" s__law_order ["_law_well_here", "_law_rows"] (spD K 2 P_order) := by
  refine cal0 h sc__law_order (fun _ _ _ _ _ _ us hl => match us, hl with | [_, _], _ => rfl) fun f cdv A outer s H E hr => ⟨_,
    have hu64 := hr.units; (pss_cons (ps_par (i := 2) (j := 3) rfl sc__law_order.nd rfl rfl (by decide) rfl rfl (pa_cons (pe_c C__law_draw hr (by first | decide | omega) (pa_cons (pv 0) (pa_cons pe_int pa_nil))) (pa_cons (pe_callTy call_list_of (by rfl) n_list (by decide +kernel) (pa_cons (pv 1) pa_nil)) pa_nil)) (by rfl))
 (pss_cons (ps_if (pt_cmpR (op_eqU hu64) (pv 2) pe_int (nomark _))
 (pss_one (ps_ret (pe_revL (pv 3))))
 pss_nil)
 (pss_cons (ps_if (pt_cmpR (op_eqU hu64) (pv 2) pe_int (nomark _))
 (pss_one (ps_ret (pe_op op_addU (pe_stepL (by decide) (pv 3) (po_some pe_int) po_none) (pe_stepL (by decide) (pv 3) po_none po_none))))
 pss_nil)
 (pss_cons (ps_if (pt_cmpR (op_eqU hu64) (pv 2) pe_int (nomark _))
 (pss_cons (ps_set (i := 4) sc__law_order.nd rfl (Or.inl rfl) (pe_c C__law_draw hr (by first | decide | omega) (pa_cons (pv 0) (pa_cons (pe_op op_addU (pe_callB call_len (by rfl) n_len (by decide +kernel) (pa_cons (pv 3) pa_nil)) pe_int) pa_nil))))
 (pss_one (ps_ret (pe_op op_addU (pe_slice sl_list (pv 3) (po_some (pv 4)) po_none) (pe_slice sl_list (pv 3) po_none (po_some (pv 4)))))))
 pss_nil)
 (pss_cons (ps_set (i := 5) sc__law_order.nd rfl (Or.inl rfl) (pe_lst pa_nil))
 (pss_cons (ps_for PassesOwn.never rfl (pi_range1 rfl n_range (pa_cons (pe_callB call_len (by rfl) n_len (by decide +kernel) (pa_cons (pv 1) pa_nil)) pa_nil)) (pg_name (i := 6) sc__law_order.nd rfl (Or.inl rfl))
 (pss_one (ps_expr (pe_bm PySem.F.plainAttrs_list PySem.F.slot_list_append PySem.F.type_list_append mt_append (pv 5) (pa_cons (pe_bm PySem.F.plainAttrs_list PySem.F.slot_list_pop PySem.F.type_list_pop mt_popAt (pv 3) (pa_cons (pe_c C__law_draw hr (by first | decide | omega) (pa_cons (pv 0) (pa_cons (pe_callB call_len (by rfl) n_len (by decide +kernel) (pa_cons (pv 3) pa_nil)) pa_nil))) pa_nil)) pa_nil)))))
 (pss_one (ps_ret (pv 5))))))))), fun μ ds post exc hl hP => ?_⟩
  obtain ⟨a, c, B, rfl, W0, hc, hB, hp⟩ := hP
  have S := well_src a
  have hBl : (B.map noteD).length = B.length := List.length_map ..
  walk_at "d0"
  walk_at "dx"
  refine ⟨a, c, 4, rfl, W0, by omega, by decide, by decide, fun μ1 k hk0 hk1 W1 B1 => ?_⟩
  walk_at "dx"
  refine cax_listLM isL_lst fun p hp0 => ?_
  walk_at "dx"
  have hpa := (S.na W1 hp0).1
  have W2 := S.put (o := .lst (B.map noteD)) W1 hpa hpa
  have K1 := keep_of B1
  have hpm : μ p = none := by rw [← B1 p hpa]; exact hp0
  have K2 : Keep a a μ (mput μ1 p (.lst (B.map noteD))) := K1.new hpm
  have e2 : mput μ1 p (.lst (B.map noteD)) p = some (.lst (B.map noteD)) := mput_same
  have fin : ∀ A, Ord A B → post (mput μ1 p (.lst (B.map noteD))) (.lst (A.map noteD)) := fun A ho => hp _ _ ho (W2.mono (by omega)) K2
  generalize mput μ1 p (.lst (B.map noteD)) = μ2 at W2 K2 e2 fin ⊢
  refine ifD (fun h0 => ?_) (fun h0 => ?_)
  · walk_at "dx"
    refine evx_revL ?_
    walk_at "dx"
    refine ⟨_, _, isL_at e2, ?_⟩
    rw [← List.map_reverse]
    exact fin _ (ord_perm (List.reverse_perm _))
  walk_at "dx"
  refine ifD (fun h0 => ?_) (fun h0 => ?_)
  · walk_at "dx"
    refine evx_stepL ?_
    walk_at "dx"
    refine ⟨_, _, isL_at e2, ?_⟩
    walk_at "dx"
    refine evx_stepL ?_
    walk_at "dx"
    refine ⟨_, _, isL_at e2, ?_⟩
    rw [stepD_map, stepD_map]
    have ho := ord_step B
    have hol := ho.l
    rw [List.length_append] at hol
    refine opx_r (opx_r (opx_l (opx_cat real_lst real_lst (by rw [List.length_map, List.length_map]; omega) ?_)))
    have := fin _ ho
    rw [List.map_append] at this
    exact this
  walk_at "dx"
  refine ifD (fun h0 => ?_) (fun h0 => ?_)
  · walk_at "dx"
    refine cax_len (n := B.length) ⟨_, e2, by rw [List.length_map]⟩ ?_
    walk_at "dx"
    refine ⟨a, _, _, rfl, W2, by omega, by omega, small_lt (by omega) (by omega), fun μ3 t ht0 ht1 W3 B3 => ?_⟩
    obtain ⟨t, rfl⟩ := Int.eq_ofNat_of_zero_le ht0
    have e3 := (B3 p hpa).trans e2
    walk_at "dx"
    refine slx_L (isL_at e3) ?_
    walk_at "dx"
    refine slx_L (isL_at e3) ?_
    rw [cut_to, cut_from]
    have hle1 : (B.take t).length ≤ B.length := List.length_take_le' ..
    refine opx_r (opx_r (opx_l (opx_cat real_lst real_lst (by rw [List.length_map, List.length_map, List.length_drop]; omega) ?_)))
    rw [← List.map_append]
    exact hp _ _ (ord_turn B t) (W3.mono (by omega)) (K2.trans (keep_of B3))
  walk_at "dx"
  refine evx_lstM ?_
  walk_at "dx"
  intro q hq0
  have hqa := (S.na W2 hq0).1
  have hqp : q ≠ p := fun z => by rw [z, e2] at hq0; exact nomatch hq0
  have hqm : μ q = none := by
    cases hm : μ q with
    | none => rfl
    | some o => rw [K2 q o hqa hqa hm] at hq0; exact nomatch hq0
  have W3 := S.put (o := .lst []) W2 hqa hqa
  have K3 := K2.new (o := .lst []) hqm
  have e3 : mput μ2 q (.lst []) p = some (.lst (B.map noteD)) := by rw [mput_ne (Ne.symm hqp)]; exact e2
  have e4 : mput μ2 q (.lst []) q = some (.lst []) := mput_same
  generalize mput μ2 q (.lst []) = μ3 at W3 K3 e3 e4 ⊢
  walk_at "dx"
  refine gs_for (itx_range1 ?_)
  walk_at "dx"
  refine ⟨⟨by omega, by omega⟩, ?_⟩
  refine ⟨fun i μ' ρ' => ∃ (C D' : List Note) (u3 u4 u6 : Option D), ρ' = [some (.at a), some (.lst (B.map noteD)), u3, some (.at p), u4, some (.at q), u6] ∧ Well a (c + 1 + i) μ' ∧ Keep a a μ μ' ∧ (D' ++ C).Perm B ∧ C.length = i ∧ μ' p = some (.lst (D'.map noteD)) ∧ μ' q = some (.lst (C.map noteD)),
    ⟨[], B, _, _, _, rfl, W3.mono (by omega), K3, by rw [List.append_nil], rfl, e3, e4⟩, fun _ _ _ _ _ => True.intro, ?_, ?_⟩
  · rintro i d μ4 ρ4 hd ⟨C, D', u3, u4, u6, rfl, W4, K4, r1, r2, r3, r4⟩
    obtain ⟨hi, rfl⟩ := rangeD_get hd
    have hin : i < B.length := by omega
    have hlen : D'.length + C.length = B.length := by rw [← List.length_append, r1.length_eq]
    walk_at "dx"
    refine evx_app ?_
    walk_at "dx"
    refine ⟨q, _, rfl, r4, ?_⟩
    refine evx_popAt ?_
    walk_at "dx"
    refine ⟨p, _, rfl, r3, ?_⟩
    walk_at "dx"
    refine cax_len (n := D'.length) ⟨_, r3, by rw [List.length_map]⟩ ?_
    walk_at "dx"
    refine ⟨a, _, _, rfl, W4, by omega, by omega, small_lt (by omega) (by omega), fun μ5 j hj0 hj1 W5 B5 => ?_⟩
    have hk : j.toNat < D'.length := by omega
    refine ⟨_, j, j.toNat, noteD D'[j.toNat], rfl, (B5 p hpa).trans r3, ⟨by omega, by omega⟩, seq_nat hj0 (by rw [List.length_map]; exact hj1), by rw [List.getElem?_map, List.getElem?_eq_getElem hk]; rfl, ?_⟩
    refine ⟨_, by rw [mput_ne hqp]; exact (B5 q hqa).trans r4, by rw [List.length_map]; omega, C ++ [D'[j.toNat]], D'.eraseIdx j.toNat, _, _, _, rfl, ?_, ((K4.trans (keep_of B5)).new hpm).new hqm, ?_, by rw [List.length_append, r2]; rfl, ?_, ?_⟩
    · exact S.mono (S.put (S.put W5 hpa hpa) hqa hqa) (by rw [Int.natCast_add]; omega)
    · refine List.Perm.trans ?_ r1
      rw [← List.append_assoc]
      refine List.perm_append_comm.trans ?_
      rw [← List.append_assoc]
      refine List.Perm.append_right _ ?_
      exact perm_eraseA hk
    · rw [mput_ne (Ne.symm hqp), mput_same, map_erase]
    · rw [mput_same, List.map_append]; rfl
  rintro μ4 ρ4 ⟨C, D', u3, u4, u6, rfl, W4, K4, r1, r2, r3, r4⟩
  rw [rangeD_len] at r2 W4
  have hlen : D'.length + C.length = B.length := by rw [← List.length_append, r1.length_eq]
  have hD0 : D' = [] := List.eq_nil_of_length_eq_zero (by omega)
  subst hD0
  refine gs_freeze (p := q) (i := 5) r4 rfl rfl ?_
  walk_at "dx"
  refine hp _ C (ord_perm r1) (S.mono (S.cut W4 hqa hqa) (by omega)) fun b o h1 h2 e => ?_
  have : b ≠ q := fun z => by rw [z, hqm] at e; cases e
  rw [mcut_ne this]
  exact K4 b o h1 h2 e
end
theorem eqD_refl {n : Nat} {d : D} (h : Nice n d) : eqD d d = true := PySem.SeqAt.eqv_refl _ h.2.1
theorem lay_txt {w : List Nat} (h : ∀ c ∈ w, c < 1114112) : (PyData.str (txt w)).canLay0 = true := by
  show Array.all w.toArray (fun x => decide (x < 1114112)) = true
  rw [Array.all_eq_true]
  intro i hi
  apply decide_eq_true
  refine h _ ?_
  rw [List.size_toArray] at hi
  rw [List.getElem_toArray]
  exact List.getElem_mem hi
theorem letters_lt {cs : List Nat} (h : okSigns cs) : ∀ c ∈ cs, c < 1114112 := fun c hc => by have := (letters_in c (h.2.1 c hc)).2; omega
theorem nice_strsD {L : List (List Nat)} (h : ∀ w ∈ L, ∀ c ∈ w, c < 1114112) : Nice 1 (.lst (strsD L)) := nice_lst fun d hd => by
  obtain ⟨w, hw, rfl⟩ := List.mem_map.mp hd
  exact nice_str 0 (lay_txt (h w hw))
theorem nice_noteD {n : Note} (h : ∀ c ∈ n.1, c < 1114112) : Nice 2 (noteD n) := nice_tup fun d hd => by
  simp only [List.mem_cons, List.not_mem_nil, or_false] at hd
  rcases hd with rfl | rfl
  · exact nice_str 1 (lay_txt h)
  · exact nice_numQ 0 _
theorem nice_notes {ns : List Note} (h : ∀ n ∈ ns, ∀ c ∈ n.1, c < 1114112) : Nice 3 (.lst (ns.map noteD)) := nice_lst fun d hd => by
  obtain ⟨n, hn, rfl⟩ := List.mem_map.mp hd
  exact nice_noteD (h n hn)
theorem below_lt {cs : List Nat} {n : Nat} (h : okSigns cs) : ∀ w ∈ below cs n, ∀ c ∈ w, c < 1114112 := fun w hw c hc => letters_lt h c ((below_mem hw).2 c hc)
/-- what stands stays -/
def Stay (μ μ' : Mu) : Prop := ∀ b o, μ b = some o → μ' b = some o
def P_listed : PD := fun μ ds post _ => ∃ (a : Addr) (c : Int) (cs : List Nat) (n : Nat), ds = [.at a, .str (txt cs), .int n, .lst (strsD (below cs (2 * n)))] ∧ Well a c μ ∧ c ≤ 900000 ∧ okSigns cs ∧ Few cs (2 * n) ∧
  ∀ μ', Well a (c + 1) μ' → Keep a a μ μ' → post μ' (.bl true)
def P_lnext : PD := fun μ ds post _ => ∃ (cs : List Nat) (n : Nat) (ns : List Note) (b : Bool), ds = [.str (txt cs), .int n, .lst (ns.map noteD), .bl b] ∧ okSigns cs ∧ Few cs (2 * n) ∧ GoodN cs ns ∧
  ∀ μ', Stay μ μ' → post μ' (optD (nextW cs n ns))
theorem seeF_str (μ : Mu) (n : Nat) (z : Str) : seeF μ n (.str z) = .str z := by cases n <;> (unfold seeF; rfl)
theorem seeF_int (μ : Mu) (n : Nat) (z : Int) : seeF μ n (.int z) = .int z := by cases n <;> (unfold seeF; rfl)
theorem seeF_note (μ : Mu) (n : Nat) (x : Note) : seeF μ (n + 2) (noteD x) = noteD x := by
  unfold noteD numQ numD
  rw [show seeF μ (n + 2) (.tup [.str (txt x.1), .tup [.int x.2.num, .int x.2.den]]) = .tup (seeFs μ (n + 1) [.str (txt x.1), .tup [.int x.2.num, .int x.2.den]]) by conv => lhs; unfold seeF, seeFs_map, List.map_cons, List.map_cons, List.map_nil, seeF_str,
    show seeF μ (n + 1) (.tup [.int x.2.num, .int x.2.den]) = .tup (seeFs μ n [.int x.2.num, .int x.2.den]) by conv => lhs; unfold seeF, seeFs_map, List.map_cons, List.map_cons, List.map_nil, seeF_int, seeF_int]
theorem seeF_at {μ : Mu} {p : Addr} {ds : List D} {n : Nat} (h : μ p = some (.lst ds)) : seeF μ (n + 1) (.at p) = .lst (ds.map (seeF μ n)) := by
  unfold seeF
  rw [h]
  show D.lst (seeFs μ n ds) = _
  rw [seeFs_map]
section
variable {P : Program} {w : World} {K : PySem.W.Frag} {mg : Str → Option Value} {base : Heap}
theorem c_listed (h : Std K mg "_law_listed" s__law_listed) (n_isinstance : mg "isinstance" = none) (n_list : mg "list" = none) (n_str : mg "str" = none) (C__law_draw : Cal P w K mg base CX0 1 "_law_draw" s__law_draw ["_law_well_here", "_law_many"] (spD K 2 P_wdraw)) (C_asked : Cal P w K mg base CX0 4 "asked" s_asked ["signs", "size"] (spD K 2 P_asked)) : Cal P w K mg base CX0 5 "_law_listed" s__law_listed ["_law_well_here", "_law_letters_here", "_law_most", "_law_due"] (spD K 4 P_listed) := by
  refine cal0 h sc__law_listed (fun _ _ _ _ _ _ us hl => match us, hl with | [_, _, _, _], _ => rfl) fun f cdv A outer s H E hr => ⟨_,
    have hu64 := hr.units; (pss_cons (ps_set (i := 4) sc__law_listed.nd rfl (Or.inl rfl) (pe_ifExp (pt_cmpR (op_eqU hu64) (pe_c C__law_draw hr (by first | decide | omega) (pa_cons (pv 0) (pa_cons pe_int pa_nil))) pe_int (nomark _)) (pe_c C_asked hr (by first | decide | omega) (pa_cons (pv 1) (pa_cons (pv 2) pa_nil))) (pe_ck (n := 0) (m := 2) (pm := [1, 0]) (ks := ["size", "signs"]) C_asked hr (by decide) (by decide) (fun _ _ _ _ _ _ us ws h1 h2 => match us, ws, h1, h2 with | [], [_, _], _, _ => rfl) (pk_cons (pv 2) (pk_cons (pv 1) pk_nil)))))
 (pss_cons (ps_if (PW.pt (pw_or (pt_not (pt_val (pe_callB call_isU (by rfl) n_isinstance (by decide +kernel) (pa_cons (pv 4) (pa_cons (pe_bltn (v := .ty "list") (by rfl) n_list (by decide +kernel) rfl) pa_nil))))) (pw_or (pt_cmpR (op_neU hu64) (pe_lc (own := [("_law_one", 5)]) rfl sc__law_listed.nd (pi_list (pv 4)) (blkOk_by (own := [("_law_one", 5)]) (N := ["_law_well_here", "_law_letters_here", "_law_most", "_law_due", "_law_made", "_law_one"]) (sc := defScope s__law_listed) (by decide +kernel)) (fun _ _ _ _ _ => pg_via (g := (gName 5)) (pg_name (i := 5) sc__law_listed.nd rfl (Or.inl rfl)) (by (try dsimp only [Cx.blk, Cx.nox, Cx.tr]) <;> exact rfl)) (fun _ _ _ _ _ => pts_via (pts_one (pt_not (pt_val (pe_callB call_isU (by rfl) n_isinstance (by decide +kernel) (pa_cons (pv 5) (pa_cons (pe_bltn (v := .ty "str") (by rfl) n_str (by decide +kernel) rfl) pa_nil)))))) (by (try dsimp only [Cx.blk, Cx.nox, Cx.tr]) <;> exact rfl)) (fun _ _ _ _ _ => pe_via (pv 5) (by (try dsimp only [Cx.blk, Cx.nox, Cx.tr]) <;> exact rfl))) (pe_lst pa_nil) (nomark _)) (pw_or1 (pt_cmpR (op_neU hu64) (pv 4) (pv 3) (nomark _))))))
 (pss_one (ps_ret pe_bl))
 pss_nil)
 (pss_cons (ps_expr (pe_bm0 PySem.F.plainAttrs_list PySem.F.slot_list_reverse PySem.F.type_list_reverse mt_reverse (pv 4)))
 (pss_cons (ps_expr (pe_bm PySem.F.plainAttrs_list PySem.F.slot_list_append PySem.F.type_list_append mt_append (pv 4) (pa_cons pe_str pa_nil)))
 (pss_one (ps_ret (pe_cmpR (op_eqU hu64) (pe_c C_asked hr (by first | decide | omega) (pa_cons (pv 1) (pa_cons (pv 2) pa_nil))) (pv 3) (nomark _)))))))), fun μ ds post exc hl hP => ?_⟩
  obtain ⟨a, c, cs, n, rfl, W0, hc, ho, few, hp⟩ := hP
  have S := well_src a
  have hbl : (below cs (2 * n)).length ≤ 2 * n * 1000 := below_count few.cc
  have hn := few.nn
  have hlt := below_lt (n := 2 * n) ho
  have nice := nice_strsD hlt
  have hnil : 1 ≤ (below cs (2 * n)).length ∨ True := .inr trivial
  walk_at "d0"
  refine gs_seq (gs_asg (evx_mid (fun μ' d => ∃ μ1 p, Well a (c + 1) μ1 ∧ Keep a a μ μ1 ∧ μ1 p = none ∧ μ' = mput μ1 p (.lst (strsD (below cs (2 * n)))) ∧ d = .at p) ?_ ?_))
  · refine evx_if ?_
    walk_at "dx"
    refine ⟨a, c, 2, rfl, W0, by omega, by decide, by decide, fun μ1 k hk0 hk1 W1 B1 => ?_⟩
    walk_at "dx"
    refine ifD (fun _ => ?_) (fun _ => ?_)
    · walk_at "dx"
      exact ⟨cs, n, rfl, ho, few, fun p hp0 => ⟨μ1, p, W1, keep_of B1, hp0, rfl, rfl⟩⟩
    · walk_at "dx"
      exact ⟨cs, n, rfl, ho, few, fun p hp0 => ⟨μ1, p, W1, keep_of B1, hp0, rfl, rfl⟩⟩
  rintro μ2 d ⟨μ1, p, W1, K1, hp0, rfl, rfl⟩
  have hpa := (S.na W1 hp0).1
  have W2 := S.put (o := .lst (strsD (below cs (2 * n)))) W1 hpa hpa
  have hpm : μ p = none := by
    cases hm : μ p with
    | none => rfl
    | some o => rw [K1 p o hpa hpa hm] at hp0; exact nomatch hp0
  have K2 : Keep a a μ (mput μ1 p (.lst (strsD (below cs (2 * n))))) := K1.new hpm
  have e2 : mput μ1 p (.lst (strsD (below cs (2 * n)))) p = some (.lst (strsD (below cs (2 * n)))) := mput_same
  generalize mput μ1 p (.lst (strsD (below cs (2 * n)))) = μ3 at W2 K2 e2 ⊢
  walk_at "dx"
  refine cax_is (T := "list") (by show (match μ3 p with | some (.lst _) => some "list" | some (.dct _ _) => some "dict" | _ => none) = some "list"; rw [e2]) kit_list_list ?_
  walk_at "dz"
  refine evx_lcP (itx_list ?_)
  walk_at "dx"
  refine ⟨_, _, isL_at e2, ⟨by unfold strsD; rw [List.length_map]; omega, fun m hm => hm _ _ e2⟩, fun _ => false, id, ?_, ?_⟩
  · intro d hd μ4 hμ
    obtain ⟨w, hw, rfl⟩ := List.mem_map.mp hd
    refine tcx_name (by decide) ?_
    walk_at "dx"
    exact fun h => nomatch h
  rw [List.filter_eq_nil_iff.mpr (fun _ _ => by decide), List.map_nil]
  walk_at "dx"
  refine evx_lst ?_
  walk_at "dx"
  refine opx_neNil (ds := []) real_lst (fun _ h => nomatch h) ?_
  walk_at "dz"
  refine opx_neN (by rw [see_at e2]; exact nice.mono (by decide)) (nice.mono (by decide)) ?_
  rw [see_at e2, show eqD (.lst (strsD (below cs (2 * n)))) (seeD μ3 (.lst (strsD (below cs (2 * n))))) = true from eqD_refl nice]
  walk_at "dz"
  refine evx_rev ?_
  walk_at "dx"
  refine ⟨p, _, rfl, e2, ?_⟩
  walk_at "dx"
  refine evx_app ?_
  walk_at "dx"
  refine ⟨p, _, rfl, mput_same, ?_⟩
  walk_at "dx"
  refine ⟨_, mput_same, by rw [List.length_reverse]; unfold strsD; rw [List.length_map]; omega, ?_⟩
  have W4 := S.put (o := .lst ((strsD (below cs (2 * n))).reverse ++ [.str (Str.ofString "zz")])) (S.put (o := .lst (strsD (below cs (2 * n))).reverse) W2 hpa hpa) hpa hpa
  have K4 := (K2.new (o := .lst (strsD (below cs (2 * n))).reverse) hpm).new (o := .lst ((strsD (below cs (2 * n))).reverse ++ [.str (Str.ofString "zz")])) hpm
  generalize mput (mput μ3 p (.lst (strsD (below cs (2 * n))).reverse)) p (.lst ((strsD (below cs (2 * n))).reverse ++ [.str (Str.ofString "zz")])) = μ5 at W4 K4 ⊢
  walk_at "dx"
  refine ⟨cs, n, rfl, ho, few, fun q hq0 => ?_⟩
  walk_at "dx"
  have hqa := (S.na W4 hq0).1
  have hqm : μ q = none := by
    cases hm : μ q with
    | none => rfl
    | some o => rw [K4 q o hqa hqa hm] at hq0; exact nomatch hq0
  refine opx_eqN (by rw [see_at mput_same]; exact nice.mono (by decide)) (nice.mono (by decide)) ?_
  rw [see_at mput_same, show eqD (.lst (strsD (below cs (2 * n)))) (seeD (mput μ5 q (.lst (strsD (below cs (2 * n))))) (.lst (strsD (below cs (2 * n))))) = true from eqD_refl nice]
  exact hp _ (S.put W4 hqa hqa) (K4.new hqm)
theorem c_lnext (h : Std K mg "_law_next" s__law_next) (n_list : mg "list" = none) (C_next_message : Cal P w K mg base CX0 5 "next_message" s_next_message ["signs", "size", "answers"] (spD K 3 P_next)) : Cal P w K mg base CX0 6 "_law_next" s__law_next ["_law_letters_here", "_law_most", "_law_notes", "_law_by_name"] (spD K 4 P_lnext) := by
  refine cal0 h sc__law_next (fun _ _ _ _ _ _ us hl => match us, hl with | [_, _, _, _], _ => rfl) fun f cdv A outer s H E hr => ⟨_,
    have hu64 := hr.units; (pss_cons (ps_set (i := 4) sc__law_next.nd rfl (Or.inl rfl) (pe_callTy call_list_of (by rfl) n_list (by decide +kernel) (pa_cons (pv 2) pa_nil)))
 (pss_cons (ps_if (pt_val (pv 3))
 (pss_one (ps_set (i := 5) sc__law_next.nd rfl (Or.inl rfl) (pe_ck (n := 0) (m := 3) (pm := [1, 2, 0]) (ks := ["answers", "signs", "size"]) C_next_message hr (by decide) (by decide) (fun _ _ _ _ _ _ us ws h1 h2 => match us, ws, h1, h2 with | [], [_, _, _], _, _ => rfl) (pk_cons (pv 4) (pk_cons (pv 0) (pk_cons (pv 1) pk_nil))))))
 (pss_one (ps_set (i := 5) sc__law_next.nd rfl (Or.inl rfl) (pe_c C_next_message hr (by first | decide | omega) (pa_cons (pv 0) (pa_cons (pv 1) (pa_cons (pv 4) pa_nil)))))))
 (pss_cons (ps_set (i := 6) sc__law_next.nd rfl (Or.inl rfl) (pe_cmpR (op_eqU hu64) (pv 4) (pv 2) (nomark _)))
 (pss_cons (ps_expr (pe_bm0 PySem.F.plainAttrs_list PySem.F.slot_list_clear PySem.F.type_list_clear mt_clear (pv 4)))
 (pss_one (ps_ret (pe_ifExp (pt_val (pv 6)) (pv 5) pe_str))))))), fun μ ds post exc hl hP => ?_⟩
  obtain ⟨cs, n, ns, b, rfl, ho, few, gd, hp⟩ := hP
  have hlt : ∀ n ∈ ns, ∀ c ∈ n.1, c < 1114112 := fun x hx c hc => letters_lt ho c (gd.s x hx c hc)
  have nice := nice_notes hlt
  have hsc : scal (optD (nextW cs n ns)) = true := by cases nextW cs n ns <;> rfl
  walk_at "d0"
  walk_at "dx"
  refine cax_listLM isL_lst fun p hp0 => ?_
  have e1 : mput μ p (.lst (ns.map noteD)) p = some (.lst (ns.map noteD)) := mput_same
  have St : Stay μ (mput μ p (.lst (ns.map noteD))) := fun b o e => by
    have : b ≠ p := fun z => by rw [z, hp0] at e; cases e
    rw [mput_ne this]; exact e
  generalize mput μ p (.lst (ns.map noteD)) = μ1 at e1 St ⊢
  have esee : [D.str (txt cs), .int n, .at p].map (seeF μ1 4) = [.str (txt cs), .int n, .lst (ns.map noteD)] := by
    rw [List.map_cons, List.map_cons, List.map_cons, List.map_nil, seeF_str, seeF_int, seeF_at e1, List.map_map]
    congr 3
    have : ns.map (seeF μ1 3 ∘ noteD) = ns.map noteD := List.map_congr_left fun x _ => seeF_note μ1 1 x
    rw [this]
  walk_at "dn"
  refine gs_at (fun μ' ρ' => μ' = μ1 ∧ ρ' = [some (.str (txt cs)), some (.int n), some (.lst (ns.map noteD)), some (.bl b), some (.at p), some (optD (nextW cs n ns)), none]) ?_ ?_
  · walk_at "dx"
    refine ifB (fun _ => ?_) (fun _ => ?_)
    · refine gs_asg (evx_ckZ 4 ?_)
      walk_at "dx"
      rw [show permG 0 3 [1, 2, 0] [] [D.at p, .str (txt cs), .int n] = [D.str (txt cs), .int n, .at p] from rfl, esee]
      refine ⟨cs, n, ns, rfl, ho, few, gd, fun μ' => ⟨hsc, ?_⟩⟩
      refine tgx_name ⟨rfl, rfl⟩
    · refine gs_asg (evx_callZ 4 ?_)
      walk_at "dx"
      rw [esee]
      refine ⟨cs, n, ns, rfl, ho, few, gd, fun μ' => ⟨hsc, ?_⟩⟩
      refine tgx_name ⟨rfl, rfl⟩
  rintro μ2 ρ2 ⟨rfl, rfl⟩
  walk_at "dx"
  refine opx_eqN (by rw [see_at e1]; exact nice.mono (by decide)) (nice.mono (by decide)) ?_
  rw [see_at e1, show eqD (.lst (ns.map noteD)) (seeD μ2 (.lst (ns.map noteD))) = true from eqD_refl nice]
  walk_at "dx"
  refine evx_clear ?_
  walk_at "dx"
  refine ⟨p, _, rfl, e1, ?_⟩
  walk_at "dz"
  refine hp _ fun b o e => ?_
  have : b ≠ p := fun z => by rw [z, hp0] at e; cases e
  rw [mput_ne this]; exact St b o e
end
theorem longer_nd {cs : List Nat} (hc : cs.Nodup) {L : List (List Nat)} (h : L.Nodup) : (longer cs L).Nodup := by
  unfold longer
  refine List.pairwise_flatMap.mpr ⟨fun w _ => List.Pairwise.map _ (fun a b hab e => hab (by simpa using List.append_cancel_left e)) hc, h.imp fun {a b} hab x hx y hy e => ?_⟩
  obtain ⟨c, _, rfl⟩ := List.mem_map.mp hx
  obtain ⟨c', _, rfl⟩ := List.mem_map.mp hy
  exact hab (List.append_inj_left' e rfl)
theorem msgs_nd {cs : List Nat} (hc : cs.Nodup) : ∀ n, (msgs cs n).Nodup
  | 0 => List.pairwise_singleton _ _
  | n + 1 => longer_nd hc (msgs_nd hc n)
theorem below_nd {cs : List Nat} (hc : cs.Nodup) : ∀ n, (below cs n).Nodup
  | 0 => List.Pairwise.nil
  | n + 1 => by
    rw [below_succ, List.nodup_append]
    refine ⟨below_nd hc n, msgs_nd hc n, fun a ha b hb e => ?_⟩
    have h1 := (below_mem ha).1
    have h2 := (msgs_len hb).1
    rw [e] at h1
    omega
theorem signs_nd {cs : List Nat} (h : okSigns cs) : cs.Nodup := h.1.imp fun {a b} z => Nat.ne_of_lt z
theorem GoodN.more {cs : List Nat} {ns : List Note} {w : List Nat} {q : Rat} (g : GoodN cs ns) (hs : ∀ c ∈ w, c ∈ cs) (hn : w ∉ ns.map Prod.fst) (hl : w.length ≤ 1000) (hc : ns.length < 10000) : GoodN cs (ns ++ [(w, q)]) ∧ GoodN cs ([(w, q)] ++ ns) := by
  have key : GoodN cs ([(w, q)] ++ ns) := ⟨fun n hx => by
    rcases List.mem_append.mp hx with hx | hx
    · rw [List.mem_singleton.mp hx]; exact hs
    · exact g.s n hx, by
    rw [List.map_append]
    exact List.nodup_cons.mpr ⟨hn, g.d⟩, fun n hx => by
    rcases List.mem_append.mp hx with hx | hx
    · rw [List.mem_singleton.mp hx]; exact hl
    · exact g.l n hx, by rw [List.length_append]; show 1 + _ ≤ _; omega⟩
  have hp : (ns ++ [(w, q)]).Perm ([(w, q)] ++ ns) := List.perm_append_comm
  exact ⟨⟨fun n hx => key.s n (hp.mem_iff.mp hx), (hp.map _).nodup_iff.mpr key.d, fun n hx => key.l n (hp.mem_iff.mp hx), by rw [hp.length_eq]; exact key.c⟩, key⟩
def P_nexts : PD := fun μ ds post _ => ∃ (a : Addr) (c : Int) (cs : List Nat) (n : Nat) (ns : List Note), ds = [.at a, .str (txt cs), .int n, .lst (strsD (below cs (2 * n))), .lst (ns.map noteD)] ∧ Well a c μ ∧ c ≤ 800000 ∧ okSigns cs ∧ Few cs (2 * n) ∧ GoodN cs ns ∧ ns.length ≤ 9990 ∧
  ∀ μ', post μ' (.bl true)
theorem known_keys (ns : List Note) : (ns.map fun n => D.tup [.str (txt n.1), .bl true]) = ((ns.map keyN).zip (ns.map fun _ => D.bl true)).map fun p => .tup [keyD p.1, p.2] := by
  rw [List.zip_map_left, List.map_map]
  induction ns with
  | nil => rfl
  | cons n ns ih => 
    rw [List.map_cons, ih]; rfl
theorem keys_nd {cs : List Nat} {ns : List Note} (g : GoodN cs ns) : (ns.map keyN).Nodup := by
  have h := g.d
  refine List.Pairwise.map keyN (R := fun a b => a.1 ≠ b.1) (fun a b hab e => hab (txt_inj (Sum.inr.inj (show (Sum.inr (txt a.1) : Key) = Sum.inr (txt b.1) from e)))) ?_
  exact List.pairwise_map.mp h
section
variable {P : Program} {w : World} {K : PySem.W.Frag} {mg : Str → Option Value} {base : Heap}
theorem c_nexts (h : Std K mg "_law_nexts" s__law_nexts) (n_range : mg "range" = none) (n_isinstance : mg "isinstance" = none) (n_dict : mg "dict" = none) (n_str : mg "str" = none) (C__law_draw : Cal P w K mg base CX0 1 "_law_draw" s__law_draw ["_law_well_here", "_law_many"] (spD K 2 P_wdraw)) (C__law_number : Cal P w K mg base CX0 2 "_law_number" s__law_number ["_law_well_here"] (spD K 1 P_lnum)) (C__law_next : Cal P w K mg base CX0 6 "_law_next" s__law_next ["_law_letters_here", "_law_most", "_law_notes", "_law_by_name"] (spD K 4 P_lnext)) : Cal P w K mg base CX0 7 "_law_nexts" s__law_nexts ["_law_well_here", "_law_letters_here", "_law_most", "_law_due", "_law_notes"] (spD K 5 P_nexts) := by
  refine cal0 h sc__law_nexts (fun _ _ _ _ _ _ us hl => match us, hl with | [_, _, _, _, _], _ => rfl) fun f cdv A outer s H E hr => ⟨_,
    have hu64 := hr.units; have hu := hu_of hr; (pss_cons (ps_for PassesOwn.never rfl (pi_range1 rfl n_range (pa_cons pe_int pa_nil)) (pg_name (i := 5) sc__law_nexts.nd rfl (Or.inl rfl))
 (pss_cons (ps_set (i := 6) sc__law_nexts.nd rfl (Or.inr rfl) (pe_callTy (call_dictP rfl) (by rfl) n_dict (by decide +kernel) (pa_cons (pe_lc (own := [("_law_note", 11)]) rfl sc__law_nexts.nd (pi_list (pv 4)) (blkOk_by (own := [("_law_note", 11)]) (N := ["_law_well_here", "_law_letters_here", "_law_most", "_law_due", "_law_notes", "_law_turn", "_law_known", "_law_left", "_law_made", "_law_more", "_law_one", "_law_note"]) (sc := defScope s__law_nexts) (by decide +kernel)) (fun _ _ _ _ _ => pg_via (g := (gName 11)) (pg_name (i := 11) sc__law_nexts.nd rfl (Or.inl rfl)) (by (try dsimp only [Cx.blk, Cx.nox, Cx.tr]) <;> exact rfl)) (fun _ _ _ _ _ => pts_via pts_nil (by (try dsimp only [Cx.blk, Cx.nox, Cx.tr]) <;> exact rfl)) (fun _ _ _ _ _ => pe_via (pe_tup (pa_cons (pe_ix ix_seq (pv 11) pe_int (fun _ _ => rfl)) (pa_cons pe_bl pa_nil))) (by (try dsimp only [Cx.blk, Cx.nox, Cx.tr]) <;> exact rfl))) pa_nil)))
 (pss_cons (ps_setLc (i := 7) (own := [("_law_one", 10)]) rfl sc__law_nexts.nd rfl rfl (sw_true rfl rfl rfl (by decide +kernel)) (pi_list (pv 3)) (blkOk_by (own := [("_law_one", 10)]) (N := ["_law_well_here", "_law_letters_here", "_law_most", "_law_due", "_law_notes", "_law_turn", "_law_known", "_law_left", "_law_made", "_law_more", "_law_one", "_law_note"]) (sc := defScope s__law_nexts) (by decide +kernel)) (fun _ _ _ _ _ => pg_via (g := (gName 10)) (pg_name (i := 10) sc__law_nexts.nd rfl (Or.inl rfl)) (by (try dsimp only [Cx.blk, Cx.nox, Cx.tr]) <;> exact rfl)) (fun _ _ _ _ _ => pts_via (pts_one (pt_cmp (pc_dnotinBk hu (pv 10) (pv 6)))) (by (try dsimp only [Cx.blk, Cx.nox, Cx.tr]) <;> exact rfl)) (fun _ _ _ _ _ => pe_via (pv 10) (by (try dsimp only [Cx.blk, Cx.nox, Cx.tr]) <;> exact rfl)))
 (pss_cons (ps_set (i := 8) sc__law_nexts.nd rfl (Or.inl rfl) (pe_c C__law_next hr (by first | decide | omega) (pa_cons (pv 1) (pa_cons (pv 2) (pa_cons (pv 4) (pa_cons (pe_cmpR (op_eqU hu64) (pe_c C__law_draw hr (by first | decide | omega) (pa_cons (pv 0) (pa_cons pe_int pa_nil))) pe_int (nomark _)) pa_nil))))))
 (pss_cons (ps_if (pt_cmpR (op_eqU hu64) (pv 7) (pe_lst pa_nil) (nomark _))
 (pss_one (ps_ret (pe_cmp (pc_isN (pv 8)) rfl)))
 pss_nil)
 (pss_cons (ps_if (PW.pt (pw_or (pt_not (pt_val (pe_callB call_isU (by rfl) n_isinstance (by decide +kernel) (pa_cons (pv 8) (pa_cons (pe_bltn (v := .ty "str") (by rfl) n_str (by decide +kernel) rfl) pa_nil))))) (pw_or1 (pt_cmpR (op_neU hu64) (pv 8) (pe_ix ix_seq (pv 7) pe_int (fun _ _ => rfl)) (nomark _)))))
 (pss_one (ps_ret pe_bl))
 pss_nil)
 (pss_cons (ps_set (i := 9) sc__law_nexts.nd rfl (Or.inl rfl) (pe_lst (pa_cons (pe_tup (pa_cons (pe_ix ix_seq (pv 7) pe_int (fun _ _ => rfl)) (pa_cons (pe_c C__law_number hr (by first | decide | omega) (pa_cons (pv 0) pa_nil)) pa_nil))) pa_nil)))
 (pss_one (ps_set (i := 4) sc__law_nexts.nd rfl (Or.inl rfl) (pe_ifExp (pt_cmpR (op_eqU hu64) (pe_c C__law_draw hr (by first | decide | omega) (pa_cons (pv 0) (pa_cons pe_int pa_nil))) pe_int (nomark _)) (pe_op op_addU (pv 4) (pv 9)) (pe_op op_addU (pv 9) (pv 4))))))))))))
 (pss_one (ps_ret pe_bl))), fun μ ds post exc hl hP => ?_⟩
  obtain ⟨a, c, cs, n, ns, rfl, W0, hc, ho, few, gd, hnl, hp⟩ := hP
  have S := well_src a
  have hn := few.nn
  have hbl : (below cs (2 * n)).length ≤ 2 * n * 1000 := below_count few.cc
  have hlt := below_lt (n := 2 * n) ho
  walk_at "d0"
  walk_at "dx"
  refine gs_for (itx_range1 ?_)
  walk_at "dx"
  refine ⟨⟨by omega, by omega⟩, ?_⟩
  refine ⟨fun i μ' ρ' => ∃ (ns' : List Note) (u5 u6 u7 u8 u9 u10 u11 : Option D), ρ' = [some (.at a), some (.str (txt cs)), some (.int n), some (.lst (strsD (below cs (2 * n)))), some (.lst (ns'.map noteD)), u5, u6, u7, u8, u9, u10, u11] ∧ Well a (c + 10 * i) μ' ∧ GoodN cs ns' ∧ ns'.length ≤ 9990 + i,
    ⟨ns, _, _, _, _, _, _, _, rfl, W0.mono (by omega), gd, by omega⟩, fun _ _ _ _ _ => True.intro, ?_, ?_⟩
  · rintro i d μ1 ρ1 hd ⟨ns', u5, u6, u7, u8, u9, u10, u11, rfl, W1, gd1, hl1⟩
    obtain ⟨hi, rfl⟩ := rangeD_get hd
    have hi4 : i < 4 := by omega
    have hnx : nextW cs n ns' = ((below cs (2 * n)).filter fun w => !decide (w ∈ ns'.map Prod.fst)).head? := List.head?_filter.symm
    walk_at "dx"
    refine evx_lcP (itx_list ?_)
    walk_at "dx"
    refine ⟨_, _, isL_lst, ⟨by rw [List.length_map]; omega, fun _ _ => True.intro⟩, fun _ => true, fun d => match d with | .tup [x, _] => .tup [x, .bl true] | _ => .non, ?_, ?_⟩
    · intro d hd μ2 hμ
      obtain ⟨x, hx, rfl⟩ := List.mem_map.mp hd
      refine tcx_name (by decide) ?_
      refine evb_yes ⟨rfl, rfl, fun _ => ?_⟩
      unfold noteD
      walk_at "dx"
      try exact rfl
    rw [List.filter_eq_self.mpr (fun _ _ => rfl), List.map_map]
    have ekn : ns'.map ((fun d => match d with | D.tup [x, _] => D.tup [x, .bl true] | _ => .non) ∘ noteD) = ns'.map fun n => D.tup [.str (txt n.1), .bl true] := List.map_congr_left fun x _ => rfl
    rw [ekn, known_keys]
    walk_at "dx"
    refine cax_dictP isL_lst (by rw [List.length_map, List.length_map]) (keys_nd gd1) ?_
    walk_at "dx"
    refine evx_lcP (itx_list ?_)
    walk_at "dx"
    refine ⟨_, _, isL_lst, ⟨by unfold strsD; rw [List.length_map]; omega, fun _ _ => True.intro⟩, fun d => match d with | .str z => !decide ((.inr z : Key) ∈ ns'.map keyN) | _ => false, id, ?_, ?_⟩
    · intro d hd μ2 hμ
      obtain ⟨x, hx, rfl⟩ := List.mem_map.mp hd
      refine tcx_name (by decide) ?_
      refine evb_B (evx_dnotin ?_)
      walk_at "dx"
      refine ⟨_, _, .inr (txt x), .inl rfl, rfl, ?_⟩
      refine ⟨_, rfl, rfl, rfl, fun _ => ?_⟩
      walk_at "dx"
      first | exact rfl | exact ⟨rfl, rfl⟩
    have efl : ((strsD (below cs (2 * n))).filter (fun d => match d with | D.str z => !decide ((.inr z : Key) ∈ ns'.map keyN) | _ => false)).map id = strsD ((below cs (2 * n)).filter fun w => !decide (w ∈ ns'.map Prod.fst)) := by
      unfold strsD
      rw [List.map_id, List.filter_map]
      congr 1
      exact List.filter_congr fun w _ => by
        show (!decide ((.inr (txt w) : Key) ∈ ns'.map keyN)) = _
        rw [decide_eq_decide.mpr keyN_mem]
    rw [efl]
    have hmem : ∀ w ∈ (below cs (2 * n)).filter (fun w => !decide (w ∈ ns'.map Prod.fst)), w ∈ below cs (2 * n) ∧ w ∉ ns'.map Prod.fst := fun w hw => by
      obtain ⟨h1, h2⟩ := List.mem_filter.mp hw
      exact ⟨h1, by simpa using h2⟩
    have hllen : ((below cs (2 * n)).filter (fun w => !decide (w ∈ ns'.map Prod.fst))).length ≤ 200000 := Nat.le_trans (List.length_filter_le _ _) (by omega)
    generalize ((below cs (2 * n)).filter fun w => !decide (w ∈ ns'.map Prod.fst)) = L at hnx hmem hllen
    walk_at "dx"
    refine ⟨a, _, 2, rfl, W1, by omega, by decide, by decide, fun μ2 k hk0 hk1 W2 B2 => ?_⟩
    walk_at "dx"
    refine ⟨cs, n, ns', _, rfl, ho, few, gd1, fun μ3 St3 => ?_⟩
    have W3 : Well a (c + 10 * i + 1) μ3 := by
      obtain ⟨g, m, t, r1, r⟩ := W2
      exact ⟨g, m, t, St3 _ _ r1, r⟩
    rw [hnx]
    have niceL : Nice 1 (.lst (strsD L)) := nice_strsD fun w hw => hlt w (hmem w hw).1
    walk_at "dx"
    refine evx_lst ?_
    walk_at "dx"
    refine opx_r (opx_eqD niceL.1 (niceL.shaped (by decide)) rfl rfl ?_)
    rw [show eqD (seeD μ3 (.lst (strsD L))) (seeD μ3 (.lst [])) = (strsD L).isEmpty from eqD_nil' _]
    walk_at "dx"
    cases L with
    | nil =>
      refine ifY rfl ?_
      walk_at "dx"
      exact hp _
    | cons v L =>
      refine ifNo rfl ?_
      obtain ⟨hv1, hv2⟩ := hmem v (List.mem_cons_self ..)
      obtain ⟨hv3, hv4⟩ := below_mem hv1
      show GS K WN XN μ3 _ _ _
      rw [show optD ((v :: L).head?) = .str (txt v) from rfl]
      have hat : atI (strsD (v :: L)) 0 = some (.str (txt v)) := atI_pos (n := 0) (xs := strsD (v :: L)) rfl
      walk_at "dz"
      rw [decide_eq_true rfl]
      walk_at "dz"
      refine evx_lst ?_
      walk_at "dx"
      refine ⟨a, _, rfl, W3, by omega, fun μ4 q W4 K4 => ?_⟩
      walk_at "dx"
      refine ⟨a, _, 2, rfl, W4, by omega, by decide, by decide, fun μ5 y hy0 hy1 W5 B5 => ?_⟩
      obtain ⟨m1, m2⟩ := gd1.more (q := q) hv4 hv2 (by omega) (by omega)
      walk_at "dx"
      refine ifD (fun _ => ?_) (fun _ => ?_)
      · walk_at "dx"
        refine opx_r (opx_r (opx_l (opx_cat real_lst real_lst (by rw [List.length_map]; show _ + 1 ≤ _; omega) ?_)))
        walk_at "dx"
        exact ⟨ns' ++ [(v, q)], _, _, _, _, _, _, _, by rw [List.map_append]; rfl, W5.mono (by omega), m1, by rw [List.length_append]; show _ + 1 ≤ _; omega⟩
      · walk_at "dx"
        refine opx_r (opx_r (opx_l (opx_cat real_lst real_lst (by rw [List.length_map]; show 1 + _ ≤ _; omega) ?_)))
        walk_at "dx"
        exact ⟨[(v, q)] ++ ns', _, _, _, _, _, _, _, by rw [List.map_append]; rfl, W5.mono (by omega), m2, by rw [List.length_append]; show 1 + _ ≤ _; omega⟩
  rintro μ1 ρ1 ⟨ns', u5, u6, u7, u8, u9, u10, u11, rfl, W1, gd1, hl1⟩
  walk_at "dx"
  exact hp _
end
def P_law : PD := fun μ ds post _ => ∃ ns : List Int, ds = [.frz (ns.map D.int)] ∧ ns.length ≤ 63 ∧ (∀ n ∈ ns, n.natAbs < 2 ^ 1048576) ∧ ∀ μ', post μ' (.bl true)
theorem pow_few {m n : Nat} (h : (m = 1 ∧ n ≤ 16) ∨ (m ≤ 3 ∧ n ≤ 6)) : ∀ k, k ≤ n → m ^ k ≤ 729 := fun k hk => by
  rcases h with ⟨rfl, _⟩ | ⟨h1, h2⟩
  · rw [Nat.one_pow]; decide
  · calc m ^ k ≤ 3 ^ k := Nat.pow_le_pow_left h1 k
      _ ≤ 3 ^ 6 := Nat.pow_le_pow_right (by decide) (by omega)
      _ = 729 := by decide
theorem below_small {cs : List Nat} {n : Nat} (h : (cs.length = 1 ∧ n ≤ 16) ∨ (cs.length ≤ 3 ∧ n ≤ 6)) : (below cs n).length ≤ 4374 := by
  rcases h with ⟨h1, h2⟩ | ⟨h1, h2⟩
  · have := below_count (cs := cs) (m := 1) (n := n) fun k _ => by rw [h1, Nat.one_pow]; exact Nat.le_refl _
    omega
  · have := below_count (cs := cs) (m := 729) (n := n) (pow_few (.inr ⟨h1, h2⟩))
    have h3 : n * 729 ≤ 6 * 729 := Nat.mul_le_mul_right _ h2
    omega
theorem notes_good {cs : List Nat} {n : Nat} {L L2 : List (List Nat)} {A B : List Note} (ho : okSigns cs) (hn : n ≤ 16) (hs : L.Sublist (below cs (2 * n))) (h1 : L2.Pairwise fun a b => a.length < b.length) (h2 : ∀ w ∈ L2, 2 * n ≤ w.length ∧ w.length ≤ 2 * n + 2 ∧ ∀ c ∈ w, c ∈ cs)
    (e : B.map Prod.fst = L ++ L2) (h : Ord A B) (hl : A.length ≤ 10000) : GoodN cs A := by
  have hm : ∀ x ∈ A, (x.1 ∈ below cs (2 * n)) ∨ (x.1 ∈ L2) := fun x hx => by
    have h3 : x.1 ∈ B.map Prod.fst := List.mem_map.mpr ⟨x, h.m x hx, rfl⟩
    rw [e] at h3
    exact (List.mem_append.mp h3).imp (fun z => hs.subset z) id
  refine ⟨fun x hx c hc => ?_, h.d ?_, fun x hx => ?_, hl⟩
  · rcases hm x hx with h3 | h3
    · exact (below_mem h3).2 c hc
    · exact (h2 _ h3).2.2 c hc
  · rw [e, List.nodup_append]
    refine ⟨(below_nd (signs_nd ho) _).sublist hs, h1.imp fun {a b} z e => by rw [e] at z; omega, fun a ha b hb e => ?_⟩
    have t1 := (below_mem (hs.subset ha)).1
    have t2 := (h2 b hb).1
    rw [e] at t1
    omega
  · rcases hm x hx with h3 | h3
    · have := (below_mem h3).1; omega
    · have := (h2 _ h3).2.1; omega
section
variable {P : Program} {w : World} {K : PySem.W.Frag} {mg : Str → Option Value} {base : Heap}
theorem c_law (h : Std K mg "law" s_law) (n_range : mg "range" = none) (n_len : mg "len" = none) (n_max : mg "max" = none) (n_min : mg "min" = none) (C__law_well : Cal P w K mg base CX0 1 "_law_well" s__law_well ["_law_script", "_law_k"] (spD K 2 P_well)) (C__law_draw : Cal P w K mg base CX0 1 "_law_draw" s__law_draw ["_law_well_here", "_law_many"] (spD K 2 P_wdraw)) (C__law_letters : Cal P w K mg base CX0 2 "_law_letters" s__law_letters ["_law_well_here", "_law_many"] (spD K 2 P_wletters)) (C__law_messages : Cal P w K mg base CX0 1 "_law_messages" s__law_messages ["_law_letters_here", "_law_many"] (spD K 2 P_lmsgs))
    (C__law_some : Cal P w K mg base CX0 2 "_law_some" s__law_some ["_law_well_here", "_law_due"] (spD K 2 P_some)) (C__law_longer : Cal P w K mg base CX0 2 "_law_longer" s__law_longer ["_law_well_here", "_law_letters_here", "_law_most"] (spD K 3 P_longer)) (C__law_number : Cal P w K mg base CX0 2 "_law_number" s__law_number ["_law_well_here"] (spD K 1 P_lnum)) (C__law_order : Cal P w K mg base CX0 2 "_law_order" s__law_order ["_law_well_here", "_law_rows"] (spD K 2 P_order)) (C__law_listed : Cal P w K mg base CX0 5 "_law_listed" s__law_listed ["_law_well_here", "_law_letters_here", "_law_most", "_law_due"] (spD K 4 P_listed)) (C__law_nexts : Cal P w K mg base CX0 7 "_law_nexts" s__law_nexts ["_law_well_here", "_law_letters_here", "_law_most", "_law_due", "_law_notes"] (spD K 5 P_nexts)) : Cal P w K mg base CX0 8 "law" s_law ["_law_script"] (spD K 1 P_law) := by
  refine cal0 h sc_law (fun _ _ _ _ _ _ us hl => match us, hl with | [_], _ => rfl) fun f cdv A outer s H E hr => ⟨_,
    have hu64 := hr.units; (pss_cons (ps_for PassesOwn.never rfl (pi_range1 rfl n_range (pa_cons (pe_callB (call_max2 rfl) (by rfl) n_max (by decide +kernel) (pa_cons pe_int (pa_cons (pe_callB (call_min2 rfl) (by rfl) n_min (by decide +kernel) (pa_cons pe_int (pa_cons (pe_callB call_len (by rfl) n_len (by decide +kernel) (pa_cons (pv 0) pa_nil)) pa_nil))) pa_nil))) pa_nil)) (pg_name (i := 1) sc_law.nd rfl (Or.inl rfl))
 (pss_cons (ps_set (i := 2) sc_law.nd rfl (Or.inr rfl) (pe_c C__law_well hr (by first | decide | omega) (pa_cons (pv 0) (pa_cons (pv 1) pa_nil))))
 (pss_cons (ps_set (i := 3) sc_law.nd rfl (Or.inl rfl) (pe_c C__law_letters hr (by first | decide | omega) (pa_cons (pv 2) (pa_cons (pe_op op_addU pe_int (pe_c C__law_draw hr (by first | decide | omega) (pa_cons (pv 2) (pa_cons pe_int pa_nil)))) pa_nil))))
 (pss_cons (ps_set (i := 4) sc_law.nd rfl (Or.inl rfl) (pe_c C__law_draw hr (by first | decide | omega) (pa_cons (pv 2) (pa_cons (pe_ifExp (pt_cmpR (op_eqU hu64) (pe_callB call_len (by rfl) n_len (by decide +kernel) (pa_cons (pv 3) pa_nil)) pe_int (nomark _)) pe_int pe_int) pa_nil))))
 (pss_cons (ps_set (i := 5) sc_law.nd rfl (Or.inl rfl) (pe_c C__law_messages hr (by first | decide | omega) (pa_cons (pv 3) (pa_cons (pe_op op_mulU pe_int (pv 4)) pa_nil))))
 (pss_cons (ps_set (i := 6) sc_law.nd rfl (Or.inl rfl) (pe_op op_addU (pe_c C__law_some hr (by first | decide | omega) (pa_cons (pv 2) (pa_cons (pv 5) pa_nil))) (pe_c C__law_longer hr (by first | decide | omega) (pa_cons (pv 2) (pa_cons (pv 3) (pa_cons (pv 4) pa_nil))))))
 (pss_cons (ps_set (i := 7) sc_law.nd rfl (Or.inl rfl) (pe_c C__law_order hr (by first | decide | omega) (pa_cons (pv 2) (pa_cons (pe_lc (own := [("_law_one", 8)]) rfl sc_law.nd (pi_list (pv 6)) (blkOk_by (own := [("_law_one", 8)]) (N := ["_law_script", "_law_k", "_law_well_here", "_law_letters_here", "_law_most", "_law_due", "_law_picked", "_law_notes", "_law_one"]) (sc := defScope s_law) (by decide +kernel)) (fun _ _ _ _ _ => pg_via (g := (gName 8)) (pg_name (i := 8) sc_law.nd rfl (Or.inl rfl)) (by (try dsimp only [Cx.blk, Cx.nox, Cx.tr]) <;> exact rfl)) (fun _ _ _ _ _ => pts_via pts_nil (by (try dsimp only [Cx.blk, Cx.nox, Cx.tr]) <;> exact rfl)) (fun _ _ _ _ _ => pe_via (pe_tup (pa_cons (pv 8) (pa_cons (pe_c C__law_number hr (by first | decide | omega) (pa_cons (pv 2) pa_nil)) pa_nil))) (by (try dsimp only [Cx.blk, Cx.nox, Cx.tr]) <;> exact rfl))) pa_nil))))
 (pss_one (ps_if (PW.pt (pw_or (pt_not (pt_val (pe_c C__law_listed hr (by first | decide | omega) (pa_cons (pv 2) (pa_cons (pv 3) (pa_cons (pv 4) (pa_cons (pv 5) pa_nil))))))) (pw_or1 (pt_not (pt_val (pe_c C__law_nexts hr (by first | decide | omega) (pa_cons (pv 2) (pa_cons (pv 3) (pa_cons (pv 4) (pa_cons (pv 5) (pa_cons (pv 7) pa_nil)))))))))))
 (pss_one (ps_ret pe_bl))
 pss_nil)))))))))
 (pss_one (ps_ret pe_bl))), fun μ ds post exc hl hP => ?_⟩
  obtain ⟨ns, rfl, hn63, hbits, hp⟩ := hP
  walk_at "d0"
  walk_at "dx"
  refine gs_for (itx_range1 ?_)
  walk_at "dx"
  rw [List.length_map]
  refine ⟨⟨by split <;> split <;> omega, by split <;> split <;> omega⟩, ?_⟩
  have hrl : (if (if (ns.length : Int) < 3 then (ns.length : Int) else 3) > 1 then (if (ns.length : Int) < 3 then (ns.length : Int) else 3) else 1).toNat ≤ 3 := by split <;> split <;> omega
  generalize (if (if (ns.length : Int) < 3 then (ns.length : Int) else 3) > 1 then (if (ns.length : Int) < 3 then (ns.length : Int) else 3) else 1).toNat = N at hrl ⊢
  refine ⟨fun i μ' ρ' => ∃ (u1 u2 u3 u4 u5 u6 u7 : Option D), ρ' = [some (.frz (ns.map D.int)), u1, u2, u3, u4, u5, u6, u7, none], ⟨_, _, _, _, _, _, _, rfl⟩, fun _ _ _ _ _ => True.intro, ?_, ?_⟩
  · rintro i d μ1 ρ1 hd ⟨u1, u2, u3, u4, u5, u6, u7, rfl⟩
    obtain ⟨hi, rfl⟩ := rangeD_get hd
    have z0 : (0 : Int) + (i : Int) = (i : Int) := Int.zero_add _
    rw [z0]
    walk_at "dx"
    refine ⟨ns, i, rfl, hn63, by omega, hbits, fun a μ2 ha0 W2 B2 => ?_⟩
    have S := well_src a
    walk_at "dx"
    refine ⟨a, _, 3, rfl, W2, by omega, by decide, by decide, fun μ3 x hx0 hx1 W3 B3 => ?_⟩
    obtain ⟨x, rfl⟩ := Int.eq_ofNat_of_zero_le hx0
    walk_at "dx"
    rw [show (1 + (x : Int)) = ((1 + x : Nat) : Int) by omega]
    refine ⟨a, _, 1 + x, rfl, W3, by omega, by omega, by omega, fun μ4 cs ho hcl W4 K4 => ?_⟩
    refine tgx_name ?_
    refine gs_seq (gs_asg (evx_call (evl_cons (evx_var rfl (evl_cons (evx_mid (fun μ' d => ∃ m : Nat, d = .int m ∧ μ' = μ4 ∧ ((cs.length = 1 ∧ m = 9) ∨ m = 4)) ?_ ?_))))))
    · refine evx_if ?_
      walk_at "dx"
      refine cax_len (n := (txt cs).length) ⟨by rw [txt_len]; omega, rfl⟩ ?_
      rw [txt_len]
      walk_at "dx"
      refine ifD (fun h1 => ?_) (fun h1 => ?_)
      · walk_at "dx"
        exact .inl ⟨by omega, rfl⟩
      · walk_at "dx"
        exact .inr rfl
    rintro μ' dm ⟨m, rfl, rfl, hm⟩
    walk_at "dx"
    refine ⟨a, _, (m : Int), rfl, W4, by omega, by omega, small_lt (by omega) (by omega), fun μ5 n hn0 hn1 W5 B5 => ?_⟩
    obtain ⟨n, rfl⟩ := Int.eq_ofNat_of_zero_le hn0
    have hcn : (cs.length = 1 ∧ 2 * n ≤ 16) ∨ (cs.length ≤ 3 ∧ 2 * n ≤ 6) := by omega
    have few : Few cs (2 * n) := ⟨by omega, by omega, fun k hk => Nat.le_trans (pow_few hcn k hk) (by decide)⟩
    have hbs := below_small hcn
    have c1 : CMulB 2 (n : Int) := ⟨64, 64, by decide, by omega, by decide⟩
    walk_at "dx"
    refine ⟨cs, 2 * n, rfl, few, ?_⟩
    walk_at "dx"
    refine ⟨a, _, _, rfl, W5, by omega, by omega, fun μ6 L hL W6 K6 => ?_⟩
    have hLl := hL.length_le
    walk_at "dx"
    refine ⟨a, _, cs, n, rfl, W6, by omega, by omega, by omega, by omega, fun μ7 L2 h1 h2 h3 W7 K7 => ?_⟩
    refine opx_r (opx_r (opx_l (opx_cat real_lst real_lst (by unfold strsD; rw [List.length_map, List.length_map]; omega) ?_)))
    rw [strs_app]
    have hLL : (L ++ L2).length ≤ 4377 := by rw [List.length_append]; omega
    walk_at "dx"
    refine evx_lcSk (Well a) S (itx_list ?_)
    walk_at "dx"
    refine ⟨_, _, isL_lst, ⟨by unfold strsD; rw [List.length_map]; omega, fun _ => True.intro⟩, _, 2, fun i acc => ∃ B : List Note, acc = B.map noteD ∧ B.map Prod.fst = (L ++ L2).take i, W7, ⟨[], rfl, rfl⟩, ?_, ?_⟩
    · rintro j d μ' acc hd ha ⟨B, rfl, e⟩ W8 K8
      obtain ⟨v, hv, rfl⟩ := map_at (f := fun w => D.str (txt w)) hd
      have hjl : j < (L ++ L2).length := (List.getElem?_eq_some_iff.mp hv).1
      refine tcx_name (by decide) ?_
      refine evb_yes ?_
      rw [if_pos rfl]
      refine ⟨Keep.refl _ _ _, ?_⟩
      walk_at "dx"
      refine ⟨a, _, rfl, W8, by omega, fun μ9 q W9 K9 => ?_⟩
      walk_at "dx"
      refine ⟨K9, W9.mono (by omega), B ++ [(v, q)], by rw [List.map_append]; rfl, ?_⟩
      rw [List.map_append, e, take_snc hv]; rfl
    rintro μ8 acc ha ⟨B, rfl, e⟩ W8 K8
    have hsl : (strsD (L ++ L2)).length = (L ++ L2).length := List.length_map ..
    rw [hsl] at e W8
    rw [List.take_length] at e
    have hBl : B.length ≤ 4377 := by
      have := congrArg List.length e
      rw [List.length_map] at this
      omega
    walk_at "dx"
    refine ⟨a, _, B, rfl, W8, by omega, by omega, fun μ9 A hA W9 K9 => ?_⟩
    have hAl := hA.l
    have gd := notes_good ho (by omega) hL h1 h2 e hA (by omega)
    walk_at "dx"
    refine ⟨a, _, cs, n, rfl, W9, by omega, ho, few, fun μ10 W10 K10 => ?_⟩
    walk_at "dz"
    refine ⟨a, _, cs, n, A, rfl, W10, by omega, ho, few, gd, by omega, fun μ11 => ?_⟩
    walk_at "dz"
    exact ⟨_, _, _, _, _, _, _, rfl⟩
  rintro μ1 ρ1 ⟨u1, u2, u3, u4, u5, u6, u7, rfl⟩
  walk_at "dx"
  exact hp _
end
theorem law_end : ∀ ns : List Int, ns.length ≤ 63 → (∀ n ∈ ns, n.natAbs < 2 ^ 1048576) → P_law (fun _ => none) [.frz (ns.map D.int)] (fun _ d => d = .bl true) excN := fun ns hl hb => ⟨ns, rfl, hl, hb, fun _ => rfl⟩
theorem all_mk {P : Program} {w : World} {K : PySem.W.Frag} {h : Heap} {mg : Str → Option Value} {fa : Addr} (X : K.In h) (G : h.Ns mainGlobals mg) (hfa : mg "law" = some (.ref fa))
  {f_is_number : Addr} {od_is_number an_is_number : Option Addr} {sl_is_number : Array (Option Value)} {oc_is_number kV_is_number dc_is_number pm_is_number cd_is_number ct_is_number : Value}
  {f_checked_signs : Addr} {od_checked_signs an_checked_signs : Option Addr} {sl_checked_signs : Array (Option Value)} {oc_checked_signs kV_checked_signs dc_checked_signs pm_checked_signs cd_checked_signs ct_checked_signs : Value}
  {f_messages_of : Addr} {od_messages_of an_messages_of : Option Addr} {sl_messages_of : Array (Option Value)} {oc_messages_of kV_messages_of dc_messages_of pm_messages_of cd_messages_of ct_messages_of : Value}
  {f_messages_below : Addr} {od_messages_below an_messages_below : Option Addr} {sl_messages_below : Array (Option Value)} {oc_messages_below kV_messages_below dc_messages_below pm_messages_below cd_messages_below ct_messages_below : Value}
  {f_checked_size : Addr} {od_checked_size an_checked_size : Option Addr} {sl_checked_size : Array (Option Value)} {oc_checked_size kV_checked_size dc_checked_size pm_checked_size cd_checked_size ct_checked_size : Value}
  {f_checked_answers : Addr} {od_checked_answers an_checked_answers : Option Addr} {sl_checked_answers : Array (Option Value)} {oc_checked_answers kV_checked_answers dc_checked_answers pm_checked_answers cd_checked_answers ct_checked_answers : Value}
  {f_asked : Addr} {od_asked an_asked : Option Addr} {sl_asked : Array (Option Value)} {oc_asked kV_asked dc_asked pm_asked cd_asked ct_asked : Value}
  {f_next_message : Addr} {od_next_message an_next_message : Option Addr} {sl_next_message : Array (Option Value)} {oc_next_message kV_next_message dc_next_message pm_next_message cd_next_message ct_next_message : Value}
  {f__law_well : Addr} {od__law_well an__law_well : Option Addr} {sl__law_well : Array (Option Value)} {oc__law_well kV__law_well dc__law_well pm__law_well cd__law_well ct__law_well : Value}
  {f__law_draw : Addr} {od__law_draw an__law_draw : Option Addr} {sl__law_draw : Array (Option Value)} {oc__law_draw kV__law_draw dc__law_draw pm__law_draw cd__law_draw ct__law_draw : Value}
  {f__law_letters : Addr} {od__law_letters an__law_letters : Option Addr} {sl__law_letters : Array (Option Value)} {oc__law_letters kV__law_letters dc__law_letters pm__law_letters cd__law_letters ct__law_letters : Value}
  {f__law_messages : Addr} {od__law_messages an__law_messages : Option Addr} {sl__law_messages : Array (Option Value)} {oc__law_messages kV__law_messages dc__law_messages pm__law_messages cd__law_messages ct__law_messages : Value}
  {f__law_order : Addr} {od__law_order an__law_order : Option Addr} {sl__law_order : Array (Option Value)} {oc__law_order kV__law_order dc__law_order pm__law_order cd__law_order ct__law_order : Value}
  {f__law_some : Addr} {od__law_some an__law_some : Option Addr} {sl__law_some : Array (Option Value)} {oc__law_some kV__law_some dc__law_some pm__law_some cd__law_some ct__law_some : Value}
  {f__law_longer : Addr} {od__law_longer an__law_longer : Option Addr} {sl__law_longer : Array (Option Value)} {oc__law_longer kV__law_longer dc__law_longer pm__law_longer cd__law_longer ct__law_longer : Value}
  {f__law_number : Addr} {od__law_number an__law_number : Option Addr} {sl__law_number : Array (Option Value)} {oc__law_number kV__law_number dc__law_number pm__law_number cd__law_number ct__law_number : Value}
  {f__law_listed : Addr} {od__law_listed an__law_listed : Option Addr} {sl__law_listed : Array (Option Value)} {oc__law_listed kV__law_listed dc__law_listed pm__law_listed cd__law_listed ct__law_listed : Value}
  {f__law_next : Addr} {od__law_next an__law_next : Option Addr} {sl__law_next : Array (Option Value)} {oc__law_next kV__law_next dc__law_next pm__law_next cd__law_next ct__law_next : Value}
  {f__law_nexts : Addr} {od__law_nexts an__law_nexts : Option Addr} {sl__law_nexts : Array (Option Value)} {oc__law_nexts kV__law_nexts dc__law_nexts pm__law_nexts cd__law_nexts ct__law_nexts : Value}
  {f_law : Addr} {od_law an_law : Option Addr} {sl_law : Array (Option Value)} {oc_law kV_law dc_law pm_law cd_law ct_law : Value}
  {tLE : Tok} {fI : Addr} {odI anI : Option Addr} {slI : Array (Option Value)} {ocI kVI dcI pmI cdI ctI : Value}
  {A_WorthError : Addr} {nm_WorthError qn_WorthError : Str} {N_WorthError : Addr} {bs_WorthError bm_WorthError : List Value} {sn_WorthError : List Str} {sub_WorthError : List Value} {ab_WorthError : Bool} {col_WorthError : Option Bool} {dd_WorthError : Option Addr} {m0_WorthError m1_WorthError m2_WorthError m3_WorthError m5_WorthError : Option Value}
  {A_InvalidNumber : Addr} {nm_InvalidNumber qn_InvalidNumber : Str} {N_InvalidNumber : Addr} {bs_InvalidNumber bm_InvalidNumber : List Value} {sn_InvalidNumber : List Str} {sub_InvalidNumber : List Value} {ab_InvalidNumber : Bool} {col_InvalidNumber : Option Bool} {dd_InvalidNumber : Option Addr} {m0_InvalidNumber m1_InvalidNumber m2_InvalidNumber m3_InvalidNumber m5_InvalidNumber : Option Value}
  {A_InvalidSigns : Addr} {nm_InvalidSigns qn_InvalidSigns : Str} {N_InvalidSigns : Addr} {bs_InvalidSigns bm_InvalidSigns : List Value} {sn_InvalidSigns : List Str} {sub_InvalidSigns : List Value} {ab_InvalidSigns : Bool} {col_InvalidSigns : Option Bool} {dd_InvalidSigns : Option Addr} {m0_InvalidSigns m1_InvalidSigns m2_InvalidSigns m3_InvalidSigns m5_InvalidSigns : Option Value}
  {A_InvalidNote : Addr} {nm_InvalidNote qn_InvalidNote : Str} {N_InvalidNote : Addr} {bs_InvalidNote bm_InvalidNote : List Value} {sn_InvalidNote : List Str} {sub_InvalidNote : List Value} {ab_InvalidNote : Bool} {col_InvalidNote : Option Bool} {dd_InvalidNote : Option Addr} {m0_InvalidNote m1_InvalidNote m2_InvalidNote m3_InvalidNote m5_InvalidNote : Option Value}
  (a_is_number : PySem.W.nsIn K mainGlobals "is_number" = some (some (.ref f_is_number)))
  (l_is_number : K.lookup f_is_number = some ⟨oc_is_number, od_is_number, .func (PySem.W.fnOf "is_number" "is_number" (defArgs s_is_number) (defBody s_is_number) (defScope s_is_number) .none kV_is_number dc_is_number pm_is_number an_is_number cd_is_number ct_is_number), sl_is_number⟩)
  (q_is_number : PySem.W.codeIn K cd_is_number "is_number" = true)
  (k_is_number : PySem.W.keepIn K (.ref f_is_number) = true)
  (a_checked_signs : PySem.W.nsIn K mainGlobals "checked_signs" = some (some (.ref f_checked_signs)))
  (l_checked_signs : K.lookup f_checked_signs = some ⟨oc_checked_signs, od_checked_signs, .func (PySem.W.fnOf "checked_signs" "checked_signs" (defArgs s_checked_signs) (defBody s_checked_signs) (defScope s_checked_signs) .none kV_checked_signs dc_checked_signs pm_checked_signs an_checked_signs cd_checked_signs ct_checked_signs), sl_checked_signs⟩)
  (q_checked_signs : PySem.W.codeIn K cd_checked_signs "checked_signs" = true)
  (k_checked_signs : PySem.W.keepIn K (.ref f_checked_signs) = true)
  (a_messages_of : PySem.W.nsIn K mainGlobals "messages_of" = some (some (.ref f_messages_of)))
  (l_messages_of : K.lookup f_messages_of = some ⟨oc_messages_of, od_messages_of, .func (PySem.W.fnOf "messages_of" "messages_of" (defArgs s_messages_of) (defBody s_messages_of) (defScope s_messages_of) .none kV_messages_of dc_messages_of pm_messages_of an_messages_of cd_messages_of ct_messages_of), sl_messages_of⟩)
  (q_messages_of : PySem.W.codeIn K cd_messages_of "messages_of" = true)
  (k_messages_of : PySem.W.keepIn K (.ref f_messages_of) = true)
  (a_messages_below : PySem.W.nsIn K mainGlobals "messages_below" = some (some (.ref f_messages_below)))
  (l_messages_below : K.lookup f_messages_below = some ⟨oc_messages_below, od_messages_below, .func (PySem.W.fnOf "messages_below" "messages_below" (defArgs s_messages_below) (defBody s_messages_below) (defScope s_messages_below) .none kV_messages_below dc_messages_below pm_messages_below an_messages_below cd_messages_below ct_messages_below), sl_messages_below⟩)
  (q_messages_below : PySem.W.codeIn K cd_messages_below "messages_below" = true)
  (k_messages_below : PySem.W.keepIn K (.ref f_messages_below) = true)
  (a_checked_size : PySem.W.nsIn K mainGlobals "checked_size" = some (some (.ref f_checked_size)))
  (l_checked_size : K.lookup f_checked_size = some ⟨oc_checked_size, od_checked_size, .func (PySem.W.fnOf "checked_size" "checked_size" (defArgs s_checked_size) (defBody s_checked_size) (defScope s_checked_size) .none kV_checked_size dc_checked_size pm_checked_size an_checked_size cd_checked_size ct_checked_size), sl_checked_size⟩)
  (q_checked_size : PySem.W.codeIn K cd_checked_size "checked_size" = true)
  (k_checked_size : PySem.W.keepIn K (.ref f_checked_size) = true)
  (a_checked_answers : PySem.W.nsIn K mainGlobals "checked_answers" = some (some (.ref f_checked_answers)))
  (l_checked_answers : K.lookup f_checked_answers = some ⟨oc_checked_answers, od_checked_answers, .func (PySem.W.fnOf "checked_answers" "checked_answers" (defArgs s_checked_answers) (defBody s_checked_answers) (defScope s_checked_answers) .none kV_checked_answers dc_checked_answers pm_checked_answers an_checked_answers cd_checked_answers ct_checked_answers), sl_checked_answers⟩)
  (q_checked_answers : PySem.W.codeIn K cd_checked_answers "checked_answers" = true)
  (k_checked_answers : PySem.W.keepIn K (.ref f_checked_answers) = true)
  (a_asked : PySem.W.nsIn K mainGlobals "asked" = some (some (.ref f_asked)))
  (l_asked : K.lookup f_asked = some ⟨oc_asked, od_asked, .func (PySem.W.fnOf "asked" "asked" (defArgs s_asked) (defBody s_asked) (defScope s_asked) .none kV_asked dc_asked pm_asked an_asked cd_asked ct_asked), sl_asked⟩)
  (q_asked : PySem.W.codeIn K cd_asked "asked" = true)
  (k_asked : PySem.W.keepIn K (.ref f_asked) = true)
  (a_next_message : PySem.W.nsIn K mainGlobals "next_message" = some (some (.ref f_next_message)))
  (l_next_message : K.lookup f_next_message = some ⟨oc_next_message, od_next_message, .func (PySem.W.fnOf "next_message" "next_message" (defArgs s_next_message) (defBody s_next_message) (defScope s_next_message) .none kV_next_message dc_next_message pm_next_message an_next_message cd_next_message ct_next_message), sl_next_message⟩)
  (q_next_message : PySem.W.codeIn K cd_next_message "next_message" = true)
  (k_next_message : PySem.W.keepIn K (.ref f_next_message) = true)
  (a__law_well : PySem.W.nsIn K mainGlobals "_law_well" = some (some (.ref f__law_well)))
  (l__law_well : K.lookup f__law_well = some ⟨oc__law_well, od__law_well, .func (PySem.W.fnOf "_law_well" "_law_well" (defArgs s__law_well) (defBody s__law_well) (defScope s__law_well) .none kV__law_well dc__law_well pm__law_well an__law_well cd__law_well ct__law_well), sl__law_well⟩)
  (q__law_well : PySem.W.codeIn K cd__law_well "_law_well" = true)
  (k__law_well : PySem.W.keepIn K (.ref f__law_well) = true)
  (a__law_draw : PySem.W.nsIn K mainGlobals "_law_draw" = some (some (.ref f__law_draw)))
  (l__law_draw : K.lookup f__law_draw = some ⟨oc__law_draw, od__law_draw, .func (PySem.W.fnOf "_law_draw" "_law_draw" (defArgs s__law_draw) (defBody s__law_draw) (defScope s__law_draw) .none kV__law_draw dc__law_draw pm__law_draw an__law_draw cd__law_draw ct__law_draw), sl__law_draw⟩)
  (q__law_draw : PySem.W.codeIn K cd__law_draw "_law_draw" = true)
  (k__law_draw : PySem.W.keepIn K (.ref f__law_draw) = true)
  (a__law_letters : PySem.W.nsIn K mainGlobals "_law_letters" = some (some (.ref f__law_letters)))
  (l__law_letters : K.lookup f__law_letters = some ⟨oc__law_letters, od__law_letters, .func (PySem.W.fnOf "_law_letters" "_law_letters" (defArgs s__law_letters) (defBody s__law_letters) (defScope s__law_letters) .none kV__law_letters dc__law_letters pm__law_letters an__law_letters cd__law_letters ct__law_letters), sl__law_letters⟩)
  (q__law_letters : PySem.W.codeIn K cd__law_letters "_law_letters" = true)
  (k__law_letters : PySem.W.keepIn K (.ref f__law_letters) = true)
  (a__law_messages : PySem.W.nsIn K mainGlobals "_law_messages" = some (some (.ref f__law_messages)))
  (l__law_messages : K.lookup f__law_messages = some ⟨oc__law_messages, od__law_messages, .func (PySem.W.fnOf "_law_messages" "_law_messages" (defArgs s__law_messages) (defBody s__law_messages) (defScope s__law_messages) .none kV__law_messages dc__law_messages pm__law_messages an__law_messages cd__law_messages ct__law_messages), sl__law_messages⟩)
  (q__law_messages : PySem.W.codeIn K cd__law_messages "_law_messages" = true)
  (k__law_messages : PySem.W.keepIn K (.ref f__law_messages) = true)
  (a__law_order : PySem.W.nsIn K mainGlobals "_law_order" = some (some (.ref f__law_order)))
  (l__law_order : K.lookup f__law_order = some ⟨oc__law_order, od__law_order, .func (PySem.W.fnOf "_law_order" "_law_order" (defArgs s__law_order) (defBody s__law_order) (defScope s__law_order) .none kV__law_order dc__law_order pm__law_order an__law_order cd__law_order ct__law_order), sl__law_order⟩)
  (q__law_order : PySem.W.codeIn K cd__law_order "_law_order" = true)
  (k__law_order : PySem.W.keepIn K (.ref f__law_order) = true)
  (a__law_some : PySem.W.nsIn K mainGlobals "_law_some" = some (some (.ref f__law_some)))
  (l__law_some : K.lookup f__law_some = some ⟨oc__law_some, od__law_some, .func (PySem.W.fnOf "_law_some" "_law_some" (defArgs s__law_some) (defBody s__law_some) (defScope s__law_some) .none kV__law_some dc__law_some pm__law_some an__law_some cd__law_some ct__law_some), sl__law_some⟩)
  (q__law_some : PySem.W.codeIn K cd__law_some "_law_some" = true)
  (k__law_some : PySem.W.keepIn K (.ref f__law_some) = true)
  (a__law_longer : PySem.W.nsIn K mainGlobals "_law_longer" = some (some (.ref f__law_longer)))
  (l__law_longer : K.lookup f__law_longer = some ⟨oc__law_longer, od__law_longer, .func (PySem.W.fnOf "_law_longer" "_law_longer" (defArgs s__law_longer) (defBody s__law_longer) (defScope s__law_longer) .none kV__law_longer dc__law_longer pm__law_longer an__law_longer cd__law_longer ct__law_longer), sl__law_longer⟩)
  (q__law_longer : PySem.W.codeIn K cd__law_longer "_law_longer" = true)
  (k__law_longer : PySem.W.keepIn K (.ref f__law_longer) = true)
  (a__law_number : PySem.W.nsIn K mainGlobals "_law_number" = some (some (.ref f__law_number)))
  (l__law_number : K.lookup f__law_number = some ⟨oc__law_number, od__law_number, .func (PySem.W.fnOf "_law_number" "_law_number" (defArgs s__law_number) (defBody s__law_number) (defScope s__law_number) .none kV__law_number dc__law_number pm__law_number an__law_number cd__law_number ct__law_number), sl__law_number⟩)
  (q__law_number : PySem.W.codeIn K cd__law_number "_law_number" = true)
  (k__law_number : PySem.W.keepIn K (.ref f__law_number) = true)
  (a__law_listed : PySem.W.nsIn K mainGlobals "_law_listed" = some (some (.ref f__law_listed)))
  (l__law_listed : K.lookup f__law_listed = some ⟨oc__law_listed, od__law_listed, .func (PySem.W.fnOf "_law_listed" "_law_listed" (defArgs s__law_listed) (defBody s__law_listed) (defScope s__law_listed) .none kV__law_listed dc__law_listed pm__law_listed an__law_listed cd__law_listed ct__law_listed), sl__law_listed⟩)
  (q__law_listed : PySem.W.codeIn K cd__law_listed "_law_listed" = true)
  (k__law_listed : PySem.W.keepIn K (.ref f__law_listed) = true)
  (a__law_next : PySem.W.nsIn K mainGlobals "_law_next" = some (some (.ref f__law_next)))
  (l__law_next : K.lookup f__law_next = some ⟨oc__law_next, od__law_next, .func (PySem.W.fnOf "_law_next" "_law_next" (defArgs s__law_next) (defBody s__law_next) (defScope s__law_next) .none kV__law_next dc__law_next pm__law_next an__law_next cd__law_next ct__law_next), sl__law_next⟩)
  (q__law_next : PySem.W.codeIn K cd__law_next "_law_next" = true)
  (k__law_next : PySem.W.keepIn K (.ref f__law_next) = true)
  (a__law_nexts : PySem.W.nsIn K mainGlobals "_law_nexts" = some (some (.ref f__law_nexts)))
  (l__law_nexts : K.lookup f__law_nexts = some ⟨oc__law_nexts, od__law_nexts, .func (PySem.W.fnOf "_law_nexts" "_law_nexts" (defArgs s__law_nexts) (defBody s__law_nexts) (defScope s__law_nexts) .none kV__law_nexts dc__law_nexts pm__law_nexts an__law_nexts cd__law_nexts ct__law_nexts), sl__law_nexts⟩)
  (q__law_nexts : PySem.W.codeIn K cd__law_nexts "_law_nexts" = true)
  (k__law_nexts : PySem.W.keepIn K (.ref f__law_nexts) = true)
  (a_law : PySem.W.nsIn K mainGlobals "law" = some (some (.ref f_law)))
  (l_law : K.lookup f_law = some ⟨oc_law, od_law, .func (PySem.W.fnOf "law" "law" (defArgs s_law) (defBody s_law) (defScope s_law) .none kV_law dc_law pm_law an_law cd_law ct_law), sl_law⟩)
  (q_law : PySem.W.codeIn K cd_law "law" = true)
  (k_law : PySem.W.keepIn K (.ref f_law) = true)
  (z_abs : PySem.W.nsIn K mainGlobals "abs" = some none)
  (z_int : PySem.W.nsIn K mainGlobals "int" = some none)
  (z_isinstance : PySem.W.nsIn K mainGlobals "isinstance" = some none)
  (z_list : PySem.W.nsIn K mainGlobals "list" = some none)
  (z_len : PySem.W.nsIn K mainGlobals "len" = some none)
  (z_str : PySem.W.nsIn K mainGlobals "str" = some none)
  (z_range : PySem.W.nsIn K mainGlobals "range" = some none)
  (z_ValueError : PySem.W.nsIn K mainGlobals "ValueError" = some none)
  (z_sorted : PySem.W.nsIn K mainGlobals "sorted" = some none)
  (z_min : PySem.W.nsIn K mainGlobals "min" = some none)
  (z_max : PySem.W.nsIn K mainGlobals "max" = some none)
  (z_all : PySem.W.nsIn K mainGlobals "all" = some none)
  (z_dict : PySem.W.nsIn K mainGlobals "dict" = some none)
  (z_gcd : PySem.W.nsIn K mainGlobals "gcd" = some (some (.builtin "math.gcd")))
  (z_LETTERS : PySem.W.nsIn K mainGlobals "LETTERS" = some (some (.str "abcdefghijklmnopqrstuvwxyz" tLE)))
  (aC_WorthError : PySem.W.nsIn K mainGlobals "WorthError" = some (some (.ref A_WorthError)))
  (xC_WorthError : K.lookup A_WorthError = some (excClassObj nm_WorthError qn_WorthError A_WorthError N_WorthError bs_WorthError bm_WorthError true sn_WorthError sub_WorthError ab_WorthError col_WorthError dd_WorthError m0_WorthError m1_WorthError m2_WorthError m3_WorthError m5_WorthError "ValueError.__new__"))
  (rC_WorthError : PySem.HandSPX.refsVE bm_WorthError = true)
  (sa_WorthError : PySem.W.findIn K (.ref A_WorthError) "__setattr__" = some (some (.builtin "object.__setattr__")))
  (eC_WorthError : PySem.W.subIn K (.ref A_WorthError) (.type "BaseException") = some true)
  (tC_WorthError : PySem.W.typeIn K (.ref A_WorthError) = some (.type "type"))
  (kC_WorthError : PySem.W.keepIn K (.ref A_WorthError) = true)
  (nv_WorthError : PySem.W.findIn K (.ref A_WorthError) "value" = some none)
  (ga_WorthError : PySem.W.findIn K (.ref A_WorthError) "__getattribute__" = some (some (.builtin "BaseException.__getattribute__")))
  (gg_WorthError : PySem.W.findIn K (.ref A_WorthError) "__getattr__" = some none)
  (hd_WorthError : PySem.W.hasDictIn K A_WorthError = true)
  (ha_WorthError : PySem.W.findIn K (.ref A_WorthError) "__class__" = some (some (.builtin "object.__class__")))
  (hm_WorthError : PySem.W.mroIn K A_WorthError (.type "object") = some true)
  (iI_WorthError : PySem.W.findIn K (.ref A_WorthError) "__init__" = some (some (.ref fI)))
  (aC_InvalidNumber : PySem.W.nsIn K mainGlobals "InvalidNumber" = some (some (.ref A_InvalidNumber)))
  (xC_InvalidNumber : K.lookup A_InvalidNumber = some (excClassObj nm_InvalidNumber qn_InvalidNumber A_InvalidNumber N_InvalidNumber bs_InvalidNumber bm_InvalidNumber true sn_InvalidNumber sub_InvalidNumber ab_InvalidNumber col_InvalidNumber dd_InvalidNumber m0_InvalidNumber m1_InvalidNumber m2_InvalidNumber m3_InvalidNumber m5_InvalidNumber "ValueError.__new__"))
  (rC_InvalidNumber : PySem.HandSPX.refsVE bm_InvalidNumber = true)
  (sa_InvalidNumber : PySem.W.findIn K (.ref A_InvalidNumber) "__setattr__" = some (some (.builtin "object.__setattr__")))
  (eC_InvalidNumber : PySem.W.subIn K (.ref A_InvalidNumber) (.type "BaseException") = some true)
  (tC_InvalidNumber : PySem.W.typeIn K (.ref A_InvalidNumber) = some (.type "type"))
  (kC_InvalidNumber : PySem.W.keepIn K (.ref A_InvalidNumber) = true)
  (nv_InvalidNumber : PySem.W.findIn K (.ref A_InvalidNumber) "value" = some none)
  (ga_InvalidNumber : PySem.W.findIn K (.ref A_InvalidNumber) "__getattribute__" = some (some (.builtin "BaseException.__getattribute__")))
  (gg_InvalidNumber : PySem.W.findIn K (.ref A_InvalidNumber) "__getattr__" = some none)
  (hd_InvalidNumber : PySem.W.hasDictIn K A_InvalidNumber = true)
  (ha_InvalidNumber : PySem.W.findIn K (.ref A_InvalidNumber) "__class__" = some (some (.builtin "object.__class__")))
  (hm_InvalidNumber : PySem.W.mroIn K A_InvalidNumber (.type "object") = some true)
  (iI_InvalidNumber : PySem.W.findIn K (.ref A_InvalidNumber) "__init__" = some (some (.ref fI)))
  (aC_InvalidSigns : PySem.W.nsIn K mainGlobals "InvalidSigns" = some (some (.ref A_InvalidSigns)))
  (xC_InvalidSigns : K.lookup A_InvalidSigns = some (excClassObj nm_InvalidSigns qn_InvalidSigns A_InvalidSigns N_InvalidSigns bs_InvalidSigns bm_InvalidSigns true sn_InvalidSigns sub_InvalidSigns ab_InvalidSigns col_InvalidSigns dd_InvalidSigns m0_InvalidSigns m1_InvalidSigns m2_InvalidSigns m3_InvalidSigns m5_InvalidSigns "ValueError.__new__"))
  (rC_InvalidSigns : PySem.HandSPX.refsVE bm_InvalidSigns = true)
  (sa_InvalidSigns : PySem.W.findIn K (.ref A_InvalidSigns) "__setattr__" = some (some (.builtin "object.__setattr__")))
  (eC_InvalidSigns : PySem.W.subIn K (.ref A_InvalidSigns) (.type "BaseException") = some true)
  (tC_InvalidSigns : PySem.W.typeIn K (.ref A_InvalidSigns) = some (.type "type"))
  (kC_InvalidSigns : PySem.W.keepIn K (.ref A_InvalidSigns) = true)
  (nv_InvalidSigns : PySem.W.findIn K (.ref A_InvalidSigns) "value" = some none)
  (ga_InvalidSigns : PySem.W.findIn K (.ref A_InvalidSigns) "__getattribute__" = some (some (.builtin "BaseException.__getattribute__")))
  (gg_InvalidSigns : PySem.W.findIn K (.ref A_InvalidSigns) "__getattr__" = some none)
  (hd_InvalidSigns : PySem.W.hasDictIn K A_InvalidSigns = true)
  (ha_InvalidSigns : PySem.W.findIn K (.ref A_InvalidSigns) "__class__" = some (some (.builtin "object.__class__")))
  (hm_InvalidSigns : PySem.W.mroIn K A_InvalidSigns (.type "object") = some true)
  (iI_InvalidSigns : PySem.W.findIn K (.ref A_InvalidSigns) "__init__" = some (some (.ref fI)))
  (aC_InvalidNote : PySem.W.nsIn K mainGlobals "InvalidNote" = some (some (.ref A_InvalidNote)))
  (xC_InvalidNote : K.lookup A_InvalidNote = some (excClassObj nm_InvalidNote qn_InvalidNote A_InvalidNote N_InvalidNote bs_InvalidNote bm_InvalidNote true sn_InvalidNote sub_InvalidNote ab_InvalidNote col_InvalidNote dd_InvalidNote m0_InvalidNote m1_InvalidNote m2_InvalidNote m3_InvalidNote m5_InvalidNote "ValueError.__new__"))
  (rC_InvalidNote : PySem.HandSPX.refsVE bm_InvalidNote = true)
  (sa_InvalidNote : PySem.W.findIn K (.ref A_InvalidNote) "__setattr__" = some (some (.builtin "object.__setattr__")))
  (eC_InvalidNote : PySem.W.subIn K (.ref A_InvalidNote) (.type "BaseException") = some true)
  (tC_InvalidNote : PySem.W.typeIn K (.ref A_InvalidNote) = some (.type "type"))
  (kC_InvalidNote : PySem.W.keepIn K (.ref A_InvalidNote) = true)
  (nv_InvalidNote : PySem.W.findIn K (.ref A_InvalidNote) "value" = some none)
  (ga_InvalidNote : PySem.W.findIn K (.ref A_InvalidNote) "__getattribute__" = some (some (.builtin "BaseException.__getattribute__")))
  (gg_InvalidNote : PySem.W.findIn K (.ref A_InvalidNote) "__getattr__" = some none)
  (hd_InvalidNote : PySem.W.hasDictIn K A_InvalidNote = true)
  (ha_InvalidNote : PySem.W.findIn K (.ref A_InvalidNote) "__class__" = some (some (.builtin "object.__class__")))
  (hm_InvalidNote : PySem.W.mroIn K A_InvalidNote (.type "object") = some true)
  (iI_InvalidNote : PySem.W.findIn K (.ref A_InvalidNote) "__init__" = some (some (.ref fI)))
  (hn : PySem.W.specialIn K (.builtin "object.__class__") "__get__" = some (some (.builtin "getset_descriptor.__get__")))
  (ht : PySem.W.takesIn K (.builtin "object.__class__") = some true)
  (tI : PySem.W.typeIn K (.ref fI) = some (.type "function"))
  (lI : K.lookup fI = some ⟨ocI, odI, .func (PySem.W.fnOf "__init__" "WorthError.__init__" (defArgs s_WorthError___init__) (defBody s_WorthError___init__) (defScope s_WorthError___init__) .none kVI dcI pmI anI cdI ctI), slI⟩)
  (cI : PySem.W.codeIn K cdI "WorthError.__init__" = true)
  (kI : PySem.W.keepIn K (.ref fI) = true)
  (vV : PySem.W.findCls K (.type "ValueError") (.type "type") "__init__" = some (.val (.builtin "ValueError.__init__"))) :
  ∃ fd : FuncData, (∀ (s : Shared) (u : Value), BindsTo s fd ⟨[u], []⟩ [("_law_script", u)]) ∧ ∀ base : Heap, K.In base → base.Ns mainGlobals mg → FnOk P w K mg base CX0 8 fa fd ["_law_script"] (spD K 1 P_law) := by
  have S_is_number : Std K mg "is_number" s_is_number := ⟨_, _, PySem.W.mg_of X G a_is_number, fun_mk (st := s_is_number) l_is_number q_is_number k_is_number⟩
  have S_checked_signs : Std K mg "checked_signs" s_checked_signs := ⟨_, _, PySem.W.mg_of X G a_checked_signs, fun_mk (st := s_checked_signs) l_checked_signs q_checked_signs k_checked_signs⟩
  have S_messages_of : Std K mg "messages_of" s_messages_of := ⟨_, _, PySem.W.mg_of X G a_messages_of, fun_mk (st := s_messages_of) l_messages_of q_messages_of k_messages_of⟩
  have S_messages_below : Std K mg "messages_below" s_messages_below := ⟨_, _, PySem.W.mg_of X G a_messages_below, fun_mk (st := s_messages_below) l_messages_below q_messages_below k_messages_below⟩
  have S_checked_size : Std K mg "checked_size" s_checked_size := ⟨_, _, PySem.W.mg_of X G a_checked_size, fun_mk (st := s_checked_size) l_checked_size q_checked_size k_checked_size⟩
  have S_checked_answers : Std K mg "checked_answers" s_checked_answers := ⟨_, _, PySem.W.mg_of X G a_checked_answers, fun_mk (st := s_checked_answers) l_checked_answers q_checked_answers k_checked_answers⟩
  have S_asked : Std K mg "asked" s_asked := ⟨_, _, PySem.W.mg_of X G a_asked, fun_mk (st := s_asked) l_asked q_asked k_asked⟩
  have S_next_message : Std K mg "next_message" s_next_message := ⟨_, _, PySem.W.mg_of X G a_next_message, fun_mk (st := s_next_message) l_next_message q_next_message k_next_message⟩
  have S__law_well : Std K mg "_law_well" s__law_well := ⟨_, _, PySem.W.mg_of X G a__law_well, fun_mk (st := s__law_well) l__law_well q__law_well k__law_well⟩
  have S__law_draw : Std K mg "_law_draw" s__law_draw := ⟨_, _, PySem.W.mg_of X G a__law_draw, fun_mk (st := s__law_draw) l__law_draw q__law_draw k__law_draw⟩
  have S__law_letters : Std K mg "_law_letters" s__law_letters := ⟨_, _, PySem.W.mg_of X G a__law_letters, fun_mk (st := s__law_letters) l__law_letters q__law_letters k__law_letters⟩
  have S__law_messages : Std K mg "_law_messages" s__law_messages := ⟨_, _, PySem.W.mg_of X G a__law_messages, fun_mk (st := s__law_messages) l__law_messages q__law_messages k__law_messages⟩
  have S__law_order : Std K mg "_law_order" s__law_order := ⟨_, _, PySem.W.mg_of X G a__law_order, fun_mk (st := s__law_order) l__law_order q__law_order k__law_order⟩
  have S__law_some : Std K mg "_law_some" s__law_some := ⟨_, _, PySem.W.mg_of X G a__law_some, fun_mk (st := s__law_some) l__law_some q__law_some k__law_some⟩
  have S__law_longer : Std K mg "_law_longer" s__law_longer := ⟨_, _, PySem.W.mg_of X G a__law_longer, fun_mk (st := s__law_longer) l__law_longer q__law_longer k__law_longer⟩
  have S__law_number : Std K mg "_law_number" s__law_number := ⟨_, _, PySem.W.mg_of X G a__law_number, fun_mk (st := s__law_number) l__law_number q__law_number k__law_number⟩
  have S__law_listed : Std K mg "_law_listed" s__law_listed := ⟨_, _, PySem.W.mg_of X G a__law_listed, fun_mk (st := s__law_listed) l__law_listed q__law_listed k__law_listed⟩
  have S__law_next : Std K mg "_law_next" s__law_next := ⟨_, _, PySem.W.mg_of X G a__law_next, fun_mk (st := s__law_next) l__law_next q__law_next k__law_next⟩
  have S__law_nexts : Std K mg "_law_nexts" s__law_nexts := ⟨_, _, PySem.W.mg_of X G a__law_nexts, fun_mk (st := s__law_nexts) l__law_nexts q__law_nexts k__law_nexts⟩
  have S_law : Std K mg "law" s_law := ⟨_, _, PySem.W.mg_of X G a_law, fun_mk (st := s_law) l_law q_law k_law⟩
  have n_abs : mg "abs" = none := PySem.W.mg_none_of X G z_abs
  have n_int : mg "int" = none := PySem.W.mg_none_of X G z_int
  have n_isinstance : mg "isinstance" = none := PySem.W.mg_none_of X G z_isinstance
  have n_list : mg "list" = none := PySem.W.mg_none_of X G z_list
  have n_len : mg "len" = none := PySem.W.mg_none_of X G z_len
  have n_str : mg "str" = none := PySem.W.mg_none_of X G z_str
  have n_range : mg "range" = none := PySem.W.mg_none_of X G z_range
  have n_ValueError : mg "ValueError" = none := PySem.W.mg_none_of X G z_ValueError
  have n_sorted : mg "sorted" = none := PySem.W.mg_none_of X G z_sorted
  have n_min : mg "min" = none := PySem.W.mg_none_of X G z_min
  have n_max : mg "max" = none := PySem.W.mg_none_of X G z_max
  have n_all : mg "all" = none := PySem.W.mg_none_of X G z_all
  have n_dict : mg "dict" = none := PySem.W.mg_none_of X G z_dict
  have m_gcd : mg "gcd" = some (.builtin "math.gcd") := PySem.W.mg_of X G z_gcd
  have m_LETTERS : mg "LETTERS" = some (.str "abcdefghijklmnopqrstuvwxyz" tLE) := PySem.W.mg_of X G z_LETTERS
  have X_WorthError : ExcD K mg "WorthError" A_WorthError fI := ⟨PySem.W.mg_of X G aC_WorthError, ⟨⟨⟨_, _, _, _, _, _, _, _, _, _, _, _, _, _, _, xC_WorthError, rC_WorthError⟩, sa_WorthError, eC_WorthError, tC_WorthError, kC_WorthError⟩, nv_WorthError, ga_WorthError, gg_WorthError, hd_WorthError, ha_WorthError, hm_WorthError⟩, iI_WorthError⟩
  have X_InvalidNumber : ExcD K mg "InvalidNumber" A_InvalidNumber fI := ⟨PySem.W.mg_of X G aC_InvalidNumber, ⟨⟨⟨_, _, _, _, _, _, _, _, _, _, _, _, _, _, _, xC_InvalidNumber, rC_InvalidNumber⟩, sa_InvalidNumber, eC_InvalidNumber, tC_InvalidNumber, kC_InvalidNumber⟩, nv_InvalidNumber, ga_InvalidNumber, gg_InvalidNumber, hd_InvalidNumber, ha_InvalidNumber, hm_InvalidNumber⟩, iI_InvalidNumber⟩
  have X_InvalidSigns : ExcD K mg "InvalidSigns" A_InvalidSigns fI := ⟨PySem.W.mg_of X G aC_InvalidSigns, ⟨⟨⟨_, _, _, _, _, _, _, _, _, _, _, _, _, _, _, xC_InvalidSigns, rC_InvalidSigns⟩, sa_InvalidSigns, eC_InvalidSigns, tC_InvalidSigns, kC_InvalidSigns⟩, nv_InvalidSigns, ga_InvalidSigns, gg_InvalidSigns, hd_InvalidSigns, ha_InvalidSigns, hm_InvalidSigns⟩, iI_InvalidSigns⟩
  have X_InvalidNote : ExcD K mg "InvalidNote" A_InvalidNote fI := ⟨PySem.W.mg_of X G aC_InvalidNote, ⟨⟨⟨_, _, _, _, _, _, _, _, _, _, _, _, _, _, _, xC_InvalidNote, rC_InvalidNote⟩, sa_InvalidNote, eC_InvalidNote, tC_InvalidNote, kC_InvalidNote⟩, nv_InvalidNote, ga_InvalidNote, gg_InvalidNote, hd_InvalidNote, ha_InvalidNote, hm_InvalidNote⟩, iI_InvalidNote⟩
  have Gc : ClsG K := ⟨hn, ht⟩
  have FI := fun_mk (st := s_WorthError___init__) lI cI kI
  have e := hfa.symm.trans (PySem.W.mg_of X G a_law)
  cases e
  have Fl := fun_mk (st := s_law) l_law q_law k_law
  refine ⟨_, fun s u => .of_eq rfl, fun base _ _ => cal_at (x := "law") (st := s_law) ?_ hfa Fl⟩
  have G_init : IniD P w K mg base fI := ⟨_, tI, ini_ok FI sc_WorthError___init__ (fun cdv A outer s H E => pss_cons (ps_expr (pe_veinit (by rfl) n_ValueError vV (pa_cons (pv 0) (pa_cons (pv 1) pa_nil)))) (pss_one (ps_ost (pv 0) (pv 1)))), FI.binds (ps := ["self", "value"]) fun _ _ _ _ _ _ us hl => match us, hl with | [_, _], _ => rfl⟩
  have C_is_number := c_is_number (P := P) (w := w) (base := base) S_is_number m_gcd
  have C_checked_signsX := c_csigns (P := P) (w := w) (base := base) S_checked_signs m_LETTERS X_InvalidSigns G_init
  have C_csigns := c_csigns0 C_checked_signsX
  have C_msgs := c_msgs (P := P) (w := w) (base := base) S_messages_of n_range
  have C_below := c_below S_messages_below n_range C_msgs
  have C_size := c_size0 (P := P) (w := w) (base := base) S_checked_size
  have C_asked := c_asked S_asked C_csigns C_size C_below
  have C_answers := c_answers S_checked_answers n_all C_is_number
  have C_next := c_next S_next_message C_asked C_answers
  have C_well := c_well (P := P) (w := w) (base := base) S__law_well n_int n_len n_max n_abs
  have C_draw := c_wdraw (P := P) (w := w) (base := base) S__law_draw n_int
  have C_letters := c_wletters S__law_letters n_range n_len n_list n_sorted C_draw
  have C_lmsgs := c_lmsgs (P := P) (w := w) (base := base) S__law_messages n_range
  have C_lnum := c_lnum S__law_number C_draw
  have C_some := c_some S__law_some n_len n_list C_draw
  have C_longer := c_longer S__law_longer n_range n_len C_draw
  have C_order := c_order S__law_order n_range n_len n_list C_draw
  have C_listed := c_listed S__law_listed n_isinstance n_list n_str C_draw C_asked
  have C_lnext := c_lnext S__law_next n_list C_next
  have C_nexts := c_nexts S__law_nexts n_range n_isinstance n_dict n_str C_draw C_lnum C_lnext
  exact c_law S_law n_range n_len n_max n_min C_well C_draw C_letters C_lmsgs C_some C_longer C_lnum C_order C_listed C_nexts
end DL
open PySem PySem.W PyProof.Rows
set_option maxRecDepth 100000 in
set_option maxHeartbeats 0 in
theorem PySem.Challenge.cw_textworths_k73_messages_that_are_asked_holds : PySem.Challenge.rw_textworths_k73_messages_that_are_asked.Holds := by
  w_on; o_law; k_head; (case hw => w_witness2)
  k_fill
  refine L2.walk_ofB (n := 63) (k := 8) (x := "_law_script") (CX := fun _ => L2.CX0) (sp := fun w => DL.spD _ 1 DL.P_law) rfl (by decide) rfl ⟨rfl, by decide, by decide⟩ (fun w h Y => PySem.W.kIn_of Y) ?F (fun w H a ns hl hb hO hs => DL.sp_start (DL.law_end) H a ns hl hb hO hs) (fun _ _ _ _ _ z => z)
  case F =>
    intro w mg fa h KX G hmg
    refine' DL.all_mk KX G hmg ?a_is_number ?l_is_number ?q_is_number ?k_is_number ?a_checked_signs ?l_checked_signs ?q_checked_signs ?k_checked_signs ?a_messages_of ?l_messages_of ?q_messages_of ?k_messages_of ?a_messages_below ?l_messages_below ?q_messages_below ?k_messages_below ?a_checked_size ?l_checked_size ?q_checked_size ?k_checked_size ?a_checked_answers ?l_checked_answers ?q_checked_answers ?k_checked_answers ?a_asked ?l_asked ?q_asked ?k_asked ?a_next_message ?l_next_message ?q_next_message ?k_next_message ?a__law_well ?l__law_well ?q__law_well ?k__law_well ?a__law_draw ?l__law_draw ?q__law_draw ?k__law_draw ?a__law_letters ?l__law_letters ?q__law_letters ?k__law_letters ?a__law_messages ?l__law_messages ?q__law_messages ?k__law_messages ?a__law_order ?l__law_order ?q__law_order ?k__law_order ?a__law_some ?l__law_some ?q__law_some ?k__law_some ?a__law_longer ?l__law_longer ?q__law_longer ?k__law_longer ?a__law_number ?l__law_number ?q__law_number ?k__law_number ?a__law_listed ?l__law_listed ?q__law_listed ?k__law_listed ?a__law_next ?l__law_next ?q__law_next ?k__law_next ?a__law_nexts ?l__law_nexts ?q__law_nexts ?k__law_nexts ?a_law ?l_law ?q_law ?k_law ?z_abs ?z_int ?z_isinstance ?z_list ?z_len ?z_str ?z_range ?z_ValueError ?z_sorted ?z_min ?z_max ?z_all ?z_dict ?z_gcd ?z_LETTERS ?aC_WorthError ?xC_WorthError ?rC_WorthError ?sa_WorthError ?eC_WorthError ?tC_WorthError ?kC_WorthError ?nv_WorthError ?ga_WorthError ?gg_WorthError ?hd_WorthError ?ha_WorthError ?hm_WorthError ?iI_WorthError ?aC_InvalidNumber ?xC_InvalidNumber ?rC_InvalidNumber ?sa_InvalidNumber ?eC_InvalidNumber ?tC_InvalidNumber ?kC_InvalidNumber ?nv_InvalidNumber ?ga_InvalidNumber ?gg_InvalidNumber ?hd_InvalidNumber ?ha_InvalidNumber ?hm_InvalidNumber ?iI_InvalidNumber ?aC_InvalidSigns ?xC_InvalidSigns ?rC_InvalidSigns ?sa_InvalidSigns ?eC_InvalidSigns ?tC_InvalidSigns ?kC_InvalidSigns ?nv_InvalidSigns ?ga_InvalidSigns ?gg_InvalidSigns ?hd_InvalidSigns ?ha_InvalidSigns ?hm_InvalidSigns ?iI_InvalidSigns ?aC_InvalidNote ?xC_InvalidNote ?rC_InvalidNote ?sa_InvalidNote ?eC_InvalidNote ?tC_InvalidNote ?kC_InvalidNote ?nv_InvalidNote ?ga_InvalidNote ?gg_InvalidNote ?hd_InvalidNote ?ha_InvalidNote ?hm_InvalidNote ?iI_InvalidNote ?hn ?ht ?tI ?lI ?cI ?kI ?vV
    (case a_is_number => k_is)
    (case l_is_number => k_is)
    (case q_is_number => k_is)
    (case k_is_number => k_is)
    (case a_checked_signs => k_is)
    (case l_checked_signs => k_is)
    (case q_checked_signs => k_is)
    (case k_checked_signs => k_is)
    (case a_messages_of => k_is)
    (case l_messages_of => k_is)
    (case q_messages_of => k_is)
    (case k_messages_of => k_is)
    (case a_messages_below => k_is)
    (case l_messages_below => k_is)
    (case q_messages_below => k_is)
    (case k_messages_below => k_is)
    (case a_checked_size => k_is)
    (case l_checked_size => k_is)
    (case q_checked_size => k_is)
    (case k_checked_size => k_is)
    (case a_checked_answers => k_is)
    (case l_checked_answers => k_is)
    (case q_checked_answers => k_is)
    (case k_checked_answers => k_is)
    (case a_asked => k_is)
    (case l_asked => k_is)
    (case q_asked => k_is)
    (case k_asked => k_is)
    (case a_next_message => k_is)
    (case l_next_message => k_is)
    (case q_next_message => k_is)
    (case k_next_message => k_is)
    (case a__law_well => k_is)
    (case l__law_well => k_is)
    (case q__law_well => k_is)
    (case k__law_well => k_is)
    (case a__law_draw => k_is)
    (case l__law_draw => k_is)
    (case q__law_draw => k_is)
    (case k__law_draw => k_is)
    (case a__law_letters => k_is)
    (case l__law_letters => k_is)
    (case q__law_letters => k_is)
    (case k__law_letters => k_is)
    (case a__law_messages => k_is)
    (case l__law_messages => k_is)
    (case q__law_messages => k_is)
    (case k__law_messages => k_is)
    (case a__law_order => k_is)
    (case l__law_order => k_is)
    (case q__law_order => k_is)
    (case k__law_order => k_is)
    (case a__law_some => k_is)
    (case l__law_some => k_is)
    (case q__law_some => k_is)
    (case k__law_some => k_is)
    (case a__law_longer => k_is)
    (case l__law_longer => k_is)
    (case q__law_longer => k_is)
    (case k__law_longer => k_is)
    (case a__law_number => k_is)
    (case l__law_number => k_is)
    (case q__law_number => k_is)
    (case k__law_number => k_is)
    (case a__law_listed => k_is)
    (case l__law_listed => k_is)
    (case q__law_listed => k_is)
    (case k__law_listed => k_is)
    (case a__law_next => k_is)
    (case l__law_next => k_is)
    (case q__law_next => k_is)
    (case k__law_next => k_is)
    (case a__law_nexts => k_is)
    (case l__law_nexts => k_is)
    (case q__law_nexts => k_is)
    (case k__law_nexts => k_is)
    (case a_law => k_is)
    (case l_law => k_is)
    (case q_law => k_is)
    (case k_law => k_is)
    (case z_abs => k_is)
    (case z_int => k_is)
    (case z_isinstance => k_is)
    (case z_list => k_is)
    (case z_len => k_is)
    (case z_str => k_is)
    (case z_range => k_is)
    (case z_ValueError => k_is)
    (case z_sorted => k_is)
    (case z_min => k_is)
    (case z_max => k_is)
    (case z_all => k_is)
    (case z_dict => k_is)
    (case z_gcd => k_is)
    (case z_LETTERS => k_is)
    (case aC_WorthError => k_is)
    (case xC_WorthError => k_is)
    (case rC_WorthError => decide +kernel)
    (case sa_WorthError => k_is)
    (case eC_WorthError => k_is)
    (case tC_WorthError => k_is)
    (case kC_WorthError => k_is)
    (case nv_WorthError => k_is)
    (case ga_WorthError => k_is)
    (case gg_WorthError => k_is)
    (case hd_WorthError => k_is)
    (case ha_WorthError => k_is)
    (case hm_WorthError => k_is)
    (case iI_WorthError => k_is)
    (case aC_InvalidNumber => k_is)
    (case xC_InvalidNumber => k_is)
    (case rC_InvalidNumber => decide +kernel)
    (case sa_InvalidNumber => k_is)
    (case eC_InvalidNumber => k_is)
    (case tC_InvalidNumber => k_is)
    (case kC_InvalidNumber => k_is)
    (case nv_InvalidNumber => k_is)
    (case ga_InvalidNumber => k_is)
    (case gg_InvalidNumber => k_is)
    (case hd_InvalidNumber => k_is)
    (case ha_InvalidNumber => k_is)
    (case hm_InvalidNumber => k_is)
    (case iI_InvalidNumber => k_is)
    (case aC_InvalidSigns => k_is)
    (case xC_InvalidSigns => k_is)
    (case rC_InvalidSigns => decide +kernel)
    (case sa_InvalidSigns => k_is)
    (case eC_InvalidSigns => k_is)
    (case tC_InvalidSigns => k_is)
    (case kC_InvalidSigns => k_is)
    (case nv_InvalidSigns => k_is)
    (case ga_InvalidSigns => k_is)
    (case gg_InvalidSigns => k_is)
    (case hd_InvalidSigns => k_is)
    (case ha_InvalidSigns => k_is)
    (case hm_InvalidSigns => k_is)
    (case iI_InvalidSigns => k_is)
    (case aC_InvalidNote => k_is)
    (case xC_InvalidNote => k_is)
    (case rC_InvalidNote => decide +kernel)
    (case sa_InvalidNote => k_is)
    (case eC_InvalidNote => k_is)
    (case tC_InvalidNote => k_is)
    (case kC_InvalidNote => k_is)
    (case nv_InvalidNote => k_is)
    (case ga_InvalidNote => k_is)
    (case gg_InvalidNote => k_is)
    (case hd_InvalidNote => k_is)
    (case ha_InvalidNote => k_is)
    (case hm_InvalidNote => k_is)
    (case iI_InvalidNote => k_is)
    (case hn => k_is)
    (case ht => k_is)
    (case tI => k_is)
    (case lI => k_is)
    (case cI => k_is)
    (case kI => k_is)
    (case vV => k_is)
