import PyProof.Rows.All
import Wide.All
import OpenK.AllK
import Wide.FinOn
import HandS.ForMost
import HandS.ForExc
import HandS.Walk
import HandS.Wide
import HandS.Gcd
import HandS.IsInst
import HandS.Zip
import HandS.ExcInit
import HandS.Style
import HandS.ExcIs
import HandS.ExcField
import HandS.ExcSuper
import KE.KExcIs
import HandS.More
import HandS.EndBits
import HandS.MakeKwOnly
import HandS.Property
import HandS.DictComp
import HandS.Star
import HandS.Flt
import PyProof.StrBlock2
import KE.SortData
import PyProof.ListStr
import HandS.Comp
import KE.KDictList
import HandS.Iter
import HandS.Conv
import HandS.FStr
import HandS.Text
import KE.IntTextLaws
import PySem.Challenge.RW_textworths_k85_whole_patterns_there_and
set_option Elab.async false
set_option linter.all false
set_option maxRecDepth 100000
set_option maxHeartbeats 2000001
namespace DL
open PySem PySem.Spec PyProof.Rows L2 RZ
/-- data as a whole: a value with all that hangs on it; .at a: the object at a, that may change -/
inductive D where
  | non | bl (b : Bool) | int (i : Int) | str (x : Str) | ty (n : String)
  | tup (ds : List D) | lst (ds : List D) | frz (ds : List D)
  | dct (ks : List Key) (ds : List D)
  | obj (C : Addr) (fs : List Str) (ds : List D)
  | exc (C : Addr) (d : D)
  | at (a : Addr)
/-- what may change -/
inductive MO where
  | lst (ds : List D) | dct (ks : List Key) (ds : List D) | obj (C : Addr) (fs : List Str) (ds : List D)
abbrev Mu := Addr → Option MO
abbrev Ro := List (Option D)
def mput (μ : Mu) (a : Addr) (o : MO) : Mu := fun b => if b = a then some o else μ b
def mcut (μ : Mu) (a : Addr) : Mu := fun b => if b = a then none else μ b
theorem mput_same {μ : Mu} {a : Addr} {o : MO} : mput μ a o a = some o := by unfold mput; rw [if_pos rfl]
theorem mput_ne {μ : Mu} {a b : Addr} {o : MO} (h : b ≠ a) : mput μ a o b = μ b := by unfold mput; rw [if_neg h]
theorem mcut_same {μ : Mu} {a : Addr} : mcut μ a a = none := by unfold mcut; rw [if_pos rfl]
theorem mcut_ne {μ : Mu} {a b : Addr} (h : b ≠ a) : mcut μ a b = μ b := by unfold mcut; rw [if_neg h]
theorem mput_none {μ : Mu} {a b : Addr} {o : MO} (h : mput μ a o b = none) : b ≠ a ∧ μ b = none := by
  by_cases e : b = a
  · rw [e, mput_same] at h; cases h
  · rw [mput_ne e] at h; exact ⟨e, h⟩

/-- an exception's object -/
def ExT (a C dx : Addr) : HO := .ext fun h => ∃ (oe : Obj) (vs : Array Value), h.get? a = some oe ∧ oe.cls = .ref C ∧ oe.dict = some dx ∧ oe.data = .fields vs

/-- something of the written part, or something tracked that stays as it is -/
def StS (K : PySem.W.Frag) (μ : Mu) (H : Hp) (p : Addr) (vs : List V) : Prop := (μ p = none ∧ Rd H p (.lst vs)) ∨
    ∃ (o : Obj) (its : Array Value) (n : Nat), K.lookup p = some o ∧ o.cls = .type "list" ∧ o.dict = none ∧ o.data = .seq its n ∧ its.size ≤ sizeLine ∧ Vals vs its.toList
def StT (K : PySem.W.Frag) (μ : Mu) (H : Hp) (p : Addr) (vs : List V) : Prop := (μ p = none ∧ Rd H p (.tup vs)) ∨
    ∃ (o : Obj) (its : Array Value) (n : Nat), K.lookup p = some o ∧ o.cls = .type "tuple" ∧ o.data = .seq its n ∧ its.size ≤ sizeLine ∧ Vals vs its.toList
theorem StS.sq {K : PySem.W.Frag} {μ : Mu} {H : Hp} {p : Addr} {vs : List V} (h : StS K μ H p vs) : SqL K H p vs := by
  rcases h with h | h
  · exact .inl h.2
  · exact .inr h
theorem StT.sq {K : PySem.W.Frag} {μ : Mu} {H : Hp} {p : Addr} {vs : List V} (h : StT K μ H p vs) : SqT K H p vs := by
  rcases h with h | h
  · exact .inl h.2
  · exact .inr h

mutual
/-- the value v is the data d -/
def Den (K : PySem.W.Frag) (μ : Mu) (H : Hp) : D → V → Prop
  | .non, v => v = .non
  | .bl b, v => v = .bl b
  | .int i, v => v = .int i
  | .str x, v => v = .str x
  | .ty n, v => v = .ty n
  | .at a, v => v = .ref a
  | .tup ds, v => ∃ p vs, v = .ref p ∧ StT K μ H p vs ∧ DenL K μ H ds vs
  | .lst ds, v => ∃ p vs, v = .ref p ∧ (μ p = none ∧ H p = some (.lst vs)) ∧ DenL K μ H ds vs
  | .frz ds, v => ∃ p vs, v = .ref p ∧ StS K μ H p vs ∧ DenL K μ H ds vs
  | .dct ks ds, v => ∃ p vs, v = .ref p ∧ (μ p = none ∧ H p = some (.dK (ks.zip vs))) ∧ ks.length = vs.length ∧ DenL K μ H ds vs
  | .obj C fs ds, v => ∃ p dx vs, v = .ref p ∧ (μ p = none ∧ H p = some (.ins C dx (fs.zip vs))) ∧ fs.length = vs.length ∧ DenL K μ H ds vs
  | .exc C d, v => ∃ p dx w, v = .ref p ∧ (μ p = none ∧ H p = some (ExT p C dx)) ∧ (μ dx = none ∧ H dx = some (.xd [(("value" : Str), w)])) ∧ Den K μ H d w
def DenL (K : PySem.W.Frag) (μ : Mu) (H : Hp) : List D → List V → Prop
  | [], vs => vs = []
  | d :: ds, vs => ∃ w ws, vs = w :: ws ∧ Den K μ H d w ∧ DenL K μ H ds ws
end

/-- what stays: all that is tracked and may not change -/
def Grow (μ : Mu) (H : Hp) (μ' : Mu) (H' : Hp) : Prop := ∀ b o, μ b = none → H b = some o → μ' b = none ∧ H' b = some o
theorem Grow.refl (μ : Mu) (H : Hp) : Grow μ H μ H := fun _ _ h e => ⟨h, e⟩
theorem Grow.trans {μ μ1 μ2 : Mu} {H H1 H2 : Hp} (a : Grow μ H μ1 H1) (b : Grow μ1 H1 μ2 H2) : Grow μ H μ2 H2 := fun p o h e => by
  obtain ⟨h1, e1⟩ := a p o h e
  exact b p o h1 e1
theorem Grow.rd {μ μ' : Mu} {H H' : Hp} (g : Grow μ H μ' H') {p : Addr} {u : HO} (h : μ p = none) (r : Rd H p u) : μ' p = none ∧ Rd H' p u := by
  rcases r with r | ⟨o, r⟩
  · exact ⟨(g p _ h r).1, .inl (g p _ h r).2⟩
  · exact ⟨(g p _ h r).1, .inr ⟨o, (g p _ h r).2⟩⟩
theorem Grow.stS {K : PySem.W.Frag} {μ μ' : Mu} {H H' : Hp} (g : Grow μ H μ' H') {p : Addr} {vs : List V} (h : StS K μ H p vs) : StS K μ' H' p vs := by
  rcases h with ⟨a, b⟩ | h
  · exact .inl (g.rd a b)
  · exact .inr h
theorem Grow.stT {K : PySem.W.Frag} {μ μ' : Mu} {H H' : Hp} (g : Grow μ H μ' H') {p : Addr} {vs : List V} (h : StT K μ H p vs) : StT K μ' H' p vs := by
  rcases h with ⟨a, b⟩ | h
  · exact .inl (g.rd a b)
  · exact .inr h
mutual
theorem Den.grow {K : PySem.W.Frag} {μ μ' : Mu} {H H' : Hp} (g : Grow μ H μ' H') : ∀ (d : D) (v : V), Den K μ H d v → Den K μ' H' d v
  | .non, v, h => by unfold Den at h ⊢; exact h
  | .bl b, v, h => by unfold Den at h ⊢; exact h
  | .int i, v, h => by unfold Den at h ⊢; exact h
  | .str x, v, h => by unfold Den at h ⊢; exact h
  | .ty n, v, h => by unfold Den at h ⊢; exact h
  | .at a, v, h => by unfold Den at h ⊢; exact h
  | .tup ds, v, h => by
    unfold Den at h ⊢
    obtain ⟨p, vs, e, s, l⟩ := h
    exact ⟨p, vs, e, g.stT s, DenL.grow g ds vs l⟩
  | .lst ds, v, h => by
    unfold Den at h ⊢
    obtain ⟨p, vs, e, s, l⟩ := h
    exact ⟨p, vs, e, g p _ s.1 s.2, DenL.grow g ds vs l⟩
  | .frz ds, v, h => by
    unfold Den at h ⊢
    obtain ⟨p, vs, e, s, l⟩ := h
    exact ⟨p, vs, e, g.stS s, DenL.grow g ds vs l⟩
  | .dct ks ds, v, h => by
    unfold Den at h ⊢
    obtain ⟨p, vs, e, s, n, l⟩ := h
    exact ⟨p, vs, e, g p _ s.1 s.2, n, DenL.grow g ds vs l⟩
  | .obj C fs ds, v, h => by
    unfold Den at h ⊢
    obtain ⟨p, dx, vs, e, s, n, l⟩ := h
    exact ⟨p, dx, vs, e, g p _ s.1 s.2, n, DenL.grow g ds vs l⟩
  | .exc C d, v, h => by
    unfold Den at h ⊢
    obtain ⟨p, dx, w, e, s, t, l⟩ := h
    exact ⟨p, dx, w, e, g p _ s.1 s.2, g dx _ t.1 t.2, Den.grow g d w l⟩
theorem DenL.grow {K : PySem.W.Frag} {μ μ' : Mu} {H H' : Hp} (g : Grow μ H μ' H') : ∀ (ds : List D) (vs : List V), DenL K μ H ds vs → DenL K μ' H' ds vs
  | [], vs, h => by unfold DenL at h ⊢; exact h
  | d :: ds, vs, h => by
    unfold DenL at h ⊢
    obtain ⟨w, ws, e, a, b⟩ := h
    exact ⟨w, ws, e, Den.grow g d w a, DenL.grow g ds ws b⟩
end
/-- fewer things that may change -/
def Less (μ μ' : Mu) : Prop := ∀ b, μ b = none → μ' b = none
mutual
theorem Den.less {K : PySem.W.Frag} {μ μ' : Mu} {H : Hp} (g : Less μ μ') : ∀ (d : D) (v : V), Den K μ H d v → Den K μ' H d v
  | .non, v, h => by unfold Den at h ⊢; exact h
  | .bl b, v, h => by unfold Den at h ⊢; exact h
  | .int i, v, h => by unfold Den at h ⊢; exact h
  | .str x, v, h => by unfold Den at h ⊢; exact h
  | .ty n, v, h => by unfold Den at h ⊢; exact h
  | .at a, v, h => by unfold Den at h ⊢; exact h
  | .tup ds, v, h => by
    unfold Den at h ⊢
    obtain ⟨p, vs, e, s, l⟩ := h
    refine ⟨p, vs, e, ?_, DenL.less g ds vs l⟩
    rcases s with ⟨a, b⟩ | s
    · exact .inl ⟨g _ a, b⟩
    · exact .inr s
  | .lst ds, v, h => by
    unfold Den at h ⊢
    obtain ⟨p, vs, e, s, l⟩ := h
    exact ⟨p, vs, e, ⟨g _ s.1, s.2⟩, DenL.less g ds vs l⟩
  | .frz ds, v, h => by
    unfold Den at h ⊢
    obtain ⟨p, vs, e, s, l⟩ := h
    refine ⟨p, vs, e, ?_, DenL.less g ds vs l⟩
    rcases s with ⟨a, b⟩ | s
    · exact .inl ⟨g _ a, b⟩
    · exact .inr s
  | .dct ks ds, v, h => by
    unfold Den at h ⊢
    obtain ⟨p, vs, e, s, n, l⟩ := h
    exact ⟨p, vs, e, ⟨g _ s.1, s.2⟩, n, DenL.less g ds vs l⟩
  | .obj C fs ds, v, h => by
    unfold Den at h ⊢
    obtain ⟨p, dx, vs, e, s, n, l⟩ := h
    exact ⟨p, dx, vs, e, ⟨g _ s.1, s.2⟩, n, DenL.less g ds vs l⟩
  | .exc C d, v, h => by
    unfold Den at h ⊢
    obtain ⟨p, dx, w, e, s, t, l⟩ := h
    exact ⟨p, dx, w, e, ⟨g _ s.1, s.2⟩, ⟨g _ t.1, t.2⟩, Den.less g d w l⟩
theorem DenL.less {K : PySem.W.Frag} {μ μ' : Mu} {H : Hp} (g : Less μ μ') : ∀ (ds : List D) (vs : List V), DenL K μ H ds vs → DenL K μ' H ds vs
  | [], vs, h => by unfold DenL at h ⊢; exact h
  | d :: ds, vs, h => by
    unfold DenL at h ⊢
    obtain ⟨w, ws, e, a, b⟩ := h
    exact ⟨w, ws, e, Den.less g d w a, DenL.less g ds ws b⟩
end

/-- the object at a is what the store says -/
def MoIs (K : PySem.W.Frag) (μ : Mu) (H : Hp) (a : Addr) : MO → Prop
  | .lst ds => ∃ vs, H a = some (.lst vs) ∧ DenL K μ H ds vs
  | .dct ks ds => ∃ vs, H a = some (.dK (ks.zip vs)) ∧ ks.length = vs.length ∧ DenL K μ H ds vs
  | .obj C fs ds => ∃ dx vs, H a = some (.ins C dx (fs.zip vs)) ∧ fs.length = vs.length ∧ DenL K μ H ds vs
def Mem (K : PySem.W.Frag) (μ : Mu) (H : Hp) : Prop := ∀ a o, μ a = some o → MoIs K μ H a o
/-- the slots -/
def EnvIs (K : PySem.W.Frag) (μ : Mu) (H : Hp) (ρ : Ro) (σ : L2.St) : Prop := σ.length = ρ.length ∧ ∀ (i : Nat) (d : D), ρ[i]? = some (some d) → ∃ v, σ[i]? = some (some v) ∧ Den K μ H d v

section
variable {K : PySem.W.Frag} {μ μ' : Mu} {H H' : Hp} {a : Addr} {ρ : Ro} {σ : L2.St}
theorem Mem.has (m : Mem K μ H) {o : MO} (h : μ a = some o) : ∃ u, H a = some u := by
  have q := m a o h
  cases o with
  | lst ds => obtain ⟨vs, e, _⟩ := q; exact ⟨_, e⟩
  | dct ks ds => obtain ⟨vs, e, _⟩ := q; exact ⟨_, e⟩
  | obj C fs ds => obtain ⟨dx, vs, e, _⟩ := q; exact ⟨_, e⟩
theorem Mem.free (m : Mem K μ H) (h : H a = none) : μ a = none := by
  cases e : μ a with
  | none => rfl
  | some o =>
    obtain ⟨u, q⟩ := m.has e
    rw [h] at q; cases q
theorem MoIs.grow (g : Grow μ H μ' H') {o : MO} (h : MoIs K μ H a o) (e : H' a = H a) : MoIs K μ' H' a o := by
  cases o with
  | lst ds => obtain ⟨vs, q, l⟩ := h; exact ⟨vs, e.trans q, DenL.grow g _ _ l⟩
  | dct ks ds => obtain ⟨vs, q, n, l⟩ := h; exact ⟨vs, e.trans q, n, DenL.grow g _ _ l⟩
  | obj C fs ds => obtain ⟨dx, vs, q, n, l⟩ := h; exact ⟨dx, vs, e.trans q, n, DenL.grow g _ _ l⟩
/-- a new object that is not to change -/
theorem Grow.new {o : HO} (h : H a = none) : Grow μ H μ (upd H a o) := fun b u hb e => ⟨hb, by rw [upd_ne (ne_of_none e h)]; exact e⟩
theorem Mem.new {o : HO} (m : Mem K μ H) (h : H a = none) : Mem K μ (upd H a o) := fun b u e => by
  obtain ⟨w, hw⟩ := m.has e
  exact (m b u e).grow (Grow.new h) (upd_ne (ne_of_none hw h))
/-- a new object that may change -/
theorem Grow.newM {o : HO} {mo : MO} (h : H a = none) : Grow μ H (mput μ a mo) (upd H a o) := fun b u hb e => by
  have ne := ne_of_none e h
  exact ⟨by rw [mput_ne ne]; exact hb, by rw [upd_ne ne]; exact e⟩
theorem Mem.newM {o : HO} {mo : MO} (m : Mem K μ H) (h : H a = none) (n : MoIs K (mput μ a mo) (upd H a o) a mo) : Mem K (mput μ a mo) (upd H a o) := fun b u e => by
  by_cases hb : b = a
  · subst hb
    rw [mput_same] at e; cases e; exact n
  · rw [mput_ne hb] at e
    obtain ⟨w, hw⟩ := m.has e
    exact (m b u e).grow (Grow.newM h) (upd_ne hb)
/-- something that may change does -/
theorem Grow.wr {o : HO} {mo mo' : MO} (h : μ a = some mo) : Grow μ H (mput μ a mo') (upd H a o) := fun b u hb e => by
  have ne : b ≠ a := fun z => by rw [z, h] at hb; cases hb
  exact ⟨by rw [mput_ne ne]; exact hb, by rw [upd_ne ne]; exact e⟩
theorem Mem.wr {o : HO} {mo mo' : MO} (m : Mem K μ H) (h : μ a = some mo) (n : MoIs K (mput μ a mo') (upd H a o) a mo') : Mem K (mput μ a mo') (upd H a o) := fun b u e => by
  by_cases hb : b = a
  · subst hb
    rw [mput_same] at e; cases e; exact n
  · rw [mput_ne hb] at e
    exact (m b u e).grow (Grow.wr h) (upd_ne hb)
theorem Less.cut : Less μ (mcut μ a) := fun b h => by
  by_cases e : b = a
  · rw [e, mcut_same]
  · rw [mcut_ne e]; exact h
theorem MoIs.less (g : Less μ μ') {o : MO} (h : MoIs K μ H a o) : MoIs K μ' H a o := by
  cases o with
  | lst ds => obtain ⟨vs, q, l⟩ := h; exact ⟨vs, q, DenL.less g _ _ l⟩
  | dct ks ds => obtain ⟨vs, q, n, l⟩ := h; exact ⟨vs, q, n, DenL.less g _ _ l⟩
  | obj C fs ds => obtain ⟨dx, vs, q, n, l⟩ := h; exact ⟨dx, vs, q, n, DenL.less g _ _ l⟩
theorem Mem.less (m : Mem K μ H) (g : Less μ μ') (h : ∀ b o, μ' b = some o → μ b = some o) : Mem K μ' H := fun b o e => (m b o (h b o e)).less g
theorem Mem.cut (m : Mem K μ H) : Mem K (mcut μ a) H := m.less Less.cut fun b o e => by
  by_cases h : b = a
  · rw [h, mcut_same] at e; cases e
  · rw [mcut_ne h] at e; exact e
theorem Grow.cut : Grow μ H (mcut μ a) H := fun b o h e => ⟨Less.cut b h, e⟩
/-- forgetting in the store: a Grow ahead of it stands -/
theorem EnvIs.grow (g : Grow μ H μ' H') (h : EnvIs K μ H ρ σ) : EnvIs K μ' H' ρ σ := ⟨h.1, fun i d e => by
  obtain ⟨v, q, r⟩ := h.2 i d e
  exact ⟨v, q, Den.grow g _ _ r⟩⟩
theorem EnvIs.less (g : Less μ μ') (h : EnvIs K μ H ρ σ) : EnvIs K μ' H ρ σ := ⟨h.1, fun i d e => by
  obtain ⟨v, q, r⟩ := h.2 i d e
  exact ⟨v, q, Den.less g _ _ r⟩⟩
theorem EnvIs.set (h : EnvIs K μ H ρ σ) {d : D} {v : V} (r : Den K μ H d v) (i : Nat) : EnvIs K μ H (ρ.set i (some d)) (σ.set i (some v)) := ⟨by rw [List.length_set, List.length_set]; exact h.1, fun j e q => by
  by_cases hj : i = j
  · subst hj
    by_cases hl : i < ρ.length
    · rw [List.getElem?_set_self hl] at q
      cases q
      exact ⟨v, by rw [List.getElem?_set_self (by rw [h.1]; exact hl)], r⟩
    · rw [List.getElem?_eq_none (by rw [List.length_set]; omega)] at q
      cases q
  · rw [List.getElem?_set_ne hj] at q ⊢
    exact h.2 j e q⟩
theorem EnvIs.unset (h : EnvIs K μ H ρ σ) (i : Nat) : EnvIs K μ H (ρ.set i none) (σ.set i none) := ⟨by rw [List.length_set, List.length_set]; exact h.1, fun j e q => by
  by_cases hj : i = j
  · subst hj
    by_cases hl : i < ρ.length
    · rw [List.getElem?_set_self hl] at q
      cases q
    · rw [List.getElem?_eq_none (by rw [List.length_set]; omega)] at q
      cases q
  · rw [List.getElem?_set_ne hj] at q ⊢
    exact h.2 j e q⟩
theorem DenL.length : ∀ {ds : List D} {vs : List V}, DenL K μ H ds vs → ds.length = vs.length
  | [], vs, h => by unfold DenL at h; rw [h] <;> rfl
  | d :: ds, vs, h => by
    unfold DenL at h
    obtain ⟨w, ws, e, _, b⟩ := h
    rw [e, List.length_cons, List.length_cons, DenL.length b]
theorem DenL.get : ∀ {ds : List D} {vs : List V} {i : Nat} {d : D}, DenL K μ H ds vs → ds[i]? = some d → ∃ v, vs[i]? = some v ∧ Den K μ H d v
  | [], vs, i, d, h, e => by simp at e
  | x :: ds, vs, 0, d, h, e => by
    unfold DenL at h
    obtain ⟨w, ws, q, a, b⟩ := h
    have e' : x = d := by simpa using e
    subst e'
    exact ⟨w, by rw [q]; rfl, a⟩
  | x :: ds, vs, i + 1, d, h, e => by
    unfold DenL at h
    obtain ⟨w, ws, q, a, b⟩ := h
    obtain ⟨v, h1, h2⟩ := DenL.get (i := i) (d := d) b (by simpa using e)
    exact ⟨v, by rw [q]; simpa using h1, h2⟩
theorem DenL.at : ∀ {ds : List D} {vs : List V} {i : Nat} {v : V}, DenL K μ H ds vs → vs[i]? = some v → ∃ d, ds[i]? = some d ∧ Den K μ H d v := fun {ds vs i v} h e => by
  have hl := h.length
  have hi : i < vs.length := (List.getElem?_eq_some_iff.mp e).1
  obtain ⟨v', h1, h2⟩ := h.get (i := i) (d := ds[i]'(by omega)) (by simp)
  rw [e] at h1
  cases h1
  exact ⟨_, List.getElem?_eq_getElem (by omega), h2⟩
theorem DenL.nil : DenL K μ H [] [] := by unfold DenL; rfl
theorem DenL.cons {d : D} {ds : List D} {v : V} {vs : List V} (a : Den K μ H d v) (b : DenL K μ H ds vs) : DenL K μ H (d :: ds) (v :: vs) := by
  unfold DenL; exact ⟨v, vs, rfl, a, b⟩
theorem DenL.append : ∀ {ds es : List D} {vs ws : List V}, DenL K μ H ds vs → DenL K μ H es ws → DenL K μ H (ds ++ es) (vs ++ ws)
  | [], es, vs, ws, h, k => by unfold DenL at h; rw [h]; exact k
  | d :: ds, es, vs, ws, h, k => by
    unfold DenL at h
    obtain ⟨w, us, e, a, b⟩ := h
    rw [e]
    exact DenL.cons a (DenL.append b k)
theorem DenL.set {d : D} {v : V} (r : Den K μ H d v) : ∀ {ds : List D} {vs : List V} (i : Nat), DenL K μ H ds vs → DenL K μ H (ds.set i d) (vs.set i v)
  | [], vs, i, h => by unfold DenL at h; rw [h]; exact DenL.nil
  | x :: ds, vs, 0, h => by
    unfold DenL at h
    obtain ⟨w, us, e, a, b⟩ := h
    rw [e]; exact DenL.cons r b
  | x :: ds, vs, i + 1, h => by
    unfold DenL at h
    obtain ⟨w, us, e, a, b⟩ := h
    rw [e]; exact DenL.cons a (DenL.set r i b)
end
abbrev XD := Mu → Ro → Addr → D → Prop
abbrev DP := Mu → D → Prop
/-- the wish about exceptions, over data -/
def LiftX (K : PySem.W.Frag) (μ : Mu) (H : Hp) (X : XD) (W : WX) : Prop := ∀ μ' ρ' C d dx v σ' H', X μ' ρ' C d → Grow μ H μ' H' → Mem K μ' H' → EnvIs K μ' H' ρ' σ' → μ' dx = none → H' dx = some (.xd [(("value" : Str), v)]) → Den K μ' H' d v → W (.ref C) (some dx) σ' H'
def EvX (K : PySem.W.Frag) (W : WX) (X : XD) (μ : Mu) (ρ : Ro) (te : TE) (Φ : DP) : Prop := ∀ (σ : L2.St) (H : Hp) (Q : VK), Mem K μ H → EnvIs K μ H ρ σ → LiftX K μ H X W → (∀ μ' d v H', Φ μ' d → Grow μ H μ' H' → Mem K μ' H' → Den K μ' H' d v → Q v H') → te σ H Q
def EvB (K : PySem.W.Frag) (W : WX) (X : XD) (μ : Mu) (ρ : Ro) (tt : TT) (Φ : Mu → Bool → Prop) : Prop := ∀ (σ : L2.St) (H : Hp) (Q : Bool → Hp → Prop), Mem K μ H → EnvIs K μ H ρ σ → LiftX K μ H X W → (∀ μ' b H', Φ μ' b → Grow μ H μ' H' → Mem K μ' H' → Q b H') → tt σ H Q
def EvL (K : PySem.W.Frag) (W : WX) (X : XD) (μ : Mu) (ρ : Ro) (ta : TA) (Φ : Mu → List D → Prop) : Prop := ∀ (σ : L2.St) (H : Hp) (Q : List V → Hp → Prop), Mem K μ H → EnvIs K μ H ρ σ → LiftX K μ H X W → (∀ μ' ds vs H', Φ μ' ds → Grow μ H μ' H' → Mem K μ' H' → DenL K μ' H' ds vs → Q vs H') → ta σ H Q
/-- a two-place operation, a call of a built-in, over data -/
def OpX (K : PySem.W.Frag) (r : R2) (μ : Mu) (x y : D) (Φ : DP) : Prop := ∀ (H : Hp) (v w : V) (Q : VK), Mem K μ H → Den K μ H x v → Den K μ H y w → (∀ μ' d u H', Φ μ' d → Grow μ H μ' H' → Mem K μ' H' → Den K μ' H' d u → Q u H') → r v w H Q
def UnX (K : PySem.W.Frag) (r : V → Hp → VK → Prop) (μ : Mu) (x : D) (Φ : DP) : Prop := ∀ (H : Hp) (v : V) (Q : VK), Mem K μ H → Den K μ H x v → (∀ μ' d u H', Φ μ' d → Grow μ H μ' H' → Mem K μ' H' → Den K μ' H' d u → Q u H') → r v H Q
def CaX (K : PySem.W.Frag) (r : List V → Hp → VK → Prop) (μ : Mu) (xs : List D) (Φ : DP) : Prop := ∀ (H : Hp) (vs : List V) (Q : VK), Mem K μ H → DenL K μ H xs vs → (∀ μ' d u H', Φ μ' d → Grow μ H μ' H' → Mem K μ' H' → Den K μ' H' d u → Q u H') → r vs H Q
/-- what is wanted behind a statement, over data -/
structure ED where
  nx : Mu → Ro → Prop
  rt : DP
  bk : Mu → Ro → Prop := fun _ _ => False
  ct : Mu → Ro → Prop := fun _ _ => False
structure Lift (K : PySem.W.Frag) (μ : Mu) (H : Hp) (E : ED) (D : Ends) : Prop where
  nx : ∀ μ' ρ' σ' H', E.nx μ' ρ' → Grow μ H μ' H' → Mem K μ' H' → EnvIs K μ' H' ρ' σ' → D.nx σ' H'
  rt : ∀ μ' d v H', E.rt μ' d → Grow μ H μ' H' → Mem K μ' H' → Den K μ' H' d v → D.rt v H'
  bk : ∀ μ' ρ' σ' H', E.bk μ' ρ' → Grow μ H μ' H' → Mem K μ' H' → EnvIs K μ' H' ρ' σ' → D.bk σ' H'
  ct : ∀ μ' ρ' σ' H', E.ct μ' ρ' → Grow μ H μ' H' → Mem K μ' H' → EnvIs K μ' H' ρ' σ' → D.ct σ' H'
def GS (K : PySem.W.Frag) (W : WX) (X : XD) (μ : Mu) (ρ : Ro) (t : TS) (E : ED) : Prop := ∀ (σ : L2.St) (H : Hp) (Dd : Ends), Mem K μ H → EnvIs K μ H ρ σ → LiftX K μ H X W → Lift K μ H E Dd → t Dd σ H
/-- a target -/
def TgX (K : PySem.W.Frag) (W : WX) (X : XD) (μ : Mu) (ρ : Ro) (g : TG) (d : D) (Φ : Mu → Ro → Prop) : Prop := ∀ (σ : L2.St) (H : Hp) (v : V) (Q : L2.St → Hp → Prop), Mem K μ H → EnvIs K μ H ρ σ → LiftX K μ H X W → Den K μ H d v → (∀ μ' ρ' σ' H', Φ μ' ρ' → Grow μ H μ' H' → Mem K μ' H' → EnvIs K μ' H' ρ' σ' → Q σ' H') → g v σ H Q
def TgsX (K : PySem.W.Frag) (W : WX) (X : XD) (μ : Mu) (ρ : Ro) (g : TGs) (ds : List D) (Φ : Mu → Ro → Prop) : Prop := ∀ (σ : L2.St) (H : Hp) (vs : List V) (Q : L2.St → Hp → Prop), Mem K μ H → EnvIs K μ H ρ σ → LiftX K μ H X W → DenL K μ H ds vs → (∀ μ' ρ' σ' H', Φ μ' ρ' → Grow μ H μ' H' → Mem K μ' H' → EnvIs K μ' H' ρ' σ' → Q σ' H') → g vs σ H Q

section
variable {K : PySem.W.Frag} {W : WX} {X : XD} {μ μ' : Mu} {H H' : Hp} {ρ : Ro} {E : ED} {Dd : Ends} {ta tb te tx : TE} {tt tu : TT} {Φ : DP} {Ψ : Mu → Bool → Prop}
theorem LiftX.grow (l : LiftX K μ H X W) (g : Grow μ H μ' H') : LiftX K μ' H' X W := fun m r C d dx v s h x gr => l m r C d dx v s h x (g.trans gr)
theorem Lift.grow (l : Lift K μ H E Dd) (g : Grow μ H μ' H') : Lift K μ' H' E Dd :=
  ⟨fun m r s h x gr => l.nx m r s h x (g.trans gr), fun m r s h x gr => l.rt m r s h x (g.trans gr), fun m r s h x gr => l.bk m r s h x (g.trans gr), fun m r s h x gr => l.ct m r s h x (g.trans gr)⟩
/-! ### expressions -/
theorem evx_var {i : Nat} {d : D} (h : ρ[i]? = some (some d)) (q : Φ μ d) : EvX K W X μ ρ (tVar i) Φ := fun σ H Q m e _ k => by
  obtain ⟨v, h1, h2⟩ := e.2 i d h
  exact ⟨v, h1, k μ d v H q (Grow.refl _ _) m h2⟩
theorem evx_int {n : Int} (q : Φ μ (.int n)) : EvX K W X μ ρ (tC (.int n)) Φ := fun σ H Q m _ _ k => k μ _ _ H q (Grow.refl _ _) m (by unfold Den; rfl)
theorem evx_str {n : Str} (q : Φ μ (.str n)) : EvX K W X μ ρ (tC (.str n)) Φ := fun σ H Q m _ _ k => k μ _ _ H q (Grow.refl _ _) m (by unfold Den; rfl)
theorem evx_bl {n : Bool} (q : Φ μ (.bl n)) : EvX K W X μ ρ (tC (.bl n)) Φ := fun σ H Q m _ _ k => k μ _ _ H q (Grow.refl _ _) m (by unfold Den; rfl)
theorem evx_non (q : Φ μ .non) : EvX K W X μ ρ (tC .non) Φ := fun σ H Q m _ _ k => k μ _ _ H q (Grow.refl _ _) m (by unfold Den; rfl)
theorem evx_ty {n : String} (q : Φ μ (.ty n)) : EvX K W X μ ρ (tC (.ty n)) Φ := fun σ H Q m _ _ k => k μ _ _ H q (Grow.refl _ _) m (by unfold Den; rfl)
/-- the address of something of the module: a class, a def -/
theorem evx_at {a : Addr} (q : Φ μ (.at a)) : EvX K W X μ ρ (tC (.ref a)) Φ := fun σ H Q m _ _ k => k μ _ _ H q (Grow.refl _ _) m (by unfold Den; rfl)
theorem EvX.imp {Φ' : DP} (h : EvX K W X μ ρ te Φ) (i : ∀ m d, Φ m d → Φ' m d) : EvX K W X μ ρ te Φ' := fun σ H Q m e l k => h σ H Q m e l fun m' d v H' p => k m' d v H' (i m' d p)
theorem evx_op {r : R2} (h : EvX K W X μ ρ ta fun μ1 x => EvX K W X μ1 ρ tb fun μ2 y => OpX K r μ2 x y Φ) : EvX K W X μ ρ (tOp r ta tb) Φ := fun σ H Q m e l k =>
  h σ H _ m e l fun μ1 x v H1 h1 g1 m1 d1 => h1 σ H1 _ m1 (e.grow g1) (l.grow g1) fun μ2 y w H2 h2 g2 m2 d2 => h2 H2 v w Q m2 (Den.grow g2 _ _ d1) d2 fun μ' d u H' p g => k μ' d u H' p ((g1.trans g2).trans g)
theorem evx_un {r : V → Hp → VK → Prop} (h : EvX K W X μ ρ ta fun μ1 x => UnX K r μ1 x Φ) : EvX K W X μ ρ (tUn r ta) Φ := fun σ H Q m e l k =>
  h σ H _ m e l fun μ1 x v H1 h1 g1 m1 d1 => h1 H1 v Q m1 d1 fun μ' d u H' p g => k μ' d u H' p (g1.trans g)
theorem evl_nil {Φ : Mu → List D → Prop} (h : Φ μ []) : EvL K W X μ ρ tNil Φ := fun σ H Q m e l k => k μ [] [] H h (Grow.refl _ _) m DenL.nil
theorem evl_cons {tr : TA} {Φ : Mu → List D → Prop} (h : EvX K W X μ ρ te fun μ1 x => EvL K W X μ1 ρ tr fun μ2 ds => Φ μ2 (x :: ds)) : EvL K W X μ ρ (tCons te tr) Φ := fun σ H Q m e l k =>
  h σ H _ m e l fun μ1 x v H1 h1 g1 m1 d1 => h1 σ H1 _ m1 (e.grow g1) (l.grow g1) fun μ2 ds vs H2 h2 g2 m2 d2 => k μ2 _ _ H2 h2 (g1.trans g2) m2 (DenL.cons (Den.grow g2 _ _ d1) d2)
theorem evx_cb {r : List V → Hp → VK → Prop} {t : TA} (h : EvL K W X μ ρ t fun μ1 ds => CaX K r μ1 ds Φ) : EvX K W X μ ρ (tCB r t) Φ := fun σ H Q m e l k =>
  h σ H _ m e l fun μ1 ds vs H1 h1 g1 m1 d1 => h1 H1 vs Q m1 d1 fun μ' d u H' p g => k μ' d u H' p (g1.trans g)
/-! ### displays -/
theorem evx_tup {t : TA} (h : EvL K W X μ ρ t fun μ1 ds => ds.length ≤ 1000 ∧ Φ μ1 (.tup ds)) : EvX K W X μ ρ (tTup t) Φ := fun σ H Q m e l k =>
  h σ H _ m e l fun μ1 ds vs H1 h1 g1 m1 d1 => ⟨by rw [← d1.length]; exact Nat.le_trans h1.1 (by decide), fun p hp => k μ1 _ _ _ h1.2 (g1.trans (Grow.new hp)) (m1.new hp) (by
    unfold Den
    exact ⟨p, vs, rfl, .inl ⟨m1.free hp, .inl upd_same⟩, DenL.grow (Grow.new hp) _ _ d1⟩)⟩
theorem evx_lst {t : TA} (h : EvL K W X μ ρ t fun μ1 ds => ds.length ≤ 1000 ∧ Φ μ1 (.lst ds)) : EvX K W X μ ρ (tLst t) Φ := fun σ H Q m e l k =>
  h σ H _ m e l fun μ1 ds vs H1 h1 g1 m1 d1 => ⟨by rw [← d1.length]; exact Nat.le_trans h1.1 (by decide), fun p hp => k μ1 _ _ _ h1.2 (g1.trans (Grow.new hp)) (m1.new hp) (by
    unfold Den
    exact ⟨p, vs, rfl, ⟨m1.free hp, upd_same⟩, DenL.grow (Grow.new hp) _ _ d1⟩)⟩
/-- a list that will change -/
theorem evx_lstM {t : TA} (h : EvL K W X μ ρ t fun μ1 ds => ds.length ≤ 1000 ∧ ∀ p, μ1 p = none → Φ (mput μ1 p (.lst ds)) (.at p)) : EvX K W X μ ρ (tLst t) Φ := fun σ H Q m e l k =>
  h σ H _ m e l fun μ1 ds vs H1 h1 g1 m1 d1 => ⟨by rw [← d1.length]; exact Nat.le_trans h1.1 (by decide), fun p hp => k _ _ _ _ (h1.2 p (m1.free hp)) (g1.trans (Grow.newM hp)) (m1.newM hp ⟨vs, upd_same, DenL.grow (Grow.newM hp) _ _ d1⟩) (by unfold Den; rfl)⟩
/-! ### tests -/
theorem EvB.imp {Ψ' : Mu → Bool → Prop} (h : EvB K W X μ ρ tt Ψ) (i : ∀ m d, Ψ m d → Ψ' m d) : EvB K W X μ ρ tt Ψ' := fun σ H Q m e l k => h σ H Q m e l fun m' d H' p => k m' d H' (i m' d p)
theorem evb_test (h : EvX K W X μ ρ te fun μ1 d => ∃ b, d = .bl b ∧ Ψ μ1 b) : EvB K W X μ ρ (tTest te) Ψ := fun σ H Q m e l k =>
  h σ H _ m e l fun μ1 d v H1 ⟨b, hd, hp⟩ g1 m1 d1 => ⟨b, by subst hd; unfold Den at d1; exact d1, k μ1 b H1 hp g1 m1⟩
theorem evb_B (h : EvX K W X μ ρ te fun μ1 d => ∃ b, d = .bl b ∧ Ψ μ1 b) : EvB K W X μ ρ (tB te) Ψ := fun σ H Q m e l k =>
  h σ H _ m e l fun μ1 d v H1 ⟨b, hd, hp⟩ g1 m1 d1 => ⟨b, by subst hd; unfold Den at d1; exact d1, k μ1 b H1 hp g1 m1⟩
theorem evb_and (h : EvB K W X μ ρ tt fun μ1 b => if b = true then EvB K W X μ1 ρ tu Ψ else Ψ μ1 false) : EvB K W X μ ρ (tAnd tt tu) Ψ := fun σ H Q m e l k =>
  h σ H _ m e l fun μ1 b H1 h1 g1 m1 => by
    cases b with
    | true => rw [if_pos rfl] at h1 ⊢; exact h1 σ H1 Q m1 (e.grow g1) (l.grow g1) fun μ' b H' p g => k μ' b H' p (g1.trans g)
    | false => rw [if_neg (by decide)] at h1 ⊢; exact k μ1 _ H1 h1 g1 m1
theorem evb_or (h : EvB K W X μ ρ tt fun μ1 b => if b = true then Ψ μ1 true else EvB K W X μ1 ρ tu Ψ) : EvB K W X μ ρ (tOr tt tu) Ψ := fun σ H Q m e l k =>
  h σ H _ m e l fun μ1 b H1 h1 g1 m1 => by
    cases b with
    | false => rw [if_neg (by decide)] at h1 ⊢; exact h1 σ H1 Q m1 (e.grow g1) (l.grow g1) fun μ' b H' p g => k μ' b H' p (g1.trans g)
    | true => rw [if_pos rfl] at h1 ⊢; exact k μ1 _ H1 h1 g1 m1
theorem evb_not (h : EvB K W X μ ρ tt fun μ1 b => Ψ μ1 (!b)) : EvB K W X μ ρ (tNot tt) Ψ := fun σ H Q m e l k => h σ H _ m e l fun μ1 b H1 h1 g1 m1 => k μ1 _ H1 h1 g1 m1
theorem evx_andV (h : EvX K W X μ ρ ta fun μ1 d => ∃ b, d = .bl b ∧ if b = true then EvX K W X μ1 ρ tb Φ else Φ μ1 (.bl false)) : EvX K W X μ ρ (tAndV ta tb) Φ := fun σ H Q m e l k =>
  h σ H _ m e l fun μ1 d v H1 ⟨b, hd, h1⟩ g1 m1 d1 => ⟨b, by subst hd; unfold Den at d1; exact d1, by
    cases b with
    | true => rw [if_pos rfl] at h1 ⊢; exact h1 σ H1 Q m1 (e.grow g1) (l.grow g1) fun μ' b v H' p g => k μ' b v H' p (g1.trans g)
    | false => rw [if_neg (by decide)] at h1 ⊢; exact k μ1 _ _ H1 h1 g1 m1 (by unfold Den; rfl)⟩
theorem evx_orV (h : EvX K W X μ ρ ta fun μ1 d => ∃ b, d = .bl b ∧ if b = true then Φ μ1 (.bl true) else EvX K W X μ1 ρ tb Φ) : EvX K W X μ ρ (tOrV ta tb) Φ := fun σ H Q m e l k =>
  h σ H _ m e l fun μ1 d v H1 ⟨b, hd, h1⟩ g1 m1 d1 => ⟨b, by subst hd; unfold Den at d1; exact d1, by
    cases b with
    | false => rw [if_neg (by decide)] at h1 ⊢; exact h1 σ H1 Q m1 (e.grow g1) (l.grow g1) fun μ' b v H' p g => k μ' b v H' p (g1.trans g)
    | true => rw [if_pos rfl] at h1 ⊢; exact k μ1 _ _ H1 h1 g1 m1 (by unfold Den; rfl)⟩
theorem evx_notV (h : EvX K W X μ ρ ta fun μ1 d => ∃ b, d = .bl b ∧ Φ μ1 (.bl (!b))) : EvX K W X μ ρ (tNotV ta) Φ := fun σ H Q m e l k =>
  h σ H _ m e l fun μ1 d v H1 ⟨b, hd, h1⟩ g1 m1 d1 => ⟨b, by subst hd; unfold Den at d1; exact d1, k μ1 _ _ H1 h1 g1 m1 (by unfold Den; rfl)⟩
theorem evx_if (h : EvB K W X μ ρ tt fun μ1 b => if b = true then EvX K W X μ1 ρ ta Φ else EvX K W X μ1 ρ tb Φ) : EvX K W X μ ρ (tIf tt ta tb) Φ := fun σ H Q m e l k =>
  h σ H _ m e l fun μ1 b H1 h1 g1 m1 => by
    cases b with
    | true => rw [if_pos rfl] at h1 ⊢; exact h1 σ H1 Q m1 (e.grow g1) (l.grow g1) fun μ' b v H' p g => k μ' b v H' p (g1.trans g)
    | false => rw [if_neg (by decide)] at h1 ⊢; exact h1 σ H1 Q m1 (e.grow g1) (l.grow g1) fun μ' b v H' p g => k μ' b v H' p (g1.trans g)
/-! ### statements -/
variable {t u : TS} {g : TG}
theorem GS.imp {E' : ED} (h : GS K W X μ ρ t E) (h1 : ∀ m r, E.nx m r → E'.nx m r) (h2 : ∀ m r, E.rt m r → E'.rt m r) (h3 : ∀ m r, E.bk m r → E'.bk m r) (h4 : ∀ m r, E.ct m r → E'.ct m r) : GS K W X μ ρ t E' := fun σ H D m e l k =>
  h σ H D m e l ⟨fun m r s h x => k.nx m r s h (h1 m r x), fun m r s h x => k.rt m r s h (h2 m r x), fun m r s h x => k.bk m r s h (h3 m r x), fun m r s h x => k.ct m r s h (h4 m r x)⟩
theorem gs_seq (h : GS K W X μ ρ t { E with nx := fun μ1 ρ1 => GS K W X μ1 ρ1 u E }) : GS K W X μ ρ (tSeq t u) E := fun σ H D m e l k =>
  h σ H { D with nx := u D } m e l ⟨fun m' r s h x gr mm ee => x s h D mm ee (l.grow gr) (k.grow gr), k.rt, k.bk, k.ct⟩
theorem gs_next (h : E.nx μ ρ) : GS K W X μ ρ tNext E := fun σ H D m e _ k => k.nx μ ρ σ H h (Grow.refl _ _) m e
theorem gs_break (h : E.bk μ ρ) : GS K W X μ ρ tBreak E := fun σ H D m e _ k => k.bk μ ρ σ H h (Grow.refl _ _) m e
theorem gs_cont (h : E.ct μ ρ) : GS K W X μ ρ tCont E := fun σ H D m e _ k => k.ct μ ρ σ H h (Grow.refl _ _) m e
theorem gs_ret (h : EvX K W X μ ρ te E.rt) : GS K W X μ ρ (tRet te) E := fun σ H D m e l k => h σ H _ m e l fun μ' d v H' p g mm dd => k.rt μ' d v H' p g mm dd
theorem gs_retN (h : E.rt μ .non) : GS K W X μ ρ tRetN E := fun σ H D m e l k => k.rt μ .non .non H h (Grow.refl _ _) m (by unfold Den; rfl)
theorem gs_drop (h : EvX K W X μ ρ te fun μ1 _ => E.nx μ1 ρ) : GS K W X μ ρ (tDrop te) E := fun σ H D m e l k => h σ H _ m e l fun μ' d v H' p g mm dd => k.nx μ' ρ σ H' p g mm (e.grow g)
theorem gs_if (h : EvB K W X μ ρ tt fun μ1 b => if b = true then GS K W X μ1 ρ t E else GS K W X μ1 ρ u E) : GS K W X μ ρ (tIfS tt t u) E := fun σ H D m e l k =>
  h σ H _ m e l fun μ1 b H1 h1 g1 m1 => by
    cases b with
    | true => rw [if_pos rfl] at h1 ⊢; exact h1 σ H1 D m1 (e.grow g1) (l.grow g1) (k.grow g1)
    | false => rw [if_neg (by decide)] at h1 ⊢; exact h1 σ H1 D m1 (e.grow g1) (l.grow g1) (k.grow g1)
theorem gs_asg (h : EvX K W X μ ρ te fun μ1 d => TgX K W X μ1 ρ g d E.nx) : GS K W X μ ρ (tAsg te g) E := fun σ H D m e l k =>
  h σ H _ m e l fun μ1 d v H1 h1 g1 m1 d1 => h1 σ H1 v _ m1 (e.grow g1) (l.grow g1) d1 fun μ' ρ' σ' H' p g' mm ee => k.nx μ' ρ' σ' H' p (g1.trans g') mm ee
theorem tgx_name {i : Nat} {d : D} {Φ : Mu → Ro → Prop} (h : Φ μ (ρ.set i (some d))) : TgX K W X μ ρ (gName i) d Φ := fun σ H v Q m e _ dd k => k μ _ _ H h (Grow.refl _ _) m (e.set dd i)
theorem tgsx_nil {Φ : Mu → Ro → Prop} (h : Φ μ ρ) : TgsX K W X μ ρ gNil [] Φ := fun σ H vs Q m e _ dd k => ⟨by unfold DenL at dd; exact dd, k μ ρ σ H h (Grow.refl _ _) m e⟩
theorem tgsx_cons {gs : TGs} {d : D} {ds : List D} {Φ : Mu → Ro → Prop} (h : TgX K W X μ ρ g d fun μ1 ρ1 => TgsX K W X μ1 ρ1 gs ds Φ) : TgsX K W X μ ρ (gCons g gs) (d :: ds) Φ := fun σ H vs Q m e l dd k => by
  unfold DenL at dd
  obtain ⟨w, ws, e1, a, b⟩ := dd
  exact ⟨w, ws, e1, h σ H w _ m e l a fun μ1 ρ1 σ1 H1 h1 g1 m1 ee1 => h1 σ1 H1 ws Q m1 ee1 (l.grow g1) (DenL.grow g1 _ _ b) fun μ' ρ' σ' H' p g => k μ' ρ' σ' H' p (g1.trans g)⟩
theorem tgx_tup {gs : TGs} {n : Nat} {ds : List D} {Φ : Mu → Ro → Prop} (hn : ds.length = n) (h : TgsX K W X μ ρ gs ds Φ) : TgX K W X μ ρ (gTup K n gs) (.tup ds) Φ := fun σ H v Q m e l dd k => by
  unfold Den at dd
  obtain ⟨p, vs, e1, s, b⟩ := dd
  exact ⟨p, vs, e1, s.sq, by rw [← b.length, hn], h σ H vs Q m e l b k⟩
/-- a, b = e1, e2 -/
theorem gs_par {i j : Nat} {ta : TA} (h : EvL K W X μ ρ ta fun μ1 ds => ∃ d d', ds = [d, d'] ∧ E.nx μ1 ((ρ.set i (some d)).set j (some d'))) : GS K W X μ ρ (tPar i j ta) E := fun σ H D m e l k =>
  h σ H _ m e l fun μ1 ds vs H1 ⟨d, d', e1, h1⟩ g1 m1 d1 => by
    subst e1
    unfold DenL at d1
    obtain ⟨w, ws, e2, a, b⟩ := d1
    unfold DenL at b
    obtain ⟨w', ws', e3, a', b'⟩ := b
    unfold DenL at b'
    subst b' e3 e2
    exact ⟨w, w', rfl, k.nx μ1 _ _ H1 h1 g1 m1 (((e.grow g1).set a i).set a' j)⟩
/-- x op= e -/
def IpX (K : PySem.W.Frag) (r : V → V → Hp → VK → Prop) := OpX K r
theorem gs_aug {i : Nat} {x : D} {ti : TIp} (hx : ρ[i]? = some (some x)) (h : EvX K W X μ ρ te fun μ1 y => OpX K ti μ1 x y fun μ2 z => E.nx μ2 (ρ.set i (some z))) : GS K W X μ ρ (tAug i te ti) E := fun σ H D m e l k => by
  obtain ⟨v, h1, h2⟩ := e.2 i x hx
  exact ⟨v, h1, h σ H _ m e l fun μ1 y w H1 q1 g1 m1 d1 => q1 H1 v w _ m1 (Den.grow g1 _ _ h2) d1 fun μ' d u H' p g mm dd => k.nx μ' _ _ H' p (g1.trans g) mm (((e.grow g1).grow g).set dd i)⟩
/-- a wider store may be forgotten -/
theorem gs_cut {p : Addr} (h : GS K W X (mcut μ p) ρ t E) : GS K W X μ ρ t E := fun σ H D m e l k => h σ H D m.cut (e.less Less.cut) (l.grow Grow.cut) (k.grow Grow.cut)
/-- a list that changed till now and will change no more -/
theorem gs_freeze {ρ' : Ro} {p : Addr} {ds : List D} {i : Nat} (hp : μ p = some (.lst ds)) (hi : ρ[i]? = some (some (.at p))) (he : ρ' = ρ.set i (some (.lst ds))) (h : GS K W X (mcut μ p) ρ' t E) : GS K W X μ ρ t E := fun σ H D m e l k => by
  obtain ⟨vs, h1, h2⟩ := m p _ hp
  obtain ⟨v, q1, q2⟩ := e.2 i _ hi
  unfold Den at q2
  subst q2
  have e' : EnvIs K (mcut μ p) H ρ' σ := by
    have q := (e.less (Less.cut (a := p))).set (d := .lst ds) (v := .ref p) (by unfold Den; exact ⟨p, vs, rfl, ⟨mcut_same, h1⟩, DenL.less Less.cut _ _ h2⟩) i
    rw [← he] at q
    have : σ.set i (some (.ref p)) = σ := by
      apply List.ext_getElem?
      intro j
      by_cases hj : i = j
      · subst hj
        rw [List.getElem?_set_self (List.getElem?_eq_some_iff.mp q1).1, q1]
      · rw [List.getElem?_set_ne hj]
    rw [this] at q
    exact q
  exact h σ H D m.cut e' (l.grow Grow.cut) (k.grow Grow.cut)
end
/-- what a loop walks, over data: ds, while S holds of the store -/
structure ItOk (K : PySem.W.Frag) (μ : Mu) (H : Hp) (J : It) (ds : List D) (S : Mu → Prop) : Prop where
  w : ∃ (G : Hp → Prop) (Y : Nat → Hp → V → Hp → Prop), Walk J ds.length G Y ∧ (∀ μ' H', Grow μ H μ' H' → Mem K μ' H' → S μ' → G H') ∧
    ∀ i μ' H' x H'' d, Grow μ H μ' H' → Mem K μ' H' → S μ' → Y i H' x H'' → ds[i]? = some d → Grow μ' H' μ' H'' ∧ Mem K μ' H'' ∧ Den K μ' H'' d x
def ItX (K : PySem.W.Frag) (W : WX) (X : XD) (μ : Mu) (ρ : Ro) (wi : TI) (Ψ : Mu → List D → (Mu → Prop) → Prop) : Prop := ∀ (σ : L2.St) (H : Hp) (R : It → Hp → Prop), Mem K μ H → EnvIs K μ H ρ σ → LiftX K μ H X W →
  (∀ μ1 ds S J H1, Ψ μ1 ds S → Grow μ H μ1 H1 → Mem K μ1 H1 → ItOk K μ1 H1 J ds S → R J H1) → wi σ H R
/-- a list to be read -/
def IsL (μ : Mu) (d : D) (ds : List D) (S : Mu → Prop) : Prop := ((d = .lst ds ∨ d = .frz ds) ∧ S = fun _ => True) ∨ ∃ a, d = .at a ∧ μ a = some (.lst ds) ∧ S = fun μ' => μ' a = some (.lst ds)

section
variable {K : PySem.W.Frag} {W : WX} {X : XD} {μ μ' : Mu} {H H' : Hp} {ρ : Ro} {E : ED} {ta tb te tx tl : TE} {tt tu : TT} {Φ : DP} {Ψ : Mu → List D → (Mu → Prop) → Prop} {g : TG} {t : TS} {wi : TI}
theorem gs_for (h : ItX K W X μ ρ wi fun μ1 ds S => ∃ Inv : Nat → Mu → Ro → Prop, Inv 0 μ1 ρ ∧ (∀ i μ' ρ', i ≤ ds.length → Inv i μ' ρ' → S μ') ∧
    (∀ i d μ' ρ', ds[i]? = some d → Inv i μ' ρ' → TgX K W X μ' ρ' g d fun μ'' ρ'' => GS K W X μ'' ρ'' t { E with nx := Inv (i + 1), ct := Inv (i + 1), bk := E.nx }) ∧ ∀ μ' ρ', Inv ds.length μ' ρ' → E.nx μ' ρ') :
    GS K W X μ ρ (tFor wi g t) E := fun σ H D m e l k => by
  refine h σ H _ m e l fun μ1 ds S J H1 ⟨Iv, h0, hS, hs, hd⟩ g1 m1 ok => ?_
  obtain ⟨G, Y, w, hG, hY⟩ := ok.w
  refine for_it w (fun i σ' H' => ∃ μ' ρ', Iv i μ' ρ' ∧ Grow μ1 H1 μ' H' ∧ Mem K μ' H' ∧ EnvIs K μ' H' ρ' σ') ⟨μ1, ρ, h0, Grow.refl _ _, m1, e.grow g1⟩ ?_ ?_ ?_
  · rintro i σ' H' hi ⟨μ', ρ', p, gr, mm, ee⟩
    exact hG μ' H' gr mm (hS i μ' ρ' hi p)
  · rintro i x σ' H' H'' hi ⟨μ', ρ', p, gr, mm, ee⟩ y
    obtain ⟨q1, q2, q3⟩ := hY i μ' H' x H'' ds[i] gr mm (hS i μ' ρ' (Nat.le_of_lt hi) p) y (by simp)
    have gg := (g1.trans gr).trans q1
    refine hs i ds[i] μ' ρ' (by simp) p σ' H'' x _ q2 (ee.grow q1) (l.grow gg) q3 fun μ2 ρ2 σ2 H2 p2 g2 m2 e2 => ?_
    refine p2 σ2 H2 _ m2 e2 (l.grow (gg.trans g2)) ⟨fun m r s h x gr' mm' ee' => ?_, fun m r s h x gr' mm' ee' => k.rt m r s h x ((gg.trans g2).trans gr') mm' ee', fun m r s h x gr' mm' ee' => k.nx m r s h x ((gg.trans g2).trans gr') mm' ee', fun m r s h x gr' mm' ee' => ?_⟩
    · exact ⟨m, r, x, ((gr.trans q1).trans g2).trans gr', mm', ee'⟩
    · exact ⟨m, r, x, ((gr.trans q1).trans g2).trans gr', mm', ee'⟩
  · rintro σ' H' ⟨μ', ρ', p, gr, mm, ee⟩
    exact k.nx μ' ρ' σ' H' (hd μ' ρ' p) (g1.trans gr) mm ee
theorem den_seq {d : D} {ds : List D} {S : Mu → Prop} {v : V} (hd : IsL μ d ds S) (m : Mem K μ H) (h : Den K μ H d v) : ∃ p vs, v = .ref p ∧ SqL K H p vs ∧ DenL K μ H ds vs := by
  rcases hd with ⟨e | e, _⟩ | ⟨a, e, ha, _⟩
  · subst e; unfold Den at h
    obtain ⟨p, vs, e1, s, b⟩ := h
    exact ⟨p, vs, e1, SqL.of s.2, b⟩
  · subst e; unfold Den at h
    obtain ⟨p, vs, e1, s, b⟩ := h
    exact ⟨p, vs, e1, s.sq, b⟩
  · subst e; unfold Den at h
    obtain ⟨vs, e1, b⟩ := m a _ ha
    exact ⟨a, vs, h, SqL.of e1, b⟩
theorem itx_list (h : EvX K W X μ ρ tl fun μ1 d => ∃ ds S, IsL μ1 d ds S ∧ Ψ μ1 ds S) : ItX K W X μ ρ (iList K tl) Ψ := fun σ H R m e l k =>
  h σ H _ m e l fun μ1 d v H1 ⟨ds, S, hd, hp⟩ g1 m1 d1 => by
    rcases hd with ⟨e1, hS⟩ | ⟨a, e1, ha, hS⟩
    · obtain ⟨p, vs, e2, s, b⟩ : ∃ p vs, v = .ref p ∧ StS K μ1 H1 p vs ∧ DenL K μ1 H1 ds vs := by
        rcases e1 with e1 | e1
        · subst e1; unfold Den at d1
          obtain ⟨p, vs, e2, s, b⟩ := d1
          exact ⟨p, vs, e2, .inl ⟨s.1, .inl s.2⟩, b⟩
        · subst e1; unfold Den at d1; exact d1
      refine ⟨p, e2, ⟨vs, s.sq⟩, k μ1 ds S _ H1 hp g1 m1 ⟨(fun H => SqL K H p vs), YAt vs, by rw [b.length]; exact walk_list, fun μ' H' gr mm _ => (gr.stS s).sq, ?_⟩⟩
      rintro i μ' H' x H'' d gr mm _ ⟨rfl, hx⟩ hd
      obtain ⟨v', q1, q2⟩ := (DenL.grow gr _ _ b).get hd
      rw [hx] at q1; cases q1
      exact ⟨Grow.refl _ _, mm, q2⟩
    · subst e1 hS
      unfold Den at d1
      obtain ⟨vs, e2, b⟩ := m1 a _ ha
      refine ⟨a, d1, ⟨vs, SqL.of e2⟩, k μ1 ds _ _ H1 hp g1 m1 ⟨(fun H => ∃ vs, H a = some (.lst vs) ∧ vs.length = ds.length), (fun i H x H' => H' = H ∧ ∀ vs, H a = some (.lst vs) → vs[i]? = some x), ?_, ?_, ?_⟩⟩
      · refine ⟨?_, ?_, ?_⟩
        · rintro i H hi ⟨vs, q, ln⟩
          exact ⟨vs, vs[i], SqL.of q, by simp⟩
        · rintro H ⟨vs, q, ln⟩
          exact ⟨vs, SqL.of q, by omega⟩
        · rintro i H x H' hi ⟨vs, q, ln⟩ ⟨rfl, y⟩
          exact ⟨rfl, fun vs' q' => y vs' (SqL.of q')⟩
      · intro μ' H' gr mm ha'
        obtain ⟨vs', q, b'⟩ := mm a _ ha'
        exact ⟨vs', q, b'.length.symm⟩
      · rintro i μ' H' x H'' d gr mm ha' ⟨rfl, y⟩ hd
        obtain ⟨vs', q, b'⟩ := mm a _ ha'
        obtain ⟨v', q1, q2⟩ := b'.get hd
        rw [y vs' q] at q1; cases q1
        exact ⟨Grow.refl _ _, mm, q2⟩
theorem itx_tup (h : EvX K W X μ ρ tl fun μ1 d => ∃ ds, d = .tup ds ∧ Ψ μ1 ds fun _ => True) : ItX K W X μ ρ (iTup K tl) Ψ := fun σ H R m e l k =>
  h σ H _ m e l fun μ1 d v H1 ⟨ds, hd, hp⟩ g1 m1 d1 => by
    subst hd; unfold Den at d1
    obtain ⟨p, vs, e2, s, b⟩ := d1
    refine ⟨p, e2, ⟨vs, s.sq⟩, k μ1 ds _ _ H1 hp g1 m1 ⟨(fun H => SqT K H p vs), YAt vs, by rw [b.length]; exact walk_tup, fun μ' H' gr mm _ => (gr.stT s).sq, ?_⟩⟩
    rintro i μ' H' x H'' d gr mm _ ⟨rfl, hx⟩ hd
    obtain ⟨v', q1, q2⟩ := (DenL.grow gr _ _ b).get hd
    rw [hx] at q1; cases q1
    exact ⟨Grow.refl _ _, mm, q2⟩
/-- the turns of a range -/
def rangeD (lo : Int) (n : Nat) : List D := (List.range n).map fun (i : Nat) => .int (lo + i)
theorem rangeD_len (lo : Int) (n : Nat) : (rangeD lo n).length = n := by unfold rangeD; simp
theorem rangeD_get {lo : Int} {n i : Nat} {d : D} (h : (rangeD lo n)[i]? = some d) : i < n ∧ d = .int (lo + i) := by
  unfold rangeD at h
  rw [List.getElem?_map] at h
  by_cases hi : i < n
  · rw [List.getElem?_range hi] at h
    exact ⟨hi, by simpa using h.symm⟩
  · rw [List.getElem?_eq_none (by simpa using hi)] at h
    cases h
theorem itok_range {lo : Int} {n : Nat} : ItOk K μ H (Itr lo n) (rangeD lo n) fun _ => True :=
  ⟨(fun _ => True), YFn fun i => .int (lo + i), by rw [rangeD_len]; exact walk_range, fun _ _ _ _ _ => True.intro, fun i μ' H' x H'' d gr mm _ y hd => by
    obtain ⟨rfl, rfl⟩ := y
    obtain ⟨_, rfl⟩ := rangeD_get hd
    exact ⟨Grow.refl _ _, mm, by unfold Den; rfl⟩⟩
theorem itx_range1 {tr : TA} (h : EvL K W X μ ρ tr fun μ1 ds => ∃ n : Int, ds = [.int n] ∧ (-(2 ^ 62) ≤ n ∧ n < 2 ^ 62) ∧ Ψ μ1 (rangeD 0 n.toNat) fun _ => True) : ItX K W X μ ρ (iRng1 tr) Ψ := fun σ H R m e l k =>
  h σ H _ m e l fun μ1 ds vs H1 ⟨n, hd, hb, hp⟩ g1 m1 d1 => by
    subst hd
    unfold DenL at d1
    obtain ⟨w, ws, e2, a, b⟩ := d1
    unfold Den at a
    unfold DenL at b
    subst e2 a b
    exact ⟨n, rfl, hb.1, hb.2, k μ1 _ _ _ H1 hp g1 m1 itok_range⟩
theorem itx_range2 {tr : TA} (h : EvL K W X μ ρ tr fun μ1 ds => ∃ i n : Int, ds = [.int i, .int n] ∧ (-(2 ^ 62) ≤ i ∧ i < 2 ^ 62 ∧ -(2 ^ 62) ≤ n ∧ n < 2 ^ 62) ∧ Ψ μ1 (rangeD i (n - i).toNat) fun _ => True) : ItX K W X μ ρ (iRng2 tr) Ψ := fun σ H R m e l k =>
  h σ H _ m e l fun μ1 ds vs H1 ⟨i, n, hd, hb, hp⟩ g1 m1 d1 => by
    subst hd
    unfold DenL at d1
    obtain ⟨w, ws, e2, a, b⟩ := d1
    unfold Den at a
    unfold DenL at b
    obtain ⟨w', ws', e3, a', b'⟩ := b
    unfold Den at a'
    unfold DenL at b'
    subst e3 a' b' e2 a
    exact ⟨i, n, rfl, hb, k μ1 _ _ _ H1 hp g1 m1 itok_range⟩
/-- the signs of a text -/
def signsD (z : Str) : List D := z.cps.toList.map fun c => .str ⟨#[c]⟩
theorem itx_str (h : EvX K W X μ ρ te fun μ1 d => ∃ z, d = .str z ∧ Ψ μ1 (signsD z) fun _ => True) : ItX K W X μ ρ (iStr te) Ψ := fun σ H R m e l k =>
  h σ H _ m e l fun μ1 d v H1 ⟨z, hd, hp⟩ g1 m1 d1 => by
    subst hd; unfold Den at d1
    refine ⟨z, d1, k μ1 _ _ _ H1 hp g1 m1 ⟨_, _, by unfold signsD; rw [List.length_map, Array.length_toList]; exact walk_str, fun _ _ _ _ _ => True.intro, ?_⟩⟩
    rintro i μ' H' x H'' d gr mm _ ⟨rfl, c, hc, rfl⟩ hd
    refine ⟨Grow.refl _ _, mm, ?_⟩
    unfold signsD at hd
    rw [List.getElem?_map, Array.getElem?_toList, hc] at hd
    cases hd
    unfold Den
    rfl
/-- pairs -/
def pairsD (xs ys : List D) : List D := (xs.zip ys).map fun p => .tup [p.1, p.2]
theorem den_pair {x y : D} {v w : V} {T : Addr} (m : Mem K μ H) (hT : H T = none) (a : Den K μ H x v) (b : Den K μ H y w) : Den K μ (upd H T (.tup [v, w])) (.tup [x, y]) (.ref T) := by
  unfold Den
  exact ⟨T, [v, w], rfl, .inl ⟨m.free hT, .inl upd_same⟩, DenL.cons (Den.grow (Grow.new hT) _ _ a) (DenL.cons (Den.grow (Grow.new hT) _ _ b) DenL.nil)⟩
/-- the i-th and the i-th: a new pair -/
theorem itok_pair {J : It} {n : Nat} {ds : List D} {S : Mu → Prop} {xs ys : Hp → Nat → Option V} {G : Hp → Prop} {Y : Nat → Hp → V → Hp → Prop} (w : Walk J ds.length G Y) (hG : ∀ μ' H', Grow μ H μ' H' → Mem K μ' H' → S μ' → G H')
    (hY : ∀ i μ' H' v H'' d, Grow μ H μ' H' → Mem K μ' H' → S μ' → Y i H' v H'' → ds[i]? = some d → ∃ T x y v1 v2, v = .ref T ∧ H' T = none ∧ H'' = upd H' T (.tup [v1, v2]) ∧ d = .tup [x, y] ∧ Den K μ' H' x v1 ∧ Den K μ' H' y v2) : ItOk K μ H J ds S :=
  ⟨G, Y, w, hG, fun i μ' H' v H'' d gr mm s y hd => by
    obtain ⟨T, x, y', v1, v2, rfl, hT, rfl, rfl, a, b⟩ := hY i μ' H' v H'' d gr mm s y hd
    exact ⟨Grow.new hT, mm.new hT, den_pair mm hT a b⟩⟩
theorem pairsD_get {xs ys : List D} {i : Nat} {d : D} (h : (pairsD xs ys)[i]? = some d) : ∃ x y, xs[i]? = some x ∧ ys[i]? = some y ∧ d = .tup [x, y] := by
  unfold pairsD at h
  rw [List.getElem?_map] at h
  cases e : (xs.zip ys)[i]? with
  | none => rw [e] at h; cases h
  | some p =>
    rw [e] at h
    cases h
    rw [List.getElem?_zip_eq_some] at e
    exact ⟨p.1, p.2, e.1, e.2, rfl⟩
theorem pairsD_len (xs ys : List D) : (pairsD xs ys).length = min xs.length ys.length := by unfold pairsD; simp
/-- zip of two lists, two tuples -/
theorem itx_zip {tr : TA} (h : EvL K W X μ ρ tr fun μ1 ds => ∃ a b xs ys, ds = [a, b] ∧ ((∃ S S', IsL μ1 a xs S ∧ IsL μ1 b ys S' ∧ (∀ m, S m) ∧ (∀ m, S' m)) ∨ (a = .tup xs ∧ b = .tup ys)) ∧ Ψ μ1 (pairsD xs ys) fun _ => True) : ItX K W X μ ρ (iZipA K tr) Ψ := fun σ H R m e l k =>
  h σ H _ m e l fun μ1 ds vs H1 ⟨a, b, xs, ys, hd, hab, hp⟩ g1 m1 d1 => by
    subst hd
    unfold DenL at d1
    obtain ⟨v1, ws, e2, da, b'⟩ := d1
    unfold DenL at b'
    obtain ⟨v2, ws', e3, db, b''⟩ := b'
    unfold DenL at b''
    subst b'' e3 e2
    rcases hab with ⟨S, S', ha, hb, s1, s2⟩ | ⟨rfl, rfl⟩
    · have key : ∀ {d : D} {v : V} {zs : List D} {S : Mu → Prop}, IsL μ1 d zs S → (∀ m, S m) → Den K μ1 H1 d v → ∃ p vs, v = .ref p ∧ StS K μ1 H1 p vs ∧ DenL K μ1 H1 zs vs := by
        intro d v zs S hd hs dv
        rcases hd with ⟨e1 | e1, _⟩ | ⟨a, _, _, hS⟩
        · subst e1; unfold Den at dv
          obtain ⟨p, vs, e2, s, b⟩ := dv
          exact ⟨p, vs, e2, .inl ⟨s.1, .inl s.2⟩, b⟩
        · subst e1; unfold Den at dv; exact dv
        · subst hS
          have := hs (fun _ => none)
          cases this
      obtain ⟨p, us, e1, sp, bp⟩ := key ha s1 da
      obtain ⟨q, ws, e2, sq, bq⟩ := key hb s2 db
      subst e1 e2
      refine ⟨p, q, us, ws, rfl, .inl ⟨sp.sq, sq.sq, k μ1 _ _ _ H1 hp g1 m1 (itok_pair (n := 0) (xs := fun _ _ => none) (ys := fun _ _ => none) (walk_zip (xs := us) (ys := ws) (by rw [pairsD_len, bp.length, bq.length])) (fun μ' H' gr mm _ => ⟨(gr.stS sp).sq, (gr.stS sq).sq⟩) ?_)⟩⟩
      rintro i μ' H' v H'' d gr mm _ ⟨T, x, y, rfl, hT, rfl, hx, hy⟩ hd
      obtain ⟨dx, dy, ex, ey, rfl⟩ := pairsD_get hd
      obtain ⟨u1, q1, r1⟩ := (DenL.grow gr _ _ bp).get ex
      obtain ⟨u2, q2, r2⟩ := (DenL.grow gr _ _ bq).get ey
      have hx' : us[i]? = some x := hx
      have hy' : ws[i]? = some y := hy
      rw [hx'] at q1; cases q1
      rw [hy'] at q2; cases q2
      exact ⟨T, dx, dy, x, y, rfl, hT, rfl, rfl, r1, r2⟩
    · unfold Den at da db
      obtain ⟨p, us, e1, sp, bp⟩ := da
      obtain ⟨q, ws, e2, sq, bq⟩ := db
      subst e1 e2
      refine ⟨p, q, us, ws, rfl, .inr ⟨sp.sq, sq.sq, k μ1 _ _ _ H1 hp g1 m1 (itok_pair (n := 0) (xs := fun _ _ => none) (ys := fun _ _ => none) (G := fun H => SqT K H p us ∧ SqT K H q ws) (Y := YPair (fun i => us[i]?) (fun i => ws[i]?)) ?_ (fun μ' H' gr mm _ => ⟨(gr.stT sp).sq, (gr.stT sq).sq⟩) ?_)⟩⟩
      · refine ⟨?_, ?_, ?_⟩
        · rintro i H hi ⟨h1, h2⟩
          rw [pairsD_len, bp.length, bq.length] at hi
          exact ⟨us, ws, us[i], ws[i], h1, h2, by simp, by simp⟩
        · rintro H ⟨h1, h2⟩
          refine ⟨us, ws, h1, h2, ?_⟩
          rw [pairsD_len, bp.length, bq.length]
          omega
        · rintro i H x H' hi ⟨h1, h2⟩ y
          obtain ⟨T, a, b, h3, h4, h5, h6⟩ := y
          exact ⟨T, a, b, h3, h4, h5, h6.1 us h1, h6.2 ws h2⟩
      · rintro i μ' H' v H'' d gr mm _ ⟨T, x, y, rfl, hT, rfl, hx, hy⟩ hd
        obtain ⟨dx, dy, ex, ey, rfl⟩ := pairsD_get hd
        obtain ⟨u1, q1, r1⟩ := (DenL.grow gr _ _ bp).get ex
        obtain ⟨u2, q2, r2⟩ := (DenL.grow gr _ _ bq).get ey
        have hx' : us[i]? = some x := hx
        have hy' : ws[i]? = some y := hy
        rw [hx'] at q1; cases q1
        rw [hy'] at q2; cases q2
        exact ⟨T, dx, dy, x, y, rfl, hT, rfl, rfl, r1, r2⟩
/-! ### comprehensions -/
theorem wipe_env {vs : List Nat} {σ : L2.St} (e : EnvIs K μ H ρ σ) : EnvIs K μ H (vs.foldr (fun v r => r.set v none) ρ) (wipe σ vs) := by
  induction vs with
  | nil => exact e
  | cons v vs ih => exact ih.unset v
theorem wipe_get (σ : L2.St) : ∀ (vs : List Nat) (i : Nat), (wipe σ vs)[i]? = if i ∈ vs then (σ[i]?).map (fun _ => none) else σ[i]?
  | [], i => by rw [if_neg (by simp)]; rfl
  | v :: vs, i => by
    show ((wipe σ vs).set v none)[i]? = _
    by_cases h : v = i
    · subst h
      rw [if_pos (by simp)]
      by_cases hl : v < σ.length
      · rw [List.getElem?_set_self (by rw [wipe_length]; exact hl), List.getElem?_eq_getElem hl]; rfl
      · rw [List.getElem?_eq_none (by rw [List.length_set, wipe_length]; omega), List.getElem?_eq_none (by omega)]; rfl
    · rw [List.getElem?_set_ne h, wipe_get σ vs i]
      have : (i ∈ v :: vs) ↔ i ∈ vs := by
        rw [List.mem_cons]
        exact ⟨fun q => q.resolve_left (fun z => h z.symm), .inr⟩
      by_cases hm : i ∈ vs
      · rw [if_pos hm, if_pos (this.mpr hm)]
      · rw [if_neg hm, if_neg (fun z => hm (this.mp z))]
theorem wipe_set {σ : L2.St} {vs : List Nat} {j : Nat} {x : Option V} (h : j ∈ vs) : wipe (σ.set j x) vs = wipe σ vs := by
  apply List.ext_getElem?
  intro i
  rw [wipe_get, wipe_get]
  by_cases hi : i ∈ vs
  · rw [if_pos hi, if_pos hi]
    by_cases e : j = i
    · subst e
      by_cases hl : j < σ.length
      · rw [List.getElem?_set_self hl, List.getElem?_eq_getElem hl]; rfl
      · rw [List.getElem?_eq_none (by rw [List.length_set]; omega), List.getElem?_eq_none (by omega)]
    · rw [List.getElem?_set_ne e]
  · rw [if_neg hi, if_neg hi, List.getElem?_set_ne (fun z => hi (by rw [← z]; exact h))]
theorem wipe_wipe {σ : L2.St} {vs : List Nat} : wipe (wipe σ vs) vs = wipe σ vs := by
  apply List.ext_getElem?
  intro i
  rw [wipe_get, wipe_get]
  by_cases hi : i ∈ vs
  · rw [if_pos hi, if_pos hi]
    cases σ[i]? <;> rfl
  · rw [if_neg hi, if_neg hi]
/-- the slots ahead of a comprehension's turn -/
abbrev wipeD (ρ : Ro) (vs : List Nat) : Ro := vs.foldr (fun v r => r.set v none) ρ
/-- a comprehension's target: its names are among vs -/
def TcX (K : PySem.W.Frag) (W : WX) (X : XD) (vs : List Nat) (μ : Mu) (ρ : Ro) (g : TG) (d : D) (Φ : Mu → Ro → Prop) : Prop := ∀ (σ : L2.St) (H : Hp) (v : V) (Q : L2.St → Hp → Prop), Mem K μ H → EnvIs K μ H ρ σ → Den K μ H d v →
  (∀ ρ' σ', Φ μ ρ' → EnvIs K μ H ρ' σ' → wipe σ' vs = wipe σ vs → Q σ' H) → g v σ H Q
theorem tcx_name {vs : List Nat} {j : Nat} {d : D} {Φ : Mu → Ro → Prop} (hj : j ∈ vs) (h : Φ μ (ρ.set j (some d))) : TcX K W X vs μ ρ (gName j) d Φ := fun σ H v Q m e dd k => k _ _ h (e.set dd j) (wipe_set hj)
theorem tcx_tup2 {vs : List Nat} {i j : Nat} {d d' : D} {Φ : Mu → Ro → Prop} (hi : i ∈ vs) (hj : j ∈ vs) (h : Φ μ ((ρ.set i (some d)).set j (some d'))) : TcX K W X vs μ ρ (gTup K 2 (gCons (gName i) (gCons (gName j) gNil))) (.tup [d, d']) Φ := fun σ H v Q m e dd k => by
  unfold Den at dd
  obtain ⟨p, us, e1, s, b⟩ := dd
  unfold DenL at b
  obtain ⟨w, ws, e2, a, b⟩ := b
  unfold DenL at b
  obtain ⟨w', ws', e3, a', b'⟩ := b
  unfold DenL at b'
  subst b' e3 e2
  exact ⟨p, _, e1, s.sq, rfl, w, _, rfl, w', _, rfl, rfl, k _ _ h ((e.set a i).set a' j) (by rw [wipe_set hj, wipe_set hi])⟩
theorem tcx_tup4 {vs : List Nat} {i1 i2 i3 i4 : Nat} {d1 d2 d3 d4 : D} {Φ : Mu → Ro → Prop} (h1 : i1 ∈ vs) (h2 : i2 ∈ vs) (h3 : i3 ∈ vs) (h4 : i4 ∈ vs) (h : Φ μ ((((ρ.set i1 (some d1)).set i2 (some d2)).set i3 (some d3)).set i4 (some d4))) :
    TcX K W X vs μ ρ (gTup K 4 (gCons (gName i1) (gCons (gName i2) (gCons (gName i3) (gCons (gName i4) gNil))))) (.tup [d1, d2, d3, d4]) Φ := fun σ H v Q m e dd k => by
  unfold Den at dd
  obtain ⟨p, us, e1, s, b⟩ := dd
  unfold DenL at b
  obtain ⟨w1, ws1, q1, a1, b⟩ := b
  unfold DenL at b
  obtain ⟨w2, ws2, q2, a2, b⟩ := b
  unfold DenL at b
  obtain ⟨w3, ws3, q3, a3, b⟩ := b
  unfold DenL at b
  obtain ⟨w4, ws4, q4, a4, b⟩ := b
  unfold DenL at b
  subst b q4 q3 q2 q1
  exact ⟨p, _, e1, s.sq, rfl, _, _, rfl, _, _, rfl, _, _, rfl, _, _, rfl, rfl, k _ _ h ((((e.set a1 i1).set a2 i2).set a3 i3).set a4 i4) (by rw [wipe_set h4, wipe_set h3, wipe_set h2, wipe_set h1])⟩
/-- a comprehension: Iv by the turn, the store (the new list in it) and the list so far; at the end it may change no more, or it may -/
theorem evx_lc {vs : List Nat} (h : ItX K W X μ ρ wi fun μ1 ds S => ∀ Dl, μ1 Dl = none → ∃ Iv : Nat → Mu → List D → Prop, Iv 0 (mput μ1 Dl (.lst [])) [] ∧
    (∀ i μ' acc, i ≤ ds.length → μ' Dl = some (.lst acc) → Iv i μ' acc → acc.length ≤ 1000000 ∧ S μ') ∧
    (∀ i d μ' acc, ds[i]? = some d → μ' Dl = some (.lst acc) → Iv i μ' acc → TcX K W X vs μ' (wipeD ρ vs) g d fun μ2 ρ2 =>
      EvB K W X μ2 ρ2 tt fun μ3 b => μ3 Dl = some (.lst acc) ∧ if b = true then EvX K W X μ3 ρ2 te fun μ4 y => μ4 Dl = some (.lst acc) ∧ Iv (i + 1) (mput μ4 Dl (.lst (acc ++ [y]))) (acc ++ [y]) else Iv (i + 1) μ3 acc) ∧
    (∀ μ' acc, μ' Dl = some (.lst acc) → Iv ds.length μ' acc → Φ (mcut μ' Dl) (.lst acc) ∨ Φ μ' (.at Dl))) : EvX K W X μ ρ (tLc wi g tt te vs) Φ := fun σ H Q m e l k => by
  refine h σ H _ m e l fun μ1 ds S J H1 hp g1 m1 ok Dl hD => ?_
  obtain ⟨Iv, h0, hS, hs, hd⟩ := hp Dl (m1.free hD)
  obtain ⟨G, Y, w, hG, hY⟩ := ok.w
  have gn : Grow μ1 H1 (mput μ1 Dl (.lst [])) (upd H1 Dl (.lst [])) := Grow.newM hD
  have e1 := wipe_env (vs := vs) (e.grow g1)
  refine lc_it w (fun i H' => ∃ μ' acc, Iv i μ' acc ∧ μ' Dl = some (.lst acc) ∧ Grow μ1 H1 μ' H' ∧ Mem K μ' H') ⟨_, [], h0, mput_same, gn, m1.newM hD ⟨[], upd_same, DenL.nil⟩⟩ ?_ ?_ ?_
  · rintro i H' hi ⟨μ', acc, p, hl, gr, mm⟩
    exact hG μ' H' gr mm (hS i μ' acc hi hl p).2
  · rintro i x H' H'' hi ⟨μ', acc, p, hl, gr, mm⟩ y
    have hz := hS i μ' acc (Nat.le_of_lt hi) hl p
    obtain ⟨q1, q2, q3⟩ := hY i μ' H' x H'' ds[i] gr mm hz.2 y (by simp)
    have gg := gr.trans q1
    refine hs i ds[i] μ' acc (by simp) hl p (wipe σ vs) H'' x _ q2 (e1.grow gg) q3 fun ρ2 σ2 p2 e2 hw => ⟨by rw [hw, wipe_wipe], ?_⟩
    refine p2 σ2 H'' _ q2 e2 (l.grow (g1.trans gg)) fun μ3 b H3 ⟨hl3, p3⟩ g3 m3 => ?_
    cases b with
    | false =>
      rw [if_neg (by decide)] at p3 ⊢
      exact ⟨μ3, acc, p3, hl3, gg.trans g3, m3⟩
    | true =>
      rw [if_pos rfl] at p3 ⊢
      refine p3 σ2 H3 _ m3 (e2.grow g3) (l.grow ((g1.trans gg).trans g3)) fun μ4 d v H4 ⟨hl4, p4⟩ g4 m4 d4 => ?_
      obtain ⟨us, hu, hb⟩ := m4 Dl _ hl4
      refine ⟨us, hu, by rw [← hb.length]; exact Nat.lt_of_le_of_lt hz.1 (by decide), _, _, p4, mput_same, ((gg.trans g3).trans g4).trans (Grow.wr hl4), m4.wr hl4 ⟨_, upd_same, (DenL.grow (Grow.wr hl4) _ _ hb).append (DenL.cons (Den.grow (Grow.wr hl4) _ _ d4) DenL.nil)⟩⟩
  · rintro H' ⟨μ', acc, p, hl, gr, mm⟩
    rcases hd μ' acc hl p with q | q
    · obtain ⟨us, hu, hb⟩ := mm Dl _ hl
      exact k _ _ _ H' q ((g1.trans gr).trans Grow.cut) mm.cut (by unfold Den; exact ⟨Dl, us, rfl, ⟨mcut_same, hu⟩, DenL.less Less.cut _ _ hb⟩)
    · exact k _ _ _ H' q (g1.trans gr) mm (by unfold Den; rfl)
theorem evb_yes {Ψ : Mu → Bool → Prop} (h : Ψ μ true) : EvB K W X μ ρ tYes Ψ := fun σ H Q m e l k => k μ true H h (Grow.refl _ _) m
/-- a comprehension whose turns change nothing: from f and p of the items -/
theorem evx_lcP {vs : List Nat} (h : ItX K W X μ ρ wi fun μ1 ds S => (ds.length ≤ 1000000 ∧ ∀ m : Mu, (∀ b o, μ1 b = some o → m b = some o) → S m) ∧ ∃ (p : D → Bool) (f : D → D),
    (∀ d, d ∈ ds → ∀ μ' : Mu, (∀ b o, μ1 b = some o → μ' b = some o) → TcX K W X vs μ' (wipeD ρ vs) g d fun μ2 ρ2 => EvB K W X μ2 ρ2 tt fun μ3 b => μ3 = μ2 ∧ b = p d ∧ (p d = true → EvX K W X μ3 ρ2 te fun μ4 y => μ4 = μ3 ∧ y = f d)) ∧
    Φ μ1 (.lst ((ds.filter p).map f))) : EvX K W X μ ρ (tLc wi g tt te vs) Φ := by
  refine evx_lc fun σ H R m e l k => h σ H R m e l fun μ1 ds S J H1 ⟨⟨hl, hS⟩, p, f, hp, hq⟩ g1 m1 ok => k μ1 ds S J H1 (fun Dl hD => ?_) g1 m1 ok
  have up : ∀ μ' : Mu, (∀ b, b ≠ Dl → μ' b = μ1 b) → ∀ b o, μ1 b = some o → μ' b = some o := fun μ' hμ b o e => by
    rw [hμ b (fun z => by rw [z, hD] at e; cases e)]; exact e
  refine ⟨fun i μ' acc => acc = ((ds.take i).filter p).map f ∧ ∀ b, b ≠ Dl → μ' b = μ1 b, ⟨by simp, fun b hb => mput_ne hb⟩, ?_, ?_, ?_⟩
  · rintro i μ' acc hi _ ⟨rfl, hμ⟩
    refine ⟨?_, hS _ (up μ' hμ)⟩
    rw [List.length_map]
    refine Nat.le_trans (List.length_filter_le _ _) ?_
    rw [List.length_take]
    omega
  · rintro i d μ' acc hi hD' ⟨rfl, hμ⟩
    have hm : d ∈ ds := List.mem_of_getElem? hi
    have e1 : ds.take (i + 1) = ds.take i ++ [d] := by
      rw [List.take_succ, hi]; rfl
    intro σ H v Q m e dd k
    refine hp d hm μ' (up μ' hμ) σ H v Q m e dd fun ρ2 σ2 q2 e2 hw => k ρ2 σ2 ?_ e2 hw
    refine q2.imp fun μ3 b ⟨r1, r2, r3⟩ => ?_
    subst r1 r2
    refine ⟨hD', ?_⟩
    cases hpd : p d with
    | false =>
      rw [if_neg (by decide)]
      refine ⟨?_, hμ⟩
      rw [e1, List.filter_append, List.filter_cons, hpd]
      simp
    | true =>
      rw [if_pos rfl]
      refine (r3 hpd).imp fun μ4 y ⟨s1, s2⟩ => ?_
      subst s1 s2
      refine ⟨hD', ?_, fun b hb => by rw [mput_ne hb]; exact hμ b hb⟩
      rw [e1, List.filter_append, List.filter_cons, hpd]
      simp
  · rintro μ' acc hD' ⟨rfl, hμ⟩
    left
    have : mcut μ' Dl = μ1 := by
      funext b
      by_cases hb : b = Dl
      · subst hb; rw [mcut_same, hD]
      · rw [mcut_ne hb, hμ b hb]
    rw [this, List.take_length]
    exact hq
end
/-! ### promises over data -/
abbrev PD := Mu → List D → DP → (Mu → Addr → D → Prop) → Prop
/-- the promise P of a def with n parameters -/
def spD (K : PySem.W.Frag) (n : Nat) (P : PD) : Sp := fun vs H Q E => ∃ (μ : Mu) (ds : List D) (post : DP) (exc : Mu → Addr → D → Prop), Mem K μ H ∧ DenL K μ H ds vs ∧ ds.length = n ∧ P μ ds post exc ∧
  (∀ μ' d v H', post μ' d → Grow μ H μ' H' → Mem K μ' H' → Den K μ' H' d v → Q v H') ∧
  (∀ μ' C d dx v H', exc μ' C d → Grow μ H μ' H' → Mem K μ' H' → μ' dx = none → H' dx = some (.xd [(("value" : Str), v)]) → Den K μ' H' d v → E (.ref C) (some dx) H')
abbrev WN : WX := fun _ _ _ _ => False
abbrev XN : XD := fun _ _ _ _ => False
abbrev excN : Mu → Addr → D → Prop := fun _ _ _ => False
def startD (N : List Str) (ds : List D) : Ro := ds.map some ++ List.replicate (N.length - ds.length) none
/-- a function of plain data: it changes nothing -/
def pureP (f : List D → Option D) : PD := fun μ ds post _ => ∃ d, f ds = some d ∧ post μ d

section
variable {K : PySem.W.Frag} {W : WX} {X : XD} {μ μ' : Mu} {H H' : Hp} {ρ : Ro} {E : ED} {ta tb te tx tl : TE} {tt tu : TT} {Φ : DP} {g : TG} {t : TS} {wi : TI} {n : Nat} {P : PD} {tr tk : TA}
theorem evx_call (h : EvL K W X μ ρ tr fun μ1 ds => ds.length = n ∧ P μ1 ds Φ excN) : EvX K W X μ ρ (tCall (spD K n P) [] E0 tr) Φ := fun σ H Q m e l k =>
  h σ H _ m e l fun μ1 ds vs H1 ⟨hl, hp⟩ g1 m1 d1 => ⟨μ1, ds, Φ, excN, m1, by rw [List.append_nil]; exact d1, hl, hp, fun μ' d v H' p g => k μ' d v H' p (g1.trans g), fun _ _ _ _ _ _ z => z.elim⟩
theorem evx_callS (h : EvL K W X μ ρ tr fun μ1 ds => ds.length = n ∧ P μ1 ds Φ fun μ' C d => X μ' ρ C d) : EvX K W X μ ρ (tCallS (spD K n P) (WE W) tr) Φ := fun σ H Q m e l k =>
  h σ H _ m e l fun μ1 ds vs H1 ⟨hl, hp⟩ g1 m1 d1 => ⟨μ1, ds, Φ, _, m1, d1, hl, hp, fun μ' d v H' p g => k μ' d v H' p (g1.trans g), fun μ' C d dx v H' p g mm => l μ' ρ C d dx v σ H' p (g1.trans g) mm ((e.grow g1).grow g)⟩
/-- a call with keywords: gD puts the data in the parameters' order -/
theorem evx_callK {gV : List V → List V → List V} (gD : List D → List D → List D) (hg : ∀ μ H ds es vs ws, DenL K μ H ds vs → DenL K μ H es ws → DenL K μ H (gD ds es) (gV vs ws))
    (h : EvL K W X μ ρ tr fun μ1 ds => EvL K W X μ1 ρ tk fun μ2 es => (gD ds es).length = n ∧ P μ2 (gD ds es) Φ excN) : EvX K W X μ ρ (tCallK (spD K n P) gV E0 tr tk) Φ := fun σ H Q m e l k =>
  h σ H _ m e l fun μ1 ds vs H1 h1 g1 m1 d1 => h1 σ H1 _ m1 (e.grow g1) (l.grow g1) fun μ2 es ws H2 ⟨hl, hp⟩ g2 m2 d2 =>
    ⟨μ2, _, Φ, excN, m2, hg _ _ _ _ _ _ (DenL.grow g2 _ _ d1) d2, hl, hp, fun μ' d v H' p g => k μ' d v H' p ((g1.trans g2).trans g), fun _ _ _ _ _ _ z => z.elim⟩
/-- raise C(e) -/
abbrev tRaiseO (C : Addr) (W : WX) (sp : Sp) (tr : TA) : TS := fun _ σ H => tMkO C sp [] tr σ H fun cls d H' => W cls d σ H'
/-- the promise of WorthError's __init__ -/
def spInit (K : PySem.W.Frag) (f : Str) : Sp := fun vs H Q _ => ∃ (a C : Addr) (v : V), vs = [.ref a, v] ∧ OexC K C ∧ PySem.W.findIn K (.ref C) f = some none ∧ H a = some (exo a C none) ∧
  ∀ dx, H dx = none → dx ≠ a → Q .non (upd (upd H dx (exd dx [(f, v)])) a (exo a C (some dx)))
theorem gs_raise {C : Addr} (hC : OexC K C) (hv : PySem.W.findIn K (.ref C) "value" = some none) (h : EvL K W X μ ρ tr fun μ1 ds => ∃ d, ds = [d] ∧ X μ1 ρ C d) : GS K W X μ ρ (tRaiseO C W (spInit K "value") tr) E := fun σ H D m e l k => by
  refine h σ H _ m e l fun μ1 ds vs H1 ⟨d, hd, hx⟩ g1 m1 d1 => ?_
  subst hd
  unfold DenL at d1
  obtain ⟨w, ws, e1, a, b⟩ := d1
  unfold DenL at b
  subst b e1
  refine ⟨Nat.le_of_ble_eq_true rfl, fun p hp => ⟨p, C, w, rfl, hC, hv, upd_same, fun dx hdx hne => ⟨rfl, dx, [(("value" : Str), w)], upd_same, ?_, ?_, ?_⟩⟩⟩
  · rw [upd_ne hne, upd_same]
  · rw [upd_ne hne] at hdx; exact hdx
  · have hdx' : H1 dx = none := by rw [upd_ne hne] at hdx; exact hdx
    have eq : upd (L2.del (upd (upd (upd H1 p (exo p C none)) dx (exd dx [(("value" : Str), w)])) p (exo p C (some dx))) p) dx (.xd [(("value" : Str), w)]) = upd H1 dx (.xd [(("value" : Str), w)]) := by
      funext b
      by_cases h1 : b = dx
      · rw [h1, upd_same, upd_same]
      · rw [upd_ne h1, upd_ne h1]
        by_cases h2 : b = p
        · rw [h2, del_same, hp]
        · rw [del_ne h2, upd_ne h2, upd_ne h1, upd_ne h2]
    rw [eq]
    exact l μ1 ρ C d dx w σ _ hx (g1.trans (Grow.new hdx')) (m1.new hdx') ((e.grow g1).grow (Grow.new hdx')) (m1.free hdx') upd_same (Den.grow (Grow.new hdx') _ _ a)
theorem envIs_start {N : List Str} : ∀ {ds : List D} {vs : List V}, DenL K μ H ds vs → EnvIs K μ H (startD N ds) (L2.start N vs) := fun {ds vs} h => by
  have hl := h.length
  refine ⟨?_, fun i d e => ?_⟩
  · unfold L2.start startD
    simp only [List.length_append, List.length_map, List.length_replicate]
    omega
  · unfold startD at e
    unfold L2.start
    by_cases hi : i < ds.length
    · rw [List.getElem?_append_left (by rw [List.length_map]; exact hi), List.getElem?_map] at e
      rw [List.getElem?_append_left (by rw [List.length_map]; omega), List.getElem?_map]
      cases q : ds[i]? with
      | none => rw [q] at e; cases e
      | some x =>
        rw [q] at e
        cases e
        obtain ⟨v, h1, h2⟩ := h.get q
        exact ⟨v, by rw [h1]; rfl, h2⟩
    · rw [List.getElem?_append_right (by rw [List.length_map]; omega)] at e
      by_cases hj : i - (ds.map some).length < N.length - ds.length
      · rw [List.getElem?_replicate, if_pos hj] at e
        cases e
      · rw [List.getElem?_replicate, if_neg hj] at e
        cases e
end
section
variable {P : Program} {w : World} {K : PySem.W.Frag} {mg : Str → Option Value} {base : Heap}
/-- a def keeps its promise; no exception leaves it -/
theorem def_ok {x qual : Str} {st : Stmt} {f : Addr} {fd : FuncData} {N ps : List Str} {k : Nat} {Pd : PD} (F : Fun K x qual st f fd) (S : FnScope N ps (defScope st))
    (hb : ∀ (cdv : Value) (A : Around) (outer : List Env) (s : Shared) (H : Hp) (E : XK), Room k (A.deeper (envOfC qual (defScope st) s.heap.objs.size f cdv)) →
      ∃ t, PSs (cxOf CX0 P w K mg base N qual (defScope st) f cdv A outer s H E).nox (defBody st) t ∧ ∀ μ ds post exc, ds.length = ps.length → Pd μ ds post exc → GS K WN XN μ (startD N ds) t { nx := fun m _ => post m .non, rt := post }) :
    FnOk P w K mg base CX0 (k + 1) f fd ps (spD K ps.length Pd) := by
  refine F.ok S (fun vs H Q E h => ?_) fun cdv A outer s H vs Q E hr h => ?_
  · obtain ⟨μ, ds, post, exc, _, d, hl, _⟩ := h
    rw [← d.length, hl]
  · obtain ⟨μ, ds, post, exc, m, d, hl, hp, h1, h2⟩ := h
    obtain ⟨t, ht, hg⟩ := hb cdv A outer s H E hr
    refine ⟨t, ht, hg μ ds post exc hl hp (L2.start N vs) H _ m (envIs_start d) (fun _ _ _ _ _ _ _ _ z => z.elim) ⟨?_, ?_, fun _ _ _ _ z => z.elim, fun _ _ _ _ z => z.elim⟩⟩
    · intro μ' ρ' σ' H' p gr mm ee
      exact h1 μ' .non .non H' p gr mm (by unfold Den; rfl)
    · intro μ' d v H' p gr mm dd
      exact h1 μ' d v H' p gr mm dd
/-- a def that may raise keeps its promise -/
theorem def_okX {x qual : Str} {st : Stmt} {f : Addr} {fd : FuncData} {N ps : List Str} {k : Nat} {Pd : PD} (F : Fun K x qual st f fd) (S : FnScope N ps (defScope st))
    (hb : ∀ (cdv : Value) (A : Around) (outer : List Env) (s : Shared) (H : Hp) (E : XK), Room k (A.deeper (envOfC qual (defScope st) s.heap.objs.size f cdv)) →
      ∃ t, PSs (cxOf (L2.CX P w) P w K mg base N qual (defScope st) f cdv A outer s H E) (defBody st) t ∧ ∀ μ ds post exc, ds.length = ps.length → Pd μ ds post exc → GS K (fun cls d _ H => E cls d H) (fun m _ C d => exc m C d) μ (startD N ds) t { nx := fun m _ => post m .non, rt := post }) :
    FnOk P w K mg base (L2.CX P w) (k + 1) f fd ps (spD K ps.length Pd) := by
  refine F.okX S (fun vs H Q E h => ?_) fun cdv A outer s H vs Q E hr h => ?_
  · obtain ⟨μ, ds, post, exc, _, d, hl, _⟩ := h
    rw [← d.length, hl]
  · obtain ⟨μ, ds, post, exc, m, d, hl, hp, h1, h2⟩ := h
    obtain ⟨t, ht, hg⟩ := hb cdv A outer s H E hr
    refine ⟨t, ht, hg μ ds post exc hl hp (L2.start N vs) H _ m (envIs_start d) ?_ ⟨?_, ?_, fun _ _ _ _ z => z.elim, fun _ _ _ _ z => z.elim⟩⟩
    · intro μ' ρ' C d dx v σ' H' p gr mm ee hx hd dd
      exact h2 μ' C d dx v H' p gr mm hx hd dd
    · intro μ' ρ' σ' H' p gr mm ee
      exact h1 μ' .non .non H' p gr mm (by unfold Den; rfl)
    · intro μ' d v H' p gr mm dd
      exact h1 μ' d v H' p gr mm dd
/-- another promise that follows -/
theorem fn_imp {CX : CXT} {k : Nat} {f : Addr} {fd : FuncData} {ps : List Str} {n : Nat} {P1 P2 : PD} (F : FnOk P w K mg base CX k f fd ps (spD K n P1)) (h : ∀ μ ds post exc, P2 μ ds post exc → P1 μ ds post exc) :
    FnOk P w K mg base CX k f fd ps (spD K n P2) := F.imp fun vs H Q E ⟨μ, ds, post, exc, m, d, hl, hp, r⟩ => ⟨μ, ds, post, exc, m, d, hl, h _ _ _ _ hp, r⟩
end
/-! ### while -/
section
variable {K : PySem.W.Frag} {W : WX} {X : XD} {μ μ' : Mu} {H H' : Hp} {ρ : Ro} {E : ED} {tt tu : TT} {Φ : DP} {t : TS}
theorem gs_while (Iv : Nat → Mu → Ro → Prop) (m0 : Nat) (h0 : Iv m0 μ ρ) (hs : ∀ m μ' ρ', Iv m μ' ρ' → EvB K W X μ' ρ' tt fun μ1 b => if b = true then GS K W X μ1 ρ' t { E with nx := fun μ2 ρ2 => ∃ m', m' < m ∧ Iv m' μ2 ρ2, ct := fun μ2 ρ2 => ∃ m', m' < m ∧ Iv m' μ2 ρ2, bk := E.nx } else E.nx μ1 ρ') :
    GS K W X μ ρ (tWhile tt t) E := fun σ H D mm e l k => by
  refine ⟨fun m σ' H' => ∃ μ' ρ', Iv m μ' ρ' ∧ Grow μ H μ' H' ∧ Mem K μ' H' ∧ EnvIs K μ' H' ρ' σ', ⟨m0, μ, ρ, h0, Grow.refl _ _, mm, e⟩, ?_⟩
  rintro m σ' H' ⟨μ', ρ', p, gr, m1, ee⟩
  refine hs m μ' ρ' p σ' H' _ m1 ee (l.grow gr) fun μ1 b H1 h1 g1 m2 => ?_
  cases b with
  | false =>
    rw [if_neg (by decide)] at h1 ⊢
    exact k.nx _ _ _ _ h1 (gr.trans g1) m2 (ee.grow g1)
  | true =>
    rw [if_pos rfl] at h1 ⊢
    have gg := gr.trans g1
    refine ⟨_, fun _ _ z => z, h1 σ' H1 _ m2 (ee.grow g1) (l.grow gg) ⟨?_, fun _ _ _ _ h x => k.rt _ _ _ _ h (gg.trans x), fun _ _ _ _ h x => k.nx _ _ _ _ h (gg.trans x), ?_⟩⟩
    · rintro μ2 ρ2 σ2 H2 ⟨m', hm, q⟩ g2 m3 e3
      exact ⟨m', hm, μ2, ρ2, q, gg.trans g2, m3, e3⟩
    · rintro μ2 ρ2 σ2 H2 ⟨m', hm, q⟩ g2 m3 e3
      exact ⟨m', hm, μ2, ρ2, q, gg.trans g2, m3, e3⟩
end
/-! ### operations of wide ints -/
def CMulB (i j : Int) : Prop := ∃ a b : Nat, i.natAbs < 2 ^ a ∧ j.natAbs < 2 ^ b ∧ a + b ≤ 134000000
def CPowB (i j : Int) : Prop := 0 ≤ j ∧ ∃ a : Nat, i.natAbs < 2 ^ a ∧ a * j.toNat ≤ 134000000
def CDivB (_ j : Int) : Prop := j ≠ 0 ∧ j.natAbs < 2 ^ 9000
theorem intBits_le {x : Int} {a : Nat} (h : x.natAbs < 2 ^ a) : Builtin.Int.intBits x ≤ a := by
  unfold Builtin.Int.intBits
  split
  · omega
  · rename_i hx
    have h0 : x.natAbs ≠ 0 := by simpa using hx
    have : x.natAbs.log2 < a := (Nat.log2_lt h0).mpr h
    omega
theorem CMulB.ok {i j : Int} (h : CMulB i j) : IntMulOk i j := by
  obtain ⟨a, b, h1, h2, h3⟩ := h
  have b1 := intBits_le h1
  have b2 := intBits_le h2
  have e : bitsLine = 134217728 := by decide
  unfold IntMulOk
  intro z
  rw [Bool.and_eq_true] at z
  have z2 := z.2
  unfold Builtin.Int.intTooBig at z2
  have z3 := of_decide_eq_true z2
  rw [e] at z3
  omega
/-- either reading -/
def rOr (r r' : R2) : R2 := fun x y H Q => r x y H Q ∨ r' x y H Q
section
variable {X : Cx}
theorem op_or2 {f : Value → Value → Sem Value} {r r' : R2} (a : OpR X f r) (b : OpR X f r') : OpR X f (rOr r r') := fun pins s σ H x y v u Q I rx ry h => by
  rcases h with h | h
  · exact a pins s σ H x y v u Q I rx ry h
  · exact b pins s σ H x y v u Q I rx ry h
theorem op_mulB : OpR X (binaryOp .Mult) (rI CMulB fun i j => .int (i * j)) := opI fun _ _ _ _ _ _ _ hc q => mul_int q hc.ok
theorem op_divB : OpR X (binaryOp .FloorDiv) (rI CDivB fun i j => .int (i.fdiv j)) := opI fun _ _ _ _ _ _ _ hc q => floordiv_int hc.1 q (.inl (PyProof.noPylong_of_log2 ((Nat.log2_lt (by have := hc.1; omega)).mpr hc.2)))
theorem op_powB : OpR X (binaryOp .Pow) (rI CPowB fun i j => .int (i ^ j.toNat)) := opI fun i j _ _ _ _ _ hc q => by
  obtain ⟨h0, a, h1, h2⟩ := hc
  refine pow_int h0 ?_ q
  have b1 := intBits_le h1
  have e : ((j.toNat : Nat) : Int) = j := Int.toNat_of_nonneg h0
  have : Builtin.Int.intBits i * j.toNat ≤ 134000000 := Nat.le_trans (Nat.mul_le_mul_right _ b1) h2
  rw [← e]
  have q2 : ((Builtin.Int.intBits i * j.toNat : Nat) : Int) ≤ ((134000000 : Nat) : Int) := Int.ofNat_le.mpr this
  rw [Int.natCast_mul] at q2
  exact Int.le_trans q2 (by decide)
/-- a + b: ints, texts, lists, tuples -/
def rAddS : R2 := fun x y H Q => ∃ i j, x = .str i ∧ y = .str j ∧ i.length + j.length ≤ sizeLine ∧ Q (.str (i ++ j)) H
theorem op_addS : OpR X (binaryOp .Add) rAddS := op_add_str
abbrev rAddU (K : PySem.W.Frag) : R2 := rOr (rI0 fun i j => .int (i + j)) (rOr rAddS (rOr rCat (rCatT K)))
theorem op_addU : OpR X (binaryOp .Add) (rAddU X.K) := op_or2 op_add (op_or2 op_addS (op_or2 op_cat op_catT))
abbrev rMulU : R2 := rOr (rI CMulB fun i j => .int (i * j)) rRep
theorem op_mulU : OpR X (binaryOp .Mult) rMulU := op_or2 op_mulB op_rep
abbrev rEqU (K : PySem.W.Frag) : R2 := rOr rEq (rEqD K)
abbrev rNeU (K : PySem.W.Frag) : R2 := rOr rNe (rNeD K)
theorem op_eqU (hu : X.A.units + 64 < cLine) : OpR X (compareOp .Eq) (rEqU X.K) := op_or2 op_eq (op_eqD hu)
theorem op_neU (hu : X.A.units + 64 < cLine) : OpR X (compareOp .NotEq) (rNeU X.K) := op_or2 op_ne (op_neD hu)
end
/-! ### over data -/
section
variable {K : PySem.W.Frag} {W : WX} {X : XD} {μ μ' : Mu} {H H' : Hp} {ρ : Ro} {E : ED} {ta tb te tx tl : TE} {Φ : DP} {x y : D} {r r' : R2} {i j : Int}
theorem opx_l (h : OpX K r μ x y Φ) : OpX K (rOr r r') μ x y Φ := fun H v w Q m a b k => .inl (h H v w Q m a b k)
theorem opx_r (h : OpX K r' μ x y Φ) : OpX K (rOr r r') μ x y Φ := fun H v w Q m a b k => .inr (h H v w Q m a b k)
theorem opx_i {C : Int → Int → Prop} {g : Int → Int → Int} (hc : C i j) (h : Φ μ (.int (g i j))) : OpX K (rI C fun i j => .int (g i j)) μ (.int i) (.int j) Φ := fun H v w Q m a b k => by
  unfold Den at a b
  exact ⟨i, j, a, b, hc, k μ _ _ H h (Grow.refl _ _) m (by unfold Den; rfl)⟩
theorem opx_i0 {g : Int → Int → Int} (h : Φ μ (.int (g i j))) : OpX K (rI0 fun i j => .int (g i j)) μ (.int i) (.int j) Φ := fun H v w Q m a b k => by
  unfold Den at a b
  exact ⟨i, j, a, b, k μ _ _ H h (Grow.refl _ _) m (by unfold Den; rfl)⟩
theorem opx_b0 {g : Int → Int → Bool} (h : Φ μ (.bl (g i j))) : OpX K (rI0 fun i j => .bl (g i j)) μ (.int i) (.int j) Φ := fun H v w Q m a b k => by
  unfold Den at a b
  exact ⟨i, j, a, b, k μ _ _ H h (Grow.refl _ _) m (by unfold Den; rfl)⟩
theorem opx_addS {a b : Str} (hl : a.length + b.length ≤ 1000000) (h : Φ μ (.str (a ++ b))) : OpX K rAddS μ (.str a) (.str b) Φ := fun H v w Q m p q k => by
  unfold Den at p q
  exact ⟨a, b, p, q, Nat.le_trans hl (by decide), k μ _ _ H h (Grow.refl _ _) m (by unfold Den; rfl)⟩
theorem opx_eqI (h : Φ μ (.bl (decide (i = j)))) : OpX K rEq μ (.int i) (.int j) Φ := fun H v w Q m a b k => by
  unfold Den at a b
  subst a b
  refine ⟨rfl, k μ _ _ H h (Grow.refl _ _) m ?_⟩
  unfold Den
  congr 1
  simp
theorem opx_neI (h : Φ μ (.bl (!decide (i = j)))) : OpX K rNe μ (.int i) (.int j) Φ := fun H v w Q m a b k => by
  unfold Den at a b
  subst a b
  refine ⟨rfl, k μ _ _ H h (Grow.refl _ _) m ?_⟩
  unfold Den
  congr 1
  simp
theorem opx_eqS {i j : Str} (h : Φ μ (.bl (decide (i = j)))) : OpX K rEq μ (.str i) (.str j) Φ := fun H v w Q m a b k => by
  unfold Den at a b
  subst a b
  refine ⟨rfl, k μ _ _ H h (Grow.refl _ _) m ?_⟩
  unfold Den
  congr 1
  simp
theorem opx_neS {i j : Str} (h : Φ μ (.bl (!decide (i = j)))) : OpX K rNe μ (.str i) (.str j) Φ := fun H v w Q m a b k => by
  unfold Den at a b
  subst a b
  refine ⟨rfl, k μ _ _ H h (Grow.refl _ _) m ?_⟩
  unfold Den
  congr 1
  simp
theorem opx_eqB {i j : Bool} (h : Φ μ (.bl (decide (i = j)))) : OpX K rEq μ (.bl i) (.bl j) Φ := fun H v w Q m a b k => by
  unfold Den at a b
  subst a b
  refine ⟨rfl, k μ _ _ H h (Grow.refl _ _) m ?_⟩
  unfold Den
  congr 1
  simp
theorem opx_neB {i j : Bool} (h : Φ μ (.bl (!decide (i = j)))) : OpX K rNe μ (.bl i) (.bl j) Φ := fun H v w Q m a b k => by
  unfold Den at a b
  subst a b
  refine ⟨rfl, k μ _ _ H h (Grow.refl _ _) m ?_⟩
  unfold Den
  congr 1
  simp
def isNon : D → Bool
  | .non => true
  | _ => false
theorem den_non {d : D} {v : V} (h : Den K μ H d v) : decide (v = .non) = isNon d := by
  cases d <;> unfold Den at h <;> unfold isNon
  case non => rw [h]; rfl
  case bl => rw [h]; rfl
  case int => rw [h]; rfl
  case str => rw [h]; rfl
  case ty => rw [h]; rfl
  case «at» => rw [h]; rfl
  case tup => obtain ⟨p, vs, e, _⟩ := h; rw [e]; rfl
  case lst => obtain ⟨p, vs, e, _⟩ := h; rw [e]; rfl
  case frz => obtain ⟨p, vs, e, _⟩ := h; rw [e]; rfl
  case dct => obtain ⟨p, vs, e, _⟩ := h; rw [e]; rfl
  case obj => obtain ⟨p, dx, vs, e, _⟩ := h; rw [e]; rfl
  case exc => obtain ⟨p, dx, vs, e, _⟩ := h; rw [e]; rfl
theorem evx_isN (h : EvX K W X μ ρ te fun μ1 d => Φ μ1 (.bl (isNon d))) : EvX K W X μ ρ (tIsN te) Φ := fun σ H Q m e l k =>
  h σ H _ m e l fun μ1 d v H1 h1 g1 m1 d1 => k μ1 _ _ H1 h1 g1 m1 (by rw [den_non d1]; unfold Den; rfl)
theorem evx_notN (h : EvX K W X μ ρ te fun μ1 d => Φ μ1 (.bl (!isNon d))) : EvX K W X μ ρ (tNotN te) Φ := fun σ H Q m e l k =>
  h σ H _ m e l fun μ1 d v H1 h1 g1 m1 d1 => k μ1 _ _ H1 h1 g1 m1 (by rw [den_non d1]; unfold Den; rfl)
theorem unx_i {g : Int → Int} (h : Φ μ (.int (g i))) : UnX K (rU fun i => .int (g i)) μ (.int i) Φ := fun H v Q m a k => by
  unfold Den at a
  exact ⟨i, a, k μ _ _ H h (Grow.refl _ _) m (by unfold Den; rfl)⟩
/-! ### built-ins -/
theorem denL1 {d : D} {vs : List V} (h : DenL K μ H [d] vs) : ∃ v, vs = [v] ∧ Den K μ H d v := by
  unfold DenL at h
  obtain ⟨v, ws, e, a, b⟩ := h
  unfold DenL at b
  subst b
  exact ⟨v, e, a⟩
theorem denL2 {d d' : D} {vs : List V} (h : DenL K μ H [d, d'] vs) : ∃ v v', vs = [v, v'] ∧ Den K μ H d v ∧ Den K μ H d' v' := by
  unfold DenL at h
  obtain ⟨v, ws, e, a, b⟩ := h
  obtain ⟨v', e', b'⟩ := denL1 b
  subst e'
  exact ⟨v, v', e, a, b'⟩
theorem cax_abs (h : Φ μ (.int (if i < 0 then -i else i))) : CaX K (fun xs H Q => ∃ i, xs = [.int i] ∧ Q (.int (if i < 0 then -i else i)) H) μ [.int i] Φ := fun H vs Q m d k => by
  obtain ⟨v, e, a⟩ := denL1 d
  unfold Den at a
  subst a
  exact ⟨i, e, k μ _ _ H h (Grow.refl _ _) m (by unfold Den; rfl)⟩
theorem cax_int (h : Φ μ (.int i)) : CaX K (fun xs H Q => (∃ i, xs = [.int i] ∧ Q (.int i) H) ∨ ∃ k, xs = [.bl k] ∧ Q (.int (if k then 1 else 0)) H) μ [.int i] Φ := fun H vs Q m d k => by
  obtain ⟨v, e, a⟩ := denL1 d
  unfold Den at a
  subst a
  exact .inl ⟨i, e, k μ _ _ H h (Grow.refl _ _) m (by unfold Den; rfl)⟩
theorem cax_intB {b : Bool} (h : Φ μ (.int (if b then 1 else 0))) : CaX K (fun xs H Q => (∃ i, xs = [.int i] ∧ Q (.int i) H) ∨ ∃ k, xs = [.bl k] ∧ Q (.int (if k then 1 else 0)) H) μ [.bl b] Φ := fun H vs Q m d k => by
  obtain ⟨v, e, a⟩ := denL1 d
  unfold Den at a
  subst a
  exact .inr ⟨b, e, k μ _ _ H h (Grow.refl _ _) m (by unfold Den; rfl)⟩
theorem cax_gcd (h : Φ μ (.int ((Nat.gcd i.natAbs j.natAbs : Nat) : Int))) : CaX K rGcd μ [.int i, .int j] Φ := fun H vs Q m d k => by
  obtain ⟨v, v', e, a, b⟩ := denL2 d
  unfold Den at a b
  subst a b
  exact ⟨i, j, e, k μ _ _ H h (Grow.refl _ _) m (by unfold Den; rfl)⟩
theorem cax_max2 (h : Φ μ (.int (if j > i then j else i))) : CaX K (fun xs H Q => ∃ i j, xs = [.int i, .int j] ∧ Q (.int (if j > i then j else i)) H) μ [.int i, .int j] Φ := fun H vs Q m d k => by
  obtain ⟨v, v', e, a, b⟩ := denL2 d
  unfold Den at a b
  subst a b
  exact ⟨i, j, e, k μ _ _ H h (Grow.refl _ _) m (by unfold Den; rfl)⟩
theorem cax_min2 (h : Φ μ (.int (if j < i then j else i))) : CaX K (fun xs H Q => ∃ i j, xs = [.int i, .int j] ∧ Q (.int (if j < i then j else i)) H) μ [.int i, .int j] Φ := fun H vs Q m d k => by
  obtain ⟨v, v', e, a, b⟩ := denL2 d
  unfold Den at a b
  subst a b
  exact ⟨i, j, e, k μ _ _ H h (Grow.refl _ _) m (by unfold Den; rfl)⟩
/-- len: a list (kept, frozen or one that may change), a tuple, a text -/
def LenD (μ : Mu) : D → Nat → Prop
  | .lst ds, n => n = ds.length
  | .frz ds, n => n = ds.length
  | .tup ds, n => n = ds.length
  | .str z, n => z.length ≤ 1000000 ∧ n = z.length
  | .at a, n => ∃ ds, μ a = some (.lst ds) ∧ n = ds.length
  | _, _ => False
theorem cax_len {n : Nat} (hx : LenD μ x n) (h : Φ μ (.int n)) : CaX K (fun xs H Q => ∃ x n, xs = [x] ∧ LenV K x H n ∧ Q (.int n) H) μ [x] Φ := fun H vs Q m d k => by
  obtain ⟨v, e, a⟩ := denL1 d
  refine ⟨v, n, e, ?_, k μ _ _ H h (Grow.refl _ _) m (by unfold Den; rfl)⟩
  cases x <;> unfold Den at a <;> unfold LenD at hx <;> try exact hx.elim
  case str => subst a; exact ⟨Nat.le_trans hx.1 (by decide), hx.2⟩
  case tup =>
    obtain ⟨p, us, e, s, b⟩ := a
    subst e
    exact .inr ⟨us, s.sq, by rw [hx, b.length]⟩
  case lst =>
    obtain ⟨p, us, e, s, b⟩ := a
    subst e
    exact .inl ⟨us, SqL.of s.2, by rw [hx, b.length]⟩
  case frz =>
    obtain ⟨p, us, e, s, b⟩ := a
    subst e
    exact .inl ⟨us, s.sq, by rw [hx, b.length]⟩
  case «at» =>
    obtain ⟨ds, q, en⟩ := hx
    obtain ⟨us, e1, b⟩ := m _ _ q
    subst a
    exact .inl ⟨us, SqL.of e1, by rw [en, b.length]⟩
/-! ### items -/
/-- the items of something that has a place for each -/
def ItemsD (μ : Mu) : D → List D → Prop
  | .lst ds, es => es = ds
  | .frz ds, es => es = ds
  | .tup ds, es => es = ds
  | .at a, es => μ a = some (.lst es)
  | _, _ => False
theorem atI_den {ds : List D} {vs : List V} {i : Int} {d : D} (b : DenL K μ H ds vs) (h : atI ds i = some d) : ∃ v, atI vs i = some v ∧ Den K μ H d v := by
  unfold atI at h ⊢
  rw [← b.length]
  cases q : ixN ds.length i with
  | none => rw [q] at h; cases h
  | some j =>
    rw [q] at h
    have h' : ds[j]? = some d := h
    obtain ⟨v, h1, h2⟩ := b.get h'
    exact ⟨v, h1, h2⟩
theorem opx_ix {es : List D} {d : D} (hx : ItemsD μ x es) (ha : atI es i = some d) (h : Φ μ d) : OpX K (rIx K) μ x (.int i) Φ := fun H v w Q m a b k => by
  unfold Den at b
  subst b
  cases x <;> unfold Den at a <;> unfold ItemsD at hx <;> try exact hx.elim
  case tup =>
    obtain ⟨p, us, e, s, b⟩ := a
    subst e hx
    obtain ⟨u, q1, q2⟩ := atI_den b ha
    exact .inr (.inl ⟨p, us, i, u, rfl, rfl, s.sq, q1, k μ _ _ H h (Grow.refl _ _) m q2⟩)
  case lst =>
    obtain ⟨p, us, e, s, b⟩ := a
    subst e hx
    obtain ⟨u, q1, q2⟩ := atI_den b ha
    exact .inl ⟨p, us, i, u, rfl, rfl, SqL.of s.2, q1, k μ _ _ H h (Grow.refl _ _) m q2⟩
  case frz =>
    obtain ⟨p, us, e, s, b⟩ := a
    subst e hx
    obtain ⟨u, q1, q2⟩ := atI_den b ha
    exact .inl ⟨p, us, i, u, rfl, rfl, s.sq, q1, k μ _ _ H h (Grow.refl _ _) m q2⟩
  case «at» =>
    obtain ⟨us, e1, b⟩ := m _ _ hx
    subst a
    obtain ⟨u, q1, q2⟩ := atI_den b ha
    exact .inl ⟨_, us, i, u, rfl, rfl, SqL.of e1, q1, k μ _ _ H h (Grow.refl _ _) m q2⟩
theorem opx_ixS {z : Str} {c : Nat} (hz : z.length ≤ 1000000) (ha : atI z.cps.toList i = some c) (h : Φ μ (.str ⟨#[c]⟩)) : OpX K (rIx K) μ (.str z) (.int i) Φ := fun H v w Q m a b k => by
  unfold Den at a b
  subst a b
  exact .inr (.inr ⟨z, i, c, rfl, rfl, Nat.le_trans hz (by decide), ha, k μ _ _ H h (Grow.refl _ _) m (by unfold Den; rfl)⟩)
theorem atI_pos {α : Type} {xs : List α} {n : Nat} {v : α} (h : xs[n]? = some v) : atI xs (n : Int) = some v := atI_nat h
/-- x[i] = e -/
theorem tgx_sub {to ti : TE} {d : D} {Φ : Mu → Ro → Prop} (h : EvX K W X μ ρ to fun μ1 o => EvX K W X μ1 ρ ti fun μ2 i => ∃ a ds k j, o = .at a ∧ i = .int k ∧ μ2 a = some (.lst ds) ∧ ixN ds.length k = some j ∧ Φ (mput μ2 a (.lst (ds.set j d))) ρ) :
    TgX K W X μ ρ (gSub to ti rSetL) d Φ := fun σ H v Q m e l dd k =>
  h σ H _ m e l fun μ1 o ov H1 h1 g1 m1 d1 => h1 σ H1 _ m1 (e.grow g1) (l.grow g1) fun μ2 i iv H2 ⟨a, ds, kk, j, e1, e2, ha, hj, hp⟩ g2 m2 d2 => by
    subst e1 e2
    unfold Den at d1 d2
    subst d1 d2
    obtain ⟨us, q, b⟩ := m2 a _ ha
    have gg := g1.trans g2
    refine ⟨a, us, kk, j, rfl, rfl, q, by rw [← b.length]; exact hj, k _ ρ σ _ hp (gg.trans (Grow.wr ha)) (m2.wr ha ⟨_, upd_same, DenL.set (Den.grow (gg.trans (Grow.wr ha)) _ _ dd) j (DenL.grow (Grow.wr ha) _ _ b)⟩) ((e.grow gg).grow (Grow.wr ha))⟩
/-! ### methods of lists -/
theorem evx_append {to : TE} {p : Addr} {ds : List D} (ho : ∀ Φ : DP, Φ μ (.at p) → EvX K W X μ ρ to Φ) (h : EvX K W X μ ρ te fun μ1 d => ∃ ds, μ1 p = some (.lst ds) ∧ ds.length ≤ 1000000 ∧ Φ (mput μ1 p (.lst (ds ++ [d]))) .non) (h0 : μ p = some (.lst ds)) :
    EvX K W X μ ρ (tBM K "list" rAppend to (tCons te tNil)) Φ := fun σ H Q m e l k =>
  ho (fun μ1 d => μ1 = μ ∧ d = .at p) ⟨rfl, rfl⟩ σ H _ m e l fun μ0 d0 v0 H0 ⟨e1, e2⟩ g0 m0 d0' => by
    subst e1 e2
    unfold Den at d0'
    subst d0'
    obtain ⟨us0, q0, b0⟩ := m0 p _ h0
    refine ⟨.inl ⟨rfl, us0, SqL.of q0⟩, ?_⟩
    refine h σ H0 _ m0 (e.grow g0) (l.grow g0) fun μ1 d v H1 ⟨ds1, hp, hz, hq⟩ g1 m1 d1 => ?_
    obtain ⟨us, q, b⟩ := m1 p _ hp
    exact ⟨p, us, v, rfl, rfl, q, by rw [← b.length]; exact Nat.lt_of_le_of_lt hz (by decide), k _ _ _ _ hq ((g0.trans g1).trans (Grow.wr hp)) (m1.wr hp ⟨_, upd_same, (DenL.grow (Grow.wr hp) _ _ b).append (DenL.cons (Den.grow (Grow.wr hp) _ _ d1) DenL.nil)⟩) (by unfold Den; rfl)⟩
end
section
variable {X : Cx} {pins : List (Addr × Obj)} {σ : L2.St} {H : Hp} {s : Shared}
/-- an object of ours, untracked till now, is tracked from now on -/
theorem inv_track {a : Addr} {o : HO} (I : L2.Inv X pins σ H s) (hn : H a = none) (h0 : X.s_0.heap.get? a = none) (hL : a ≠ X.env.locals) (hc : ∀ x c, X.env.cells.lookup x = some c → c ≠ a) (hp : ∀ p ∈ X.pn ++ pins, p.1 ≠ a)
    (ok : ObjOk X.prog X.w (upd H a o) s.heap a o) : L2.Inv X pins σ (upd H a o) s := by
  have ne : ∀ {b u}, H b = some u → b ≠ a := fun {b u} e z => by rw [z, hn] at e; cases e
  have n0 : ∀ {b u}, X.s_0.heap.get? b = some u → b ≠ a := fun {b u} e z => by rw [z, h0] at e; cases e
  have B := I.base
  have base' : Un X.fs X.ex X.H_0 (upd H a o) X.s_0.heap s.heap := {
    keep := B.keep
    slot := B.slot
    free := fun b u e q x => (upd_ne (n0 e)).trans (B.free b u e q x)
    there := B.there
    tups := fun b xs e => (upd_ne (ne (B.tups b xs e))).trans (B.tups b xs e)
    frzs := fun b u v e => (upd_ne (ne (B.frzs b u v e))).trans (B.frzs b u v e)
    tbls := fun b ps e => by
      obtain ⟨m, q⟩ := B.tbls b ps e
      exact ⟨m, (upd_ne (ne q)).trans q⟩ }
  refine ⟨I.ok, I.os, I.bare, base', I.loc, I.cell, (upd_ne (Ne.symm hL)).trans I.free, fun x c e => (upd_ne (hc x c e)).trans (I.freeC x c e), fun p q => ?_, fun b u e => ?_, I.len⟩
  · obtain ⟨h1, h2, h3⟩ := I.pin p q
    exact ⟨h1, (upd_ne (hp p q)).trans h2, h3⟩
  · by_cases hb : b = a
    · subst hb
      rw [upd_same] at e
      cases e
      exact ok
    · rw [upd_ne hb] at e
      exact (I.hok b u e).stay (fun _ _ _ z => z) (fun c q => (upd_ne (ne q)).trans q) fun c xs q => (upd_ne (ne q)).trans q
/-- what a clause «except x as n», that keeps the error, wishes of the body's errors -/
def wKeep (K : PySem.W.Frag) (c : Value) (i : Nat) (ts : Addr → TS) (Dd : Ends) : WX := fun cls d σ H => ∃ C dx, cls = .ref C ∧ d = some dx ∧ PySem.W.exmOne K cls c = some true ∧
  ∀ a, H a = none → ts a { nx := fun σ' H' => H' a = none → Dd.nx (σ'.set i none) (upd H' a (ExT a C dx)), rt := fun v H' => H' a = none → Dd.rt v (upd H' a (ExT a C dx)) } (σ.set i (some (.ref a))) H
/-- try: body, except c as n: suite, the error kept -/
def tTry (K : PySem.W.Frag) (c : Value) (i : Nat) (ts : Addr → TS) (tb : WX → TS) : TS := fun Dd σ H => tb (wKeep K c i ts Dd) Dd σ H
variable {x n : Str} {c : Value} {i : Nat} {body suite : List Stmt} {b0 : Stmt} {np pos pos' : Pos} {tb : WX → TS} {ts : Addr → TS}
theorem ps_try_keep (hs : X.stack = X.env :: X.outer) (hf : X.env.frame = some X.env.locals) (hex : X.ex = []) (hN : X.N.Nodup) (hi : X.N[i]? = some n) (hln : X.env.kindOf n = some .local) (hc : Names X x c)
    (hb : ∀ (W : WX) (pn : List (Addr × Obj)) (xe : Value → Shared → Prop), Takes (X.tr pn xe) W → PassesOwn (model X.prog X.w) X.A X.env xe → PSs (X.tr pn xe) body (tb W))
    (hsu : ∀ (a : Addr) (oe : Obj) (pn : List (Addr × Obj)), PSs (X.suite a ((a, oe) :: pn)) (b0 :: suite) (ts a)) :
    PS X (.Try body [.ExceptHandler (some (.Name x np)) (some n) (b0 :: suite) pos'] [] [] pos) (tTry X.K c i ts tb) := by
  constructor
  intro pins s σ H Dd I h
  have ok := I.ok
  have hfr : X.A.frames = some (X.env :: X.outer) := by rw [ok.frames, hs]
  apply wpAny_Try_except
  let xq : Value → Shared → Prop := fun e s₁ => wpAny (model X.prog X.w) X.A (noteFrame e X.env) (fun _ s₂ => wpAny (model X.prog X.w) X.A (setFlight e none) (fun _ s₃ =>
    wpAny (model X.prog X.w) X.A (handleBy e X.env [.ExceptHandler (some (.Name x np)) (some n) (b0 :: suite) pos']) (SP X pins Dd) X.xe s₃) X.xe s₂) X.xe s₁
  have caught : Takes (X.tr (X.pn ++ pins) xq) (wKeep X.K c i ts Dd) := by
    intro u s' xx
    obtain ⟨a, B, sI, pins', σ', H', cls, d, hu, J', nb, up, sky, na, os, ag, C, dx, hcls, hd, hm, hgo⟩ := xx
    subst hu hcls hd
    have J : L2.Inv X pins σ' H' sI := J'.ofTry ok
    have sky2 : Sky B (X.env :: X.outer) a (Zc (.ref C) (some dx)) X.env.locals s'.heap := by
      rw [← hs]
      exact sky
    show wpAny (model X.prog X.w) X.A (noteFrame (.ref a) X.env) _ _ _
    apply Sky.land Zc.steady hfr hf sky2
    intro h3 fl3 up3
    have J3 : L2.Inv X pins σ' H' { s' with heap := h3 } := J.landed nb fl3.1 (up.trans up3) os ag
    obtain ⟨o3, v3, he3, hz3, hd3⟩ := fl3.there
    have nfr : a ∉ frs (X.env :: X.outer) := fun hm => by
      obtain ⟨_, o', e', hnf⟩ := fl3.2.2.1.mem hm
      rw [he3] at e'
      cases e'
      exact hnf _ hd3
    have nL : a ≠ X.env.locals := fun z => nfr (List.mem_filterMap.mpr ⟨X.env, List.mem_cons_self, by rw [hf, z]⟩)
    have nF : a ∉ X.fs := fun hm => by
      obtain ⟨e, he, q⟩ := List.mem_filterMap.mp hm
      exact nfr (List.mem_filterMap.mpr ⟨e, List.mem_cons_of_mem _ he, q⟩)
    -- the error is younger than the state it flew from
    have young : sI.heap.get? a = none := by
      cases e : sI.heap.get? a with
      | none => rfl
      | some o =>
        have q := nb a o e (by show a ∉ frs X.stack; rw [hs]; exact nfr)
        have q2 : B.get? a = none := fl3.2.1
        rw [q2] at q
        cases q
    have y0 : X.s_0.heap.get? a = none := by
      cases e : X.s_0.heap.get? a with
      | none => rfl
      | some o =>
        obtain ⟨o', q⟩ := J.base.there a o e (by rw [hex]; exact List.not_mem_nil)
        rw [young] at q
        cases q
    have yc : ∀ x c, X.env.cells.lookup x = some c → c ≠ a := fun y cc e z => by
      obtain ⟨v, o, q, _⟩ := J.cell y cc e
      rw [z, young] at q
      cases q
    have yp : ∀ p ∈ X.pn ++ pins, p.1 ≠ a := fun p hp z => by
      have q := (J.pin p hp).1
      rw [z, young] at q
      cases q
    have S3 := J3.suite he3 hd3 na nL nF
    refine wpAny_handleBy_cons (codeAny_handlers_test ?_) (by intro q; cases q)
    have LT : PySem.W.Looks (model X.prog X.w) h3 (typeOf (.ref a)) (.ref C) := fun A Q E s k q => wpAny_typeOf_ref (k _ _ he3) (by rw [hz3.1]; exact q)
    have LM := PySem.W.exm_one (M := model X.prog X.w) (J3.kIn) LT hm
    have test : ∀ {Q : Value → Shared → Prop} {E : Value → Shared → Prop}, Q c { s' with heap := h3 } → wpAny (model X.prog X.w) (X.A.mark (some (.ref a))) (eval (.Name x np) X.env) Q E { s' with heap := h3 } := by
      intro Q E q
      rcases hc with ⟨hg, hdbg, hm1 | ⟨hm1, hv, hnn⟩⟩
      · exact ld_glob (X := X.suite a ((a, o3) :: (X.pn ++ pins))) S3 hg hm1 q hdbg
      · exact ld_blt (X := X.suite a ((a, o3) :: (X.pn ++ pins))) S3 hg hm1 hv q hnn hdbg
    refine test (LM.here ?_)
    refine codeAny_handlers_suite_as (HandSPX.lands_againZ fl3 fun h4 fl4 up4 => ?_)
    have J4 : L2.Inv X pins σ' H' { s' with heap := h4 } := J.landed nb fl4.1 ((up.trans up3).trans up4) os ag
    obtain ⟨o4, v4, he4, hz4, hd4⟩ := fl4.there
    have S4 := J4.suite he4 hd4 na nL nF
    refine store_ok (X := X.suite a ((a, o4) :: (X.pn ++ pins))) (v := .ref a) S4 hN hi (.inl hln) rfl (fun s5 S5 => ?_) (.inr hln)
    refine wpAny_mono ((hsu a o4 (X.pn ++ pins)).run [] s5 _ H' _ S5 (hgo a na)) (fun f s6 hsp => ?_) (fun _ _ z => False.elim z)
    have fin : ∀ {σ6 : L2.St} {H6 : Hp} {Q : Shared → Prop}, L2.Inv (X.suite a ((a, o4) :: (X.pn ++ pins))) [] σ6 H6 s6 → (∀ s7, H6 a = none → L2.Inv X pins (σ6.set i none) (upd H6 a (ExT a C dx)) s7 → Q s7) →
        wpAny (model X.prog X.w) X.A (do bindName X.env n .none; unbindBehindTheSuite X.env n pos') (fun _ s7 => Q s7) X.xe s6 := by
      intro σ6 H6 Q S6 hq
      obtain ⟨ga, gn, _⟩ := S6.pin (a, o4) (List.mem_append_left _ List.mem_cons_self)
      have T := inv_track (S6.unsuite ok) gn y0 nL yc yp (o := ExT a C dx) ⟨⟨o4, v4, ga, hz4.1, hz4.2, hd4⟩, ⟨o4, ga⟩, fun h1 h2 ⟨o, v, e, r⟩ k => ⟨o, v, k o e, r⟩⟩
      exact gone_ok T hN hi hln fun s7 J7 => hq s7 gn J7
    cases f with
    | next =>
      obtain ⟨σ6, H6, S6, q6⟩ := hsp
      exact fin S6 fun s7 g J7 => ⟨_, _, J7, q6 g⟩
    | brk =>
      obtain ⟨σ6, H6, S6, q6⟩ := hsp
      exact q6.elim
    | cont =>
      obtain ⟨σ6, H6, S6, q6⟩ := hsp
      exact q6.elim
    | ret u =>
      obtain ⟨v6, σ6, H6, S6, r6, q6⟩ := hsp
      exact fin S6 fun s7 g J7 => ⟨_, _, _, J7, r6, q6 g⟩
  refine wpAny_mono ((hb _ (X.pn ++ pins) xq caught PassesOwn.looking).run [] s σ H Dd (I.toTry _) h) (fun f s1 hsp => ?_) (fun e s1 he => he)
  rcases f with _ | _ | _ | u
  · obtain ⟨σ', H', J', q⟩ := hsp
    exact wpAny_execs_nil ⟨σ', H', J'.ofTry ok, q⟩
  · obtain ⟨σ', H', J', q⟩ := hsp
    exact ⟨σ', H', J'.ofTry ok, q⟩
  · obtain ⟨σ', H', J', q⟩ := hsp
    exact ⟨σ', H', J'.ofTry ok, q⟩
  · obtain ⟨v, σ', H', J', r, q⟩ := hsp
    exact ⟨v, σ', H', J'.ofTry ok, r, q⟩
end
/-- what the written part says of an own error's class -/
structure ExcK (K : PySem.W.Frag) (C : Addr) : Prop where
  ox : OexC K C
  nv : PySem.W.findIn K (.ref C) "value" = some none
  ga : PySem.W.findIn K (.ref C) "__getattribute__" = some (some (.builtin "BaseException.__getattribute__"))
  gg : PySem.W.findIn K (.ref C) "__getattr__" = some none
  hd : PySem.W.hasDictIn K C = true
  ha : PySem.W.findIn K (.ref C) "__class__" = some (some (.builtin "object.__class__"))
  hm : PySem.W.mroIn K C (.type "object") = some true
/-- what it says of the getter of classes -/
structure ClsG (K : PySem.W.Frag) : Prop where
  hn : PySem.W.specialIn K (.builtin "object.__class__") "__get__" = some (some (.builtin "getset_descriptor.__get__"))
  ht : PySem.W.takesIn K (.builtin "object.__class__") = some true
section
variable {X : Cx} {H : Hp} {a C : Addr}
theorem ext_at {s : Shared} {pins : List (Addr × Obj)} {σ : L2.St} {dx : Addr} (I : L2.Inv X pins σ H s) (h : H a = some (ExT a C dx)) : ∃ (oe : Obj) (vs : Array Value), s.heap.get? a = some oe ∧ oe.cls = .ref C ∧ oe.dict = some dx ∧ oe.data = .fields vs := (I.hok a _ h).1
/-- e.value -/
def tXv (K : PySem.W.Frag) (te : TE) : TE := fun σ H Q => te σ H fun x H1 => ∃ (a C dx : Addr) (v : V), x = .ref a ∧ H1 a = some (ExT a C dx) ∧ ExcK K C ∧ H1 dx = some (.xd [(("value" : Str), v)]) ∧ Q v H1
theorem pe_xv {e : Expr} {te : TE} {pos : Pos} (he : PE X e te) (hb : attributeBase e "value" X.env (eval e X.env) = eval e X.env := by rfl) : PE X (.Attribute e "value" pos) (tXv X.K te) := by
  constructor
  intro pins s σ H Q I h
  refine attr_of hb (thn (he.run pins s σ H _ I h) fun u s1 hh => ?_)
  obtain ⟨x, H1, I1, rx, a, C, dx, v, ex, ea, T, ed, q⟩ := hh
  subst ex
  obtain rfl : u = Value.ref a := rx
  obtain ⟨oe, vs, h1, h2, h3, h4⟩ := ext_at I1 ea
  have hx : ObjOk X.prog X.w H1 s1.heap dx (.xd [(("value" : Str), v)]) := I1.hok dx _ ed
  obtain ⟨mA, hns, hr⟩ := hx
  obtain ⟨od, ho, hl⟩ := lookIn_ns hns
  obtain ⟨u, hu, ru⟩ := RelO.some_of (v := v) (o := mA "value") (by
    have q := hr "value"
    simpa [List.lookup] using q)
  have J : PySem.W.InstAt s1.heap a oe C (some od) := ⟨h1, h2, by unfold PySem.W.notCls; rw [h4] <;> rfl, by rw [h3]; exact ho⟩
  exact HandSPX.exc_get I1.kIn J T.ga T.gg T.ox.exC (PySem.W.findObj_own T.hd T.nv rfl (by rw [hl, hu])) (handed_of ru) ⟨v, H1, I1.tok _, ru, q⟩
/-- isinstance(e, c), isinstance(e, (c, ..)) of an own error -/
def rIsX (K : PySem.W.Frag) : List V → Hp → VK → Prop := fun xs H Q => ∃ (a D dx : Addr) (c : V) (u : Value) (b : Bool), xs = [.ref a, c] ∧ H a = some (ExT a D dx) ∧ (∃ fs, H dx = some (.xd fs)) ∧ ExcK K D ∧ ClsG K ∧ ClsV c u ∧ PySem.W.kitOne K (.ref D) u = some b ∧ Q (.bl b) H
def rIsXT (K : PySem.W.Frag) : List V → Hp → VK → Prop := fun xs H Q => ∃ (a D dx tp : Addr) (cs : List V) (us : List Value) (b : Bool), xs = [.ref a, .ref tp] ∧ H a = some (ExT a D dx) ∧ (∃ fs, H dx = some (.xd fs)) ∧ ExcK K D ∧ ClsG K ∧ H tp = some (.tup cs) ∧ Paired ClsV cs us ∧ PySem.W.kitAny K (.ref D) us = some b ∧ Q (.bl b) H
theorem inst_ex {s : Shared} {pins : List (Addr × Obj)} {σ : L2.St} {D dx : Addr} (I : L2.Inv X pins σ H s) (h : H a = some (ExT a D dx)) (hd : ∃ fs, H dx = some (.xd fs)) : ∃ (oe od : Obj), PySem.W.InstAt s.heap a oe D (some od) := by
  obtain ⟨oe, vs, h1, h2, h3, h4⟩ := ext_at I h
  obtain ⟨fs, hd⟩ := hd
  have hx : ObjOk X.prog X.w H s.heap dx (.xd fs) := I.hok dx _ hd
  obtain ⟨mA, hns, hr⟩ := hx
  obtain ⟨od, ho, hl⟩ := lookIn_ns hns
  exact ⟨oe, od, h1, h2, by unfold PySem.W.notCls; rw [h4] <;> rfl, by rw [h3]; exact ho⟩
theorem call_isX : CallR X (.builtin "isinstance") (rIsX X.K) := by
  intro pins s σ H xs us Q I r h
  obtain ⟨a, D, dx, c, u, b, rfl, ha, hd, T, G, k, e, q⟩ := h
  obtain ⟨u1, u2, rfl, r1, r2⟩ := vals2 r
  have e2 := k.eq r2
  subst e2
  obtain rfl : u1 = Value.ref a := r1
  obtain ⟨oe, od, J⟩ := inst_ex I ha hd
  have hcl : (PySem.W.clsIn X.K D).isSome = true := by
    obtain ⟨cd, hc, _⟩ := PySem.W.any_some T.hd
    rw [hc]; rfl
  exact PySem.W.kia_one (PySem.W.kitx_exc hcl T.ga T.gg T.ox.exC T.ha G.hn G.ht T.hm) I.kIn J e (fun z => nomatch z) fun tk => ⟨.bl b, H, I.tok tk, rfl, q⟩
theorem call_isXT : CallR X (.builtin "isinstance") (rIsXT X.K) := by
  intro pins s σ H xs us Q I r h
  obtain ⟨a, D, dx, tp, cs, ws, b, rfl, ha, hd, T, G, hT, k, e, q⟩ := h
  obtain ⟨u1, u2, rfl, r1, r2⟩ := vals2 r
  obtain rfl : u1 = Value.ref a := r1
  obtain rfl : u2 = Value.ref tp := r2
  obtain ⟨oe, od, J⟩ := inst_ex I ha hd
  have hcl : (PySem.W.clsIn X.K D).isSome = true := by
    obtain ⟨cd, hc, _⟩ := PySem.W.any_some T.hd
    rw [hc]; rfl
  obtain ⟨_, its, rv, o, h1, h2, n, h3⟩ := (show ObjOk X.prog X.w H s.heap tp (.tup cs) from I.hok tp _ hT)
  have e3 := ClsV.all k rv
  subst e3
  obtain ⟨oc, od', dt, sl⟩ := o
  simp only at h2 h3
  subst h2 h3
  exact PySem.W.kia_tup (PySem.W.kitx_exc hcl T.ga T.gg T.ox.exC T.ha G.hn G.ht T.hm) I.kIn J h1 e (fun z => nomatch z) fun tk => ⟨.bl b, H, I.tok tk, rfl, q⟩
theorem call_or {f : Value} {r r' : List V → Hp → VK → Prop} (a : CallR X f r) (b : CallR X f r') : CallR X f (fun xs H Q => r xs H Q ∨ r' xs H Q) := fun pins s σ H xs us Q I rx h => by
  rcases h with h | h
  · exact a pins s σ H xs us Q I rx h
  · exact b pins s σ H xs us Q I rx h
/-- isinstance -/
abbrev rIsU (K : PySem.W.Frag) : List V → Hp → VK → Prop := fun xs H Q => (rIsi K xs H Q ∨ rIsiT K xs H Q) ∨ (rIsX K xs H Q ∨ rIsXT K xs H Q)
theorem call_isU : CallR X (.builtin "isinstance") (rIsU X.K) := call_or (call_or call_isi call_isiT) (call_or call_isX call_isXT)
end
/-! ### over data -/
/-- the type of plain data -/
def tyD : D → Option String
  | .non => some "NoneType" | .bl _ => some "bool" | .int _ => some "int" | .str _ => some "str"
  | .tup _ => some "tuple" | .lst _ => some "list" | .frz _ => some "list" | .dct _ _ => some "dict"
  | _ => none
/-- the type of data, what may change with it -/
def tyM (μ : Mu) : D → Option String
  | .at a => match μ a with
    | some (.lst _) => some "list"
    | some (.dct _ _) => some "dict"
    | _ => none
  | d => tyD d
section
variable {K : PySem.W.Frag} {W : WX} {X : XD} {μ μ' : Mu} {H H' : Hp} {ρ : Ro} {E : ED} {ta tb te tx tl : TE} {Φ : DP} {x y : D}
theorem den_ty {T : String} {v : V} (m : Mem K μ H) (h : Den K μ H x v) (ht : tyM μ x = some T) : TyX K H v (.type T) := by
  cases x <;> unfold Den at h <;> unfold tyM at ht <;> try unfold tyD at ht
  case non => cases ht; subst h; exact .base .non
  case bl => cases ht; subst h; exact .base (.bl _)
  case int => cases ht; subst h; exact .base (.int _)
  case str => cases ht; subst h; exact .base (.str _)
  case tup =>
    cases ht
    obtain ⟨p, vs, e, s, _⟩ := h
    subst e
    rcases s with ⟨_, s | ⟨o, s⟩⟩ | ⟨o, its, n, h1, h2, _⟩
    · exact .base (.tup s)
    · exact .fTuple s
    · exact .kTuple h1 h2
  case lst =>
    cases ht
    obtain ⟨p, vs, e, s, _⟩ := h
    subst e
    exact .base (.lst s.2)
  case frz =>
    cases ht
    obtain ⟨p, vs, e, s, _⟩ := h
    subst e
    rcases s with ⟨_, s | ⟨o, s⟩⟩ | ⟨o, its, n, h1, h2, _⟩
    · exact .base (.lst s)
    · exact .base (.frz s)
    · exact .kList h1 h2
  case dct =>
    cases ht
    obtain ⟨p, vs, e, s, _⟩ := h
    subst e
    exact .base (.dK s.2)
  case «at» a =>
    subst h
    dsimp only at ht
    cases q : μ a with
    | none => rw [q] at ht; cases ht
    | some o =>
      rw [q] at ht
      have hm := m a o q
      cases o with
      | lst ds => cases ht; obtain ⟨vs, e, _⟩ := hm; exact .base (.lst e)
      | dct ks ds => cases ht; obtain ⟨vs, e, _⟩ := hm; exact .base (.dK e)
      | obj C fs ds => cases ht
  all_goals (cases ht)
/-- isinstance of plain data, a built-in class -/
theorem cax_is {T c : String} {b : Bool} (ht : tyM μ x = some T) (hk : kitB T c = some b) (h : Φ μ (.bl b)) : CaX K (rIsU K) μ [x, .ty c] Φ := fun H vs Q m d k => by
  obtain ⟨v, v', e, a, a'⟩ := denL2 d
  unfold Den at a'
  subst a'
  exact .inl (.inl ⟨v, .ty c, .type T, .type c, b, e, .ty c, den_ty m a ht, kit_ty hk, k μ _ _ H h (Grow.refl _ _) m (by unfold Den; rfl)⟩)
/-- .. of one of some built-in classes -/
def kitBs (T : String) : List String → Option Bool
  | [] => some false
  | c :: cs => match kitB T c with
    | some true => some true
    | some false => kitBs T cs
    | none => none
theorem kitBs_ok {T : String} : ∀ {cs : List String} {b : Bool}, kitBs T cs = some b → PySem.W.kitAny K (.type T) (cs.map Value.type) = some b
  | [], b, h => h
  | c :: cs, b, h => by
    unfold kitBs at h
    show (match PySem.W.kitOne K (.type T) (.type c) with | some true => some true | some false => PySem.W.kitAny K (.type T) (cs.map Value.type) | none => none) = some b
    cases q : kitB T c with
    | none => rw [q] at h; cases h
    | some r =>
      rw [q] at h
      rw [kit_ty q]
      cases r with
      | true => exact h
      | false => exact kitBs_ok h
theorem denL_tys : ∀ {cs : List String} {vs : List V}, DenL K μ H (cs.map D.ty) vs → Paired ClsV vs (cs.map Value.type)
  | [], vs, h => by
    have h' : DenL K μ H [] vs := h
    unfold DenL at h'; subst h'; exact .nil
  | c :: cs, vs, h => by
    have h' : DenL K μ H (.ty c :: cs.map D.ty) vs := h
    unfold DenL at h'
    obtain ⟨w, ws, e, a, b⟩ := h'
    unfold Den at a
    subst e a
    exact .cons (.ty c) (denL_tys b)
theorem stT_own {p : Addr} {vs : List V} {o : Obj} (h : StT K μ H p vs) (hu : H p = some (.tup vs)) : True := True.intro
theorem cax_isT {T : String} {cs : List String} {b : Bool} (ht : tyM μ x = some T) (hk : kitBs T cs = some b) (h : Φ μ (.bl b)) {vs : List V} {Q : VK} {p : Addr} {us : List V} (m : Mem K μ H) {v : V} (hv : Den K μ H x v) (hp : H p = some (.tup us)) (hu : DenL K μ H (cs.map D.ty) us)
    (k : ∀ μ' d u H', Φ μ' d → Grow μ H μ' H' → Mem K μ' H' → Den K μ' H' d u → Q u H') : rIsU K [v, .ref p] H Q :=
  .inl (.inr ⟨v, p, us, .type T, cs.map Value.type, b, rfl, hp, denL_tys hu, den_ty m hv ht, kitBs_ok hk, k μ _ _ H h (Grow.refl _ _) m (by unfold Den; rfl)⟩)
/-- isinstance(e, (A, B, ..)), the tuple written -/
theorem evx_isT {tr : TA} {cs : List String} (hr : ∀ (μ1 : Mu) (Ψ : Mu → List D → Prop), Ψ μ1 (cs.map D.ty) → EvL K W X μ1 ρ tr Ψ) (hc : cs.length ≤ 1000) (h : EvX K W X μ ρ te fun μ1 d => ∃ T b, tyM μ1 d = some T ∧ kitBs T cs = some b ∧ Φ μ1 (.bl b)) :
    EvX K W X μ ρ (tCB (rIsU K) (tCons te (tCons (tTup tr) tNil))) Φ := fun σ H Q m e l k =>
  h σ H _ m e l fun μ1 d v H1 ⟨T, b, ht, hk, hp⟩ g1 m1 d1 => hr μ1 (fun μ2 ds => μ2 = μ1 ∧ ds = cs.map D.ty) ⟨rfl, rfl⟩ σ H1 _ m1 (e.grow g1) (l.grow g1) fun μ2 ds us H2 ⟨e1, e2⟩ g2 m2 d2 => by
    subst e1 e2
    refine ⟨by rw [← d2.length, List.length_map]; exact Nat.le_trans hc (by decide), fun p hp2 => ?_⟩
    have gn : Grow μ2 H2 μ2 (upd H2 p (.tup us)) := Grow.new hp2
    exact cax_isT ht hk hp (vs := []) (m2.new hp2) (Den.grow gn _ _ (Den.grow g2 _ _ d1)) upd_same (DenL.grow gn _ _ d2) fun μ' d' u H' p' g' => k μ' d' u H' p' (((g1.trans g2).trans gn).trans g')
/-! ### own errors -/
theorem evx_xv (h : EvX K W X μ ρ te fun μ1 x => ∃ C d, x = .exc C d ∧ ExcK K C ∧ Φ μ1 d) : EvX K W X μ ρ (tXv K te) Φ := fun σ H Q m e l k =>
  h σ H _ m e l fun μ1 x v H1 ⟨C, d, e1, T, hp⟩ g1 m1 d1 => by
    subst e1
    unfold Den at d1
    obtain ⟨p, dx, w, e2, s, t, b⟩ := d1
    exact ⟨p, C, dx, w, e2, s.2, T, t.2, k μ1 d w H1 hp g1 m1 b⟩
theorem cax_isX {C c : Addr} {d : D} {b : Bool} (T : ExcK K C) (G : ClsG K) (hk : PySem.W.kitOne K (.ref C) (.ref c) = some b) (h : Φ μ (.bl b)) : CaX K (rIsU K) μ [.exc C d, .at c] Φ := fun H vs Q m dd k => by
  obtain ⟨v, v', e, a, a'⟩ := denL2 dd
  unfold Den at a a'
  obtain ⟨p, dx, w, e2, s, t, _⟩ := a
  subst a' e2
  exact .inr (.inl ⟨p, C, dx, .ref c, .ref c, b, e, s.2, ⟨_, t.2⟩, T, G, .own c, hk, k μ _ _ H h (Grow.refl _ _) m (by unfold Den; rfl)⟩)
theorem cax_isXB {C : Addr} {c : String} {d : D} {b : Bool} (T : ExcK K C) (G : ClsG K) (hk : PySem.W.kitOne K (.ref C) (.type c) = some b) (h : Φ μ (.bl b)) : CaX K (rIsU K) μ [.exc C d, .ty c] Φ := fun H vs Q m dd k => by
  obtain ⟨v, v', e, a, a'⟩ := denL2 dd
  unfold Den at a a'
  obtain ⟨p, dx, w, e2, s, t, _⟩ := a
  subst a' e2
  exact .inr (.inl ⟨p, C, dx, .ty c, .type c, b, e, s.2, ⟨_, t.2⟩, T, G, .ty c, hk, k μ _ _ H h (Grow.refl _ _) m (by unfold Den; rfl)⟩)
theorem denL_ats : ∀ {cs : List Addr} {vs : List V}, DenL K μ H (cs.map D.at) vs → Paired ClsV vs (cs.map Value.ref)
  | [], vs, h => by
    have h' : DenL K μ H [] vs := h
    unfold DenL at h'; subst h'; exact .nil
  | c :: cs, vs, h => by
    have h' : DenL K μ H (.at c :: cs.map D.at) vs := h
    unfold DenL at h'
    obtain ⟨w, ws, e, a, b⟩ := h'
    unfold Den at a
    subst e a
    exact .cons (.own c) (denL_ats b)
theorem evx_isXT {tr : TA} {cs : List Addr} (G : ClsG K) (hr : ∀ (μ1 : Mu) (Ψ : Mu → List D → Prop), Ψ μ1 (cs.map D.at) → EvL K W X μ1 ρ tr Ψ) (hc : cs.length ≤ 1000) (h : EvX K W X μ ρ te fun μ1 x => ∃ C d b, x = .exc C d ∧ ExcK K C ∧ PySem.W.kitAny K (.ref C) (cs.map Value.ref) = some b ∧ Φ μ1 (.bl b)) :
    EvX K W X μ ρ (tCB (rIsU K) (tCons te (tCons (tTup tr) tNil))) Φ := fun σ H Q m e l k =>
  h σ H _ m e l fun μ1 x v H1 ⟨C, d, b, e0, T, hk, hp⟩ g1 m1 d1 => hr μ1 (fun μ2 ds => μ2 = μ1 ∧ ds = cs.map D.at) ⟨rfl, rfl⟩ σ H1 _ m1 (e.grow g1) (l.grow g1) fun μ2 ds us H2 ⟨e1, e2⟩ g2 m2 d2 => by
    subst e0 e1 e2
    refine ⟨by rw [← d2.length, List.length_map]; exact Nat.le_trans hc (by decide), fun p hp2 => ?_⟩
    have gn : Grow μ2 H2 μ2 (upd H2 p (.tup us)) := Grow.new hp2
    have dd := Den.grow gn _ _ (Den.grow g2 _ _ d1)
    unfold Den at dd
    obtain ⟨q, dx, w, e3, s, t, _⟩ := dd
    subst e3
    exact .inr (.inr ⟨q, C, dx, p, us, _, b, rfl, s.2, ⟨_, t.2⟩, T, G, upd_same, denL_ats (DenL.grow gn _ _ d2), hk, k μ2 _ _ _ hp ((g1.trans g2).trans gn) (m2.new hp2) (by unfold Den; rfl)⟩)
/-- try: body, except c as n: m = n -/
theorem gs_try {tb : WX → TS} {c : Value} {i j : Nat} (hij : i ≠ j)
    (h : ∀ W', GS K W' (fun μ' ρ' C d => PySem.W.exmOne K (.ref C) c = some true ∧ i < ρ'.length ∧ E.nx μ' ((ρ'.set j (some (.exc C d))).set i none)) μ ρ (tb W') E) :
    GS K W X μ ρ (tTry K c i (fun _ => tAsg (tVar i) (gName j)) tb) E := fun σ H Dd m e l k => by
  refine h _ σ H Dd m e ?_ k
  rintro μ' ρ' C d dx v σ' H' ⟨hm, hi, hx⟩ gr mm ee hdx hd dd
  refine ⟨C, dx, rfl, rfl, hm, fun a ha => ?_⟩
  have hl : i < σ'.length := by rw [ee.1]; exact hi
  refine ⟨.ref a, List.getElem?_set_self hl, fun ha' => ?_⟩
  have gn : Grow μ' H' μ' (upd H' a (ExT a C dx)) := Grow.new ha
  have ne : dx ≠ a := ne_of_none hd ha
  refine k.nx _ _ _ _ hx (gr.trans gn) (mm.new ha) ?_
  have e1 : ((σ'.set i (some (.ref a))).set j (some (.ref a))).set i none = (σ'.set j (some (.ref a))).set i none := by
    rw [List.set_comm _ _ hij, List.set_set]
  rw [e1]
  refine ((ee.grow gn).set ?_ j).unset i
  unfold Den
  exact ⟨a, dx, v, rfl, ⟨mm.free ha, upd_same⟩, ⟨hdx, by rw [upd_ne ne]; exact hd⟩, Den.grow gn _ _ dd⟩
theorem kit_self {a : Addr} : PySem.W.kitOne K (.ref a) (.ref a) = some true := by
  unfold PySem.W.kitOne
  rw [if_pos (by simp)]
end
section
variable {X : Cx} {CX : CXT} {k : Nat} {f C : Addr} {fd : FuncData} {ps ks : List Str} {sp : Sp} {E : XK} {x m : Str} {p pos apos kpos : Pos} {kws : List Keyword} {tk : TA} {g : List Value → List Value → List Value} {gV : List V → List V → List V}
/-- f(k = v, ..), no place given -/
theorem pe_callK0 (F : FnOk X.prog X.w X.K X.mg X.base CX k f fd ps sp) (hr : Room k X.A) (hg : Gl X x) (hm : X.mg x = some (.ref f)) (hk : PySem.W.keepIn X.K (.ref f) = true) (hb : KBinds X.K fd ps ks g gV) (hx : Passes CX X E)
    (hkw : PK X kws tk) (hall : (backToKw pos (keywordEach kws X.env)).all (·.1.isSome) = true := by rfl) (hks : (backToKw pos (keywordEach kws X.env)).filterMap (·.1) = ks := by rfl)
    (hdb : (x == ("__debug__" : Str)) = false := by decide) (hn : ((backTo pos (starEach [] X.env)).any (·.1) || (backToKw pos (keywordEach kws X.env)).any (·.1.isNone)) = false := by rfl) :
    PE X (.Call (.Name x p) [] kws pos) (tCallK sp gV E tNil tk) := by
  constructor
  intro pins s σ H Q I h
  apply wpAny_Call_Name_kw (ld_glob I hg hm ?_ hdb)
  refine PySem.W.callWith_KW0 (h₀ := X.base) I.ok.mod.kin hk hall ?_ hn
  refine thn (hkw.run pos pins s σ H _ I h) fun ws s2 hh => ?_
  obtain ⟨zs, H2, I2, rz, q2⟩ := hh
  refine ⟨I2.kIn, ?_⟩
  rw [hks]
  exact run_fnk F hr hb hx I2 .nil rz q2
end
/-- the data in the parameters' order: the places of n given ones and m named ones -/
def permG {α : Type} (n m : Nat) (pm : List Nat) (us ws : List α) : List α := if us.length = n ∧ ws.length = m then pm.filterMap fun i => (us ++ ws)[i]? else []
theorem perm_vals : ∀ {pm : List Nat} {vs : List V} {us : List Value}, Vals vs us → Vals (pm.filterMap fun i => vs[i]?) (pm.filterMap fun i => us[i]?)
  | [], _, _, _ => .nil
  | i :: pm, vs, us, h => by
    rw [List.filterMap_cons, List.filterMap_cons]
    cases e : vs[i]? with
    | none =>
      rw [h.none_of e]
      exact perm_vals h
    | some v =>
      obtain ⟨u, h1, h2⟩ := h.get e
      rw [h1]
      exact .cons h2 (perm_vals h)
theorem perm_den {K : PySem.W.Frag} {μ : Mu} {H : Hp} : ∀ {pm : List Nat} {ds : List D} {vs : List V}, DenL K μ H ds vs → DenL K μ H (pm.filterMap fun i => ds[i]?) (pm.filterMap fun i => vs[i]?)
  | [], _, _, _ => DenL.nil
  | i :: pm, ds, vs, h => by
    rw [List.filterMap_cons, List.filterMap_cons]
    cases e : ds[i]? with
    | none =>
      have : vs[i]? = none := by
        rw [List.getElem?_eq_none_iff] at e ⊢
        rw [← h.length]; exact e
      rw [this]
      exact perm_den h
    | some d =>
      obtain ⟨v, h1, h2⟩ := h.get e
      rw [h1]
      exact DenL.cons h2 (perm_den h)
/-- a def of the module that keeps its promise, with all that a call of it asks -/
structure Cal (P : Program) (w : World) (K : PySem.W.Frag) (mg : Str → Option Value) (base : Heap) (CX : CXT) (k : Nat) (x : Str) (st : Stmt) (ps : List Str) (sp : Sp) : Prop where
  ex : ∃ (f : Addr) (fd : FuncData), mg x = some (.ref f) ∧ Fun K x x st f fd ∧ FnOk P w K mg base CX k f fd ps sp ∧ Binds K fd ps []
def Std (K : PySem.W.Frag) (mg : Str → Option Value) (x : Str) (st : Stmt) : Prop := ∃ (f : Addr) (fd : FuncData), mg x = some (.ref f) ∧ Fun K x x st f fd
section
variable {P : Program} {w : World} {K : PySem.W.Frag} {mg : Str → Option Value} {base : Heap} {x : Str} {st : Stmt} {N ps : List Str} {k : Nat}
theorem cal0 {Pd : PD} (h : Std K mg x st) (S : FnScope N ps (defScope st))
    (hbi : ∀ (kV doc pm : Value) (an : Option Addr) (cdv ct : Value) (us : List Value), us.length = ps.length → bindArgs (PySem.W.fnOf x x (defArgs st) (defBody st) (defScope st) .none kV doc pm an cdv ct) ⟨us, []⟩ = pure (ps.zip us))
    (hb : ∀ (f : Addr) (cdv : Value) (A : Around) (outer : List Env) (s : Shared) (H : Hp) (E : XK), Room k (A.deeper (envOfC x (defScope st) s.heap.objs.size f cdv)) →
      ∃ t, PSs (cxOf CX0 P w K mg base N x (defScope st) f cdv A outer s H E).nox (defBody st) t ∧ ∀ μ ds post exc, ds.length = ps.length → Pd μ ds post exc → GS K WN XN μ (startD N ds) t { nx := fun m _ => post m .non, rt := post }) :
    Cal P w K mg base CX0 (k + 1) x st ps (spD K ps.length Pd) := by
  obtain ⟨f, fd, h1, F⟩ := h
  exact ⟨f, fd, h1, F, def_ok F S (hb f), F.binds hbi⟩
theorem calX {Pd : PD} (h : Std K mg x st) (S : FnScope N ps (defScope st))
    (hbi : ∀ (kV doc pm : Value) (an : Option Addr) (cdv ct : Value) (us : List Value), us.length = ps.length → bindArgs (PySem.W.fnOf x x (defArgs st) (defBody st) (defScope st) .none kV doc pm an cdv ct) ⟨us, []⟩ = pure (ps.zip us))
    (hb : ∀ (f : Addr) (cdv : Value) (A : Around) (outer : List Env) (s : Shared) (H : Hp) (E : XK), Room k (A.deeper (envOfC x (defScope st) s.heap.objs.size f cdv)) →
      ∃ t, PSs (cxOf (L2.CX P w) P w K mg base N x (defScope st) f cdv A outer s H E) (defBody st) t ∧ ∀ μ ds post exc, ds.length = ps.length → Pd μ ds post exc → GS K (fun cls d _ H => E cls d H) (fun m _ C d => exc m C d) μ (startD N ds) t { nx := fun m _ => post m .non, rt := post }) :
    Cal P w K mg base (L2.CX P w) (k + 1) x st ps (spD K ps.length Pd) := by
  obtain ⟨f, fd, h1, F⟩ := h
  exact ⟨f, fd, h1, F, def_okX F S (hb f), F.binds hbi⟩
theorem Cal.imp {CX : CXT} {n : Nat} {P1 P2 : PD} (c : Cal P w K mg base CX k x st ps (spD K n P1)) (h : ∀ μ ds post exc, P2 μ ds post exc → P1 μ ds post exc) : Cal P w K mg base CX k x st ps (spD K n P2) := by
  obtain ⟨f, fd, h1, F, G, b⟩ := c.ex
  exact ⟨f, fd, h1, F, fn_imp G h, b⟩
theorem Cal.mono {CX : CXT} {sp : Sp} {j : Nat} (c : Cal P w K mg base CX k x st ps sp) (h : k ≤ j) : Cal P w K mg base CX j x st ps sp := by
  obtain ⟨f, fd, h1, F, G, b⟩ := c.ex
  exact ⟨f, fd, h1, F, G.mono h, b⟩
theorem kb_of {f : Addr} {fd : FuncData} {n m : Nat} {pm : List Nat} {ks : List Str} (F : Fun K x x st f fd) (hp : ps ≠ [])
    (h : ∀ (kV doc pv : Value) (an : Option Addr) (cdv ct : Value) (us ws : List Value), us.length = n → ws.length = m → bindArgs (PySem.W.fnOf x x (defArgs st) (defBody st) (defScope st) .none kV doc pv an cdv ct) ⟨us, ks.zip ws⟩ = pure (ps.zip (pm.filterMap fun i => (us ++ ws)[i]?))) :
    KBinds K fd ps ks (permG n m pm) (permG n m pm) := by
  obtain ⟨oc, od, kV, doc, pv, an, cdv, ct, osl, rfl, lk, hcd⟩ := F.ex
  refine ⟨fun s us ws _ hl => ?_, fun {vs us zs ws} r rz => ?_⟩
  · unfold permG at hl ⊢
    by_cases c : us.length = n ∧ ws.length = m
    · rw [if_pos c] at hl ⊢
      exact .of_eq (h kV doc pv an cdv ct us ws c.1 c.2)
    · rw [if_neg c] at hl
      exact absurd (List.length_eq_zero_iff.mp hl.symm) hp
  · unfold permG
    rw [r.length, rz.length]
    by_cases c : us.length = n ∧ ws.length = m
    · rw [if_pos c, if_pos c]
      exact perm_vals (r.append rz)
    · rw [if_neg c, if_neg c]
      exact .nil
theorem permG_den {μ : Mu} {H : Hp} {n m : Nat} {pm : List Nat} {ds es : List D} {vs ws : List V} (a : DenL K μ H ds vs) (b : DenL K μ H es ws) : DenL K μ H (permG n m pm ds es) (permG n m pm vs ws) := by
  unfold permG
  rw [a.length, b.length]
  by_cases c : vs.length = n ∧ ws.length = m
  · rw [if_pos c, if_pos c]
    exact perm_den (a.append b)
  · rw [if_neg c, if_neg c]
    exact DenL.nil
end
section
variable {X : Cx} {k j : Nat} {st : Stmt} {ps ks : List Str} {sp : Sp} {x : Str} {p pos : Pos} {e : Expr} {es : List Expr} {t tk : TA} {kws : List Keyword} {n m : Nat} {pm : List Nat}
/-- a call of such a def; no error leaves it -/
theorem pe_c (c : Cal X.prog X.w X.K X.mg X.base CX0 k x st ps sp) (hr : Room j X.A) (hj : k ≤ j) (ha : PA X (e :: es) t) (hg : Gl X x := by rfl) (hdb : (x == ("__debug__" : Str)) = false := by decide)
    (he : starEach (e :: es) X.env = (false, eval e X.env) :: starEach es X.env := by rfl) (hpl : (backTo pos (starEach es X.env)).any (·.1) = false := by rfl) : PE X (.Call (.Name x p) (e :: es) [] pos) (tCall sp [] E0 t) := by
  obtain ⟨f, fd, h1, F, G, b⟩ := c.ex
  exact pe_call G (hr.mono hj) hg h1 F.kp b .nil pass0 ha hdb he hpl
theorem pe_c0 (c : Cal X.prog X.w X.K X.mg X.base CX0 k x st ps sp) (hr : Room j X.A) (hj : k ≤ j) (hg : Gl X x := by rfl) (hdb : (x == ("__debug__" : Str)) = false := by decide) : PE X (.Call (.Name x p) [] [] pos) (tCall sp [] E0 tNil) := by
  obtain ⟨f, fd, h1, F, G, b⟩ := c.ex
  have h := pe_call0 (p := p) (pos := pos) G (hr.mono hj) hg h1 F.kp b .nil (pass0 (X := X)) hdb
  exact ⟨fun pins s σ H Q I q => h.run pins s σ H Q I q⟩
theorem pe_cS {W : WX} (c : Cal X.prog X.w X.K X.mg X.base (L2.CX X.prog X.w) k x st ps sp) (hr : Room j X.A) (hj : k ≤ j) (tk : Takes X W) (ha : PA X (e :: es) t) (hg : Gl X x := by rfl) (hdb : (x == ("__debug__" : Str)) = false := by decide)
    (he : starEach (e :: es) X.env = (false, eval e X.env) :: starEach es X.env := by rfl) (hpl : (backTo pos (starEach es X.env)).any (·.1) = false := by rfl) : PE X (.Call (.Name x p) (e :: es) [] pos) (tCallS sp (WE W) t) := by
  obtain ⟨f, fd, h1, F, G, b⟩ := c.ex
  exact pe_callS G (hr.mono hj) hg h1 F.kp b (fun σ => passAt tk σ) ha hdb he hpl
theorem pe_ck (c : Cal X.prog X.w X.K X.mg X.base CX0 k x st ps sp) (hr : Room j X.A) (hj : k ≤ j) (hp : ps ≠ [])
    (h : ∀ (kV doc pv : Value) (an : Option Addr) (cdv ct : Value) (us ws : List Value), us.length = n → ws.length = m → bindArgs (PySem.W.fnOf x x (defArgs st) (defBody st) (defScope st) .none kV doc pv an cdv ct) ⟨us, ks.zip ws⟩ = pure (ps.zip (pm.filterMap fun i => (us ++ ws)[i]?)))
    (hkw : PK X kws tk) (hg : Gl X x := by rfl) (hall : (backToKw pos (keywordEach kws X.env)).all (·.1.isSome) = true := by rfl) (hks : (backToKw pos (keywordEach kws X.env)).filterMap (·.1) = ks := by rfl)
    (hdb : (x == ("__debug__" : Str)) = false := by decide) (hn : ((backTo pos (starEach [] X.env)).any (·.1) || (backToKw pos (keywordEach kws X.env)).any (·.1.isNone)) = false := by rfl) :
    PE X (.Call (.Name x p) [] kws pos) (tCallK sp (permG n m pm) E0 tNil tk) := by
  obtain ⟨f, fd, h1, F, G, b⟩ := c.ex
  exact pe_callK0 G (hr.mono hj) hg h1 F.kp (kb_of F hp h) pass0 hkw hall hks hdb hn
end
section
variable {K : PySem.W.Frag} {W : WX} {X : XD} {μ : Mu} {ρ : Ro} {Φ : DP} {n a b : Nat} {pm : List Nat} {P : PD} {tr tk : TA}
theorem evx_ck (h : EvL K W X μ ρ tr fun μ1 ds => EvL K W X μ1 ρ tk fun μ2 es => (permG a b pm ds es).length = n ∧ P μ2 (permG a b pm ds es) Φ excN) : EvX K W X μ ρ (tCallK (spD K n P) (permG a b pm) E0 tr tk) Φ :=
  evx_callK (permG a b pm) (fun _ _ _ _ _ _ p q => permG_den p q) h
end
/-! ### == of data -/
mutual
def toP : D → PyData
  | .bl b => .bool b
  | .int i => .int i
  | .str x => .str x
  | .tup ds => .tuple (toPs ds)
  | .lst ds => .list (toPs ds)
  | .frz ds => .list (toPs ds)
  | _ => .none
def toPs : List D → List PyData
  | [] => []
  | d :: ds => toP d :: toPs ds
end
mutual
def plainD : D → Bool
  | .non => true
  | .bl _ => true
  | .int _ => true
  | .str x => SeqAt.shaped (.str x)
  | .tup ds => plainDs ds
  | .lst ds => plainDs ds
  | .frz ds => plainDs ds
  | _ => false
def plainDs : List D → Bool
  | [] => true
  | d :: ds => plainD d && plainDs ds
end
def seeD (μ : Mu) : D → D
  | .at a => match μ a with
    | some (.lst ds) => .lst ds
    | _ => .at a
  | d => d
section
variable {K : PySem.W.Frag} {W : WX} {X : XD} {μ μ' : Mu} {H H' : Hp} {ρ : Ro} {E : ED} {ta tb te tx tl : TE} {Φ : DP} {x y : D}
mutual
theorem den_dp : ∀ (d : D) (v : V), Den K μ H d v → plainD d = true → Dp K H v (toP d)
  | .non, v, h, _ => by unfold Den at h; subst h; exact .non
  | .bl b, v, h, _ => by unfold Den at h; subst h; exact .bl b
  | .int i, v, h, _ => by unfold Den at h; subst h; exact .int i
  | .str x, v, h, _ => by unfold Den at h; subst h; exact .str x
  | .tup ds, v, h, p => by
    unfold Den at h
    unfold plainD at p
    obtain ⟨q, vs, e, s, b⟩ := h
    subst e
    exact .tup s.sq (den_dps ds vs b p)
  | .lst ds, v, h, p => by
    unfold Den at h
    unfold plainD at p
    obtain ⟨q, vs, e, s, b⟩ := h
    subst e
    exact .lst (SqL.of s.2) (den_dps ds vs b p)
  | .frz ds, v, h, p => by
    unfold Den at h
    unfold plainD at p
    obtain ⟨q, vs, e, s, b⟩ := h
    subst e
    exact .lst s.sq (den_dps ds vs b p)
  | .dct _ _, v, h, p => by unfold plainD at p; cases p
  | .obj _ _ _, v, h, p => by unfold plainD at p; cases p
  | .exc _ _, v, h, p => by unfold plainD at p; cases p
  | .ty _, v, h, p => by unfold plainD at p; cases p
  | .at _, v, h, p => by unfold plainD at p; cases p
theorem den_dps : ∀ (ds : List D) (vs : List V), DenL K μ H ds vs → plainDs ds = true → DpAll K H vs (toPs ds)
  | [], vs, h, _ => by unfold DenL at h; subst h; exact .nil
  | d :: ds, vs, h, p => by
    unfold DenL at h
    unfold plainDs at p
    rw [Bool.and_eq_true] at p
    obtain ⟨w, ws, e, a, b⟩ := h
    subst e
    exact .cons (den_dp d w a p.1) (den_dps ds ws b p.2)
end
theorem den_see {v : V} (m : Mem K μ H) (h : Den K μ H x v) (p : plainD (seeD μ x) = true) : Dp K H v (toP (seeD μ x)) := by
  cases x
  case «at» a =>
    unfold seeD at p ⊢
    dsimp only at p ⊢
    cases q : μ a with
    | none => rw [q] at p; cases p
    | some o =>
      rw [q] at p
      cases o with
      | lst ds =>
        unfold Den at h
        subst h
        obtain ⟨vs, e, b⟩ := m a _ q
        have p' : plainDs ds = true := p
        exact .lst (SqL.of e) (den_dps ds vs b p')
      | dct _ _ => cases p
      | obj _ _ _ => cases p
  all_goals exact den_dp _ v h p
/-- == over data -/
def eqD (x y : D) : Bool := PyData.eqv (toP x) (toP y)
theorem opx_eqD (h1 : plainD (seeD μ x) = true) (s1 : SeqAt.shaped (toP (seeD μ x)) = true) (h2 : plainD (seeD μ y) = true) (s2 : SeqAt.shaped (toP (seeD μ y)) = true) (h : Φ μ (.bl (eqD (seeD μ x) (seeD μ y)))) : OpX K (rEqD K) μ x y Φ := fun H v w Q m a b k =>
  ⟨_, _, den_see m a h1, den_see m b h2, s1, s2, k μ _ _ H h (Grow.refl _ _) m (by unfold Den; rfl)⟩
theorem opx_neD (h1 : plainD (seeD μ x) = true) (s1 : SeqAt.shaped (toP (seeD μ x)) = true) (h2 : plainD (seeD μ y) = true) (s2 : SeqAt.shaped (toP (seeD μ y)) = true) (h : Φ μ (.bl (!eqD (seeD μ x) (seeD μ y)))) : OpX K (rNeD K) μ x y Φ := fun H v w Q m a b k =>
  ⟨_, _, den_see m a h1, den_see m b h2, s1, s2, k μ _ _ H h (Grow.refl _ _) m (by unfold Den; rfl)⟩
theorem ints_plain (gs : List Int) : plainDs (gs.map D.int) = true := by
  induction gs with
  | nil => rfl
  | cons g gs ih => unfold List.map plainDs; rw [ih]; rfl
theorem ints_shaped (gs : List Int) : SeqAt.shaped (toP (.lst (gs.map D.int))) = true := by
  have h1 : ∀ l : List Int, PyData.canLayAll0 (toPs (l.map D.int)) = true := by
    intro l
    induction l with
    | nil => rfl
    | cons g gs ih =>
      show (PyData.canLay0 (.int g) && PyData.canLayAll0 (toPs (gs.map D.int))) = true
      rw [ih]; rfl
  have h2 : ∀ l : List Int, PyData.depthAll (toPs (l.map D.int)) ≤ 1 := by
    intro l
    induction l with
    | nil => exact Nat.zero_le _
    | cons g gs ih =>
      show max (PyData.depth (.int g)) (PyData.depthAll (toPs (gs.map D.int))) ≤ 1
      exact Nat.max_le.mpr ⟨by show 0 ≤ 1; decide, ih⟩
  unfold SeqAt.shaped
  rw [Bool.and_eq_true]
  refine ⟨?_, ?_⟩
  · show PyData.canLayAll0 (toPs (gs.map D.int)) = true
    exact h1 gs
  · apply decide_eq_true
    show PyData.depthAll (toPs (gs.map D.int)) + 1 ≤ 64
    have := h2 gs
    omega
/-- xs != [] of ints -/
theorem eqD_nil (gs : List Int) : eqD (.lst (gs.map D.int)) (.lst []) = gs.isEmpty := by
  cases gs with
  | nil => rfl
  | cons g gs => rfl
/-! ### more methods of lists -/
/-- o.m(e, ..) of a list that may change -/
theorem evx_bmL {to : TE} {tr : TA} {r : V → List V → Hp → VK → Prop} (h : EvX K W X μ ρ to fun μ1 o => ∃ a ds0, o = .at a ∧ μ1 a = some (.lst ds0) ∧ EvL K W X μ1 ρ tr fun μ2 es => ∃ ds, μ2 a = some (.lst ds) ∧
      ∀ H vs ws Q, Mem K μ2 H → H a = some (.lst vs) → DenL K μ2 H ds vs → DenL K μ2 H es ws → (∀ μ' d u H', Φ μ' d → Grow μ2 H μ' H' → Mem K μ' H' → Den K μ' H' d u → Q u H') → r (.ref a) ws H Q) : EvX K W X μ ρ (tBM K "list" r to tr) Φ := fun σ H Q m e l k =>
  h σ H _ m e l fun μ1 o v H1 ⟨a, ds0, e1, h0, h1⟩ g1 m1 d1 => by
    subst e1
    unfold Den at d1
    subst d1
    obtain ⟨us0, q0, b0⟩ := m1 a _ h0
    refine ⟨.inl ⟨rfl, us0, SqL.of q0⟩, ?_⟩
    refine h1 σ H1 _ m1 (e.grow g1) (l.grow g1) fun μ2 es ws H2 ⟨ds, hp, hk⟩ g2 m2 d2 => ?_
    obtain ⟨us, q, b⟩ := m2 a _ hp
    exact hk H2 us ws Q m2 q b d2 fun μ' d u H' p g => k μ' d u H' p ((g1.trans g2).trans g)
theorem evx_bmL0 {to : TE} {r : V → List V → Hp → VK → Prop} (h : EvX K W X μ ρ to fun μ1 o => ∃ a ds, o = .at a ∧ μ1 a = some (.lst ds) ∧
      ∀ H vs Q, Mem K μ1 H → H a = some (.lst vs) → DenL K μ1 H ds vs → (∀ μ' d u H', Φ μ' d → Grow μ1 H μ' H' → Mem K μ' H' → Den K μ' H' d u → Q u H') → r (.ref a) [] H Q) : EvX K W X μ ρ (tBM0 K "list" r to) Φ := fun σ H Q m e l k =>
  h σ H _ m e l fun μ1 o v H1 ⟨a, ds, e1, hp, hk⟩ g1 m1 d1 => by
    subst e1
    unfold Den at d1
    subst d1
    obtain ⟨us, q, b⟩ := m1 a _ hp
    exact ⟨.inl ⟨rfl, us, SqL.of q⟩, hk H1 us Q m1 q b fun μ' d u H' p g => k μ' d u H' p (g1.trans g)⟩
theorem evx_app {to : TE} (h : EvX K W X μ ρ to fun μ1 o => ∃ a ds0, o = .at a ∧ μ1 a = some (.lst ds0) ∧ EvX K W X μ1 ρ te fun μ2 d => ∃ ds, μ2 a = some (.lst ds) ∧ ds.length ≤ 1000000 ∧ Φ (mput μ2 a (.lst (ds ++ [d]))) .non) : EvX K W X μ ρ (tBM K "list" rAppend to (tCons te tNil)) Φ :=
  evx_bmL (h.imp fun μ1 o ⟨a, ds0, e1, h0, h1⟩ => ⟨a, ds0, e1, h0, evl_cons (h1.imp fun μ2 d ⟨ds, hp, hz, hq⟩ => evl_nil ⟨ds, hp, fun H vs ws Q m q b d2 k => by
    obtain ⟨w, e2, dw⟩ := denL1 d2
    subst e2
    exact ⟨a, vs, w, rfl, rfl, q, by rw [← b.length]; exact Nat.lt_of_le_of_lt hz (by decide), k _ _ _ _ hq (Grow.wr hp) (m.wr hp ⟨_, upd_same, (DenL.grow (Grow.wr hp) _ _ b).append (DenL.cons (Den.grow (Grow.wr hp) _ _ dw) DenL.nil)⟩) (by unfold Den; rfl)⟩⟩)⟩)
abbrev rInsert : V → List V → Hp → VK → Prop := fun x vs H Q => ∃ (l : Addr) (xs : List V) (i : Int) (y : V), x = .ref l ∧ vs = [.int i, y] ∧ H l = some (.lst xs) ∧ xs.length < sizeLine ∧ 0 ≤ i ∧ i < 2 ^ 63 ∧ Q .non (upd H l (.lst (xs.take i.toNat ++ [y] ++ xs.drop i.toNat)))
/-- xs.insert(0, e) -/
theorem evx_ins0 {to : TE} (h : EvX K W X μ ρ to fun μ1 o => ∃ a ds0, o = .at a ∧ μ1 a = some (.lst ds0) ∧ EvX K W X μ1 ρ te fun μ2 d => ∃ ds, μ2 a = some (.lst ds) ∧ ds.length ≤ 1000000 ∧ Φ (mput μ2 a (.lst (d :: ds))) .non) :
    EvX K W X μ ρ (tBM K "list" rInsert to (tCons (tC (.int 0)) (tCons te tNil))) Φ :=
  evx_bmL (h.imp fun μ1 o ⟨a, ds0, e1, h0, h1⟩ => ⟨a, ds0, e1, h0, evl_cons (evx_int (evl_cons (h1.imp fun μ2 d ⟨ds, hp, hz, hq⟩ => evl_nil ⟨ds, hp, fun H vs ws Q m q b d2 k => by
    obtain ⟨w0, w, e2, dw0, dw⟩ := denL2 d2
    unfold Den at dw0
    subst dw0 e2
    exact ⟨a, vs, 0, w, rfl, rfl, q, by rw [← b.length]; exact Nat.lt_of_le_of_lt hz (by decide), by decide, by decide, k _ _ _ _ hq (Grow.wr hp) (m.wr hp ⟨_, upd_same, DenL.cons (Den.grow (Grow.wr hp) _ _ dw) (DenL.grow (Grow.wr hp) _ _ b)⟩) (by unfold Den; rfl)⟩⟩)))⟩)
theorem denL_dropLast : ∀ {ds : List D} {vs : List V}, DenL K μ H ds vs → DenL K μ H ds.dropLast vs.dropLast
  | [], vs, h => by unfold DenL at h; subst h; exact DenL.nil
  | [d], vs, h => by
    obtain ⟨w, e, _⟩ := denL1 h
    subst e; exact DenL.nil
  | d :: d' :: ds, vs, h => by
    unfold DenL at h
    obtain ⟨w, ws, e, a, b⟩ := h
    have b' := b
    unfold DenL at b'
    obtain ⟨w', ws', e', _, _⟩ := b'
    subst e e'
    exact DenL.cons a (denL_dropLast b)
/-- xs.pop() -/
theorem evx_pop {to : TE} (h : EvX K W X μ ρ to fun μ1 o => ∃ a ds d, o = .at a ∧ μ1 a = some (.lst ds) ∧ ds.getLast? = some d ∧ Φ (mput μ1 a (.lst ds.dropLast)) d) : EvX K W X μ ρ (tBM0 K "list" rPop to) Φ :=
  evx_bmL0 (h.imp fun μ1 o ⟨a, ds, d, e1, hp, hl, hq⟩ => ⟨a, ds, e1, hp, fun H vs Q m q b k => by
    rw [List.getLast?_eq_getElem?] at hl
    obtain ⟨v, h1, h2⟩ := b.get hl
    refine ⟨a, vs, v, rfl, rfl, q, by rw [← b.length]; exact h1, k _ _ _ _ hq (Grow.wr hp) (m.wr hp ⟨_, upd_same, DenL.grow (Grow.wr hp) _ _ (denL_dropLast b)⟩) (Den.grow (Grow.wr hp) _ _ h2)⟩⟩)
/-! ### ifs whose test is a decision -/
theorem ifD {p A B : Prop} [Decidable p] (h1 : p → A) (h2 : ¬p → B) : if decide p = true then A else B := by
  by_cases h : p
  · rw [if_pos (decide_eq_true h)]; exact h1 h
  · rw [if_neg (by rw [decide_eq_false h]; decide)]; exact h2 h
theorem ifN {p A B : Prop} [Decidable p] (h1 : ¬p → A) (h2 : p → B) : if (!decide p) = true then A else B := by
  by_cases h : p
  · rw [if_neg (by rw [decide_eq_true h]; decide)]; exact h2 h
  · rw [if_pos (by rw [decide_eq_false h]; rfl)]; exact h1 h
theorem ifB {b : Bool} {A B : Prop} (h1 : b = true → A) (h2 : b = false → B) : if b = true then A else B := by
  cases b with
  | true => rw [if_pos rfl]; exact h1 rfl
  | false => rw [if_neg (by decide)]; exact h2 rfl
theorem ifY {b : Bool} {A B : Prop} (h : b = true) (h1 : A) : if b = true then A else B := by rw [if_pos h]; exact h1
theorem ifNo {b : Bool} {A B : Prop} (h : b = false) (h1 : B) : if b = true then A else B := by rw [if_neg (by rw [h]; decide)]; exact h1
end
/-- an own error's class: where it stands, what is said of it, its __init__ -/
structure ExcD (K : PySem.W.Frag) (mg : Str → Option Value) (x : Str) (C fI : Addr) : Prop where
  m : mg x = some (.ref C)
  k : ExcK K C
  i : PySem.W.findIn K (.ref C) "__init__" = some (some (.ref fI))
/-- the __init__ that all of them have -/
structure IniD (P : Program) (w : World) (K : PySem.W.Frag) (mg : Str → Option Value) (base : Heap) (fI : Addr) : Prop where
  ex : ∃ fd : FuncData, PySem.W.typeIn K (.ref fI) = some (.type "function") ∧ FnOk P w K mg base CX0 1 fI fd ["self", "value"] (spInit K "value") ∧ Binds K fd ["self", "value"] []
theorem ps_raiseD {X : Cx} {W : WX} {x : Str} {C fI : Addr} {j : Nat} {e : Expr} {es : List Expr} {ta : TA} {p pos pos2 : Pos} (hC : ExcD X.K X.mg x C fI) (hI : IniD X.prog X.w X.K X.mg X.base fI) (hr : Room j X.A) (hj : 2 ≤ j) (tk : Takes X W) (ha : PA X (e :: es) ta)
    (hc : X.calm = true := by rfl) (hg : Gl X x := by rfl) (hdb : (x == ("__debug__" : Str)) = false := by decide)
    (he : starEach (e :: es) X.env = (false, eval e X.env) :: starEach es X.env := by rfl) (hpl : (backTo pos (starEach es X.env)).any (·.1) = false := by rfl) : PS X (.Raise (some (.Call (.Name x p) (e :: es) [] pos)) none pos2) (tRaiseO C W (spInit X.K "value") ta) := by
  obtain ⟨fd, h1, h2, h3⟩ := hI.ex
  exact ps_raise hc tk (pmk_oex hC.k.ox hC.i h1 h2 (hr.mono hj) h3 .nil pass0 hg hC.m ha hdb he hpl)
/-- WorthError's __init__ keeps its promise -/
theorem ini_ok {P : Program} {w : World} {K : PySem.W.Frag} {mg : Str → Option Value} {base : Heap} {st : Stmt} {f : Addr} {fd : FuncData} (F : Fun K "__init__" "WorthError.__init__" st f fd) (S : FnScope ["self", "value"] ["self", "value"] (defScope st))
    (h : ∀ (cdv : Value) (A : Around) (outer : List Env) (s : Shared) (H : Hp) (E : XK), PSs (cxOf CX0 P w K mg base ["self", "value"] "WorthError.__init__" (defScope st) f cdv A outer s H E).nox (defBody st) (tSeq (tDrop (tVeI K (tCons (tVar 0) (tCons (tVar 1) tNil)))) (tOst K "value" (tVar 0) (tVar 1)))) :
    FnOk P w K mg base CX0 1 f fd ["self", "value"] (spInit K "value") := by
  refine F.ok S (fun vs H Q E h => ?_) fun cdv A outer s H vs Q E hr hs => ⟨_, h cdv A outer s H E, ?_⟩
  · obtain ⟨a, C, v, rfl, _⟩ := h
    rfl
  · obtain ⟨a, C, v, rfl, T, hn, ea, k⟩ := hs
    exact ⟨_, rfl, _, rfl, a, C, [v], rfl, (by show 1 ≤ 1000; decide), T, ea, _, rfl, _, rfl, a, C, rfl, T, hn, .inl ⟨ea, fun dx h1 h2 => k dx h1 h2⟩⟩
theorem gs_mid {K : PySem.W.Frag} {W : WX} {X : XD} {μ : Mu} {ρ : Ro} {E : ED} {t u : TS} (M : Mu → Ro → Prop) (h : GS K W X μ ρ t { E with nx := M }) (k : ∀ μ1 ρ1, M μ1 ρ1 → GS K W X μ1 ρ1 u E) : GS K W X μ ρ (tSeq t u) E :=
  gs_seq (h.imp k (fun _ _ z => z) (fun _ _ z => z) (fun _ _ z => z))
theorem opx_ixA {K : PySem.W.Frag} {μ : Mu} {a : Addr} {es : List D} {i : Int} {d : D} {Φ : DP} (h : μ a = some (.lst es)) (ha : atI es i = some d) (q : Φ μ d) : OpX K (rIx K) μ (.at a) (.int i) Φ := opx_ix (x := .at a) h ha q
theorem tgx_subA {K : PySem.W.Frag} {W : WX} {X : XD} {μ : Mu} {ρ : Ro} {to ti : TE} {d : D} {Φ : Mu → Ro → Prop} {a : Addr} {ds : List D} {k : Int} {j : Nat} (h1 : μ a = some (.lst ds)) (hj : ixN ds.length k = some j) (q : Φ (mput μ a (.lst (ds.set j d))) ρ) (ho : ∀ Ψ : DP, Ψ μ (.at a) → EvX K W X μ ρ to Ψ) (hi : ∀ Ψ : DP, Ψ μ (.int k) → EvX K W X μ ρ ti Ψ) : TgX K W X μ ρ (gSub to ti rSetL) d Φ :=
  tgx_sub (ho _ (hi _ ⟨a, ds, k, j, rfl, rfl, h1, hj, q⟩))
theorem see_at {μ : Mu} {a : Addr} {ds : List D} (h : μ a = some (.lst ds)) : seeD μ (.at a) = .lst ds := by
  unfold seeD
  dsimp only
  rw [h]
theorem isL_lst {μ : Mu} {ds : List D} : IsL μ (.lst ds) ds (fun _ => True) := .inl ⟨.inl rfl, rfl⟩
theorem isL_frz {μ : Mu} {ds : List D} : IsL μ (.frz ds) ds (fun _ => True) := .inl ⟨.inr rfl, rfl⟩
theorem isL_at {μ : Mu} {a : Addr} {ds : List D} (h : μ a = some (.lst ds)) : IsL μ (.at a) ds (fun μ' => μ' a = some (.lst ds)) := .inr ⟨a, rfl, h, rfl⟩
theorem gs_never {K : PySem.W.Frag} {W : WX} {X : XD} {μ : Mu} {ρ : Ro} {E : ED} (h : False) : GS K W X μ ρ tNever E := h.elim
/-! ### the laws' decks -/
/-- a deck at a, its great cells at g, at most c draws so far -/
structure DeckAt (a g : Addr) (c : Int) (μ : Mu) (gs : List Int) (o m k : Int) : Prop where
  ne : a ≠ g
  ha : μ a = some (.lst [.at g, .int o, .int m, .int k])
  hg : μ g = some (.lst (gs.map D.int))
  gs : ∀ x ∈ gs, 0 ≤ x ∧ x.natAbs < 2 ^ 1048577
  o0 : 0 ≤ o
  o1 : o.natAbs < 2 ^ 1048577
  m0 : 0 ≤ m
  m1 : m ≤ 1000000000000000003
  k0 : 0 ≤ k
  k1 : k ≤ c
def Deck (a g : Addr) (c : Int) (μ : Mu) : Prop := ∃ gs o m k, DeckAt a g c μ gs o m k
/-- all but a and g as it was -/
def But (a g : Addr) (μ μ' : Mu) : Prop := ∀ b, b ≠ a → b ≠ g → μ' b = μ b
theorem But.refl (a g : Addr) (μ : Mu) : But a g μ μ := fun _ _ _ => rfl
theorem But.trans {a g : Addr} {μ μ1 μ2 : Mu} (h : But a g μ μ1) (k : But a g μ1 μ2) : But a g μ μ2 := fun b h1 h2 => (k b h1 h2).trans (h b h1 h2)
theorem But.put1 {a g : Addr} {μ : Mu} {o : MO} : But a g μ (mput μ a o) := fun b h1 _ => mput_ne h1
theorem But.put2 {a g : Addr} {μ : Mu} {o : MO} : But a g μ (mput μ g o) := fun b _ h2 => mput_ne h2
theorem Deck.mono {a g : Addr} {c c' : Int} {μ : Mu} (h : Deck a g c μ) (hc : c ≤ c') : Deck a g c' μ := by
  obtain ⟨gs, o, m, k, d⟩ := h
  exact ⟨gs, o, m, k, d.ne, d.ha, d.hg, d.gs, d.o0, d.o1, d.m0, d.m1, d.k0, by have := d.k1; omega⟩
/-- something else changes -/
theorem Deck.but {a g p : Addr} {c : Int} {μ : Mu} {o : MO} (h : Deck a g c μ) (h1 : p ≠ a) (h2 : p ≠ g) : Deck a g c (mput μ p o) := by
  obtain ⟨gs, o, m, k, d⟩ := h
  exact ⟨gs, o, m, k, d.ne, by rw [mput_ne (Ne.symm h1)]; exact d.ha, by rw [mput_ne (Ne.symm h2)]; exact d.hg, d.gs, d.o0, d.o1, d.m0, d.m1, d.k0, d.k1⟩
theorem kit_NoneType_list : kitB "NoneType" "list" = some false := by decide +kernel
theorem kit_NoneType_tuple : kitB "NoneType" "tuple" = some false := by decide +kernel
theorem kit_NoneType_str : kitB "NoneType" "str" = some false := by decide +kernel
theorem kit_NoneType_bool : kitB "NoneType" "bool" = some false := by decide +kernel
theorem kit_NoneType_int : kitB "NoneType" "int" = some false := by decide +kernel
theorem kit_NoneType_dict : kitB "NoneType" "dict" = some false := by decide +kernel
theorem kit_bool_list : kitB "bool" "list" = some false := by decide +kernel
theorem kit_bool_tuple : kitB "bool" "tuple" = some false := by decide +kernel
theorem kit_bool_str : kitB "bool" "str" = some false := by decide +kernel
theorem kit_bool_bool : kitB "bool" "bool" = some true := by decide +kernel
theorem kit_bool_int : kitB "bool" "int" = some true := by decide +kernel
theorem kit_bool_dict : kitB "bool" "dict" = some false := by decide +kernel
theorem kit_int_list : kitB "int" "list" = some false := by decide +kernel
theorem kit_int_tuple : kitB "int" "tuple" = some false := by decide +kernel
theorem kit_int_str : kitB "int" "str" = some false := by decide +kernel
theorem kit_int_bool : kitB "int" "bool" = some false := by decide +kernel
theorem kit_int_int : kitB "int" "int" = some true := by decide +kernel
theorem kit_int_dict : kitB "int" "dict" = some false := by decide +kernel
theorem kit_str_list : kitB "str" "list" = some false := by decide +kernel
theorem kit_str_tuple : kitB "str" "tuple" = some false := by decide +kernel
theorem kit_str_str : kitB "str" "str" = some true := by decide +kernel
theorem kit_str_bool : kitB "str" "bool" = some false := by decide +kernel
theorem kit_str_int : kitB "str" "int" = some false := by decide +kernel
theorem kit_str_dict : kitB "str" "dict" = some false := by decide +kernel
theorem kit_tuple_list : kitB "tuple" "list" = some false := by decide +kernel
theorem kit_tuple_tuple : kitB "tuple" "tuple" = some true := by decide +kernel
theorem kit_tuple_str : kitB "tuple" "str" = some false := by decide +kernel
theorem kit_tuple_bool : kitB "tuple" "bool" = some false := by decide +kernel
theorem kit_tuple_int : kitB "tuple" "int" = some false := by decide +kernel
theorem kit_tuple_dict : kitB "tuple" "dict" = some false := by decide +kernel
theorem kit_list_list : kitB "list" "list" = some true := by decide +kernel
theorem kit_list_tuple : kitB "list" "tuple" = some false := by decide +kernel
theorem kit_list_str : kitB "list" "str" = some false := by decide +kernel
theorem kit_list_bool : kitB "list" "bool" = some false := by decide +kernel
theorem kit_list_int : kitB "list" "int" = some false := by decide +kernel
theorem kit_list_dict : kitB "list" "dict" = some false := by decide +kernel
theorem kit_dict_list : kitB "dict" "list" = some false := by decide +kernel
theorem kit_dict_tuple : kitB "dict" "tuple" = some false := by decide +kernel
theorem kit_dict_str : kitB "dict" "str" = some false := by decide +kernel
theorem kit_dict_bool : kitB "dict" "bool" = some false := by decide +kernel
theorem kit_dict_int : kitB "dict" "int" = some false := by decide +kernel
theorem kit_dict_dict : kitB "dict" "dict" = some true := by decide +kernel
theorem kits_NoneType_lt : kitBs "NoneType" ["list", "tuple"] = some false := by decide +kernel
theorem kits_bool_lt : kitBs "bool" ["list", "tuple"] = some false := by decide +kernel
theorem kits_int_lt : kitBs "int" ["list", "tuple"] = some false := by decide +kernel
theorem kits_str_lt : kitBs "str" ["list", "tuple"] = some false := by decide +kernel
theorem kits_tuple_lt : kitBs "tuple" ["list", "tuple"] = some true := by decide +kernel
theorem kits_list_lt : kitBs "list" ["list", "tuple"] = some true := by decide +kernel
theorem kits_dict_lt : kitBs "dict" ["list", "tuple"] = some false := by decide +kernel
/-- nobody may call it so: a promise of nothing -/
theorem cal_false {P : Program} {w : World} {K : PySem.W.Frag} {mg : Str → Option Value} {base : Heap} {x : Str} {st : Stmt} {ps : List Str} {n : Nat} (h : Std K mg x st)
    (hbi : ∀ (kV doc pm : Value) (an : Option Addr) (cdv ct : Value) (us : List Value), us.length = ps.length → bindArgs (PySem.W.fnOf x x (defArgs st) (defBody st) (defScope st) .none kV doc pm an cdv ct) ⟨us, []⟩ = pure (ps.zip us)) :
    Cal P w K mg base CX0 0 x st ps (spD K n (fun _ _ _ _ => False)) := by
  obtain ⟨f, fd, h1, F⟩ := h
  exact ⟨f, fd, h1, F, ⟨fun vs H Q E ⟨_, _, _, _, _, _, _, z, _⟩ => z.elim, fun A outer s H args us vs Q E hr he hb hv ⟨_, _, _, _, _, _, _, z, _⟩ => z.elim⟩, F.binds hbi⟩
/-- plain data, at most n deep -/
def alD : Nat → D → Bool
  | _, .non => true
  | _, .bl _ => true
  | _, .int _ => true
  | _, .str _ => true
  | n + 1, .tup ds => ds.all (alD n) && decide (ds.length ≤ 1000000)
  | n + 1, .lst ds => ds.all (alD n) && decide (ds.length ≤ 1000000)
  | _, _ => false
/-- the laws' comparison: of what is the same -/
def P_alike : Nat → PD
  | 0 => fun _ _ _ _ => False
  | n + 1 => fun μ ds post _ => ∃ d, ds = [d, d] ∧ alD n d = true ∧ post μ (.bl true)
theorem gs_neverH {K : PySem.W.Frag} {W : WX} {X : XD} {μ : Mu} {ρ : Ro} {E : ED} {t : TS} (h : False) : GS K W X μ ρ t E := h.elim
theorem pairs_same {ds : List D} {i : Nat} {d : D} (h : (pairsD ds ds)[i]? = some d) : ∃ x, x ∈ ds ∧ d = .tup [x, x] := by
  obtain ⟨x, y, h1, h2, e⟩ := pairsD_get h
  rw [h1] at h2
  cases h2
  exact ⟨x, List.mem_of_getElem? h1, e⟩
theorem denL_ints {K : PySem.W.Frag} {μ : Mu} {H : Hp} : ∀ ns : List Int, DenL K μ H (ns.map D.int) (ns.map V.int)
  | [] => DenL.nil
  | n :: ns => DenL.cons (by unfold Den; rfl) (denL_ints ns)
theorem bits_lt {z : Int} (h : Builtin.Int.intBits z ≤ 1048576) : z.natAbs < 2 ^ 1048576 := by
  unfold Builtin.Int.intBits at h
  split at h
  · rename_i h0
    have : z.natAbs = 0 := by simpa using h0
    rw [this]
    exact Nat.two_pow_pos _
  · rename_i h0
    have h1 : z.natAbs ≠ 0 := by simpa using h0
    exact (Nat.log2_lt h1).mp (by omega)
/-- a law's promise, from its P at the script -/
theorem sp_start {K : PySem.W.Frag} {P : PD} (h : ∀ ns : List Int, ns.length ≤ 63 → (∀ n ∈ ns, n.natAbs < 2 ^ 1048576) → P (fun _ => none) [.frz (ns.map D.int)] (fun _ d => d = .bl true) excN)
    (H : Hp) (a : Addr) (ns : List Int) (hl : ns.length ≤ 63) (hb : ∀ z ∈ ns, Builtin.Int.intBits z ≤ 1048576) (hO : Only H) (hs : SqL K H a (ns.map V.int)) : spD K 1 P [.ref a] H (fun v _ => v = .bl true) fun _ _ _ => False := by
  refine ⟨fun _ => none, [.frz (ns.map D.int)], (fun _ d => d = .bl true), excN, ?_, ?_, rfl, h ns hl (fun n hn => bits_lt (hb n hn)), ?_, ?_⟩
  · intro b o e
    cases e
  · refine DenL.cons ?_ DenL.nil
    unfold Den
    refine ⟨a, _, rfl, ?_, denL_ints ns⟩
    rcases hs with hs | hs
    · exact .inl ⟨rfl, hs⟩
    · exact .inr hs
  · intro μ' d v H' hd _ _ dv
    have hd' : d = .bl true := hd
    subst hd'
    unfold Den at dv
    exact dv
  · intro μ' C d dx v H' z
    exact z.elim
theorem cal_at {P : Program} {w : World} {K : PySem.W.Frag} {mg : Str → Option Value} {base : Heap} {CX : CXT} {k : Nat} {x : Str} {st : Stmt} {ps : List Str} {sp : Sp} {f : Addr} {fd : FuncData} (c : Cal P w K mg base CX k x st ps sp) (hm : mg x = some (.ref f)) (F : Fun K x x st f fd) : FnOk P w K mg base CX k f fd ps sp := by
  obtain ⟨f', fd', h1, F', G, _⟩ := c.ex
  rw [hm] at h1
  cases h1
  obtain ⟨_, _, _, _, _, _, _, _, _, _, l1, _⟩ := F.ex
  obtain ⟨_, _, _, _, _, _, _, _, _, _, l2, _⟩ := F'.ex
  rw [l1] at l2
  have := Option.some.inj l2
  cases this
  exact G
/-- f(k = v, ..) whose errors are wished for at the caller's slots -/
def tCallKS (sp : Sp) (gV : List V → List V → List V) (E : L2.St → XK) (tk : TA) : TE := fun σ H Q => tk σ H fun zs H2 => sp (gV [] zs) H2 Q (E σ)
section
variable {X : Cx} {CX : CXT} {k j : Nat} {f : Addr} {fd : FuncData} {ps ks : List Str} {sp : Sp} {x : Str} {p pos : Pos} {kws : List Keyword} {tk : TA} {g : List Value → List Value → List Value} {gV : List V → List V → List V} {st : Stmt} {n m : Nat} {pm : List Nat} {E : L2.St → XK}
theorem pe_callK0S (F : FnOk X.prog X.w X.K X.mg X.base CX k f fd ps sp) (hr : Room k X.A) (hg : Gl X x) (hm : X.mg x = some (.ref f)) (hk : PySem.W.keepIn X.K (.ref f) = true) (hb : KBinds X.K fd ps ks g gV) (hx : ∀ σ, PassesAt CX X σ (E σ))
    (hkw : PK X kws tk) (hall : (backToKw pos (keywordEach kws X.env)).all (·.1.isSome) = true := by rfl) (hks : (backToKw pos (keywordEach kws X.env)).filterMap (·.1) = ks := by rfl)
    (hdb : (x == ("__debug__" : Str)) = false := by decide) (hn : ((backTo pos (starEach [] X.env)).any (·.1) || (backToKw pos (keywordEach kws X.env)).any (·.1.isNone)) = false := by rfl) :
    PE X (.Call (.Name x p) [] kws pos) (tCallKS sp gV E tk) := by
  constructor
  intro pins s σ H Q I h
  apply wpAny_Call_Name_kw (ld_glob I hg hm ?_ hdb)
  refine PySem.W.callWith_KW0 (h₀ := X.base) I.ok.mod.kin hk hall ?_ hn
  refine thn (hkw.run pos pins s σ H _ I h) fun ws s2 hh => ?_
  obtain ⟨zs, H2, I2, rz, q2⟩ := hh
  refine ⟨I2.kIn, ?_⟩
  rw [hks]
  have r2 := hb.rel (vs := []) (us := []) .nil rz
  have hl : (g [] ws).length = ps.length := r2.length.symm.trans (F.len _ _ _ _ q2)
  refine wpAny_call (codeAny_mono (F.run X.A X.stack s2 H2 ⟨[], ks.zip ws⟩ (g [] ws) (gV [] zs) Q (E σ) hr I2.env0 (hb.to s2 [] ws I2.kIn hl) r2 q2) fun r s' hq => ?_)
  rcases r with e | (_ | _ | _ | u)
  · exact hx σ pins H2 s2 e s' I2 hq
  · exact False.elim hq
  · exact False.elim hq
  · exact False.elim hq
  · exact I2.after hq
theorem pe_ckS {W : WX} (c : Cal X.prog X.w X.K X.mg X.base (L2.CX X.prog X.w) k x st ps sp) (hr : Room j X.A) (hj : k ≤ j) (hp : ps ≠ []) (tw : Takes X W)
    (h : ∀ (kV doc pv : Value) (an : Option Addr) (cdv ct : Value) (us ws : List Value), us.length = n → ws.length = m → bindArgs (PySem.W.fnOf x x (defArgs st) (defBody st) (defScope st) .none kV doc pv an cdv ct) ⟨us, ks.zip ws⟩ = pure (ps.zip (pm.filterMap fun i => (us ++ ws)[i]?)))
    (hkw : PK X kws tk) (hg : Gl X x := by rfl) (hall : (backToKw pos (keywordEach kws X.env)).all (·.1.isSome) = true := by rfl) (hks : (backToKw pos (keywordEach kws X.env)).filterMap (·.1) = ks := by rfl)
    (hdb : (x == ("__debug__" : Str)) = false := by decide) (hn : ((backTo pos (starEach [] X.env)).any (·.1) || (backToKw pos (keywordEach kws X.env)).any (·.1.isNone)) = false := by rfl) :
    PE X (.Call (.Name x p) [] kws pos) (tCallKS sp (permG n m pm) (WE W) tk) := by
  obtain ⟨f, fd, h1, F, G, b⟩ := c.ex
  exact pe_callK0S G (hr.mono hj) hg h1 F.kp (kb_of F hp h) (fun σ => passAt tw σ) hkw hall hks hdb hn
end
theorem evx_ckS {K : PySem.W.Frag} {W : WX} {X : XD} {μ : Mu} {ρ : Ro} {Φ : DP} {n a b : Nat} {pm : List Nat} {P : PD} {tk : TA} (h : EvL K W X μ ρ tk fun μ2 es => (permG a b pm [] es).length = n ∧ P μ2 (permG a b pm [] es) Φ fun μ' C d => X μ' ρ C d) :
    EvX K W X μ ρ (tCallKS (spD K n P) (permG a b pm) (WE W) tk) Φ := fun σ H Q m e l k =>
  h σ H _ m e l fun μ1 ds vs H1 ⟨hl, hp⟩ g1 m1 d1 => ⟨μ1, _, Φ, _, m1, permG_den DenL.nil d1, hl, hp, fun μ' d v H' p g => k μ' d v H' p (g1.trans g), fun μ' C d dx v H' p g mm => l μ' ρ C d dx v σ H' p (g1.trans g) mm ((e.grow g1).grow g)⟩
/-! ### slices -/
def EvO (K : PySem.W.Frag) (W : WX) (X : XD) (μ : Mu) (ρ : Ro) (t : TO) (Φ : Mu → Option Int → Prop) : Prop := ∀ (σ : L2.St) (H : Hp) (Q : Option Int → Hp → Prop), Mem K μ H → EnvIs K μ H ρ σ → LiftX K μ H X W → (∀ μ' o H', Φ μ' o → Grow μ H μ' H' → Mem K μ' H' → Q o H') → t σ H Q
def SlX (K : PySem.W.Frag) (r : V → Option Int → Option Int → Hp → VK → Prop) (μ : Mu) (x : D) (l u : Option Int) (Φ : DP) : Prop := ∀ (H : Hp) (v : V) (Q : VK), Mem K μ H → Den K μ H x v → (∀ μ' d w H', Φ μ' d → Grow μ H μ' H' → Mem K μ' H' → Den K μ' H' d w → Q w H') → r v l u H Q
section
variable {K : PySem.W.Frag} {W : WX} {X : XD} {μ : Mu} {ρ : Ro} {Φ : DP} {te : TE} {tl th : TO}
theorem evo_none {Φ : Mu → Option Int → Prop} (h : Φ μ none) : EvO K W X μ ρ tNoPart Φ := fun σ H Q m e l k => k μ none H h (Grow.refl _ _) m
theorem evo_part {Φ : Mu → Option Int → Prop} (h : EvX K W X μ ρ te fun μ1 d => ∃ i, d = .int i ∧ Φ μ1 (some i)) : EvO K W X μ ρ (tPart te) Φ := fun σ H Q m e l k =>
  h σ H _ m e l fun μ1 d v H1 ⟨i, hd, hp⟩ g1 m1 d1 => ⟨i, by subst hd; unfold Den at d1; exact d1, k μ1 _ H1 hp g1 m1⟩
theorem evx_sl {r : V → Option Int → Option Int → Hp → VK → Prop} (h : EvX K W X μ ρ te fun μ1 x => EvO K W X μ1 ρ tl fun μ2 l => EvO K W X μ2 ρ th fun μ3 u => SlX K r μ3 x l u Φ) : EvX K W X μ ρ (L2.tSl r te tl th) Φ := fun σ H Q m e l k =>
  h σ H _ m e l fun μ1 x v H1 h1 g1 m1 d1 => h1 σ H1 _ m1 (e.grow g1) (l.grow g1) fun μ2 o1 H2 h2 g2 m2 => h2 σ H2 _ m2 ((e.grow g1).grow g2) ((l.grow g1).grow g2) fun μ3 o2 H3 h3 g3 m3 =>
    h3 H3 v Q m3 (Den.grow g3 _ _ (Den.grow g2 _ _ d1)) fun μ' d w H' p g => k μ' d w H' p (((g1.trans g2).trans g3).trans g)
theorem slx_S {z : Str} {lo hi : Option Int} (hz : z.length ≤ 1000000) (h : Φ μ (.str (cutS z lo hi))) : SlX K rSlS μ (.str z) lo hi Φ := fun H v Q m d k => by
  unfold Den at d
  exact ⟨z, d, Nat.le_trans hz (by decide), k μ _ _ H h (Grow.refl _ _) m (by unfold Den; rfl)⟩
end
/-- the same inside a try -/
theorem op_eqTr {X : Cx} {pn : List (Addr × Obj)} {xe : Value → Shared → Prop} (hu : X.A.units + 64 < cLine) : OpR (X.tr pn xe) (compareOp .Eq) (rEqU X.K) := op_eqU (X := X.tr pn xe) hu
theorem op_neTr {X : Cx} {pn : List (Addr × Obj)} {xe : Value → Shared → Prop} (hu : X.A.units + 64 < cLine) : OpR (X.tr pn xe) (compareOp .NotEq) (rNeU X.K) := op_neU (X := X.tr pn xe) hu
/-- list(a tuple): a fresh list that will change -/
theorem cax_listM {K : PySem.W.Frag} {μ : Mu} {es : List D} {Φ : DP} (h : ∀ p, μ p = none → Φ (mput μ p (.lst es)) (.at p)) :
    CaX K (fun xs H Q => ∃ p ys, xs = [.ref p] ∧ (SqL K H p ys ∨ SqT K H p ys) ∧ ∀ l, H l = none → Q (.ref l) (upd H l (.lst ys))) μ [.tup es] Φ := fun H vs Q m d k => by
  obtain ⟨v, e, a⟩ := denL1 d
  unfold Den at a
  obtain ⟨p, us, e2, s, b⟩ := a
  subst e2
  exact ⟨p, us, e, .inr s.sq, fun l hl => k _ _ _ _ (h l (m.free hl)) (Grow.newM hl) (m.newM hl ⟨us, upd_same, DenL.grow (Grow.newM hl) _ _ b⟩) (by unfold Den; rfl)⟩
/-! ### lists of texts, and what lists can do besides -/
section
variable {K : PySem.W.Frag} {W : WX} {X : XD} {μ : Mu} {H : Hp} {ρ : Ro} {Φ : DP} {te to : TE} {x y d : D} {ds xs ys : List D}
theorem isL_sq {S : Mu → Prop} {v : V} (m : Mem K μ H) (hd : IsL μ d ds S) (dv : Den K μ H d v) : ∃ p vs, v = .ref p ∧ SqL K H p vs ∧ DenL K μ H ds vs := by
  rcases hd with ⟨e1, hS⟩ | ⟨a, e1, ha, hS⟩
  · obtain ⟨p, vs, e2, s, b⟩ : ∃ p vs, v = .ref p ∧ StS K μ H p vs ∧ DenL K μ H ds vs := by
      rcases e1 with e1 | e1
      · subst e1; unfold Den at dv
        obtain ⟨p, vs, e2, s, b⟩ := dv
        exact ⟨p, vs, e2, .inl ⟨s.1, .inl s.2⟩, b⟩
      · subst e1; unfold Den at dv; exact dv
    exact ⟨p, vs, e2, s.sq, b⟩
  · subst e1
    unfold Den at dv
    obtain ⟨vs, q, b⟩ := m a _ ha
    exact ⟨a, vs, dv, SqL.of q, b⟩
/-- a list of the program's own making -/
def Real (μ : Mu) (d : D) (ds : List D) : Prop := d = .lst ds ∨ ∃ a, d = .at a ∧ μ a = some (.lst ds)
theorem real_lst {μ : Mu} : Real μ (.lst ds) ds := .inl rfl
theorem real_at {μ : Mu} {a : Addr} (h : μ a = some (.lst ds)) : Real μ (.at a) ds := .inr ⟨a, rfl, h⟩
theorem Real.hp {v : V} (m : Mem K μ H) (hd : Real μ d ds) (dv : Den K μ H d v) : ∃ p vs, v = .ref p ∧ H p = some (.lst vs) ∧ DenL K μ H ds vs := by
  rcases hd with e1 | ⟨a, e1, ha⟩
  · subst e1; unfold Den at dv
    obtain ⟨p, vs, e2, s, b⟩ := dv
    exact ⟨p, vs, e2, s.2, b⟩
  · subst e1
    unfold Den at dv
    obtain ⟨vs, q, b⟩ := m a _ ha
    exact ⟨a, vs, dv, q, b⟩
theorem denStr : ∀ {zs : List Str} {vs : List V}, DenL K μ H (zs.map D.str) vs → vs = zs.map V.str
  | [], vs, h => by unfold List.map DenL at h; exact h
  | z :: zs, vs, h => by
    rw [List.map_cons] at h
    unfold DenL at h
    obtain ⟨w, ws, e, a, b⟩ := h
    unfold Den at a
    subst e a
    rw [denStr b, List.map_cons]
theorem strDen : ∀ (zs : List Str), DenL K μ H (zs.map D.str) (zs.map V.str)
  | [] => DenL.nil
  | z :: zs => DenL.cons (by unfold Den; rfl) (strDen zs)
theorem DenL.drop : ∀ (n : Nat) {ds : List D} {vs : List V}, DenL K μ H ds vs → DenL K μ H (ds.drop n) (vs.drop n)
  | 0, ds, vs, h => h
  | n + 1, [], vs, h => by unfold DenL at h; subst h; exact DenL.nil
  | n + 1, d :: ds, vs, h => by
    unfold DenL at h
    obtain ⟨w, ws, e, a, b⟩ := h
    subst e
    exact DenL.drop n b
theorem DenL.take : ∀ (n : Nat) {ds : List D} {vs : List V}, DenL K μ H ds vs → DenL K μ H (ds.take n) (vs.take n)
  | 0, ds, vs, h => DenL.nil
  | n + 1, [], vs, h => by unfold DenL at h; subst h; exact DenL.nil
  | n + 1, d :: ds, vs, h => by
    unfold DenL at h
    obtain ⟨w, ws, e, a, b⟩ := h
    subst e
    exact DenL.cons a (DenL.take n b)
theorem DenL.eraseIdx : ∀ (n : Nat) {ds : List D} {vs : List V}, DenL K μ H ds vs → DenL K μ H (ds.eraseIdx n) (vs.eraseIdx n)
  | n, [], vs, h => by unfold DenL at h; subst h; exact DenL.nil
  | 0, d :: ds, vs, h => by
    unfold DenL at h
    obtain ⟨w, ws, e, a, b⟩ := h
    subst e
    exact b
  | n + 1, d :: ds, vs, h => by
    unfold DenL at h
    obtain ⟨w, ws, e, a, b⟩ := h
    subst e
    exact DenL.cons a (DenL.eraseIdx n b)
theorem DenL.reverse : ∀ {ds : List D} {vs : List V}, DenL K μ H ds vs → DenL K μ H ds.reverse vs.reverse
  | [], vs, h => by unfold DenL at h; subst h; exact DenL.nil
  | d :: ds, vs, h => by
    unfold DenL at h
    obtain ⟨w, ws, e, a, b⟩ := h
    subst e
    rw [List.reverse_cons, List.reverse_cons]
    exact (DenL.reverse b).append (DenL.cons a DenL.nil)
theorem DenL.rep (h : DenL K μ H ds vs) : ∀ n : Nat, DenL K μ H (List.replicate n ds).flatten (List.replicate n vs).flatten
  | 0 => DenL.nil
  | n + 1 => by
    rw [List.replicate_succ, List.replicate_succ, List.flatten_cons, List.flatten_cons]
    exact h.append (DenL.rep h n)
/-- ds[lo:hi] -/
def cutD (ds : List D) (lo hi : Option Int) : List D := (ds.drop (HT.sIx ds.length 0 lo)).take (HT.sIx ds.length ds.length hi - HT.sIx ds.length 0 lo)
theorem DenL.cut {vs : List V} (lo hi : Option Int) (h : DenL K μ H ds vs) : DenL K μ H (cutD ds lo hi) (cutV vs lo hi) := by
  unfold cutD cutV
  rw [h.length]
  exact (h.drop _).take _
theorem slx_L {S : Mu → Prop} {lo hi : Option Int} (hd : IsL μ x ds S) (h : Φ μ (.lst (cutD ds lo hi))) : SlX K (rSlL K) μ x lo hi Φ := fun H v Q m dv k => by
  obtain ⟨p, vs, e, sq, b⟩ := isL_sq m hd dv
  subst e
  exact ⟨p, vs, rfl, sq, fun p' hp => k μ _ _ _ h (Grow.new hp) (m.new hp) (by
    unfold Den
    exact ⟨p', _, rfl, ⟨m.free hp, upd_same⟩, DenL.grow (Grow.new hp) _ _ (b.cut lo hi)⟩)⟩
theorem slx_LM {S : Mu → Prop} {lo hi : Option Int} (hd : IsL μ x ds S) (h : ∀ p, μ p = none → Φ (mput μ p (.lst (cutD ds lo hi))) (.at p)) : SlX K (rSlL K) μ x lo hi Φ := fun H v Q m dv k => by
  obtain ⟨p, vs, e, sq, b⟩ := isL_sq m hd dv
  subst e
  exact ⟨p, vs, rfl, sq, fun p' hp => k _ _ _ _ (h p' (m.free hp)) (Grow.newM hp) (m.newM hp ⟨_, upd_same, DenL.grow (Grow.newM hp) _ _ (b.cut lo hi)⟩) (by unfold Den; rfl)⟩
/-- list(..) of a list -/
theorem cax_listL {S : Mu → Prop} (hd : IsL μ x ds S) (h : Φ μ (.lst ds)) :
    CaX K (fun xs H Q => ∃ p ys, xs = [.ref p] ∧ (SqL K H p ys ∨ SqT K H p ys) ∧ ∀ l, H l = none → Q (.ref l) (upd H l (.lst ys))) μ [x] Φ := fun H vs Q m d k => by
  obtain ⟨v, e, a⟩ := denL1 d
  obtain ⟨p, us, e2, sq, b⟩ := isL_sq m hd a
  subst e2
  exact ⟨p, us, e, .inl sq, fun l hl => k _ _ _ _ h (Grow.new hl) (m.new hl) (by
    unfold Den
    exact ⟨l, _, rfl, ⟨m.free hl, upd_same⟩, DenL.grow (Grow.new hl) _ _ b⟩)⟩
theorem cax_listLM {S : Mu → Prop} (hd : IsL μ x ds S) (h : ∀ p, μ p = none → Φ (mput μ p (.lst ds)) (.at p)) :
    CaX K (fun xs H Q => ∃ p ys, xs = [.ref p] ∧ (SqL K H p ys ∨ SqT K H p ys) ∧ ∀ l, H l = none → Q (.ref l) (upd H l (.lst ys))) μ [x] Φ := fun H vs Q m d k => by
  obtain ⟨v, e, a⟩ := denL1 d
  obtain ⟨p, us, e2, sq, b⟩ := isL_sq m hd a
  subst e2
  exact ⟨p, us, e, .inl sq, fun l hl => k _ _ _ _ (h l (m.free hl)) (Grow.newM hl) (m.newM hl ⟨_, upd_same, DenL.grow (Grow.newM hl) _ _ b⟩) (by unfold Den; rfl)⟩
abbrev rJoin (K : PySem.W.Frag) : V → List V → Hp → VK → Prop := fun x xs H Q => ∃ a p, ∃ ys : List Str, x = .str a ∧ xs = [.ref p] ∧ (SqL K H p (ys.map V.str) ∨ SqT K H p (ys.map V.str)) ∧
  (ys.map (·.length)).sum + ys.length * a.length ≤ 16777216 ∧ Q (.str (Txt.join a ys)) H
/-- sep.join(texts) -/
theorem evx_join (h : EvX K W X μ ρ to fun μ1 o => ∃ a, o = .str a ∧ EvX K W X μ1 ρ te fun μ2 d => ∃ (zs : List Str) (S : Mu → Prop), IsL μ2 d (zs.map D.str) S ∧ (zs.map (·.length)).sum + zs.length * a.length ≤ 1000000 ∧ Φ μ2 (.str (Txt.join a zs))) :
    EvX K W X μ ρ (tM1 (rJoin K) to te) Φ := fun σ H Q m e l k =>
  h σ H _ m e l fun μ1 o v H1 ⟨a, e1, h1⟩ g1 m1 d1 => by
    subst e1
    unfold Den at d1
    subst d1
    refine ⟨⟨a, rfl⟩, h1 σ H1 _ m1 (e.grow g1) (l.grow g1) fun μ2 d u H2 ⟨zs, S, hi, hz, hq⟩ g2 m2 d2 => ?_⟩
    obtain ⟨p, vs, e2, sq, b⟩ := isL_sq m2 hi d2
    subst e2
    rw [denStr b] at sq
    exact ⟨a, p, zs, rfl, rfl, .inl sq, Nat.le_trans hz (by decide), k μ2 _ _ H2 hq (g1.trans g2) m2 (by unfold Den; rfl)⟩
/-- sorted(texts) -/
theorem cax_sortedS {zs : List Str} {S : Mu → Prop} (hd : IsL μ x (zs.map D.str) S) (hl : zs.length < 64) (h : ∀ zs' : List Str, zs'.Perm zs → sortedS zs' = true → Φ μ (.lst (zs'.map D.str))) : CaX K (rSortedS K) μ [x] Φ := fun H vs Q m d k => by
  obtain ⟨v, e, a⟩ := denL1 d
  obtain ⟨p, us, e2, sq, b⟩ := isL_sq m hd a
  subst e2
  rw [denStr b] at sq
  exact ⟨p, zs, e, sq, hl, fun zs' p' hp hs hf => k μ _ _ _ (h zs' hp hs) (Grow.new hf) (m.new hf) (by
    unfold Den
    exact ⟨p', _, rfl, ⟨m.free hf, upd_same⟩, strDen zs'⟩)⟩
theorem opx_cat (hx : Real μ x xs) (hy : Real μ y ys) (hl : xs.length + ys.length ≤ 1000000) (h : Φ μ (.lst (xs ++ ys))) : OpX K rCat μ x y Φ := fun H v w Q m a b k => by
  obtain ⟨p, us, e1, q1, b1⟩ := hx.hp m a
  obtain ⟨p2, us2, e2, q2, b2⟩ := hy.hp m b
  subst e1 e2
  exact ⟨p, p2, us, us2, rfl, rfl, q1, q2, by rw [← b1.length, ← b2.length]; exact Nat.le_trans hl (by decide), fun p' hp => k μ _ _ _ h (Grow.new hp) (m.new hp) (by
    unfold Den
    exact ⟨p', _, rfl, ⟨m.free hp, upd_same⟩, DenL.grow (Grow.new hp) _ _ (b1.append b2)⟩)⟩
theorem opx_rep {n : Int} (hx : Real μ x xs) (h1 : -(2 ^ 63) ≤ n) (h2 : n < 2 ^ 63) (hl : xs.length * n.toNat ≤ 1000000) (h : Φ μ (.lst (List.replicate n.toNat xs).flatten)) : OpX K rRep μ x (.int n) Φ := fun H v w Q m a b k => by
  obtain ⟨p, us, e1, q1, b1⟩ := hx.hp m a
  subst e1
  unfold Den at b
  exact ⟨p, n, us, rfl, b, q1, h1, h2, by rw [← b1.length]; exact Nat.le_trans hl (by decide), fun p' hp => k μ _ _ _ h (Grow.new hp) (m.new hp) (by
    unfold Den
    exact ⟨p', _, rfl, ⟨m.free hp, upd_same⟩, DenL.grow (Grow.new hp) _ _ (b1.rep _)⟩)⟩
/-- xs.pop(i) -/
theorem evx_popAt (h : EvX K W X μ ρ to fun μ1 o => ∃ a ds0, o = .at a ∧ μ1 a = some (.lst ds0) ∧ EvX K W X μ1 ρ te fun μ2 i => ∃ ds n k d, i = .int n ∧ μ2 a = some (.lst ds) ∧ (-(2 ^ 63) ≤ n ∧ n < 2 ^ 63) ∧ seqIndex? n ds.length = some k ∧ ds[k]? = some d ∧
    Φ (mput μ2 a (.lst (ds.eraseIdx k))) d) : EvX K W X μ ρ (tBM K "list" rPopAt to (tCons te tNil)) Φ :=
  evx_bmL (h.imp fun μ1 o ⟨a, ds0, e1, h0, h1⟩ => ⟨a, ds0, e1, h0, evl_cons (h1.imp fun μ2 i ⟨ds, n, k', d, e, hp, hn, hk, hd, hq⟩ => evl_nil ⟨ds, hp, fun H vs ws Q m q b d2 k => by
    obtain ⟨w, e2, dw⟩ := denL1 d2
    subst e
    unfold Den at dw
    subst dw e2
    obtain ⟨v, h3, h4⟩ := b.get hd
    exact ⟨a, vs, n, k', v, rfl, rfl, q, hn.1, hn.2, by rw [← b.length]; exact hk, h3, k _ _ _ _ hq (Grow.wr hp) (m.wr hp ⟨_, upd_same, DenL.grow (Grow.wr hp) _ _ (b.eraseIdx k')⟩) (Den.grow (Grow.wr hp) _ _ h4)⟩⟩)⟩)
/-- xs.insert(i, e) -/
theorem evx_ins {ti : TE} (h : EvX K W X μ ρ to fun μ1 o => ∃ a ds0, o = .at a ∧ μ1 a = some (.lst ds0) ∧ EvX K W X μ1 ρ ti fun μ2 i => EvX K W X μ2 ρ te fun μ3 d => ∃ ds n, i = .int n ∧ μ3 a = some (.lst ds) ∧ ds.length ≤ 1000000 ∧ (0 ≤ n ∧ n < 2 ^ 63) ∧
    Φ (mput μ3 a (.lst (ds.take n.toNat ++ [d] ++ ds.drop n.toNat))) .non) : EvX K W X μ ρ (tBM K "list" rInsert to (tCons ti (tCons te tNil))) Φ :=
  evx_bmL (h.imp fun μ1 o ⟨a, ds0, e1, h0, h1⟩ => ⟨a, ds0, e1, h0, evl_cons (h1.imp fun μ2 i h2 => evl_cons (h2.imp fun μ3 d ⟨ds, n, e, hp, hz, hn, hq⟩ => evl_nil ⟨ds, hp, fun H vs ws Q m q b d2 k => by
    obtain ⟨w0, w, e2, dw0, dw⟩ := denL2 d2
    subst e
    unfold Den at dw0
    subst dw0 e2
    exact ⟨a, vs, n, w, rfl, rfl, q, by rw [← b.length]; exact Nat.lt_of_le_of_lt hz (by decide), hn.1, hn.2, k _ _ _ _ hq (Grow.wr hp) (m.wr hp ⟨_, upd_same, (((DenL.grow (Grow.wr hp) _ _ b).take _).append (DenL.cons (Den.grow (Grow.wr hp) _ _ dw) DenL.nil)).append ((DenL.grow (Grow.wr hp) _ _ b).drop _)⟩) (by unfold Den; rfl)⟩⟩))⟩)
/-- xs.extend(ys) -/
theorem evx_ext (h : EvX K W X μ ρ to fun μ1 o => ∃ a ds0, o = .at a ∧ μ1 a = some (.lst ds0) ∧ EvX K W X μ1 ρ te fun μ2 y => ∃ ds zs, μ2 a = some (.lst ds) ∧ Real μ2 y zs ∧ ds.length + zs.length ≤ 1000000 ∧ Φ (mput μ2 a (.lst (ds ++ zs))) .non) :
    EvX K W X μ ρ (tBM K "list" rExtend to (tCons te tNil)) Φ :=
  evx_bmL (h.imp fun μ1 o ⟨a, ds0, e1, h0, h1⟩ => ⟨a, ds0, e1, h0, evl_cons (h1.imp fun μ2 y ⟨ds, zs, hp, hr, hz, hq⟩ => evl_nil ⟨ds, hp, fun H vs ws Q m q b d2 k => by
    obtain ⟨w, e2, dw⟩ := denL1 d2
    obtain ⟨p, us, e3, q3, b3⟩ := hr.hp m dw
    subst e3 e2
    exact ⟨a, p, vs, us, rfl, rfl, q, q3, by rw [← b.length, ← b3.length]; exact Nat.le_trans hz (by decide), k _ _ _ _ hq (Grow.wr hp) (m.wr hp ⟨_, upd_same, (DenL.grow (Grow.wr hp) _ _ b).append (DenL.grow (Grow.wr hp) _ _ b3)⟩) (by unfold Den; rfl)⟩⟩)⟩)
/-- xs.reverse() -/
theorem evx_rev (h : EvX K W X μ ρ to fun μ1 o => ∃ a ds, o = .at a ∧ μ1 a = some (.lst ds) ∧ Φ (mput μ1 a (.lst ds.reverse)) .non) : EvX K W X μ ρ (tBM0 K "list" rReverse to) Φ :=
  evx_bmL0 (h.imp fun μ1 o ⟨a, ds, e1, hp, hq⟩ => ⟨a, ds, e1, hp, fun H vs Q m q b k =>
    ⟨a, vs, rfl, rfl, q, k _ _ _ _ hq (Grow.wr hp) (m.wr hp ⟨_, upd_same, DenL.grow (Grow.wr hp) _ _ b.reverse⟩) (by unfold Den; rfl)⟩⟩)
/-- xs.clear() -/
theorem evx_clear (h : EvX K W X μ ρ to fun μ1 o => ∃ a ds, o = .at a ∧ μ1 a = some (.lst ds) ∧ Φ (mput μ1 a (.lst [])) .non) : EvX K W X μ ρ (tBM0 K "list" rClear to) Φ :=
  evx_bmL0 (h.imp fun μ1 o ⟨a, ds, e1, hp, hq⟩ => ⟨a, ds, e1, hp, fun H vs Q m q b k =>
    ⟨a, vs, rfl, rfl, q, k _ _ _ _ hq (Grow.wr hp) (m.wr hp ⟨_, upd_same, DenL.nil⟩) (by unfold Den; rfl)⟩⟩)
/-! ### a sign in a text; texts in order -/
abbrev rInSign : R2 := fun x y H Q => ∃ (c : Nat) (z : Str), x = .str ⟨#[c]⟩ ∧ y = .str z ∧ Q (.bl (decide (c ∈ z.cps.toList))) H
abbrev rNotInSign : R2 := fun x y H Q => ∃ (c : Nat) (z : Str), x = .str ⟨#[c]⟩ ∧ y = .str z ∧ Q (.bl (!decide (c ∈ z.cps.toList))) H
theorem opx_inSign {c : Nat} {z : Str} (h : Φ μ (.bl (decide (c ∈ z.cps.toList)))) : OpX K rInSign μ (.str ⟨#[c]⟩) (.str z) Φ := fun H v w Q m a b k => by
  unfold Den at a b
  exact ⟨c, z, a, b, k μ _ _ H h (Grow.refl _ _) m (by unfold Den; rfl)⟩
theorem opx_notInSign {c : Nat} {z : Str} (h : Φ μ (.bl (!decide (c ∈ z.cps.toList)))) : OpX K rNotInSign μ (.str ⟨#[c]⟩) (.str z) Φ := fun H v w Q m a b k => by
  unfold Den at a b
  exact ⟨c, z, a, b, k μ _ _ H h (Grow.refl _ _) m (by unfold Den; rfl)⟩
abbrev rLeS : R2 := fun x y H Q => ∃ i j, x = .str i ∧ y = .str j ∧ Q (.bl (!decide (j.cps.toList < i.cps.toList))) H
theorem opx_leS {i j : Str} (h : Φ μ (.bl (!decide (j.cps.toList < i.cps.toList)))) : OpX K rLeS μ (.str i) (.str j) Φ := fun H v w Q m a b k => by
  unfold Den at a b
  exact ⟨i, j, a, b, k μ _ _ H h (Grow.refl _ _) m (by unfold Den; rfl)⟩
end
/-! ### what stays, but for a deck -/
/-- what stands stays, but for the deck a with its cells g -/
def Keep (a g : Addr) (μ μ' : Mu) : Prop := ∀ b o, b ≠ a → b ≠ g → μ b = some o → μ' b = some o
theorem Keep.refl (a g : Addr) (μ : Mu) : Keep a g μ μ := fun _ _ _ _ h => h
theorem Keep.trans {a g : Addr} {μ μ1 μ2 : Mu} (h : Keep a g μ μ1) (k : Keep a g μ1 μ2) : Keep a g μ μ2 := fun b o h1 h2 e => k b o h1 h2 (h b o h1 h2 e)
theorem But.keep {a g : Addr} {μ μ' : Mu} (h : But a g μ μ') : Keep a g μ μ' := fun b o h1 h2 e => (h b h1 h2).trans e
theorem Keep.new {a g p : Addr} {μ μ' : Mu} {o : MO} (h : Keep a g μ μ') (hp : μ p = none) : Keep a g μ (mput μ' p o) := fun b o' h1 h2 e => by
  have : b ≠ p := fun z => by rw [z, hp] at e; cases e
  rw [mput_ne this]
  exact h b o' h1 h2 e
theorem Keep.put {a g p : Addr} {μ : Mu} {o : MO} (hp : μ p = none) : Keep a g μ (mput μ p o) := (Keep.refl a g μ).new hp
theorem Deck.na {a g p : Addr} {c : Int} {μ : Mu} (h : Deck a g c μ) (hp : μ p = none) : p ≠ a ∧ p ≠ g := by
  obtain ⟨gs, o, m, k, d⟩ := h
  exact ⟨fun z => (by rw [z, d.ha] at hp; exact nomatch hp), fun z => (by rw [z, d.hg] at hp; exact nomatch hp)⟩
theorem Deck.off {a g p : Addr} {c : Int} {μ μ' : Mu} (h : Deck a g c μ) (h1 : p ≠ a) (h2 : p ≠ g) (hb : ∀ b, b ≠ p → μ' b = μ b) : Deck a g c μ' := by
  obtain ⟨gs, o, m, k, d⟩ := h
  exact ⟨gs, o, m, k, d.ne, by rw [hb _ (Ne.symm h1)]; exact d.ha, by rw [hb _ (Ne.symm h2)]; exact d.hg, d.gs, d.o0, d.o1, d.m0, d.m1, d.k0, d.k1⟩
theorem Deck.cut {a g p : Addr} {c : Int} {μ : Mu} (h : Deck a g c μ) (h1 : p ≠ a) (h2 : p ≠ g) : Deck a g c (mcut μ p) := h.off h1 h2 fun b hb => mcut_ne hb
theorem Keep.off {a g p : Addr} {μ μ1 μ' : Mu} (h : Keep a g μ μ1) (hp : μ p = none) (hb : ∀ b, b ≠ p → μ' b = μ1 b) : Keep a g μ μ' := fun b o h1 h2 e => by
  have : b ≠ p := fun z => by rw [z, hp] at e; cases e
  rw [hb b this]
  exact h b o h1 h2 e
/-! ### comprehensions -/
section
variable {K : PySem.W.Frag} {W : WX} {X : XD} {μ : Mu} {ρ : Ro} {Φ : DP} {te : TE} {tt : TT} {g : TG} {wi : TI}
/-- a comprehension whose turns change the store: I of the turn, the store and what is found; the list under way is at Dl -/
theorem evx_lcI {vs : List Nat} (h : ItX K W X μ ρ wi fun μ1 ds S => (ds.length ≤ 1000000 ∧ ∀ m, S m) ∧ ∃ I : Nat → Mu → List D → Prop, I 0 μ1 [] ∧
    (∀ Dl, μ1 Dl = none → ∀ i acc μ' μ'', (∀ b, b ≠ Dl → μ'' b = μ' b) → I i μ' acc → I i μ'' acc) ∧
    (∀ Dl, μ1 Dl = none → ∀ i d μ' acc, ds[i]? = some d → acc.length ≤ i → μ' Dl = some (.lst acc) → I i μ' acc → TcX K W X vs μ' (wipeD ρ vs) g d fun μ2 ρ2 =>
      EvB K W X μ2 ρ2 tt fun μ3 b => μ3 Dl = some (.lst acc) ∧ if b = true then EvX K W X μ3 ρ2 te fun μ4 y => μ4 Dl = some (.lst acc) ∧ I (i + 1) μ4 (acc ++ [y]) else I (i + 1) μ3 acc) ∧
    ((∀ μ' acc, acc.length ≤ ds.length → I ds.length μ' acc → Φ μ' (.lst acc)) ∨ (∀ p μ' acc, μ1 p = none → acc.length ≤ ds.length → μ' p = some (.lst acc) → I ds.length μ' acc → Φ μ' (.at p)))) : EvX K W X μ ρ (tLc wi g tt te vs) Φ := by
  refine evx_lc fun σ H R m e l k => h σ H R m e l fun μ1 ds S J H1 ⟨⟨hl, hS⟩, I, h0, hst, hstep, hend⟩ g1 m1 ok => k μ1 ds S J H1 (fun Dl hD => ?_) g1 m1 ok
  refine ⟨fun i μ' acc => acc.length ≤ i ∧ I i μ' acc, ⟨Nat.le_refl _, hst Dl hD 0 [] μ1 _ (fun b hb => mput_ne hb) h0⟩, ?_, ?_, ?_⟩
  · rintro i μ' acc hi _ ⟨ha, _⟩
    exact ⟨Nat.le_trans ha (Nat.le_trans hi hl), hS _⟩
  · rintro i d μ' acc hi hD' ⟨ha, hI⟩
    intro σ H v Q m e dd k
    refine hstep Dl hD i d μ' acc hi ha hD' hI σ H v Q m e dd fun ρ2 σ2 q2 e2 hw => k ρ2 σ2 ?_ e2 hw
    refine q2.imp fun μ3 b ⟨r1, r2⟩ => ⟨r1, ?_⟩
    cases b with
    | false =>
      rw [if_neg (by decide)] at r2 ⊢
      exact ⟨Nat.le_succ_of_le ha, r2⟩
    | true =>
      rw [if_pos rfl] at r2 ⊢
      refine r2.imp fun μ4 y ⟨s1, s2⟩ => ⟨s1, ?_, hst Dl hD _ _ μ4 _ (fun b hb => mput_ne hb) s2⟩
      rw [List.length_append, List.length_singleton]
      omega
  · rintro μ' acc hD' ⟨ha, hI⟩
    rcases hend with he | he
    · exact .inl (he _ _ ha (hst Dl hD _ _ μ' _ (fun b hb => mcut_ne hb) hI))
    · exact .inr (he Dl _ _ hD ha hD' hI)
/-- the same where a deck alone is drawn from: st cards a turn -/
theorem evx_lcDk {vs : List Nat} {a ga : Addr} (h : ItX K W X μ ρ wi fun μ1 ds S => (ds.length ≤ 1000000 ∧ ∀ m, S m) ∧ ∃ (c st : Int) (R : Nat → List D → Prop), Deck a ga c μ1 ∧ R 0 [] ∧
    (∀ i d μ' acc, ds[i]? = some d → acc.length ≤ i → R i acc → Deck a ga (c + st * i) μ' → Keep a ga μ1 μ' → TcX K W X vs μ' (wipeD ρ vs) g d fun μ2 ρ2 =>
      EvB K W X μ2 ρ2 tt fun μ3 b => if b = true then Keep a ga μ' μ3 ∧ EvX K W X μ3 ρ2 te fun μ4 y => Keep a ga μ' μ4 ∧ Deck a ga (c + st * (i + 1)) μ4 ∧ R (i + 1) (acc ++ [y]) else Keep a ga μ' μ3 ∧ Deck a ga (c + st * (i + 1)) μ3 ∧ R (i + 1) acc) ∧
    ∀ μ' acc, acc.length ≤ ds.length → R ds.length acc → Deck a ga (c + st * ds.length) μ' → Keep a ga μ1 μ' → Φ μ' (.lst acc)) : EvX K W X μ ρ (tLc wi g tt te vs) Φ := by
  refine evx_lcI fun σ H R m e l k => h σ H R m e l fun μ1 ds S J H1 ⟨hl, c, st, R, hd, h0, hstep, hend⟩ g1 m1 ok => k μ1 ds S J H1 ⟨hl, ?_⟩ g1 m1 ok
  refine ⟨fun i μ' acc => Deck a ga (c + st * i) μ' ∧ Keep a ga μ1 μ' ∧ R i acc, ⟨hd.mono (by simp), Keep.refl _ _ _, h0⟩, ?_, ?_, ?_⟩
  · rintro Dl hD i acc μ' μ'' hb ⟨h1, h2, h3⟩
    have hn := hd.na hD
    exact ⟨h1.off hn.1 hn.2 hb, h2.off hD hb, h3⟩
  · rintro Dl hD i d μ' acc hi ha hDl ⟨h1, h2, h3⟩
    have hn := hd.na hD
    intro σ H v Q m e dd k
    refine hstep i d μ' acc hi ha h3 h1 h2 σ H v Q m e dd fun ρ2 σ2 q2 e2 hw => k ρ2 σ2 ?_ e2 hw
    refine q2.imp fun μ3 b r => ?_
    cases b with
    | false =>
      rw [if_neg (by decide)] at r
      refine ⟨r.1 Dl _ hn.1 hn.2 hDl, ?_⟩
      rw [if_neg (by decide)]
      exact ⟨r.2.1.mono (by rw [Int.natCast_add]; exact Int.le_refl _), h2.trans r.1, r.2.2⟩
    | true =>
      rw [if_pos rfl] at r
      refine ⟨r.1 Dl _ hn.1 hn.2 hDl, ?_⟩
      rw [if_pos rfl]
      refine r.2.imp fun μ4 y ⟨s1, s2, s3⟩ => ⟨s1 Dl _ hn.1 hn.2 hDl, s2.mono (by rw [Int.natCast_add]; exact Int.le_refl _), h2.trans s1, s3⟩
  · exact .inl fun μ' acc ha ⟨h1, h2, h3⟩ => hend μ' acc ha h3 h1 h2
/-- a comprehension whose turns change nothing, the list found kept as one that will change -/
theorem evx_lcPM {vs : List Nat} (h : ItX K W X μ ρ wi fun μ1 ds S => (ds.length ≤ 1000000 ∧ ∀ m : Mu, (∀ b o, μ1 b = some o → m b = some o) → S m) ∧ ∃ (p : D → Bool) (f : D → D),
    (∀ d, d ∈ ds → ∀ μ' : Mu, (∀ b o, μ1 b = some o → μ' b = some o) → TcX K W X vs μ' (wipeD ρ vs) g d fun μ2 ρ2 => EvB K W X μ2 ρ2 tt fun μ3 b => μ3 = μ2 ∧ b = p d ∧ (p d = true → EvX K W X μ3 ρ2 te fun μ4 y => μ4 = μ3 ∧ y = f d)) ∧
    ∀ Dl, μ1 Dl = none → Φ (mput μ1 Dl (.lst ((ds.filter p).map f))) (.at Dl)) : EvX K W X μ ρ (tLc wi g tt te vs) Φ := by
  refine evx_lc fun σ H R m e l k => h σ H R m e l fun μ1 ds S J H1 ⟨⟨hl, hS⟩, p, f, hp, hq⟩ g1 m1 ok => k μ1 ds S J H1 (fun Dl hD => ?_) g1 m1 ok
  have up : ∀ μ' : Mu, (∀ b, b ≠ Dl → μ' b = μ1 b) → ∀ b o, μ1 b = some o → μ' b = some o := fun μ' hμ b o e => by
    rw [hμ b (fun z => by rw [z, hD] at e; cases e)]; exact e
  refine ⟨fun i μ' acc => acc = ((ds.take i).filter p).map f ∧ ∀ b, b ≠ Dl → μ' b = μ1 b, ⟨by simp, fun b hb => mput_ne hb⟩, ?_, ?_, ?_⟩
  · rintro i μ' acc hi _ ⟨rfl, hμ⟩
    refine ⟨?_, hS _ (up μ' hμ)⟩
    rw [List.length_map]
    refine Nat.le_trans (List.length_filter_le _ _) ?_
    rw [List.length_take]
    omega
  · rintro i d μ' acc hi hD' ⟨rfl, hμ⟩
    have hm : d ∈ ds := List.mem_of_getElem? hi
    have e1 : ds.take (i + 1) = ds.take i ++ [d] := by
      rw [List.take_succ, hi]; rfl
    intro σ H v Q m e dd k
    refine hp d hm μ' (up μ' hμ) σ H v Q m e dd fun ρ2 σ2 q2 e2 hw => k ρ2 σ2 ?_ e2 hw
    refine q2.imp fun μ3 b ⟨r1, r2, r3⟩ => ?_
    subst r1 r2
    refine ⟨hD', ?_⟩
    cases hpd : p d with
    | false =>
      rw [if_neg (by decide)]
      refine ⟨?_, hμ⟩
      rw [e1, List.filter_append, List.filter_cons, hpd]
      simp
    | true =>
      rw [if_pos rfl]
      refine (r3 hpd).imp fun μ4 y ⟨s1, s2⟩ => ?_
      subst s1 s2
      refine ⟨hD', ?_, fun b hb => by rw [mput_ne hb]; exact hμ b hb⟩
      rw [e1, List.filter_append, List.filter_cons, hpd]
      simp
  · rintro μ' acc hD' ⟨rfl, hμ⟩
    right
    have : μ' = mput μ1 Dl (.lst ((ds.filter p).map f)) := by
      funext b
      by_cases hb : b = Dl
      · subst hb; rw [mput_same, hD', List.take_length]
      · rw [mput_ne hb, hμ b hb]
    rw [this]
    exact hq Dl hD
end
/-! ### terms within a comprehension's block -/
theorem pe_via {X : Cx} {e : Expr} {te te' : TE} (h : PE X e te') (hk : te' = te) : PE X e te := hk ▸ h
theorem pg_via {X : Cx} {e : Expr} {g g' : TG} (h : PG X e g') (hk : g' = g) : PG X e g := hk ▸ h
theorem pts_via {X : Cx} {es : List Expr} {tt tt' : TT} (h : PTs X es tt') (hk : tt' = tt) : PTs X es tt := hk ▸ h
theorem op_eqBk {X : Cx} {s : Shared} {H : Hp} {sc : Scope} {ce : Env} {fp : List Addr} (hu : X.A.units + 64 < cLine) : OpR (X.blk s H sc ce fp) (compareOp .Eq) (rEqU X.K) := op_eqU (X := X.blk s H sc ce fp) hu
theorem op_neBk {X : Cx} {s : Shared} {H : Hp} {sc : Scope} {ce : Env} {fp : List Addr} (hu : X.A.units + 64 < cLine) : OpR (X.blk s H sc ce fp) (compareOp .NotEq) (rNeU X.K) := op_neU (X := X.blk s H sc ce fp) hu
/-! ### math.lcm of great numbers -/
def rLcm : List V → Hp → VK → Prop := fun vs H Q => ∃ a b : Int, vs = [.int a, .int b] ∧ a.natAbs < 2 ^ 6000 ∧ b.natAbs < 2 ^ 6000 ∧ Q (.int ((Nat.lcm a.natAbs b.natAbs : Nat) : Int)) H
theorem lcm_mul_lt {m n : Nat} (hm : m < 2 ^ 6000) (hn : n < 2 ^ 6000) : m.lcm n < 2 ^ 12000 := by
  have h1 : m.lcm n ≤ m * n := Nat.div_le_self _ _
  have h2 : m * n < 2 ^ 6000 * 2 ^ 6000 := Nat.mul_lt_mul'' hm hn
  rw [← Nat.pow_add] at h2
  exact Nat.lt_of_le_of_lt h1 h2
theorem log_lt {m n : Nat} (h : m < 2 ^ (n + 1)) : m.log2 ≤ n := by
  by_cases h0 : m = 0
  · subst h0; exact Nat.zero_le _
  · have := (Nat.log2_lt h0).mpr h
    omega
theorem cr_lcm {X : Cx} : CallR X (.builtin "math.lcm") rLcm := by
  intro pins s σ H vs us Q I r h
  obtain ⟨a, b, rfl, ha, hb, q⟩ := h
  obtain ⟨t, u, rfl⟩ := Vals.int2 r
  have hm1 : max 1 a.natAbs < 2 ^ (5999 + 1) := Nat.max_lt.mpr ⟨Nat.one_lt_two_pow (by decide), ha⟩
  have hm2 : max a.natAbs b.natAbs < 2 ^ (5999 + 1) := Nat.max_lt.mpr ⟨ha, hb⟩
  have e1 : Nat.lcm 1 a.natAbs = a.natAbs := by simp [Nat.lcm]
  have hz : (a.natAbs.lcm b.natAbs).log2 ≤ 11999 := log_lt (lcm_mul_lt ha hb)
  have l1 := log_lt hm1
  have l2 := log_lt hm2
  refine call_function_meets PySem.W.MGF.kind_lcm PySem.W.MGF.plain_lcm PySem.W.MGF.entry_lcm (PySem.W.MGF.args_lcm _ _) (PySem.W.mg_run_lcm a t b u (by omega) (by omega) ?_).meets ?_
  · rw [e1]
    show (a.natAbs.lcm b.natAbs).log2 < bitsLine
    rw [bitsLine_eq]
    omega
  · rw [e1]
    exact ⟨.int _, H, I.tok _, ⟨_, rfl⟩, q⟩
theorem cax_lcm {K : PySem.W.Frag} {μ : Mu} {i j : Int} {Φ : DP} (hi : i.natAbs < 2 ^ 6000) (hj : j.natAbs < 2 ^ 6000) (h : Φ μ (.int ((Nat.lcm i.natAbs j.natAbs : Nat) : Int))) : CaX K rLcm μ [.int i, .int j] Φ := fun H vs Q m d k => by
  obtain ⟨v, w, e, a, b⟩ := denL2 d
  unfold Den at a b
  subst a b
  exact ⟨i, j, e, hi, hj, k μ _ _ H h (Grow.refl _ _) m (by unfold Den; rfl)⟩
/-! ### plain data, at most n deep: what == may compare -/
def Nice (n : Nat) (d : D) : Prop := plainD d = true ∧ (toP d).canLay0 = true ∧ (toP d).depth ≤ n
theorem Nice.mono {n m : Nat} {d : D} (h : Nice n d) (hm : n ≤ m) : Nice m d := ⟨h.1, h.2.1, Nat.le_trans h.2.2 hm⟩
theorem Nice.shaped {n : Nat} {d : D} (h : Nice n d) (hn : n ≤ 64) : SeqAt.shaped (toP d) = true := by
  unfold SeqAt.shaped
  rw [h.2.1, Bool.true_and]
  exact decide_eq_true (Nat.le_trans h.2.2 hn)
theorem nice_int (n : Nat) (i : Int) : Nice n (.int i) := ⟨rfl, rfl, Nat.zero_le _⟩
theorem nice_bl (n : Nat) (b : Bool) : Nice n (.bl b) := ⟨rfl, rfl, Nat.zero_le _⟩
theorem nice_non (n : Nat) : Nice n .non := ⟨rfl, rfl, Nat.zero_le _⟩
theorem nice_str (n : Nat) {z : Str} (h : (PyData.str z).canLay0 = true) : Nice n (.str z) := ⟨by
  unfold plainD SeqAt.shaped
  rw [h]; rfl, h, Nat.zero_le _⟩
theorem nices {n : Nat} : ∀ {ds : List D}, (∀ d ∈ ds, Nice n d) → plainDs ds = true ∧ PyData.canLayAll0 (toPs ds) = true ∧ PyData.depthAll (toPs ds) ≤ n
  | [], _ => ⟨rfl, rfl, Nat.zero_le _⟩
  | d :: ds, h => by
    obtain ⟨a1, a2, a3⟩ := h d (List.mem_cons_self ..)
    obtain ⟨b1, b2, b3⟩ := nices fun e he => h e (List.mem_cons_of_mem _ he)
    refine ⟨?_, ?_, ?_⟩
    · unfold plainDs; rw [a1, b1]; rfl
    · show (PyData.canLay0 (toP d) && PyData.canLayAll0 (toPs ds)) = true
      rw [a2, b2]; rfl
    · show max (PyData.depth (toP d)) (PyData.depthAll (toPs ds)) ≤ n
      exact Nat.max_le.mpr ⟨a3, b3⟩
theorem nice_tup {n : Nat} {ds : List D} (h : ∀ d ∈ ds, Nice n d) : Nice (n + 1) (.tup ds) := by
  obtain ⟨b1, b2, b3⟩ := nices h
  refine ⟨by unfold plainD; exact b1, b2, ?_⟩
  show PyData.depthAll (toPs ds) + 1 ≤ n + 1
  omega
theorem nice_lst {n : Nat} {ds : List D} (h : ∀ d ∈ ds, Nice n d) : Nice (n + 1) (.lst ds) := by
  obtain ⟨b1, b2, b3⟩ := nices h
  refine ⟨by unfold plainD; exact b1, b2, ?_⟩
  show PyData.depthAll (toPs ds) + 1 ≤ n + 1
  omega
section
variable {K : PySem.W.Frag} {μ : Mu} {x y : D} {Φ : DP} {ds es : List D}
/-- == and != of nice data -/
theorem opx_eqN (hx : Nice 64 (seeD μ x)) (hy : Nice 64 (seeD μ y)) (h : Φ μ (.bl (eqD (seeD μ x) (seeD μ y)))) : OpX K (rOr rEq (rEqD K)) μ x y Φ :=
  opx_r (opx_eqD hx.1 (hx.shaped (Nat.le_refl _)) hy.1 (hy.shaped (Nat.le_refl _)) h)
theorem opx_neN (hx : Nice 64 (seeD μ x)) (hy : Nice 64 (seeD μ y)) (h : Φ μ (.bl (!eqD (seeD μ x) (seeD μ y)))) : OpX K (rOr rNe (rNeD K)) μ x y Φ :=
  opx_r (opx_neD hx.1 (hx.shaped (Nat.le_refl _)) hy.1 (hy.shaped (Nat.le_refl _)) h)
theorem eqD_nil' (ds : List D) : eqD (.lst ds) (.lst []) = ds.isEmpty := by
  cases ds with
  | nil => rfl
  | cons d ds => rfl
/-- xs != [] -/
theorem opx_neNil (hr : Real μ x ds) (hd : ∀ d ∈ ds, Nice 60 d) (h : Φ μ (.bl (!ds.isEmpty))) : OpX K (rOr rNe (rNeD K)) μ x (.lst []) Φ := by
  have e : seeD μ x = .lst ds := by
    rcases hr with rfl | ⟨a, rfl, ha⟩
    · rfl
    · unfold seeD; dsimp only; rw [ha]
  refine opx_neN (by rw [e]; exact (nice_lst hd).mono (by decide)) ⟨rfl, rfl, by show 0 + 1 ≤ 64; decide⟩ ?_
  rw [e]
  show Φ μ (.bl (!eqD (.lst ds) (.lst [])))
  rw [eqD_nil']
  exact h
end
/-- an item at a drawn place -/
theorem pick_any : ∀ {ds : List D} {x : Int}, 0 ≤ x → x < ds.length → ∃ d, d ∈ ds ∧ atI ds x = some d := fun {ds x} h0 h1 => by
  have hk : x.toNat < ds.length := by omega
  refine ⟨ds[x.toNat], List.getElem_mem hk, ?_⟩
  unfold atI ixN
  rw [if_pos h0, if_pos h1]
  exact List.getElem?_eq_getElem hk
section
variable {K : PySem.W.Frag} {W : WX} {X : XD} {μ : Mu} {ρ : Ro} {Φ : DP} {ta tb tc : TE} {r r' : R2}
/-- a < b < c -/
theorem evx_chain (h : EvX K W X μ ρ ta fun μ1 x => EvX K W X μ1 ρ tb fun μ2 y => OpX K r μ2 x y fun μ3 d => ∃ b, d = .bl b ∧ if b = true then EvX K W X μ3 ρ tc fun μ4 z => OpX K r' μ4 y z Φ else Φ μ3 (.bl false)) : EvX K W X μ ρ (tChain r r' ta tb tc) Φ := fun σ H Q m e l k =>
  h σ H _ m e l fun μ1 x v H1 h1 g1 m1 d1 => h1 σ H1 _ m1 (e.grow g1) (l.grow g1) fun μ2 y u H2 h2 g2 m2 d2 =>
    h2 H2 v u _ m2 (Den.grow g2 _ _ d1) d2 fun μ3 d w H3 ⟨b, e3, h3⟩ g3 m3 d3 => by
      subst e3
      unfold Den at d3
      refine ⟨b, d3, ?_⟩
      have gg := (g1.trans g2).trans g3
      cases b with
      | false =>
        rw [if_neg (by decide)] at h3
        exact k _ _ _ _ h3 gg m3 (by unfold Den; rfl)
      | true =>
        rw [if_pos rfl] at h3
        exact h3 σ H3 _ m3 (e.grow gg) (l.grow gg) fun μ4 z w' H4 h4 g4 m4 d4 => h4 H4 u w' Q m4 (Den.grow g4 _ _ (Den.grow g3 _ _ d2)) d4 fun μ' d' w'' H' p g => k μ' d' w'' H' p ((gg.trans g4).trans g)
end
/-- a, b, .. = a list -/
theorem tgx_lst {K : PySem.W.Frag} {W : WX} {X : XD} {μ : Mu} {ρ : Ro} {gs : TGs} {n : Nat} {d : D} {ds : List D} {S : Mu → Prop} {Φ : Mu → Ro → Prop} (hd : IsL μ d ds S) (hn : ds.length = n) (h : TgsX K W X μ ρ gs ds Φ) : TgX K W X μ ρ (gLst K n gs) d Φ := fun σ H v Q m e l dd k => by
  obtain ⟨p, vs, e1, sq, b⟩ := isL_sq m hd dd
  exact ⟨p, vs, e1, sq, by rw [← b.length, hn], h σ H vs Q m e l b k⟩
/-! ### a text backwards -/
def revT (z : Str) : Str := ⟨((Builtin.Str.strSliceIndices none none (-1) z.length).filterMap (z.cps[·]?)).toArray⟩
theorem revT_len (z : Str) : (revT z).length ≤ z.length := by
  show ((Builtin.Str.strSliceIndices none none (-1) z.length).filterMap (z.cps[·]?)).toArray.size ≤ _
  rw [List.size_toArray]
  exact Nat.le_trans (List.length_filterMap_le _ _) (sliceIndicesBy_le none none (-1) (by decide) z.length)
theorem revT_mem (z : Str) : ∀ c ∈ (revT z).cps.toList, c ∈ z.cps.toList := fun c hc => by
  have hc' : c ∈ ((Builtin.Str.strSliceIndices none none (-1) z.length).filterMap (z.cps[·]?)) := by
    have : (revT z).cps.toList = ((Builtin.Str.strSliceIndices none none (-1) z.length).filterMap (z.cps[·]?)) := List.toList_toArray ..
    rw [this] at hc; exact hc
  obtain ⟨i, _, hi⟩ := List.mem_filterMap.mp hc'
  rw [← Array.getElem?_toList] at hi
  exact List.mem_of_getElem? hi
def tRevT (te : TE) : TE := fun σ H Q => te σ H fun x H1 => ∃ z : Str, x = .str z ∧ z.length ≤ 1000000 ∧ Q (.str (revT z)) H1
theorem pe_revT {X : Cx} {e : Expr} {te : TE} {k : Nat} {p1 p2 p3 pos : Pos} (he : PE X e te) : PE X (.Subscript e (.Slice none none (some (.UnaryOp .USub (.Constant (.int 1) k p1) p2)) p3) pos) (tRevT te) := by
  refine ⟨fun pins s σ H Q I h => ?_⟩
  refine Subscript_ (thn (he.run pins s σ H _ I h) fun v s1 ⟨x, H1, I1, r1, q1⟩ => ?_)
  obtain ⟨z, ex, hz, q⟩ := q1
  subst ex
  obtain ⟨t, rfl⟩ := r1
  have hst : PO X (some (.UnaryOp .USub (.Constant (.int 1) k p1) p2)) (tPart (tUn (rU fun i => .int (-i)) (tC (.int 1)))) := po_some (pe_un un_neg pe_int)
  refine wpAny_Slice (thn (po_none.run pins s1 σ H1 (fun o H2 => o = none ∧ H2 = H1) I1 ⟨rfl, rfl⟩) fun vl s2 ⟨l, H2, I2, pl, el, e2⟩ => ?_)
  subst el e2
  refine thn (po_none.run pins s2 σ H2 (fun o H3 => o = none ∧ H3 = H2) I2 ⟨rfl, rfl⟩) fun vu s3 ⟨u, H3, I3, pu, eu, e3⟩ => ?_
  subst eu e3
  refine thn (hst.run pins s3 σ H3 (fun o H4 => o = some (-1) ∧ H4 = H3) I3 ⟨1, rfl, -1, rfl, rfl, rfl⟩) fun vs s4 ⟨o, H4, I4, ps, eo, e4⟩ => ?_
  subst eo e4
  have I5 : Inv X pins σ H4 { s4 with heap := s4.heap.push { cls := .type "slice", data := .fields #[vl, vu, vs] } } := I4.kept (t' := s4.toks) fun b ob q => Heap.get?_push_of_some _ q
  obtain ⟨l', rfl, hl'⟩ := IsPart.raw pl
  obtain ⟨u', rfl, hu'⟩ := IsPart.raw pu
  obtain ⟨o', rfl, ho'⟩ := IsPart.raw ps
  have hl2 : l' = none := by cases l' with | none => rfl | some _ => exact nomatch hl'
  have hu2 : u' = none := by cases u' with | none => rfl | some _ => exact nomatch hu'
  obtain ⟨tk, rfl⟩ : ∃ tk, o' = some (-1, tk) := by
    cases o' with
    | none => exact nomatch ho'
    | some q => exact ⟨q.2, by obtain ⟨a, b⟩ := q; simp at ho'; rw [← ho']⟩
  subst hl2 hu2
  refine tail_any (ops := [.str z t, .ref s4.heap.objs.size]) (typeIs_str _ _ _) (F.slot_str_getitem.lookup) ?_ (by with_unfolding_all rfl)
  refine wpAny_getItem_str_slice (l := none) (u := none) (st := some (-1, tk)) ⟨_, Heap.get?_push_size _ rfl, rfl, rfl⟩ rfl ?_
  show Made.post (if ((-1 : Int) == 1 && (Builtin.Str.strSliceIndices none none (-1) z.length).length == z.length) = true then Made.val (.str z t)
    else Made.str (revT z)) (EP X pins σ Q) _
  rw [if_neg (by simp)]
  exact ⟨Nat.le_trans (revT_len z) (Nat.le_trans hz (by decide)), .str _, _, I5.tok _, ⟨_, rfl⟩, q⟩
theorem evx_revT {K : PySem.W.Frag} {W : WX} {X : XD} {μ : Mu} {ρ : Ro} {te : TE} {Φ : DP} (h : EvX K W X μ ρ te fun μ1 d => ∃ z, d = .str z ∧ z.length ≤ 1000000 ∧ Φ μ1 (.str (revT z))) : EvX K W X μ ρ (tRevT te) Φ := fun σ H Q m e l k =>
  h σ H _ m e l fun μ1 d v H1 ⟨z, e1, hz, hq⟩ g1 m1 d1 => by
    subst e1
    unfold Den at d1
    exact ⟨z, d1, hz, k μ1 _ _ H1 hq g1 m1 (by unfold Den; rfl)⟩
abbrev rUpper : V → List V → Hp → VK → Prop := fun x xs H Q => ∃ a, x = .str a ∧ xs = [] ∧ a.length ≤ 5592405 ∧ Q (.str (Txt.upper a)) H
/-- z.upper() -/
theorem evx_upper {K : PySem.W.Frag} {W : WX} {X : XD} {μ : Mu} {ρ : Ro} {te : TE} {Φ : DP} (h : EvX K W X μ ρ te fun μ1 d => ∃ z, d = .str z ∧ z.length ≤ 1000000 ∧ Φ μ1 (.str (Txt.upper z))) : EvX K W X μ ρ (tM0 rUpper te) Φ := fun σ H Q m e l k =>
  h σ H _ m e l fun μ1 d v H1 ⟨z, e1, hz, hq⟩ g1 m1 d1 => by
    subst e1
    unfold Den at d1
    exact ⟨⟨z, d1⟩, z, d1, rfl, Nat.le_trans hz (by decide), k μ1 _ _ H1 hq g1 m1 (by unfold Den; rfl)⟩
/-! ### objects of own classes: what they hold -/
section
variable {K : PySem.W.Frag} {W : WX} {X : XD} {μ : Mu} {H : Hp} {ρ : Ro} {Φ : DP} {ta tv : TE} {E : ED}
theorem den_field {f : Str} {d : D} : ∀ {fs : List Str} {ds : List D} {vs : List V}, DenL K μ H ds vs → (fs.zip ds).lookup f = some d → ∃ v, (fs.zip vs).lookup f = some v ∧ Den K μ H d v
  | [], ds, vs, _, h => by rw [List.zip_nil_left] at h; exact nomatch h
  | g :: fs, [], vs, _, h => by rw [List.zip_nil_right] at h; exact nomatch h
  | g :: fs, e :: ds, vs, hd, h => by
    unfold DenL at hd
    obtain ⟨w, ws, e1, a, b⟩ := hd
    subst e1
    rw [List.zip_cons_cons, List.lookup_cons] at h ⊢
    cases hg : f == g with
    | true =>
      rw [hg] at h
      cases h
      exact ⟨w, rfl, a⟩
    | false =>
      rw [hg] at h
      exact den_field b h
/-- an object of class C: fixed, or one that may change -/
def ObjD (μ : Mu) (x : D) (C : Addr) (fs : List Str) (ds : List D) : Prop := x = .obj C fs ds ∨ ∃ a, x = .at a ∧ μ a = some (.obj C fs ds)
theorem ObjD.hp {x : D} {C : Addr} {fs : List Str} {ds : List D} {v : V} (m : Mem K μ H) (hx : ObjD μ x C fs ds) (dv : Den K μ H x v) : ∃ p dx vs, v = .ref p ∧ H p = some (.ins C dx (fs.zip vs)) ∧ DenL K μ H ds vs := by
  rcases hx with e1 | ⟨a, e1, ha⟩
  · subst e1; unfold Den at dv
    obtain ⟨p, dx, vs, e2, s, n, b⟩ := dv
    exact ⟨p, dx, vs, e2, s.2, b⟩
  · subst e1
    unfold Den at dv
    obtain ⟨dx, vs, q, n, b⟩ := m a _ ha
    exact ⟨a, dx, vs, dv, q, b⟩
/-- o.f -/
theorem evx_fld {f : Str} (h : EvX K W X μ ρ ta fun μ1 x => ∃ C fs ds d, ObjD μ1 x C fs ds ∧ Cls K C ∧ NoAttr K C f ∧ (fs.zip ds).lookup f = some d ∧ Φ μ1 d) : EvX K W X μ ρ (tFld K ta f) Φ := fun σ H Q m e l k =>
  h σ H _ m e l fun μ1 x v H1 ⟨C, fs, ds, d, ho, hc, hn, hl, hq⟩ g1 m1 d1 => by
    obtain ⟨p, dx, vs, e1, q, b⟩ := ho.hp m1 d1
    obtain ⟨w, h1, h2⟩ := den_field b hl
    exact ⟨p, C, dx, fs.zip vs, w, e1, q, hc, hn, h1, k μ1 d w H1 hq g1 m1 h2⟩
theorem putF_zip {f : Str} {w : V} : ∀ {fs : List Str} {vs : List V}, f ∉ fs → fs.length = vs.length → putF f w (fs.zip vs) = (fs ++ [f]).zip (vs ++ [w])
  | [], [], _, _ => rfl
  | g :: fs, v :: vs, hf, hn => by
    have h1 : ¬ g = f := fun z => hf (by rw [z]; exact List.mem_cons_self ..)
    have ih := putF_zip (w := w) (fs := fs) (vs := vs) (fun z => hf (List.mem_cons_of_mem _ z)) (by simpa using hn)
    show (if g = f then (g, w) :: fs.zip vs else (g, v) :: putF f w (fs.zip vs)) = (g, v) :: (fs ++ [f]).zip (vs ++ [w])
    rw [if_neg h1, ih]
/-- o.f = e, a field that is new -/
theorem gs_fld {f : Str} (h : EvX K W X μ ρ tv fun μ1 y => EvX K W X μ1 ρ ta fun μ2 x => ∃ a C fs ds, x = .at a ∧ μ2 a = some (.obj C fs ds) ∧ Cls K C ∧ NoAttr K C f ∧ fs.length < 1000 ∧ f ∉ fs ∧ E.nx (mput μ2 a (.obj C (fs ++ [f]) (ds ++ [y]))) ρ) : GS K W X μ ρ (sFld K ta tv f) E := fun σ H D m e l k =>
  h σ H _ m e l fun μ1 y w H1 h1 g1 m1 d1 => h1 σ H1 _ m1 (e.grow g1) (l.grow g1) fun μ2 x v H2 ⟨a, C, fs, ds, ex, ha, hc, hn, hl, hf, hq⟩ g2 m2 d2 => by
    subst ex
    unfold Den at d2
    subst d2
    obtain ⟨dx, vs, q, n, b⟩ := m2 a _ ha
    refine ⟨a, C, dx, fs.zip vs, rfl, q, hc, hn, by rw [List.length_zip]; omega, ?_⟩
    rw [putF_zip hf n]
    have dy := Den.grow g2 _ _ d1
    exact k.nx _ _ _ _ hq ((g1.trans g2).trans (Grow.wr ha)) (m2.wr ha ⟨dx, _, upd_same, by rw [List.length_append, List.length_append, n]; rfl, (DenL.grow (Grow.wr ha) _ _ b).append (DenL.cons (Den.grow (Grow.wr ha) _ _ dy) DenL.nil)⟩) ((e.grow (g1.trans g2)).grow (Grow.wr ha))
end
/-! ### C(e, ..) whose __init__ may raise -/
section
variable {X : Cx} {CX : CXT} {k j : Nat} {f C : Addr} {fd : FuncData} {ps : List Str} {sp : Sp} {E : XK} {x : Str} {p pos : Pos} {e : Expr} {es : List Expr} {t : TA}
theorem run_makeS {pins : List (Addr × Obj)} {σ : L2.St} {H : Hp} {s : Shared} {Q : VK} {us : List Value} {vs : List V} (M : Mk X.K C f) (F : FnOk X.prog X.w X.K X.mg X.base CX k f fd ps sp) (hr : Room (k + 1) X.A) (hb : Binds X.K fd ps [])
    (hx : PassesAt CX X σ E) (I : L2.Inv X pins σ H s) (r : Vals vs us)
    (h : ∀ x dx, H x = none → H dx = none → dx ≠ x → sp (.ref x :: vs) (upd (upd H dx (.own x)) x (.ins C dx [])) (fun v H2 => v = .non ∧ Q (.ref x) H2) E) :
    wpAny (model X.prog X.w) X.A (call (.ref C) us) (EP X pins σ Q) X.xe s := by
  have hq := h (s.heap.objs.size + 1) s.heap.objs.size (I.hok.fresh (Nat.le_succ _)) (I.hok.fresh (Nat.le_refl _)) (Nat.ne_of_lt (Nat.lt_succ_self _))
  have I2 := L2.Inv.made (C := C) I
  have r2 : Vals (V.ref (s.heap.objs.size + 1) :: vs) (Value.ref (s.heap.objs.size + 1) :: us) := .cons rfl r
  have hl : (Value.ref (s.heap.objs.size + 1) :: us ++ []).length = ps.length := by
    rw [List.append_nil]
    have e := r2.length
    rw [F.len _ _ _ _ hq] at e
    exact e.symm
  have hbb := hb _ (Value.ref (s.heap.objs.size + 1) :: us) I2.kIn hl
  rw [List.append_nil] at hbb
  refine wpAny_call (make_map (f := f) I.kIn M.makes M.init (beq_iff_eq.mp M.fn) (codeAny_mono (F.run _ X.stack _ _ ⟨Value.ref (s.heap.objs.size + 1) :: us, []⟩ (Value.ref (s.heap.objs.size + 1) :: us) _ _ E (hr.make C us [])
    (I2.env0.make C us []) hbb r2 hq) fun r s' hq' => ?_))
  cases r with
  | error e => exact hx pins _ _ e s' I2 hq'
  | ok fl =>
    cases fl with
    | ret u =>
      obtain ⟨v, H', I3, rv, ev, q3⟩ := I2.after hq'
      subst ev
      exact ⟨rv, ⟨V.ref (s.heap.objs.size + 1), H', I3, rfl, q3⟩⟩
    | next => exact False.elim hq'
    | brk => exact False.elim hq'
    | cont => exact False.elim hq'
def tMakeS (C : Addr) (sp : Sp) (E : L2.St → XK) (t : TA) : TE := fun σ H Q => t σ H fun vs H1 => ∀ x dx, H1 x = none → H1 dx = none → dx ≠ x →
  sp (.ref x :: vs) (upd (upd H1 dx (.own x)) x (.ins C dx [])) (fun v H2 => v = .non ∧ Q (.ref x) H2) (E σ)
theorem pe_makeS {ES : L2.St → XK} (M : Mk X.K C f) (F : FnOk X.prog X.w X.K X.mg X.base CX k f fd ps sp) (hr : Room (k + 1) X.A) (hg : Gl X x) (hm : X.mg x = some (.ref C)) (hb : Binds X.K fd ps []) (hx : ∀ σ, PassesAt CX X σ (ES σ))
    (ha : PA X (e :: es) t) (hdb : (x == ("__debug__" : Str)) = false := by decide) (he : starEach (e :: es) X.env = (false, eval e X.env) :: starEach es X.env := by rfl) (hpl : (backTo pos (starEach es X.env)).any (·.1) = false := by rfl) :
    PE X (.Call (.Name x p) (e :: es) [] pos) (tMakeS C sp ES t) := by
  refine ⟨fun pins s σ H Q I h => ?_⟩
  refine wpAny_Call_Name_kw (ld_glob I hg hm ?_ hdb)
  refine PySem.W.callWith_K (h₀ := X.base) I.ok.mod.kin M.kp (thn (ha.run pos pins s σ H _ I h) fun us s1 ⟨vs, H1, I1, r, q⟩ => ⟨I1.kIn, ?_⟩) he hpl
  exact run_makeS M F hr hb (hx σ) I1 r q
end
section
variable {K : PySem.W.Frag} {W : WX} {X : XD} {μ : Mu} {ρ : Ro} {Φ : DP} {C : Addr} {n : Nat} {P : PD} {t : TA}
theorem evx_makeS (h : EvL K W X μ ρ t fun μ1 ds => ∀ x, μ1 x = none → ds.length + 1 = n ∧ P (mput μ1 x (.obj C [] [])) (.at x :: ds) (fun μ2 d => d = .non ∧ Φ μ2 (.at x)) fun μ' A d => X μ' ρ A d) : EvX K W X μ ρ (tMakeS C (spD K n P) (WE W) t) Φ := fun σ H Q m e l k =>
  h σ H _ m e l fun μ1 ds vs H1 hh g1 m1 d1 => fun x dx hx hdx hne => by
    have g2 : Grow μ1 H1 μ1 (upd H1 dx (.own x)) := Grow.new hdx
    have m2 : Mem K μ1 (upd H1 dx (.own x)) := m1.new hdx
    have hx2 : (upd H1 dx (.own x)) x = none := by rw [upd_ne (Ne.symm hne)]; exact hx
    have g3 : Grow μ1 (upd H1 dx (.own x)) (mput μ1 x (.obj C [] [])) (upd (upd H1 dx (.own x)) x (.ins C dx [])) := Grow.newM hx2
    have m3 := m2.newM (mo := .obj C [] []) (o := .ins C dx []) hx2 ⟨dx, [], upd_same, rfl, DenL.nil⟩
    obtain ⟨hl, hp⟩ := hh x (m1.free hx)
    have gg := (g1.trans g2).trans g3
    refine ⟨_, .at x :: ds, _, _, m3, DenL.cons (by unfold Den; rfl) (DenL.grow g3 _ _ (DenL.grow g2 _ _ d1)), by rw [List.length_cons]; exact hl, hp, ?_, ?_⟩
    · rintro μ' d v H' ⟨rfl, hq⟩ g mm dd
      unfold Den at dd
      exact ⟨dd, k μ' _ _ H' hq (gg.trans g) mm (by unfold Den; rfl)⟩
    · exact fun μ' A d dx v H' p g mm => l μ' ρ A d dx v σ H' p (gg.trans g) mm ((e.grow gg).grow g)
end
/-! ### C(k = v, ..) whose __init__ may raise -/
section
variable {X : Cx} {CX : CXT} {k n : Nat} {f C : Addr} {fd : FuncData} {ps ks : List Str} {sp : Sp} {E : XK} {x : Str} {p pos : Pos} {kws : List Keyword} {tk : TA} {g : List Value → List Value → List Value} {gV : List V → List V → List V}
def tMakeKS (C : Addr) (m : Nat) (sp : Sp) (gV : List V → List V → List V) (E : L2.St → XK) (tk : TA) : TE := fun σ H Q => tk σ H fun zs H2 => zs.length = m ∧ ∀ x dx, H2 x = none → H2 dx = none → dx ≠ x →
  sp (gV [.ref x] zs) (upd (upd H2 dx (.own x)) x (.ins C dx [])) (fun v H3 => v = .non ∧ Q (.ref x) H3) (E σ)
theorem run_makeKS {pins : List (Addr × Obj)} {σ : L2.St} {H : Hp} {s : Shared} {Q : VK} {ws : List Value} {zs : List V} (M : Mk X.K C f) (F : FnOk X.prog X.w X.K X.mg X.base CX k f fd ps sp) (hr : Room (k + 1) X.A) (hb : KBn X.K fd ps 1 ks g gV) (hx : PassesAt CX X σ E)
    (I : L2.Inv X pins σ H s) (rz : Vals zs ws) (l2 : zs.length = ks.length)
    (h : ∀ x dx, H x = none → H dx = none → dx ≠ x → sp (gV [.ref x] zs) (upd (upd H dx (.own x)) x (.ins C dx [])) (fun v H2 => v = .non ∧ Q (.ref x) H2) E) :
    wpAny (model X.prog X.w) X.A (call (.ref C) [] (ks.zip ws)) (EP X pins σ Q) X.xe s := by
  have hq := h (s.heap.objs.size + 1) s.heap.objs.size (I.hok.fresh (Nat.le_succ _)) (I.hok.fresh (Nat.le_refl _)) (Nat.ne_of_lt (Nat.lt_succ_self _))
  have I2 := L2.Inv.made (C := C) I
  have r1 : Vals [V.ref (s.heap.objs.size + 1)] [Value.ref (s.heap.objs.size + 1)] := .cons rfl .nil
  have r2 := hb.rel r1 rz
  refine wpAny_call (make_map (f := f) I.kIn M.makes M.init (beq_iff_eq.mp M.fn) (codeAny_mono (F.run _ X.stack _ _ ⟨[Value.ref (s.heap.objs.size + 1)], ks.zip ws⟩ (g [Value.ref (s.heap.objs.size + 1)] ws) _ _ E (hr.make C [] (ks.zip ws))
    (I2.env0.make C [] (ks.zip ws)) (hb.to _ [Value.ref (s.heap.objs.size + 1)] ws I2.kIn rfl (rz.length.symm.trans l2)) r2 hq) fun r s' hq' => ?_))
  cases r with
  | error e => exact hx pins _ _ e s' I2 hq'
  | ok fl =>
    cases fl with
    | ret u =>
      obtain ⟨v, H', I3, rv, ev, q3⟩ := I2.after hq'
      subst ev
      exact ⟨rv, ⟨V.ref (s.heap.objs.size + 1), H', I3, rfl, q3⟩⟩
    | next => exact False.elim hq'
    | brk => exact False.elim hq'
    | cont => exact False.elim hq'
theorem pe_makeKS {ES : L2.St → XK} (M : Mk X.K C f) (F : FnOk X.prog X.w X.K X.mg X.base CX k f fd ps sp) (hr : Room (k + 1) X.A) (hg : Gl X x) (hm : X.mg x = some (.ref C)) (hb : KBn X.K fd ps 1 ks g gV) (hx : ∀ σ, PassesAt CX X σ (ES σ)) (hkw : PK X kws tk)
    (hall : (backToKw pos (keywordEach kws X.env)).all (·.1.isSome) = true := by rfl) (hks : (backToKw pos (keywordEach kws X.env)).filterMap (·.1) = ks := by rfl) (hdb : (x == ("__debug__" : Str)) = false := by decide)
    (hpl : ((backTo pos (starEach [] X.env)).any (·.1) || (backToKw pos (keywordEach kws X.env)).any (·.1.isNone)) = false := by rfl) :
    PE X (.Call (.Name x p) [] kws pos) (tMakeKS C ks.length sp gV ES tk) := by
  refine ⟨fun pins s σ H Q I h => ?_⟩
  refine wpAny_Call_Name_kw (ld_glob I hg hm ?_ hdb)
  refine PySem.W.callWith_KW0 (h₀ := X.base) I.ok.mod.kin M.kp hall ?_ hpl
  refine thn (hkw.run pos pins s σ H _ I h) fun ws s2 ⟨zs, H2, I2, rz, l2, q2⟩ => ⟨I2.kIn, ?_⟩
  rw [hks]
  exact run_makeKS M F hr hb (hx σ) I2 rz l2 q2
end
section
variable {K : PySem.W.Frag} {W : WX} {X : XD} {μ : Mu} {ρ : Ro} {Φ : DP} {C : Addr} {n m a b : Nat} {pm : List Nat} {P : PD} {tk : TA}
theorem evx_makeKS (h : EvL K W X μ ρ tk fun μ1 ds => ds.length = m ∧ ∀ x, μ1 x = none → (permG a b pm [.at x] ds).length = n ∧ P (mput μ1 x (.obj C [] [])) (permG a b pm [.at x] ds) (fun μ2 d => d = .non ∧ Φ μ2 (.at x)) fun μ' A d => X μ' ρ A d) : EvX K W X μ ρ (tMakeKS C m (spD K n P) (permG a b pm) (WE W) tk) Φ := fun σ H Q mm0 e l k =>
  h σ H _ mm0 e l fun μ1 ds vs H1 hh g1 m1 d1 => ⟨by rw [← d1.length]; exact hh.1, fun x dx hx hdx hne => by
    have g2 : Grow μ1 H1 μ1 (upd H1 dx (.own x)) := Grow.new hdx
    have m2 : Mem K μ1 (upd H1 dx (.own x)) := m1.new hdx
    have hx2 : (upd H1 dx (.own x)) x = none := by rw [upd_ne (Ne.symm hne)]; exact hx
    have g3 : Grow μ1 (upd H1 dx (.own x)) (mput μ1 x (.obj C [] [])) (upd (upd H1 dx (.own x)) x (.ins C dx [])) := Grow.newM hx2
    have m3 := m2.newM (mo := .obj C [] []) (o := .ins C dx []) hx2 ⟨dx, [], upd_same, rfl, DenL.nil⟩
    obtain ⟨hl, hp⟩ := hh.2 x (m1.free hx)
    have gg := (g1.trans g2).trans g3
    have dx1 : DenL K (mput μ1 x (.obj C [] [])) (upd (upd H1 dx (.own x)) x (.ins C dx [])) [.at x] [.ref x] := DenL.cons (by unfold Den; rfl) DenL.nil
    refine ⟨_, permG a b pm [.at x] ds, _, _, m3, permG_den dx1 (DenL.grow g3 _ _ (DenL.grow g2 _ _ d1)), hl, hp, ?_, ?_⟩
    · rintro μ' d v H' ⟨rfl, hq⟩ g mm dd
      unfold Den at dd
      exact ⟨dd, k μ' _ _ H' hq (gg.trans g) mm (by unfold Den; rfl)⟩
    · exact fun μ' A d dx v H' p g mm => l μ' ρ A d dx v σ H' p (gg.trans g) mm ((e.grow gg).grow g)⟩
end
/-! ### dict comprehensions -/
def keyD : Key → D
  | .inl i => .int i
  | .inr x => .str x
section
variable {K : PySem.W.Frag} {W : WX} {X : XD} {μ : Mu} {H : Hp} {ρ : Ro} {Φ : DP} {tk tv : TE} {tt : TT} {g : TG} {wi : TI}
theorem den_key {k : Key} {v : V} (h : Den K μ H (keyD k) v) : v = kV k := by
  cases k <;> unfold keyD Den at h <;> exact h
theorem putK_zip {k : Key} {v : V} : ∀ {ks : List Key} {vs : List V}, k ∉ ks → ks.length = vs.length → putK (ks.zip vs) k v = (ks ++ [k]).zip (vs ++ [v]) := fun {ks vs} hk hl => by
  have h1 : ((ks.zip vs).any fun kv => decide (kv.1 = k)) = false := by
    rw [List.any_eq_false]
    intro p hp
    rw [decide_eq_true_eq]
    intro z
    obtain ⟨a, b⟩ := p
    exact hk (by rw [← show a = k from z]; exact (List.of_mem_zip hp).1)
  unfold putK
  rw [h1, if_neg (by decide), List.zip_append hl]
  rfl
/-- a dict comprehension: Iv by the turn, the store (the new dict in it), the keys and the data so far -/
theorem evx_dc {vs : List Nat} (h : ItX K W X μ ρ wi fun μ1 ds S => ∀ Dl, μ1 Dl = none → ∃ Iv : Nat → Mu → List Key → List D → Prop, Iv 0 (mput μ1 Dl (.dct [] [])) [] [] ∧
    (∀ i μ' ks acc, i ≤ ds.length → μ' Dl = some (.dct ks acc) → Iv i μ' ks acc → acc.length ≤ 1000000 ∧ S μ') ∧
    (∀ i d μ' ks acc, ds[i]? = some d → μ' Dl = some (.dct ks acc) → Iv i μ' ks acc → TcX K W X vs μ' (wipeD ρ vs) g d fun μ2 ρ2 =>
      EvB K W X μ2 ρ2 tt fun μ3 b => μ3 Dl = some (.dct ks acc) ∧ if b = true then EvX K W X μ3 ρ2 tk fun μ4 y => EvX K W X μ4 ρ2 tv fun μ5 z => ∃ k, y = keyD k ∧ μ5 Dl = some (.dct ks acc) ∧ k ∉ ks ∧ Iv (i + 1) (mput μ5 Dl (.dct (ks ++ [k]) (acc ++ [z]))) (ks ++ [k]) (acc ++ [z]) else Iv (i + 1) μ3 ks acc) ∧
    (∀ μ' ks acc, μ' Dl = some (.dct ks acc) → Iv ds.length μ' ks acc → Φ (mcut μ' Dl) (.dct ks acc) ∨ Φ μ' (.at Dl))) : EvX K W X μ ρ (tDc wi g tt tk tv vs) Φ := fun σ H Q m e l kk => by
  refine h σ H _ m e l fun μ1 ds S J H1 hp g1 m1 ok Dl hD => ?_
  obtain ⟨Iv, h0, hS, hs, hd⟩ := hp Dl (m1.free hD)
  obtain ⟨G, Y, w, hG, hY⟩ := ok.w
  have gn : Grow μ1 H1 (mput μ1 Dl (.dct [] [])) (upd H1 Dl (.dK [])) := Grow.newM hD
  have e1 := wipe_env (vs := vs) (e.grow g1)
  refine ⟨fun i m H' => m = ds.length - i ∧ i ≤ ds.length ∧ ∃ μ' ks acc, Iv i μ' ks acc ∧ μ' Dl = some (.dct ks acc) ∧ Grow μ1 H1 μ' H' ∧ Mem K μ' H', ⟨ds.length, by simp, Nat.zero_le _, _, [], [], h0, mput_same, gn, m1.newM hD ⟨[], upd_same, rfl, DenL.nil⟩⟩, ?_⟩
  rintro i n H' ⟨rfl, hi, μ', ks, acc, p, hl, gr, mm⟩
  have hz := hS i μ' ks acc hi hl p
  have hGG := hG μ' H' gr mm hz.2
  by_cases hlt : i < ds.length
  · refine .inr ⟨w.goes i H' hlt hGG, fun H'' => i + 1 ≤ ds.length ∧ ∃ μ' ks acc, Iv (i + 1) μ' ks acc ∧ μ' Dl = some (.dct ks acc) ∧ Grow μ1 H1 μ' H'' ∧ Mem K μ' H'', fun H'' nx => ⟨ds.length - (i + 1), by omega, rfl, nx.1, nx.2⟩, fun x H'' y => ?_⟩
    obtain ⟨q1, q2, q3⟩ := hY i μ' H' x H'' ds[i] gr mm hz.2 (w.yields i H' x H'' hlt hGG y) (by simp)
    have gg := gr.trans q1
    refine hs i ds[i] μ' ks acc (by simp) hl p (wipe σ vs) H'' x _ q2 (e1.grow gg) q3 fun ρ2 σ2 p2 e2 hw => ⟨by rw [hw, wipe_wipe], ?_⟩
    refine p2 σ2 H'' _ q2 e2 (l.grow (g1.trans gg)) fun μ3 b H3 ⟨hl3, p3⟩ g3 m3 => ?_
    cases b with
    | false =>
      rw [if_neg (by decide)] at p3 ⊢
      exact ⟨hlt, μ3, ks, acc, p3, hl3, gg.trans g3, m3⟩
    | true =>
      rw [if_pos rfl] at p3 ⊢
      refine p3 σ2 H3 _ m3 (e2.grow g3) (l.grow ((g1.trans gg).trans g3)) fun μ4 d v H4 p4 g4 m4 d4 => ?_
      refine p4 σ2 H4 _ m4 ((e2.grow g3).grow g4) (l.grow (((g1.trans gg).trans g3).trans g4)) fun μ5 z v5 H5 ⟨k, ey, hl5, hk, p5⟩ g5 m5 d5 => ?_
      subst ey
      obtain ⟨us, hu, hn, hb⟩ := m5 Dl _ hl5
      have ek := den_key d4
      subst ek
      refine ⟨_, k, rfl, hu, ?_, hlt, _, _, _, p5, mput_same, (((gg.trans g3).trans g4).trans g5).trans (Grow.wr hl5), m5.wr hl5 ⟨us ++ [v5], ?_, ?_, ?_⟩⟩
      · have : (ks.zip us).length ≤ us.length := by rw [List.length_zip]; exact Nat.min_le_right _ _
        have e2 := hb.length
        exact Nat.lt_of_le_of_lt (by omega : _ ≤ 1000000) (by decide)
      · rw [putK_zip hk hn, upd_same]
      · rw [List.length_append, List.length_append, hn]; rfl
      · exact (DenL.grow (Grow.wr hl5) _ _ hb).append (DenL.cons (Den.grow (Grow.wr hl5) _ _ d5) DenL.nil)
  · have e0 : i = ds.length := by omega
    subst e0
    refine .inl ⟨w.stops H' hGG, ?_⟩
    rcases hd μ' ks acc hl p with q | q
    · obtain ⟨us, hu, hn, hb⟩ := mm Dl _ hl
      exact kk _ _ _ H' q ((g1.trans gr).trans Grow.cut) mm.cut (by unfold Den; exact ⟨Dl, us, rfl, ⟨mcut_same, hu⟩, hn, DenL.less Less.cut _ _ hb⟩)
    · exact kk _ _ _ H' q (g1.trans gr) mm (by unfold Den; rfl)
/-- one whose turns change nothing, all keys unlike: from fk and f of the items -/
theorem evx_dcP {vs : List Nat} (h : ItX K W X μ ρ wi fun μ1 ds S => (ds.length ≤ 1000000 ∧ ∀ m : Mu, (∀ b o, μ1 b = some o → m b = some o) → S m) ∧ ∃ (fk : D → Key) (f : D → D), (ds.map fk).Nodup ∧
    (∀ d, d ∈ ds → ∀ μ' : Mu, (∀ b o, μ1 b = some o → μ' b = some o) → TcX K W X vs μ' (wipeD ρ vs) g d fun μ2 ρ2 => EvB K W X μ2 ρ2 tt fun μ3 b => μ3 = μ2 ∧ b = true ∧ EvX K W X μ3 ρ2 tk fun μ4 y => μ4 = μ3 ∧ y = keyD (fk d) ∧ EvX K W X μ4 ρ2 tv fun μ5 z => μ5 = μ4 ∧ z = f d) ∧
    Φ μ1 (.dct (ds.map fk) (ds.map f))) : EvX K W X μ ρ (tDc wi g tt tk tv vs) Φ := by
  refine evx_dc fun σ H R m e l k => h σ H R m e l fun μ1 ds S J H1 ⟨⟨hl, hS⟩, fk, f, hnd, hp, hq⟩ g1 m1 ok => k μ1 ds S J H1 (fun Dl hD => ?_) g1 m1 ok
  have up : ∀ μ' : Mu, (∀ b, b ≠ Dl → μ' b = μ1 b) → ∀ b o, μ1 b = some o → μ' b = some o := fun μ' hμ b o e => by
    rw [hμ b (fun z => by rw [z, hD] at e; cases e)]; exact e
  refine ⟨fun i μ' ks acc => ks = (ds.take i).map fk ∧ acc = (ds.take i).map f ∧ ∀ b, b ≠ Dl → μ' b = μ1 b, ⟨by simp, by simp, fun b hb => mput_ne hb⟩, ?_, ?_, ?_⟩
  · rintro i μ' ks acc hi _ ⟨rfl, rfl, hμ⟩
    refine ⟨?_, hS _ (up μ' hμ)⟩
    rw [List.length_map, List.length_take]
    omega
  · rintro i d μ' ks acc hi hD' ⟨rfl, rfl, hμ⟩
    have hm : d ∈ ds := List.mem_of_getElem? hi
    have e1 : ds.take (i + 1) = ds.take i ++ [d] := by
      rw [List.take_succ, hi]; rfl
    have hnk : fk d ∉ (ds.take i).map fk := by
      have h1 : (ds.take (i + 1)).map fk <+: ds.map fk := (List.take_prefix _ _).map fk
      have h2 := hnd.sublist h1.sublist
      rw [e1, List.map_append, List.nodup_append] at h2
      intro z
      exact h2.2.2 _ z (fk d) (List.mem_singleton.mpr rfl) rfl
    intro σ H v Q m e dd k
    refine hp d hm μ' (up μ' hμ) σ H v Q m e dd fun ρ2 σ2 q2 e2 hw => k ρ2 σ2 ?_ e2 hw
    refine q2.imp fun μ3 b ⟨r1, r2, r3⟩ => ?_
    subst r1 r2
    refine ⟨hD', ?_⟩
    rw [if_pos rfl]
    refine r3.imp fun μ4 y ⟨s1, s2, s3⟩ => ?_
    subst s1 s2
    refine s3.imp fun μ5 z ⟨t1, t2⟩ => ?_
    subst t1 t2
    refine ⟨fk d, rfl, hD', hnk, ?_, ?_, fun b hb => by rw [mput_ne hb]; exact hμ b hb⟩
    · rw [e1, List.map_append]; rfl
    · rw [e1, List.map_append]; rfl
  · rintro μ' ks acc hD' ⟨rfl, rfl, hμ⟩
    left
    have : mcut μ' Dl = μ1 := by
      funext b
      by_cases hb : b = Dl
      · subst hb; rw [mcut_same, hD]
      · rw [mcut_ne hb, hμ b hb]
    rw [this, List.take_length]
    exact hq
end
/-! ### methods of own classes -/
/-- the class (or one above it) has the method m, which keeps its promise -/
structure Met (P : Program) (w : World) (K : PySem.W.Frag) (mg : Str → Option Value) (base : Heap) (CX : CXT) (k : Nat) (C : Addr) (m : Str) (ps : List Str) (sp : Sp) : Prop where
  ex : ∃ (f : Addr) (fd : FuncData), PySem.W.findIn K (.ref C) m = some (some (.ref f)) ∧ PySem.W.isFn K (.ref f) = true ∧ PySem.W.keepIn K (.ref f) = true ∧ FnOk P w K mg base CX k f fd ps sp ∧ Binds K fd ps []
/-- where a method stands, with its text -/
def Mtd (K : PySem.W.Frag) (C : Addr) (m qual : Str) (st : Stmt) : Prop := ∃ (f : Addr) (fd : FuncData), PySem.W.findIn K (.ref C) m = some (some (.ref f)) ∧ PySem.W.isFn K (.ref f) = true ∧ Fun K m qual st f fd
section
variable {P : Program} {w : World} {K : PySem.W.Frag} {mg : Str → Option Value} {base : Heap} {C : Addr} {m qual : Str} {st : Stmt} {N ps : List Str} {k : Nat}
theorem met0 {Pd : PD} (h : Mtd K C m qual st) (S : FnScope N ps (defScope st))
    (hbi : ∀ (kV doc pm : Value) (an : Option Addr) (cdv ct : Value) (us : List Value), us.length = ps.length → bindArgs (PySem.W.fnOf m qual (defArgs st) (defBody st) (defScope st) .none kV doc pm an cdv ct) ⟨us, []⟩ = pure (ps.zip us))
    (hb : ∀ (f : Addr) (cdv : Value) (A : Around) (outer : List Env) (s : Shared) (H : Hp) (E : XK), Room k (A.deeper (envOfC qual (defScope st) s.heap.objs.size f cdv)) →
      ∃ t, PSs (cxOf CX0 P w K mg base N qual (defScope st) f cdv A outer s H E).nox (defBody st) t ∧ ∀ μ ds post exc, ds.length = ps.length → Pd μ ds post exc → GS K WN XN μ (startD N ds) t { nx := fun m _ => post m .non, rt := post }) :
    Met P w K mg base CX0 (k + 1) C m ps (spD K ps.length Pd) := by
  obtain ⟨f, fd, h1, h2, F⟩ := h
  exact ⟨f, fd, h1, h2, F.kp, def_ok F S (hb f), F.binds hbi⟩
theorem metX {Pd : PD} (h : Mtd K C m qual st) (S : FnScope N ps (defScope st))
    (hbi : ∀ (kV doc pm : Value) (an : Option Addr) (cdv ct : Value) (us : List Value), us.length = ps.length → bindArgs (PySem.W.fnOf m qual (defArgs st) (defBody st) (defScope st) .none kV doc pm an cdv ct) ⟨us, []⟩ = pure (ps.zip us))
    (hb : ∀ (f : Addr) (cdv : Value) (A : Around) (outer : List Env) (s : Shared) (H : Hp) (E : XK), Room k (A.deeper (envOfC qual (defScope st) s.heap.objs.size f cdv)) →
      ∃ t, PSs (cxOf (L2.CX P w) P w K mg base N qual (defScope st) f cdv A outer s H E) (defBody st) t ∧ ∀ μ ds post exc, ds.length = ps.length → Pd μ ds post exc → GS K (fun cls d _ H => E cls d H) (fun m _ C d => exc m C d) μ (startD N ds) t { nx := fun m _ => post m .non, rt := post }) :
    Met P w K mg base (L2.CX P w) (k + 1) C m ps (spD K ps.length Pd) := by
  obtain ⟨f, fd, h1, h2, F⟩ := h
  exact ⟨f, fd, h1, h2, F.kp, def_okX F S (hb f), F.binds hbi⟩
theorem Met.imp {CX : CXT} {n : Nat} {P1 P2 : PD} (c : Met P w K mg base CX k C m ps (spD K n P1)) (h : ∀ μ ds post exc, P2 μ ds post exc → P1 μ ds post exc) : Met P w K mg base CX k C m ps (spD K n P2) := by
  obtain ⟨f, fd, h1, h2, h3, G, b⟩ := c.ex
  exact ⟨f, fd, h1, h2, h3, fn_imp G h, b⟩
end
/-! ### a property read -/
/-- the class has f as a property whose getter keeps its promise -/
structure Prp (P : Program) (w : World) (K : PySem.W.Frag) (mg : Str → Option Value) (base : Heap) (k : Nat) (C : Addr) (f : Str) (sp : Sp) : Prop where
  ex : ∃ (p g : Addr) (fd : FuncData), PropOf K C f p g ∧ FnOk P w K mg base CX0 k g fd ["self"] sp ∧ Binds K fd ["self"] []
theorem prp0 {P : Program} {w : World} {K : PySem.W.Frag} {mg : Str → Option Value} {base : Heap} {C p g : Addr} {m qual : Str} {st : Stmt} {N : List Str} {k : Nat} {Pd : PD} {fd : FuncData} (hp : PropOf K C m p g) (F : Fun K m qual st g fd) (S : FnScope N ["self"] (defScope st))
    (hbi : ∀ (kV doc pm : Value) (an : Option Addr) (cdv ct : Value) (us : List Value), us.length = 1 → bindArgs (PySem.W.fnOf m qual (defArgs st) (defBody st) (defScope st) .none kV doc pm an cdv ct) ⟨us, []⟩ = pure ((["self"] : List Str).zip us))
    (hb : ∀ (f : Addr) (cdv : Value) (A : Around) (outer : List Env) (s : Shared) (H : Hp) (E : XK), Room k (A.deeper (envOfC qual (defScope st) s.heap.objs.size f cdv)) →
      ∃ t, PSs (cxOf CX0 P w K mg base N qual (defScope st) f cdv A outer s H E).nox (defBody st) t ∧ ∀ μ ds post exc, ds.length = 1 → Pd μ ds post exc → GS K WN XN μ (startD N ds) t { nx := fun m _ => post m .non, rt := post }) :
    Prp P w K mg base (k + 1) C m (spD K 1 Pd) := ⟨p, g, fd, hp, def_ok F S (hb g), F.binds hbi⟩
section
variable {X : Cx} {k j : Nat} {C : Addr} {f : Str} {sp : Sp} {e : Expr} {pos : Pos} {ta : TE}
theorem pe_prp (he : PE X e ta) (c : Cls X.K C) (h : Prp X.prog X.w X.K X.mg X.base k C f sp) (hr : Room j X.A) (hj : k + 1 ≤ j) (hab : attributeBase e f X.env (eval e X.env) = eval e X.env := by rfl) : PE X (.Attribute e f pos) (tProp C sp [] E0 ta) := by
  obtain ⟨p, g, fd, hp, F, b⟩ := h.ex
  exact pe_prop he c hp F (hr.mono hj) b .nil pass0 hab
end
/-- an object of class C as data -/
theorem obj_at {K : PySem.W.Frag} {μ : Mu} {H : Hp} {x : D} {C : Addr} {fs : List Str} {ds : List D} {v : V} (m : Mem K μ H) (hx : ObjD μ x C fs ds) (dv : Den K μ H x v) : ∃ p dx gs, v = .ref p ∧ H p = some (.ins C dx gs) := by
  obtain ⟨p, dx, vs, e, h, _⟩ := hx.hp m dv
  exact ⟨p, dx, _, e, h⟩
section
variable {K : PySem.W.Frag} {W : WX} {X : XD} {μ : Mu} {ρ : Ro} {Φ : DP} {C : Addr} {P : PD} {ta : TE}
theorem evx_prp (h : EvX K W X μ ρ ta fun μ1 x => (∃ fs ds, ObjD μ1 x C fs ds) ∧ P μ1 [x] Φ excN) : EvX K W X μ ρ (tProp C (spD K 1 P) [] E0 ta) Φ := fun σ H Q m e l k =>
  h σ H _ m e l fun μ1 x v H1 ⟨⟨fs, ds, ho⟩, hp⟩ g1 m1 d1 => by
    obtain ⟨p, dx, gs, e1, hi⟩ := obj_at m1 ho d1
    subst e1
    exact ⟨p, dx, gs, rfl, hi, μ1, [x], Φ, excN, m1, DenL.cons d1 DenL.nil, rfl, hp, fun μ' d v H' p g => k μ' d v H' p (g1.trans g), fun _ _ _ _ _ _ z => z.elim⟩
end
/-! ### len(o) by an own __len__ -/
section
variable {X : Cx} {k : Nat} {C f : Addr} {fd : FuncData} {ps : List Str} {sp : Sp}
def rLenO (C : Addr) (sp : Sp) : List V → Hp → VK → Prop := fun xs H Q => ∃ (a dx : Addr) (fs : List (Str × V)), xs = [.ref a] ∧ H a = some (.ins C dx fs) ∧ sp [.ref a] H (fun v H' => ∃ n : Int, v = .int n ∧ 0 ≤ n ∧ n < 2 ^ 63 ∧ Q (.int n) H') E0
theorem call_lenO (hi : PySem.W.findIn X.K (.ref C) "__len__" = some (some (.ref f))) (ht : PySem.W.typeIn X.K (.ref f) = some (.type "function")) (F : FnOk X.prog X.w X.K X.mg X.base CX0 k f fd ps sp) (hr : Room (k + 1) X.A) (hb : Binds X.K fd ps []) : CallR X (.builtin "len") (rLenO C sp) := by
  intro pins s σ H xs us Q I r h
  obtain ⟨a, dx, fs, rfl, ha, q⟩ := h
  obtain ⟨u, rfl, ru⟩ : ∃ u, us = [u] ∧ RelV (.ref a) u := by
    cases r with
    | cons h1 h2 => cases h2; exact ⟨_, rfl, h1⟩
  obtain rfl : u = Value.ref a := ru
  obtain ⟨mA, O, _, _, _, _⟩ := ins_get I.hok ha
  obtain ⟨od, J, _⟩ := O.look
  refine Calls.call_function_entry kind_len plain_len entry_len (args_len1 _) ?_
  unfold Builtin.«len»
  refine wpAny_bind (m := oneArg "len" _) (wpAny_pure ?_)
  refine wpAny_bind (m := callSpecial? (.ref a) (Str.ofString "__len__")) (PySem.W.special_fn I.kIn J hi ht ?_)
  have hl : ([Value.ref a] ++ []).length = ps.length := by
    have e := F.len _ _ _ _ q
    exact e
  refine wpAny_call (codeAny_mono (F.run X.A.in1 X.stack s H ⟨[.ref a], []⟩ [.ref a] [.ref a] _ E0 hr.in1 I.env0.in1 (hb _ [.ref a] I.kIn hl) (.cons rfl .nil) q) fun r s' hq => ?_)
  rcases r with e | (_ | _ | _ | u)
  · exact False.elim hq
  · exact False.elim hq
  · exact False.elim hq
  · exact False.elim hq
  · obtain ⟨v, H', I3, rv, n, ev, n0, n1, q3⟩ := I.after hq
    subst ev
    obtain ⟨t, rfl⟩ := rv
    refine wpAny_bind (wpAny_holding (wpAny_pure ?_))
    refine wpAny_bind (wpAny_letGo ?_)
    show wpAny _ _ (if n < 0 then _ else _) _ _ _
    rw [if_neg (by omega)]
    show wpAny _ _ (if n ≥ 2 ^ 63 then _ else _) _ _ _
    rw [if_neg (by omega)]
    exact wpAny_bind (wpAny_mkInt (wpAny_pure ⟨_, rfl, .int n, H', I3.tok _, ⟨_, rfl⟩, q3⟩))
end
section
variable {X : Cx} {k j : Nat} {C : Addr} {ps : List Str} {sp : Sp}
/-- len(o), o of class C -/
theorem call_lenC (h : Met X.prog X.w X.K X.mg X.base CX0 k C "__len__" ps sp) (hr : Room j X.A) (hj : k + 1 ≤ j) : CallR X (.builtin "len") (rLenO C sp) := by
  obtain ⟨f, fd, h1, h2, _, F, b⟩ := h.ex
  exact call_lenO h1 (beq_iff_eq.mp h2) F (hr.mono hj) b
end
section
variable {K : PySem.W.Frag} {μ : Mu} {Φ : DP} {C : Addr} {P : PD} {x : D}
theorem cax_lenO (ho : ∃ fs ds, ObjD μ x C fs ds) (hp : P μ [x] (fun μ' d => ∃ n : Nat, d = .int n ∧ n ≤ 1000000 ∧ Φ μ' (.int n)) excN) : CaX K (rLenO C (spD K 1 P)) μ [x] Φ := fun H vs Q m d k => by
  obtain ⟨v, e, a⟩ := denL1 d
  obtain ⟨fs, ds, ho⟩ := ho
  obtain ⟨p, dx, gs, e1, hi⟩ := obj_at m ho a
  subst e1 e
  refine ⟨p, dx, gs, rfl, hi, μ, [x], _, excN, m, d, rfl, hp, ?_, fun _ _ _ _ _ _ z => z.elim⟩
  rintro μ' d' v' H' ⟨n, rfl, hn, hq⟩ g mm dd
  unfold Den at dd
  exact ⟨n, dd, by omega, by omega, k μ' _ _ H' hq g mm (by unfold Den; rfl)⟩
/-- isinstance(o, c), o of an own class -/
theorem cax_isO {c : Addr} {b : Bool} (ho : ∃ fs ds, ObjD μ x C fs ds) (cl : Cls K C) (ha : PySem.W.findIn K (.ref C) "__class__" = some (some (.builtin "object.__class__"))) (G : ClsG K) (hm : PySem.W.mroIn K C (.type "object") = some true)
    (hk : PySem.W.kitOne K (.ref C) (.ref c) = some b) (h : Φ μ (.bl b)) : CaX K (rIsU K) μ [x, .at c] Φ := fun H vs Q m dd k => by
  obtain ⟨v, v', e, a, a'⟩ := denL2 dd
  obtain ⟨fs, ds, ho⟩ := ho
  obtain ⟨p, dx, gs, e1, hi⟩ := obj_at m ho a
  unfold Den at a'
  subst a' e1
  exact .inl (.inl ⟨.ref p, .ref c, .ref C, .ref c, b, e, .own c, .base (.ins hi cl ha G.hn G.ht hm), hk, k μ _ _ H h (Grow.refl _ _) m (by unfold Den; rfl)⟩)
/-- isinstance of plain data, an own class -/
theorem cax_isP {T : String} {c : Addr} {b : Bool} (ht : tyM μ x = some T) (hk : PySem.W.kitOne K (.type T) (.ref c) = some b) (h : Φ μ (.bl b)) : CaX K (rIsU K) μ [x, .at c] Φ := fun H vs Q m d k => by
  obtain ⟨v, v', e, a, a'⟩ := denL2 d
  unfold Den at a'
  subst a'
  exact .inl (.inl ⟨v, .ref c, .type T, .ref c, b, e, .own c, den_ty m a ht, hk, k μ _ _ H h (Grow.refl _ _) m (by unfold Den; rfl)⟩)
end
/-! ### C(..) of an own class -/
/-- a class of the module, with its __init__ and its promise -/
structure MkC (P : Program) (w : World) (K : PySem.W.Frag) (mg : Str → Option Value) (base : Heap) (CX : CXT) (k : Nat) (x qual : Str) (C : Addr) (st : Stmt) (ps : List Str) (sp : Sp) : Prop where
  ex : ∃ (f : Addr) (fd : FuncData), mg x = some (.ref C) ∧ Mk K C f ∧ Fun K "__init__" qual st f fd ∧ FnOk P w K mg base CX k f fd ps sp ∧ Binds K fd ps []
theorem mkX {P : Program} {w : World} {K : PySem.W.Frag} {mg : Str → Option Value} {base : Heap} {C f : Addr} {x qual : Str} {st : Stmt} {N ps : List Str} {k : Nat} {Pd : PD} {fd : FuncData} (hm : mg x = some (.ref C)) (M : Mk K C f) (F : Fun K "__init__" qual st f fd) (S : FnScope N ps (defScope st))
    (hbi : ∀ (kV doc pm : Value) (an : Option Addr) (cdv ct : Value) (us : List Value), us.length = ps.length → bindArgs (PySem.W.fnOf "__init__" qual (defArgs st) (defBody st) (defScope st) .none kV doc pm an cdv ct) ⟨us, []⟩ = pure (ps.zip us))
    (hb : ∀ (f : Addr) (cdv : Value) (A : Around) (outer : List Env) (s : Shared) (H : Hp) (E : XK), Room k (A.deeper (envOfC qual (defScope st) s.heap.objs.size f cdv)) →
      ∃ t, PSs (cxOf (L2.CX P w) P w K mg base N qual (defScope st) f cdv A outer s H E) (defBody st) t ∧ ∀ μ ds post exc, ds.length = ps.length → Pd μ ds post exc → GS K (fun cls d _ H => E cls d H) (fun m _ C d => exc m C d) μ (startD N ds) t { nx := fun m _ => post m .non, rt := post }) :
    MkC P w K mg base (L2.CX P w) (k + 1) x qual C st ps (spD K ps.length Pd) := ⟨f, fd, hm, M, F, def_okX F S (hb f), F.binds hbi⟩
theorem mk0 {P : Program} {w : World} {K : PySem.W.Frag} {mg : Str → Option Value} {base : Heap} {C f : Addr} {x qual : Str} {st : Stmt} {N ps : List Str} {k : Nat} {Pd : PD} {fd : FuncData} (hm : mg x = some (.ref C)) (M : Mk K C f) (F : Fun K "__init__" qual st f fd) (S : FnScope N ps (defScope st))
    (hbi : ∀ (kV doc pm : Value) (an : Option Addr) (cdv ct : Value) (us : List Value), us.length = ps.length → bindArgs (PySem.W.fnOf "__init__" qual (defArgs st) (defBody st) (defScope st) .none kV doc pm an cdv ct) ⟨us, []⟩ = pure (ps.zip us))
    (hb : ∀ (f : Addr) (cdv : Value) (A : Around) (outer : List Env) (s : Shared) (H : Hp) (E : XK), Room k (A.deeper (envOfC qual (defScope st) s.heap.objs.size f cdv)) →
      ∃ t, PSs (cxOf CX0 P w K mg base N qual (defScope st) f cdv A outer s H E).nox (defBody st) t ∧ ∀ μ ds post exc, ds.length = ps.length → Pd μ ds post exc → GS K WN XN μ (startD N ds) t { nx := fun m _ => post m .non, rt := post }) :
    MkC P w K mg base CX0 (k + 1) x qual C st ps (spD K ps.length Pd) := ⟨f, fd, hm, M, F, def_ok F S (hb f), F.binds hbi⟩
theorem kbn_of {K : PySem.W.Frag} {x qual : Str} {st : Stmt} {ps : List Str} {f : Addr} {fd : FuncData} {n m : Nat} {pm : List Nat} {ks : List Str} (F : Fun K x qual st f fd) (hm : ks.length = m)
    (h : ∀ (kV doc pv : Value) (an : Option Addr) (cdv ct : Value) (us ws : List Value), us.length = n → ws.length = m → bindArgs (PySem.W.fnOf x qual (defArgs st) (defBody st) (defScope st) .none kV doc pv an cdv ct) ⟨us, ks.zip ws⟩ = pure (ps.zip (pm.filterMap fun i => (us ++ ws)[i]?))) :
    KBn K fd ps n ks (permG n m pm) (permG n m pm) := by
  obtain ⟨oc, od, kV, doc, pv, an, cdv, ct, osl, rfl, lk, hcd⟩ := F.ex
  refine ⟨fun s us ws _ h1 h2 => ?_, fun {vs us zs ws} r rz => ?_⟩
  · unfold permG
    rw [if_pos ⟨h1, h2.trans hm⟩]
    exact .of_eq (h kV doc pv an cdv ct us ws h1 (h2.trans hm))
  · unfold permG
    rw [r.length, rz.length]
    by_cases c : us.length = n ∧ ws.length = m
    · rw [if_pos c, if_pos c]
      exact perm_vals (r.append rz)
    · rw [if_neg c, if_neg c]
      exact .nil
section
variable {X : Cx} {W : WX} {k j m : Nat} {x qual : Str} {C : Addr} {st : Stmt} {ps ks : List Str} {sp : Sp} {p pos : Pos} {e : Expr} {es : List Expr} {t tk : TA} {kws : List Keyword} {pm : List Nat}
theorem pe_mkS (c : MkC X.prog X.w X.K X.mg X.base (L2.CX X.prog X.w) k x qual C st ps sp) (hr : Room j X.A) (hj : k + 1 ≤ j) (tw : Takes X W) (ha : PA X (e :: es) t) (hg : Gl X x := by rfl) (hdb : (x == ("__debug__" : Str)) = false := by decide)
    (he : starEach (e :: es) X.env = (false, eval e X.env) :: starEach es X.env := by rfl) (hpl : (backTo pos (starEach es X.env)).any (·.1) = false := by rfl) : PE X (.Call (.Name x p) (e :: es) [] pos) (tMakeS C sp (WE W) t) := by
  obtain ⟨f, fd, h1, M, _, F, b⟩ := c.ex
  exact pe_makeS M F (hr.mono hj) hg h1 b (fun σ => passAt tw σ) ha hdb he hpl
theorem pe_mk0 (c : MkC X.prog X.w X.K X.mg X.base CX0 k x qual C st ps sp) (hr : Room j X.A) (hj : k + 1 ≤ j) (ha : PA X (e :: es) t) (hg : Gl X x := by rfl) (hdb : (x == ("__debug__" : Str)) = false := by decide)
    (he : starEach (e :: es) X.env = (false, eval e X.env) :: starEach es X.env := by rfl) (hpl : (backTo pos (starEach es X.env)).any (·.1) = false := by rfl) : PE X (.Call (.Name x p) (e :: es) [] pos) (tMakeS C sp (fun _ => E0) t) := by
  obtain ⟨f, fd, h1, M, _, F, b⟩ := c.ex
  exact pe_makeS M F (hr.mono hj) hg h1 b (fun σ pins H s e s' I q => q.elim) ha hdb he hpl
theorem pe_mkKS (c : MkC X.prog X.w X.K X.mg X.base (L2.CX X.prog X.w) k x qual C st ps sp) (hr : Room j X.A) (hj : k + 1 ≤ j) (tw : Takes X W) (hm : ks.length = m)
    (h : ∀ (kV doc pv : Value) (an : Option Addr) (cdv ct : Value) (us ws : List Value), us.length = 1 → ws.length = m → bindArgs (PySem.W.fnOf "__init__" qual (defArgs st) (defBody st) (defScope st) .none kV doc pv an cdv ct) ⟨us, ks.zip ws⟩ = pure (ps.zip (pm.filterMap fun i => (us ++ ws)[i]?)))
    (hkw : PK X kws tk) (hg : Gl X x := by rfl) (hall : (backToKw pos (keywordEach kws X.env)).all (·.1.isSome) = true := by rfl) (hks : (backToKw pos (keywordEach kws X.env)).filterMap (·.1) = ks := by rfl)
    (hdb : (x == ("__debug__" : Str)) = false := by decide) (hn : ((backTo pos (starEach [] X.env)).any (·.1) || (backToKw pos (keywordEach kws X.env)).any (·.1.isNone)) = false := by rfl) :
    PE X (.Call (.Name x p) [] kws pos) (tMakeKS C ks.length sp (permG 1 m pm) (WE W) tk) := by
  obtain ⟨f, fd, h1, M, Ff, F, b⟩ := c.ex
  exact pe_makeKS M F (hr.mono hj) hg h1 (kbn_of Ff hm h) (fun σ => passAt tw σ) hkw hall hks hdb hn
end
section
variable {K : PySem.W.Frag} {W : WX} {X : XD} {μ : Mu} {ρ : Ro} {Φ : DP} {C : Addr} {n m a b : Nat} {pm : List Nat} {P : PD} {t tk : TA}
/-- an object just made, that will change no more -/
def Frozen (C : Addr) (x : Addr) (Φ : DP) (μ2 : Mu) (d : D) : Prop := d = .non ∧ ∃ fs ds, μ2 x = some (.obj C fs ds) ∧ Φ (mcut μ2 x) (.obj C fs ds)
theorem evx_makeSZ (h : EvL K W X μ ρ t fun μ1 ds => ∀ x, μ1 x = none → ds.length + 1 = n ∧ P (mput μ1 x (.obj C [] [])) (.at x :: ds) (Frozen C x Φ) fun μ' A d => X μ' ρ A d) : EvX K W X μ ρ (tMakeS C (spD K n P) (WE W) t) Φ := fun σ H Q m e l k =>
  h σ H _ m e l fun μ1 ds vs H1 hh g1 m1 d1 => fun x dx hx hdx hne => by
    have g2 : Grow μ1 H1 μ1 (upd H1 dx (.own x)) := Grow.new hdx
    have m2 : Mem K μ1 (upd H1 dx (.own x)) := m1.new hdx
    have hx2 : (upd H1 dx (.own x)) x = none := by rw [upd_ne (Ne.symm hne)]; exact hx
    have g3 : Grow μ1 (upd H1 dx (.own x)) (mput μ1 x (.obj C [] [])) (upd (upd H1 dx (.own x)) x (.ins C dx [])) := Grow.newM hx2
    have m3 := m2.newM (mo := .obj C [] []) (o := .ins C dx []) hx2 ⟨dx, [], upd_same, rfl, DenL.nil⟩
    obtain ⟨hl, hp⟩ := hh x (m1.free hx)
    have gg := (g1.trans g2).trans g3
    refine ⟨_, .at x :: ds, _, _, m3, DenL.cons (by unfold Den; rfl) (DenL.grow g3 _ _ (DenL.grow g2 _ _ d1)), by rw [List.length_cons]; exact hl, hp, ?_, ?_⟩
    · rintro μ' d v H' ⟨rfl, fs, es, hμ, hq⟩ g mm dd
      unfold Den at dd
      obtain ⟨dx', us, hi, hn, hb⟩ := mm x _ hμ
      exact ⟨dd, k _ _ _ H' hq ((gg.trans g).trans Grow.cut) mm.cut (by unfold Den; exact ⟨x, dx', us, rfl, ⟨mcut_same, hi⟩, hn, DenL.less Less.cut _ _ hb⟩)⟩
    · exact fun μ' A d dx v H' p g mm => l μ' ρ A d dx v σ H' p (gg.trans g) mm ((e.grow gg).grow g)
theorem evx_make0Z (h : EvL K W X μ ρ t fun μ1 ds => ∀ x, μ1 x = none → ds.length + 1 = n ∧ P (mput μ1 x (.obj C [] [])) (.at x :: ds) (Frozen C x Φ) excN) : EvX K W X μ ρ (tMakeS C (spD K n P) (fun _ => E0) t) Φ := fun σ H Q m e l k =>
  h σ H _ m e l fun μ1 ds vs H1 hh g1 m1 d1 => fun x dx hx hdx hne => by
    have g2 : Grow μ1 H1 μ1 (upd H1 dx (.own x)) := Grow.new hdx
    have m2 : Mem K μ1 (upd H1 dx (.own x)) := m1.new hdx
    have hx2 : (upd H1 dx (.own x)) x = none := by rw [upd_ne (Ne.symm hne)]; exact hx
    have g3 : Grow μ1 (upd H1 dx (.own x)) (mput μ1 x (.obj C [] [])) (upd (upd H1 dx (.own x)) x (.ins C dx [])) := Grow.newM hx2
    have m3 := m2.newM (mo := .obj C [] []) (o := .ins C dx []) hx2 ⟨dx, [], upd_same, rfl, DenL.nil⟩
    obtain ⟨hl, hp⟩ := hh x (m1.free hx)
    have gg := (g1.trans g2).trans g3
    refine ⟨_, .at x :: ds, _, _, m3, DenL.cons (by unfold Den; rfl) (DenL.grow g3 _ _ (DenL.grow g2 _ _ d1)), by rw [List.length_cons]; exact hl, hp, ?_, fun _ _ _ _ _ _ z => z.elim⟩
    · rintro μ' d v H' ⟨rfl, fs, es, hμ, hq⟩ g mm dd
      unfold Den at dd
      obtain ⟨dx', us, hi, hn, hb⟩ := mm x _ hμ
      exact ⟨dd, k _ _ _ H' hq ((gg.trans g).trans Grow.cut) mm.cut (by unfold Den; exact ⟨x, dx', us, rfl, ⟨mcut_same, hi⟩, hn, DenL.less Less.cut _ _ hb⟩)⟩
theorem evx_makeKSZ (h : EvL K W X μ ρ tk fun μ1 ds => ds.length = m ∧ ∀ x, μ1 x = none → (permG a b pm [.at x] ds).length = n ∧ P (mput μ1 x (.obj C [] [])) (permG a b pm [.at x] ds) (Frozen C x Φ) fun μ' A d => X μ' ρ A d) : EvX K W X μ ρ (tMakeKS C m (spD K n P) (permG a b pm) (WE W) tk) Φ := fun σ H Q mm0 e l k =>
  h σ H _ mm0 e l fun μ1 ds vs H1 hh g1 m1 d1 => ⟨by rw [← d1.length]; exact hh.1, fun x dx hx hdx hne => by
    have g2 : Grow μ1 H1 μ1 (upd H1 dx (.own x)) := Grow.new hdx
    have m2 : Mem K μ1 (upd H1 dx (.own x)) := m1.new hdx
    have hx2 : (upd H1 dx (.own x)) x = none := by rw [upd_ne (Ne.symm hne)]; exact hx
    have g3 : Grow μ1 (upd H1 dx (.own x)) (mput μ1 x (.obj C [] [])) (upd (upd H1 dx (.own x)) x (.ins C dx [])) := Grow.newM hx2
    have m3 := m2.newM (mo := .obj C [] []) (o := .ins C dx []) hx2 ⟨dx, [], upd_same, rfl, DenL.nil⟩
    obtain ⟨hl, hp⟩ := hh.2 x (m1.free hx)
    have gg := (g1.trans g2).trans g3
    have dx1 : DenL K (mput μ1 x (.obj C [] [])) (upd (upd H1 dx (.own x)) x (.ins C dx [])) [.at x] [.ref x] := DenL.cons (by unfold Den; rfl) DenL.nil
    refine ⟨_, permG a b pm [.at x] ds, _, _, m3, permG_den dx1 (DenL.grow g3 _ _ (DenL.grow g2 _ _ d1)), hl, hp, ?_, ?_⟩
    · rintro μ' d v H' ⟨rfl, fs, es, hμ, hq⟩ g mm dd
      unfold Den at dd
      obtain ⟨dx', us, hi, hn, hb⟩ := mm x _ hμ
      exact ⟨dd, k _ _ _ H' hq ((gg.trans g).trans Grow.cut) mm.cut (by unfold Den; exact ⟨x, dx', us, rfl, ⟨mcut_same, hi⟩, hn, DenL.less Less.cut _ _ hb⟩)⟩
    · exact fun μ' A d dx v H' p g mm => l μ' ρ A d dx v σ H' p (gg.trans g) mm ((e.grow gg).grow g)⟩
end
/-- a statement whose walk has begun, cut at its end -/
theorem gs_at {K : PySem.W.Frag} {W : WX} {X : XD} {μ : Mu} {ρ : Ro} {t : TS} {E : ED} (M : Mu → Ro → Prop) (h : GS K W X μ ρ t { E with nx := M }) (k : ∀ μ1 ρ1, M μ1 ρ1 → E.nx μ1 ρ1) : GS K W X μ ρ t E :=
  h.imp k (fun _ _ z => z) (fun _ _ z => z) (fun _ _ z => z)
section
variable {K : PySem.W.Frag} {W : WX} {X : XD} {μ : Mu} {ρ : Ro} {E : ED} {tt : TT} {t u : TS}
/-- an if whose test changes nothing, its ways joined: Ψ of the answer -/
theorem gs_ifB (Ψ : Bool → Prop) (h : EvB K W X μ ρ tt fun m b => m = μ ∧ Ψ b) (ht : Ψ true → GS K W X μ ρ t E) (hf : Ψ false → GS K W X μ ρ u E) : GS K W X μ ρ (tIfS tt t u) E :=
  gs_if (h.imp fun m b ⟨e, q⟩ => by
    subst e
    cases b with
    | true => rw [if_pos rfl]; exact ht q
    | false => rw [if_neg (by decide)]; exact hf q)
/-- the same where the test changes the store -/
theorem gs_ifM (Ψ : Mu → Bool → Prop) (h : EvB K W X μ ρ tt Ψ) (ht : ∀ m, Ψ m true → GS K W X m ρ t E) (hf : ∀ m, Ψ m false → GS K W X m ρ u E) : GS K W X μ ρ (tIfS tt t u) E :=
  gs_if (h.imp fun m b q => by
    cases b with
    | true => rw [if_pos rfl]; exact ht m q
    | false => rw [if_neg (by decide)]; exact hf m q)
end
/-! ### what may raise, called where nothing is raised -/
theorem takes_never {X : Cx} : Takes X WN := fun _ _ ⟨_, _, _, _, _, _, _, _, _, _, _, _, _, _, _, _, w⟩ => w.elim
/-! ### d[k] of a kept dict -/
section
variable {K : PySem.W.Frag} {W : WX} {X : XD} {μ : Mu} {H : Hp} {ρ : Ro} {Φ : DP} {ta tb : TE}
/-- what a dict has at a key -/
def atK (ks : List Key) (ds : List D) (k : Key) : Option D := ((ks.zip ds).find? fun kv => decide (kv.1 = k)).map (·.2)
theorem den_valV {k : Key} {d : D} : ∀ {ks : List Key} {ds : List D} {vs : List V}, DenL K μ H ds vs → atK ks ds k = some d → ∃ v, valV (ks.zip vs) k = some v ∧ Den K μ H d v
  | [], ds, vs, _, h => by unfold atK at h; rw [List.zip_nil_left] at h; exact nomatch h
  | g :: ks, [], vs, _, h => by unfold atK at h; rw [List.zip_nil_right] at h; exact nomatch h
  | g :: ks, e :: ds, vs, hd, h => by
    unfold DenL at hd
    obtain ⟨w, ws, e1, a, b⟩ := hd
    subst e1
    unfold atK at h
    rw [List.zip_cons_cons, List.find?_cons] at h
    by_cases hg : g = k
    · simp only [hg, decide_true] at h
      cases h
      exact ⟨w, valV_pos hg, a⟩
    · simp only [hg, decide_false] at h
      obtain ⟨v, h1, h2⟩ := den_valV b h
      exact ⟨v, by rw [List.zip_cons_cons, valV_neg hg]; exact h1, h2⟩
theorem evx_dget (h : EvX K W X μ ρ ta fun μ1 x => EvX K W X μ1 ρ tb fun μ2 y => ∃ ks ds k d, (x = .dct ks ds ∨ ∃ a, x = .at a ∧ μ2 a = some (.dct ks ds)) ∧ y = keyD k ∧ atK ks ds k = some d ∧ Φ μ2 d) : EvX K W X μ ρ (tDGet ta tb) Φ := fun σ H Q m e l kk =>
  h σ H _ m e l fun μ1 x v H1 h1 g1 m1 d1 => h1 σ H1 _ m1 (e.grow g1) (l.grow g1) fun μ2 y w H2 ⟨ks, ds, k, d, hx, hy, hl, hq⟩ g2 m2 d2 => by
    subst hy
    have ek := den_key d2
    subst ek
    have dx := Den.grow g2 _ _ d1
    obtain ⟨p, vs, e1, e2, b⟩ : ∃ p vs, v = .ref p ∧ H2 p = some (.dK (ks.zip vs)) ∧ DenL K μ2 H2 ds vs := by
      rcases hx with rfl | ⟨a, rfl, ha⟩
      · unfold Den at dx
        obtain ⟨p, vs, e1, s, n, b⟩ := dx
        exact ⟨p, vs, e1, s.2, b⟩
      · unfold Den at dx
        obtain ⟨vs, q, n, b⟩ := m2 a _ ha
        exact ⟨a, vs, dx, q, b⟩
    obtain ⟨u, h3, h4⟩ := den_valV b hl
    exact ⟨p, u, e1, by rw [← h3]; exact DGet.k e2, kk μ2 d u H2 hq (g1.trans g2) m2 h4⟩
/-! ### sum, any, all -/
theorem denInt : ∀ {zs : List Int} {vs : List V}, DenL K μ H (zs.map D.int) vs → vs = zs.map V.int
  | [], vs, h => by unfold List.map DenL at h; exact h
  | z :: zs, vs, h => by
    rw [List.map_cons] at h
    unfold DenL at h
    obtain ⟨w, ws, e, a, b⟩ := h
    unfold Den at a
    subst e a
    rw [denInt b, List.map_cons]
theorem denBl : ∀ {zs : List Bool} {vs : List V}, DenL K μ H (zs.map D.bl) vs → vs = zs.map V.bl
  | [], vs, h => by unfold List.map DenL at h; exact h
  | z :: zs, vs, h => by
    rw [List.map_cons] at h
    unfold DenL at h
    obtain ⟨w, ws, e, a, b⟩ := h
    unfold Den at a
    subst e a
    rw [denBl b, List.map_cons]
theorem cax_sum {x : D} {zs : List Int} {S : Mu → Prop} (hd : IsL μ x (zs.map D.int) S) (h : Φ μ (.int zs.sum)) : CaX K (rSum K) μ [x] Φ := fun H vs Q m d k => by
  obtain ⟨v, e, a⟩ := denL1 d
  obtain ⟨p, us, e2, sq, b⟩ := isL_sq m hd a
  subst e2
  rw [denInt b] at sq
  exact ⟨p, zs, e, sq, k μ _ _ H h (Grow.refl _ _) m (by unfold Den; rfl)⟩
theorem cax_any {x : D} {zs : List Bool} {S : Mu → Prop} (hd : IsL μ x (zs.map D.bl) S) (h : Φ μ (.bl (zs.any id))) : CaX K (rAny K) μ [x] Φ := fun H vs Q m d k => by
  obtain ⟨v, e, a⟩ := denL1 d
  obtain ⟨p, us, e2, sq, b⟩ := isL_sq m hd a
  subst e2
  rw [denBl b] at sq
  exact ⟨p, zs, e, sq, k μ _ _ H h (Grow.refl _ _) m (by unfold Den; rfl)⟩
theorem cax_all {x : D} {zs : List Bool} {S : Mu → Prop} (hd : IsL μ x (zs.map D.bl) S) (h : Φ μ (.bl (zs.all id))) : CaX K (rAll K) μ [x] Φ := fun H vs Q m d k => by
  obtain ⟨v, e, a⟩ := denL1 d
  obtain ⟨p, us, e2, sq, b⟩ := isL_sq m hd a
  subst e2
  rw [denBl b] at sq
  exact ⟨p, zs, e, sq, k μ _ _ H h (Grow.refl _ _) m (by unfold Den; rfl)⟩
end
/-! ### an instance called: o(e, ..), o(k = v, ..) -/
/-- the class has a __call__ that keeps its promise -/
structure CallC (P : Program) (w : World) (K : PySem.W.Frag) (mg : Str → Option Value) (base : Heap) (CX : CXT) (k : Nat) (qual : Str) (C : Addr) (st : Stmt) (ps : List Str) (sp : Sp) : Prop where
  ex : ∃ (f : Addr) (fd : FuncData), PySem.W.findIn K (.ref C) "__call__" = some (some (.ref f)) ∧ PySem.W.isFn K (.ref f) = true ∧ PySem.W.fnIn K f = true ∧ Fun K "__call__" qual st f fd ∧ FnOk P w K mg base CX k f fd ps sp ∧ Binds K fd ps []
theorem callX {P : Program} {w : World} {K : PySem.W.Frag} {mg : Str → Option Value} {base : Heap} {C f : Addr} {qual : Str} {st : Stmt} {N ps : List Str} {k : Nat} {Pd : PD} {fd : FuncData} (h1 : PySem.W.findIn K (.ref C) "__call__" = some (some (.ref f))) (h2 : PySem.W.isFn K (.ref f) = true) (h3 : PySem.W.fnIn K f = true)
    (F : Fun K "__call__" qual st f fd) (S : FnScope N ps (defScope st))
    (hbi : ∀ (kV doc pm : Value) (an : Option Addr) (cdv ct : Value) (us : List Value), us.length = ps.length → bindArgs (PySem.W.fnOf "__call__" qual (defArgs st) (defBody st) (defScope st) .none kV doc pm an cdv ct) ⟨us, []⟩ = pure (ps.zip us))
    (hb : ∀ (f : Addr) (cdv : Value) (A : Around) (outer : List Env) (s : Shared) (H : Hp) (E : XK), Room k (A.deeper (envOfC qual (defScope st) s.heap.objs.size f cdv)) →
      ∃ t, PSs (cxOf (L2.CX P w) P w K mg base N qual (defScope st) f cdv A outer s H E) (defBody st) t ∧ ∀ μ ds post exc, ds.length = ps.length → Pd μ ds post exc → GS K (fun cls d _ H => E cls d H) (fun m _ C d => exc m C d) μ (startD N ds) t { nx := fun m _ => post m .non, rt := post }) :
    CallC P w K mg base (L2.CX P w) (k + 1) qual C st ps (spD K ps.length Pd) := ⟨f, fd, h1, h2, h3, F, def_okX F S (hb f), F.binds hbi⟩
theorem CallC.imp {P : Program} {w : World} {K : PySem.W.Frag} {mg : Str → Option Value} {base : Heap} {CX : CXT} {k n : Nat} {qual : Str} {C : Addr} {st : Stmt} {ps : List Str} {P1 P2 : PD} (c : CallC P w K mg base CX k qual C st ps (spD K n P1)) (h : ∀ μ ds post exc, P2 μ ds post exc → P1 μ ds post exc) : CallC P w K mg base CX k qual C st ps (spD K n P2) := by
  obtain ⟨f, fd, h1, h2, h3, F, G, b⟩ := c.ex
  exact ⟨f, fd, h1, h2, h3, F, fn_imp G h, b⟩
theorem Call_kw {prog : Program} {w : World} {A : Around} {env : Env} {s : Shared} {E : Value → Shared → Prop} {func : Expr} {args : List Expr} {kws : List Keyword} {pos : Pos} {Q : Value → Shared → Prop}
    (hf : wpAny (model prog w) A (eval func env) (fun f s1 => wpAny (model prog w) A (callWith pos f [] (backTo pos (starEach args env)) (backToKw pos (keywordEach kws env))) Q E s1) E s)
    (ht : eval (.Call func args kws pos) env = (do callWith pos (← eval func env) [] (backTo pos (starEach args env)) (backToKw pos (keywordEach kws env)))) : wpAny (model prog w) A (eval (.Call func args kws pos) env) Q E s := by
  rw [ht]
  exact wpAny_bind hf
/-- the call's node where the callee is an instance, keywords too -/
theorem callO_kw {M : Model} {A : Around} {E : Value → Shared → Prop} {s : Shared} {a : Addr} {pos : Pos} {Q : Value → Shared → Prop} {args : List (Bool × Sem Value)} {kws : List (Option Str × Sem Value)} (hplain : (args.any (·.1) || kws.any (·.1.isNone)) = false)
    (h : wpAny M A (evalArgs (.ref a) true args kws) (fun z s₁ => (∃ C ox od, PySem.W.InstAt s₁.heap a ox C od ∧ ox.data = .plain) ∧ wpAny M A (call (.ref a) ([] ++ z.pos) z.kw) Q E s₁) E s) : wpAny M A (callWith pos (.ref a) [] args kws) Q E s := by
  unfold callWith
  refine wpAny_bind (wpAny_holding (wpAny_mono h (fun z s₁ h₁ => wpAny_bind (wpAny_standAt ?_)) fun _ _ y => y))
  obtain ⟨⟨C, ox, od, J, hd⟩, h₁⟩ := h₁
  have L := PySem.W.kco_keeper (M := M) J hd
  simp only [hplain]
  refine wpAny_bind (L.here ?_)
  have tail : ∀ {t : Sem Value}, wpAny M A t Q E s₁ → wpAny M A (t >>= fun r => holding [r] point >>= fun _ => pure r) Q E s₁ :=
    fun ht => wpAny_bind (wpAny_mono ht (fun r s₂ hr => wpAny_bind (wpAny_holding (wpAny_point (wpAny_pure hr)))) fun _ _ y => y)
  exact tail (wpAny_operateT h₁)
section
variable {X : Cx} {CX : CXT} {k j m : Nat} {C : Addr} {qual : Str} {st : Stmt} {fd : FuncData} {ps ks : List Str} {sp : Sp} {E : XK} {fe : Expr} {pos : Pos} {e : Expr} {es : List Expr} {tf : TE} {t tk : TA} {kws : List Keyword} {W : WX} {pm : List Nat}
theorem ins_at {pins : List (Addr × Obj)} {σ : L2.St} {H : Hp} {s : Shared} {a dx : Addr} {fs : List (Str × V)} (I : L2.Inv X pins σ H s) (h : H a = some (.ins C dx fs)) : ∃ ox od, PySem.W.InstAt s.heap a ox C od ∧ ox.data = .plain := by
  obtain ⟨mA, O, _⟩ := ins_get I.hok h
  obtain ⟨od, J, _⟩ := O.look
  exact ⟨_, _, J, rfl⟩
def tCallOS (C : Addr) (sp : Sp) (E : L2.St → XK) (tf : TE) (t : TA) : TE := fun σ H Q => tf σ H fun y H1 => ∃ a, y = V.ref a ∧ t σ H1 fun vs H2 => (∃ dx fs, H2 a = some (.ins C dx fs)) ∧ sp (V.ref a :: vs) H2 Q (E σ)
theorem pe_callOS {ES : L2.St → XK} (hf : PE X fe tf) (c : CallC X.prog X.w X.K X.mg X.base CX k qual C st ps sp) (hr : Room j X.A) (hj : k ≤ j) (hx : ∀ σ, PassesAt CX X σ (ES σ)) (ha : PA X (e :: es) t)
    (ht : eval (.Call fe (e :: es) [] pos) X.env = (do callWith pos (← eval fe X.env) [] (backTo pos (starEach (e :: es) X.env)) (backToKw pos (keywordEach [] X.env))) := by rfl)
    (he : starEach (e :: es) X.env = (false, eval e X.env) :: starEach es X.env := by rfl) (hpl : (backTo pos (starEach es X.env)).any (·.1) = false := by rfl) : PE X (.Call fe (e :: es) [] pos) (tCallOS C sp ES tf t) := by
  obtain ⟨g, fd, h1, h2, h3, _, F, b⟩ := c.ex
  refine ⟨fun pins s σ H Q I h => ?_⟩
  refine Call_ (thn (hf.run pins s σ H _ I h) fun u s1 ⟨y, H1, I1, ry, a, ey, q⟩ => ?_) ht
  subst ey
  obtain rfl : u = Value.ref a := ry
  refine StX.callO_with (thn (ha.run pos pins s1 σ H1 _ I1 q) fun us s2 ⟨vs, H2, I2, r, ⟨dx, fs, hi⟩, q2⟩ => ?_) he hpl
  obtain ⟨ox, od, J, hd⟩ := ins_at I2 hi
  refine ⟨⟨C, ox, od, J, hd⟩, wpAny_call (PySem.W.kco_code I2.kIn J hd h1 h2 h3 ?_)⟩
  have r2 : Vals (V.ref a :: vs) (Value.ref a :: us) := .cons rfl r
  have hl : (Value.ref a :: us ++ []).length = ps.length := by
    rw [List.append_nil]
    have e := r2.length
    rw [F.len _ _ _ _ q2] at e
    exact e.symm
  have hbb := b _ (Value.ref a :: us) I2.kIn hl
  rw [List.append_nil] at hbb
  refine codeAny_mono (F.run X.A X.stack s2 H2 ⟨Value.ref a :: us, []⟩ (Value.ref a :: us) _ Q (ES σ) (hr.mono hj) I2.env0 hbb r2 q2) fun r s' hq => ?_
  rcases r with e | (_ | _ | _ | u)
  · exact hx σ pins H2 s2 e s' I2 hq
  · exact False.elim hq
  · exact False.elim hq
  · exact False.elim hq
  · exact I2.after hq
def tCallOK (C : Addr) (sp : Sp) (gV : List V → List V → List V) (E : L2.St → XK) (n : Nat) (tf : TE) (tk : TA) : TE := fun σ H Q => tf σ H fun y H1 => ∃ a, y = V.ref a ∧ tk σ H1 fun zs H2 => zs.length = n ∧ (∃ dx fs, H2 a = some (.ins C dx fs)) ∧ sp (gV [V.ref a] zs) H2 Q (E σ)
theorem pe_callOK {ES : L2.St → XK} (hf : PE X fe tf) (c : CallC X.prog X.w X.K X.mg X.base CX k qual C st ps sp) (hr : Room j X.A) (hj : k ≤ j) (hx : ∀ σ, PassesAt CX X σ (ES σ)) (hm : ks.length = m)
    (h : ∀ (kV doc pv : Value) (an : Option Addr) (cdv ct : Value) (us ws : List Value), us.length = 1 → ws.length = m → bindArgs (PySem.W.fnOf "__call__" qual (defArgs st) (defBody st) (defScope st) .none kV doc pv an cdv ct) ⟨us, ks.zip ws⟩ = pure (ps.zip (pm.filterMap fun i => (us ++ ws)[i]?)))
    (hkw : PK X kws tk)
    (ht : eval (.Call fe [] kws pos) X.env = (do callWith pos (← eval fe X.env) [] (backTo pos (starEach [] X.env)) (backToKw pos (keywordEach kws X.env))) := by rfl)
    (hall : (backToKw pos (keywordEach kws X.env)).all (·.1.isSome) = true := by rfl) (hks : (backToKw pos (keywordEach kws X.env)).filterMap (·.1) = ks := by rfl)
    (hn : ((backTo pos (starEach [] X.env)).any (·.1) || (backToKw pos (keywordEach kws X.env)).any (·.1.isNone)) = false := by rfl) :
    PE X (.Call fe [] kws pos) (tCallOK C sp (permG 1 m pm) ES m tf tk) := by
  obtain ⟨g, fd, h1, h2, h3, Ff, F, b⟩ := c.ex
  refine ⟨fun pins s σ H Q I h0 => ?_⟩
  refine Call_kw (thn (hf.run pins s σ H _ I h0) fun u s1 ⟨y, H1, I1, ry, a, ey, q⟩ => ?_) ht
  subst ey
  obtain rfl : u = Value.ref a := ry
  refine callO_kw hn (PyProof.Rows.evalArgs_kw2_nil hall (thn (hkw.run pos pins s1 σ H1 _ I1 q) fun ws s2 ⟨zs, H2, I2, rz, hz, ⟨dx, fs, hi⟩, q2⟩ => ?_))
  obtain ⟨ox, od, J, hd⟩ := ins_at I2 hi
  refine ⟨⟨C, ox, od, J, hd⟩, wpAny_call (PySem.W.kco_code I2.kIn J hd h1 h2 h3 ?_)⟩
  have kb := kbn_of (n := 1) (m := m) (pm := pm) (ks := ks) Ff hm h
  rw [hks]
  have r1 : Vals [V.ref a] [Value.ref a] := .cons rfl .nil
  refine codeAny_mono (F.run X.A X.stack s2 H2 ⟨[Value.ref a], ks.zip ws⟩ _ _ Q (ES σ) (hr.mono hj) I2.env0 (kb.to _ [Value.ref a] ws I2.kIn rfl (by rw [← rz.length, hz, hm])) (kb.rel r1 rz) q2) fun r s' hq => ?_
  rcases r with e | (_ | _ | _ | u)
  · exact hx σ pins H2 s2 e s' I2 hq
  · exact False.elim hq
  · exact False.elim hq
  · exact False.elim hq
  · exact I2.after hq
theorem pe_oS (hf : PE X fe tf) (c : CallC X.prog X.w X.K X.mg X.base (L2.CX X.prog X.w) k qual C st ps sp) (hr : Room j X.A) (hj : k ≤ j) (tw : Takes X W) (ha : PA X (e :: es) t)
    (ht : eval (.Call fe (e :: es) [] pos) X.env = (do callWith pos (← eval fe X.env) [] (backTo pos (starEach (e :: es) X.env)) (backToKw pos (keywordEach [] X.env))) := by rfl)
    (he : starEach (e :: es) X.env = (false, eval e X.env) :: starEach es X.env := by rfl) (hpl : (backTo pos (starEach es X.env)).any (·.1) = false := by rfl) : PE X (.Call fe (e :: es) [] pos) (tCallOS C sp (WE W) tf t) :=
  pe_callOS hf c hr hj (fun σ => passAt tw σ) ha ht he hpl
theorem pe_oK (hf : PE X fe tf) (c : CallC X.prog X.w X.K X.mg X.base (L2.CX X.prog X.w) k qual C st ps sp) (hr : Room j X.A) (hj : k ≤ j) (tw : Takes X W) (hm : ks.length = m)
    (h : ∀ (kV doc pv : Value) (an : Option Addr) (cdv ct : Value) (us ws : List Value), us.length = 1 → ws.length = m → bindArgs (PySem.W.fnOf "__call__" qual (defArgs st) (defBody st) (defScope st) .none kV doc pv an cdv ct) ⟨us, ks.zip ws⟩ = pure (ps.zip (pm.filterMap fun i => (us ++ ws)[i]?)))
    (hkw : PK X kws tk)
    (ht : eval (.Call fe [] kws pos) X.env = (do callWith pos (← eval fe X.env) [] (backTo pos (starEach [] X.env)) (backToKw pos (keywordEach kws X.env))) := by rfl)
    (hall : (backToKw pos (keywordEach kws X.env)).all (·.1.isSome) = true := by rfl) (hks : (backToKw pos (keywordEach kws X.env)).filterMap (·.1) = ks := by rfl)
    (hn : ((backTo pos (starEach [] X.env)).any (·.1) || (backToKw pos (keywordEach kws X.env)).any (·.1.isNone)) = false := by rfl) :
    PE X (.Call fe [] kws pos) (tCallOK C sp (permG 1 m pm) (WE W) m tf tk) :=
  pe_callOK hf c hr hj (fun σ => passAt tw σ) hm h hkw ht hall hks hn
end
section
variable {K : PySem.W.Frag} {W : WX} {X : XD} {μ : Mu} {ρ : Ro} {Φ : DP} {C : Addr} {n m a b : Nat} {pm : List Nat} {P : PD} {tf : TE} {t tk : TA}
theorem ref_of {C' : Addr} {x : D} {v : V} {H : Hp} {fs : List Str} {es : List D} (m : Mem K μ H) (hx : ObjD μ x C' fs es) (dv : Den K μ H x v) : ∃ p, v = .ref p := by
  obtain ⟨p, _, _, e, _⟩ := hx.hp m dv
  exact ⟨p, e⟩
theorem evx_oS (h : EvX K W X μ ρ tf fun μ0 x => (∃ C' fs es, ObjD μ0 x C' fs es) ∧ EvL K W X μ0 ρ t fun μ1 ds => (∃ fs es, ObjD μ1 x C fs es) ∧ ds.length + 1 = n ∧ P μ1 (x :: ds) Φ fun μ' A d => X μ' ρ A d) : EvX K W X μ ρ (tCallOS C (spD K n P) (WE W) tf t) Φ := fun σ H Q m0 e l k =>
  h σ H _ m0 e l fun μ1 x v H1 ⟨⟨C', fs', es', ho⟩, h1⟩ g1 m1 d1 => by
    obtain ⟨p, e1⟩ := ref_of m1 ho d1
    refine ⟨p, e1, h1 σ H1 _ m1 (e.grow g1) (l.grow g1) fun μ2 ds vs H2 ⟨⟨fs, es, ho2⟩, hl, hp⟩ g2 m2 d2 => ?_⟩
    subst e1
    have dx := Den.grow g2 _ _ d1
    obtain ⟨p', dx', gs, e2, hi⟩ := obj_at m2 ho2 dx
    cases e2
    have gg := g1.trans g2
    exact ⟨⟨dx', gs, hi⟩, μ2, x :: ds, Φ, _, m2, DenL.cons dx d2, by rw [List.length_cons]; exact hl, hp, fun μ' d v H' p g => k μ' d v H' p (gg.trans g), fun μ' A d dx v H' p g mm => l μ' ρ A d dx v σ H' p (gg.trans g) mm ((e.grow gg).grow g)⟩
theorem evx_oK (h : EvX K W X μ ρ tf fun μ0 x => (∃ C' fs es, ObjD μ0 x C' fs es) ∧ EvL K W X μ0 ρ tk fun μ1 ds => ds.length = m ∧ (∃ fs es, ObjD μ1 x C fs es) ∧ (permG a b pm [x] ds).length = n ∧ P μ1 (permG a b pm [x] ds) Φ fun μ' A d => X μ' ρ A d) : EvX K W X μ ρ (tCallOK C (spD K n P) (permG a b pm) (WE W) m tf tk) Φ := fun σ H Q m0 e l k =>
  h σ H _ m0 e l fun μ1 x v H1 ⟨⟨C', fs', es', ho⟩, h1⟩ g1 m1 d1 => by
    obtain ⟨p, e1⟩ := ref_of m1 ho d1
    refine ⟨p, e1, h1 σ H1 _ m1 (e.grow g1) (l.grow g1) fun μ2 ds vs H2 ⟨hm, ⟨fs, es, ho2⟩, hl, hp⟩ g2 m2 d2 => ?_⟩
    subst e1
    have dx := Den.grow g2 _ _ d1
    obtain ⟨p', dx', gs, e2, hi⟩ := obj_at m2 ho2 dx
    cases e2
    have gg := g1.trans g2
    exact ⟨by rw [← d2.length]; exact hm, ⟨dx', gs, hi⟩, μ2, _, Φ, _, m2, permG_den (DenL.cons dx DenL.nil) d2, hl, hp, fun μ' d v H' p g => k μ' d v H' p (gg.trans g), fun μ' A d dx v H' p g mm => l μ' ρ A d dx v σ H' p (gg.trans g) mm ((e.grow gg).grow g)⟩
end
section
variable {K : PySem.W.Frag} {μ : Mu} {x y : D} {Φ : DP} {xs ys : List D}
/-- [..] * n, a list that will change -/
theorem opx_repM {n : Int} (hx : Real μ x xs) (h1 : -(2 ^ 63) ≤ n) (h2 : n < 2 ^ 63) (hl : xs.length * n.toNat ≤ 1000000) (h : ∀ p, μ p = none → Φ (mput μ p (.lst (List.replicate n.toNat xs).flatten)) (.at p)) : OpX K rRep μ x (.int n) Φ := fun H v w Q m a b k => by
  obtain ⟨p, us, e1, q1, b1⟩ := hx.hp m a
  subst e1
  unfold Den at b
  exact ⟨p, n, us, rfl, b, q1, h1, h2, by rw [← b1.length]; exact Nat.le_trans hl (by decide), fun p' hp => k _ _ _ _ (h p' (m.free hp)) (Grow.newM hp) (m.newM hp ⟨_, upd_same, DenL.grow (Grow.newM hp) _ _ (b1.rep _)⟩) (by unfold Den; rfl)⟩
/-- xs + ys, a list that will change -/
theorem opx_catM (hx : Real μ x xs) (hy : Real μ y ys) (hl : xs.length + ys.length ≤ 1000000) (h : ∀ p, μ p = none → Φ (mput μ p (.lst (xs ++ ys))) (.at p)) : OpX K rCat μ x y Φ := fun H v w Q m a b k => by
  obtain ⟨p, us, e1, q1, b1⟩ := hx.hp m a
  obtain ⟨p2, us2, e2, q2, b2⟩ := hy.hp m b
  subst e1 e2
  exact ⟨p, p2, us, us2, rfl, rfl, q1, q2, by rw [← b1.length, ← b2.length]; exact Nat.le_trans hl (by decide), fun p' hp => k _ _ _ _ (h p' (m.free hp)) (Grow.newM hp) (m.newM hp ⟨_, upd_same, DenL.grow (Grow.newM hp) _ _ (b1.append b2)⟩) (by unfold Den; rfl)⟩
end
theorem rep_flat {α : Type} (n : Nat) (x : α) : (List.replicate n [x]).flatten = List.replicate n x := by
  induction n with
  | zero => rfl
  | succ n ih => rw [List.replicate_succ, List.flatten_cons, ih, List.replicate_succ]; rfl
theorem mcut_put {μ : Mu} {p : Addr} {o : MO} (h : μ p = none) : mcut (mput μ p o) p = μ := by
  funext b
  by_cases hb : b = p
  · subst hb; rw [mcut_same, h]
  · rw [mcut_ne hb, mput_ne hb]
theorem mput_put {μ : Mu} {p : Addr} {o o' : MO} : mput (mput μ p o) p o' = mput μ p o' := by
  funext b
  by_cases hb : b = p
  · subst hb; rw [mput_same, mput_same]
  · rw [mput_ne hb, mput_ne hb, mput_ne hb]
/-! ### a def that may raise, where it raises nothing -/
section
variable {P : Program} {w : World} {K : PySem.W.Frag} {mg : Str → Option Value} {base : Heap} {k n : Nat} {f C : Addr} {fd : FuncData} {ps : List Str} {Pd P0 : PD} {x qual m : Str} {st : Stmt}
theorem fnX_0 (F : FnOk P w K mg base (L2.CX P w) k f fd ps (spD K n Pd)) (h : ∀ μ ds post exc, P0 μ ds post exc → Pd μ ds post excN) : FnOk P w K mg base CX0 k f fd ps (spD K n P0) := by
  have key : ∀ vs H Q E, spD K n P0 vs H Q E → spD K n Pd vs H Q fun _ _ _ => False := fun vs H Q E ⟨μ, ds, post, exc, m, d, hl, hp, h1, _⟩ => ⟨μ, ds, post, excN, m, d, hl, h _ _ _ _ hp, h1, fun _ _ _ _ _ _ z => z.elim⟩
  refine ⟨fun vs H Q E hs => F.len _ _ _ _ (key vs H Q E hs), fun A outer s H args us vs Q E hr he hb hv hs => ?_⟩
  refine codeAny_mono (F.run A outer s H args us vs Q _ hr he hb hv (key vs H Q E hs)) fun r s' hq => ?_
  cases r with
  | error e =>
    obtain ⟨_, _, _, _, _, _, _, _, _, _, _, _, hE⟩ := hq
    exact hE.elim
  | ok fl => cases fl <;> exact hq
theorem Cal.to0 (c : Cal P w K mg base (L2.CX P w) k x st ps (spD K n Pd)) (h : ∀ μ ds post exc, P0 μ ds post exc → Pd μ ds post excN) : Cal P w K mg base CX0 k x st ps (spD K n P0) := by
  obtain ⟨f, fd, h1, F, G, b⟩ := c.ex
  exact ⟨f, fd, h1, F, fnX_0 G h, b⟩
theorem MkC.to0 (c : MkC P w K mg base (L2.CX P w) k x qual C st ps (spD K n Pd)) (h : ∀ μ ds post exc, P0 μ ds post exc → Pd μ ds post excN) : MkC P w K mg base CX0 k x qual C st ps (spD K n P0) := by
  obtain ⟨f, fd, h1, M, F, G, b⟩ := c.ex
  exact ⟨f, fd, h1, M, F, fnX_0 G h, b⟩
theorem Met.to0 (c : Met P w K mg base (L2.CX P w) k C m ps (spD K n Pd)) (h : ∀ μ ds post exc, P0 μ ds post exc → Pd μ ds post excN) : Met P w K mg base CX0 k C m ps (spD K n P0) := by
  obtain ⟨f, fd, h1, h2, h3, G, b⟩ := c.ex
  exact ⟨f, fd, h1, h2, h3, fnX_0 G h, b⟩
theorem CallC.to0 (c : CallC P w K mg base (L2.CX P w) k qual C st ps (spD K n Pd)) (h : ∀ μ ds post exc, P0 μ ds post exc → Pd μ ds post excN) : CallC P w K mg base CX0 k qual C st ps (spD K n P0) := by
  obtain ⟨f, fd, h1, h2, h3, F, G, b⟩ := c.ex
  exact ⟨f, fd, h1, h2, h3, F, fnX_0 G h, b⟩
end
section
variable {X : Cx} {k j m : Nat} {C : Addr} {qual : Str} {st : Stmt} {ps ks : List Str} {sp : Sp} {fe : Expr} {pos : Pos} {e : Expr} {es : List Expr} {tf : TE} {t tk : TA} {kws : List Keyword} {pm : List Nat}
/-- o(e, ..), no error leaves it -/
theorem pe_o0 (hf : PE X fe tf) (c : CallC X.prog X.w X.K X.mg X.base CX0 k qual C st ps sp) (hr : Room j X.A) (hj : k ≤ j) (ha : PA X (e :: es) t)
    (ht : eval (.Call fe (e :: es) [] pos) X.env = (do callWith pos (← eval fe X.env) [] (backTo pos (starEach (e :: es) X.env)) (backToKw pos (keywordEach [] X.env))) := by rfl)
    (he : starEach (e :: es) X.env = (false, eval e X.env) :: starEach es X.env := by rfl) (hpl : (backTo pos (starEach es X.env)).any (·.1) = false := by rfl) : PE X (.Call fe (e :: es) [] pos) (tCallOS C sp (fun _ => E0) tf t) :=
  pe_callOS hf c hr hj (fun σ pins H s e s' I q => q.elim) ha ht he hpl
theorem pe_oK0 (hf : PE X fe tf) (c : CallC X.prog X.w X.K X.mg X.base CX0 k qual C st ps sp) (hr : Room j X.A) (hj : k ≤ j) (hm : ks.length = m)
    (h : ∀ (kV doc pv : Value) (an : Option Addr) (cdv ct : Value) (us ws : List Value), us.length = 1 → ws.length = m → bindArgs (PySem.W.fnOf "__call__" qual (defArgs st) (defBody st) (defScope st) .none kV doc pv an cdv ct) ⟨us, ks.zip ws⟩ = pure (ps.zip (pm.filterMap fun i => (us ++ ws)[i]?)))
    (hkw : PK X kws tk)
    (ht : eval (.Call fe [] kws pos) X.env = (do callWith pos (← eval fe X.env) [] (backTo pos (starEach [] X.env)) (backToKw pos (keywordEach kws X.env))) := by rfl)
    (hall : (backToKw pos (keywordEach kws X.env)).all (·.1.isSome) = true := by rfl) (hks : (backToKw pos (keywordEach kws X.env)).filterMap (·.1) = ks := by rfl)
    (hn : ((backTo pos (starEach [] X.env)).any (·.1) || (backToKw pos (keywordEach kws X.env)).any (·.1.isNone)) = false := by rfl) :
    PE X (.Call fe [] kws pos) (tCallOK C sp (permG 1 m pm) (fun _ => E0) m tf tk) :=
  pe_callOK hf c hr hj (fun σ pins H s e s' I q => q.elim) hm h hkw ht hall hks hn
end
section
variable {K : PySem.W.Frag} {W : WX} {X : XD} {μ : Mu} {ρ : Ro} {Φ : DP} {C : Addr} {n m a b : Nat} {pm : List Nat} {P : PD} {tf : TE} {t tk : TA}
theorem evx_o0 (h : EvX K W X μ ρ tf fun μ0 x => (∃ C' fs es, ObjD μ0 x C' fs es) ∧ EvL K W X μ0 ρ t fun μ1 ds => (∃ fs es, ObjD μ1 x C fs es) ∧ ds.length + 1 = n ∧ P μ1 (x :: ds) Φ excN) : EvX K W X μ ρ (tCallOS C (spD K n P) (fun _ => E0) tf t) Φ := fun σ H Q m0 e l k =>
  h σ H _ m0 e l fun μ1 x v H1 ⟨⟨C', fs', es', ho⟩, h1⟩ g1 m1 d1 => by
    obtain ⟨p, e1⟩ := ref_of m1 ho d1
    refine ⟨p, e1, h1 σ H1 _ m1 (e.grow g1) (l.grow g1) fun μ2 ds vs H2 ⟨⟨fs, es, ho2⟩, hl, hp⟩ g2 m2 d2 => ?_⟩
    subst e1
    have dx := Den.grow g2 _ _ d1
    obtain ⟨p', dx', gs, e2, hi⟩ := obj_at m2 ho2 dx
    cases e2
    have gg := g1.trans g2
    exact ⟨⟨dx', gs, hi⟩, μ2, x :: ds, Φ, _, m2, DenL.cons dx d2, by rw [List.length_cons]; exact hl, hp, fun μ' d v H' p g => k μ' d v H' p (gg.trans g), fun _ _ _ _ _ _ z => z.elim⟩
theorem evx_oK0 (h : EvX K W X μ ρ tf fun μ0 x => (∃ C' fs es, ObjD μ0 x C' fs es) ∧ EvL K W X μ0 ρ tk fun μ1 ds => ds.length = m ∧ (∃ fs es, ObjD μ1 x C fs es) ∧ (permG a b pm [x] ds).length = n ∧ P μ1 (permG a b pm [x] ds) Φ excN) : EvX K W X μ ρ (tCallOK C (spD K n P) (permG a b pm) (fun _ => E0) m tf tk) Φ := fun σ H Q m0 e l k =>
  h σ H _ m0 e l fun μ1 x v H1 ⟨⟨C', fs', es', ho⟩, h1⟩ g1 m1 d1 => by
    obtain ⟨p, e1⟩ := ref_of m1 ho d1
    refine ⟨p, e1, h1 σ H1 _ m1 (e.grow g1) (l.grow g1) fun μ2 ds vs H2 ⟨hm, ⟨fs, es, ho2⟩, hl, hp⟩ g2 m2 d2 => ?_⟩
    subst e1
    have dx := Den.grow g2 _ _ d1
    obtain ⟨p', dx', gs, e2, hi⟩ := obj_at m2 ho2 dx
    cases e2
    have gg := g1.trans g2
    exact ⟨by rw [← d2.length]; exact hm, ⟨dx', gs, hi⟩, μ2, _, Φ, _, m2, permG_den (DenL.cons dx DenL.nil) d2, hl, hp, fun μ' d v H' p g => k μ' d v H' p (gg.trans g), fun _ _ _ _ _ _ z => z.elim⟩
end
/-! ### text * int -/
def rMulS : R2 := fun x y H Q => ∃ a n, x = .str a ∧ y = .int n ∧ MulOk a n ∧ Q (.str (Txt.mul a n)) H
theorem op_mulS {X : Cx} : OpR X (binaryOp .Mult) rMulS := by
  intro pins s σ H x y v u Q I rx ry h
  obtain ⟨a, n, rfl, rfl, hz, q⟩ := h
  obtain ⟨t, rfl⟩ := rx
  obtain ⟨t', rfl⟩ := ry
  exact SB.mul hz fun t' tk => ⟨.str _, H, I.tok _, ⟨_, rfl⟩, q⟩
theorem mulOk {a : Str} {n : Int} (h0 : 0 ≤ n) (h1 : n ≤ 10000) (h2 : a.length ≤ 1000) : MulOk a n := by
  refine ⟨?_, fun h _ => ?_, fun h _ => ?_⟩
  · rw [Bool.or_eq_false_iff, decide_eq_false_iff_not, decide_eq_false_iff_not]
    omega
  · have h3 : (1000 : Int) ≤ (2 ^ 63 - 1) / n := by
      rw [Int.le_ediv_iff_mul_le (by omega)]
      omega
    omega
  · have h3 : a.length * n.toNat ≤ 1000 * 10000 := Nat.mul_le_mul h2 (by omega)
    unfold Builtin.Str.tooLong
    rw [decide_eq_false_iff_not]
    have e : sizeLine = 16777216 := by decide
    omega
theorem fold_app (z : Array Nat) : ∀ (n : Nat) (acc : Array Nat), ((List.replicate n z).foldl (· ++ ·) acc).toList = acc.toList ++ (List.replicate n z.toList).flatten
  | 0, acc => by simp
  | n + 1, acc => by
    rw [List.replicate_succ, List.foldl_cons, fold_app z n, List.replicate_succ, List.flatten_cons, Array.toList_append, List.append_assoc]
theorem mul_cps {a : Str} {n : Int} (h0 : 0 ≤ n) : (Txt.mul a n).cps.toList = (List.replicate n.toNat a.cps.toList).flatten := by
  unfold Txt.mul
  by_cases h1 : n < 1
  · rw [if_pos h1]
    have : n.toNat = 0 := by omega
    rw [this]; rfl
  · rw [if_neg h1]
    by_cases h2 : (n == 1 || a.length == 0) = true
    · rw [if_pos h2]
      rw [Bool.or_eq_true, beq_iff_eq, beq_iff_eq] at h2
      rcases h2 with h2 | h2
      · subst h2
        show a.cps.toList = (List.replicate 1 a.cps.toList).flatten
        simp
      · have : a.cps.toList = [] := List.eq_nil_of_length_eq_zero (by rw [Array.length_toList]; exact h2)
        rw [this]
        generalize n.toNat = k
        induction k with
        | zero => rfl
        | succ k ih => rw [List.replicate_succ, List.flatten_cons, ← ih]; rfl
    · rw [if_neg h2]
      have := fold_app a.cps n.toNat #[]
      simpa using this
section
variable {K : PySem.W.Frag} {μ : Mu} {x y : D} {Φ : DP} {xs ys : List D}
theorem opx_mulS {a : Str} {n : Int} (h0 : 0 ≤ n) (h1 : n ≤ 10000) (h2 : a.length ≤ 1000) (h : Φ μ (.str (Txt.mul a n))) : OpX K rMulS μ (.str a) (.int n) Φ := fun H v w Q m p q k => by
  unfold Den at p q
  exact ⟨a, n, p, q, mulOk h0 h1 h2, k μ _ _ H h (Grow.refl _ _) m (by unfold Den; rfl)⟩
/-- a tuple + a tuple -/
theorem opx_catT {x1 : D} (hl : (x1 :: xs).length + ys.length ≤ 1000000) (h : Φ μ (.tup ((x1 :: xs) ++ ys))) : OpX K (rCatT K) μ (.tup (x1 :: xs)) (.tup ys) Φ := fun H v w Q m a b k => by
  unfold Den at a b
  obtain ⟨p, us, e1, s1, b1⟩ := a
  obtain ⟨q, ws, e2, s2, b2⟩ := b
  subst e1 e2
  have l1 := b1.length
  have l2 := b2.length
  refine ⟨p, q, us, ws, rfl, rfl, s1.sq, s2.sq, ?_, by rw [← l1, ← l2]; exact Nat.le_trans hl (by decide), fun hy => ?_, fun _ p' hp => ?_⟩
  · intro z
    rw [z] at l1
    exact nomatch l1
  · subst hy
    have : ys = [] := List.eq_nil_of_length_eq_zero l2
    subst this
    rw [List.append_nil] at h
    exact k μ _ _ H h (Grow.refl _ _) m (by unfold Den; exact ⟨p, us, rfl, s1, b1⟩)
  · exact k μ _ _ _ h (Grow.new hp) (m.new hp) (by
      unfold Den
      exact ⟨p', _, rfl, .inl ⟨m.free hp, .inl upd_same⟩, DenL.grow (Grow.new hp) _ _ (b1.append b2)⟩)
/-- min of three -/
theorem cax_min3 {i j l : Int} (h : Φ μ (.int (if l < (if j < i then j else i) then l else (if j < i then j else i)))) : CaX K (rNuC3 nuMin3) μ [.int i, .int j, .int l] Φ := fun H vs Q m d k => by
  unfold DenL at d
  obtain ⟨v, ws, e, a, b⟩ := d
  obtain ⟨v2, v3, e2, a2, a3⟩ := denL2 b
  unfold Den at a a2 a3
  subst a a2 a3 e2 e
  refine ⟨_, _, _, .int (if l < (if j < i then j else i) then l else (if j < i then j else i)), rfl, ?_, k μ _ _ H h (Grow.refl _ _) m (by unfold Den; rfl)⟩
  unfold nuMin3 nuMin2 nuLt nuCB
  by_cases h1 : j < i
  · by_cases h2 : l < j
    · simp [h1, h2]
    · simp [h1, h2]
  · by_cases h2 : l < i
    · simp [h1, h2]
    · simp [h1, h2]
end
/-! ### sorted of data -/
def rSortedD (K : PySem.W.Frag) : List V → Hp → VK → Prop := fun xs H Q => ∃ (a : Addr) (vs : List V) (ds : List PyData), xs = [.ref a] ∧ SqL K H a vs ∧ DpAll K H vs ds ∧ PySem.W.AllAlike ds ∧ PySem.W.Sortable ds ∧ (∀ d ∈ ds, d.depth ≤ 60) ∧
  ∀ p, H p = none → Q (.ref p) (upd H p (.lst (((vs.zip ds).mergeSort (PySem.W.dataLe false Prod.snd)).map Prod.fst)))
theorem each_zip {K : PySem.W.Frag} {H : Hp} : ∀ {vs : List V} {us : List Value} {ds : List PyData}, Vals vs us → DpAll K H vs ds → PySem.W.EachIs (fun (u : Value) (b : V × PyData) => RelV b.1 u) us (vs.zip ds) ∧ (vs.zip ds).map Prod.snd = ds ∧ (vs.zip ds).map Prod.fst = vs
  | _, _, _, .nil, .nil => ⟨.nil, rfl, rfl⟩
  | _, _, _, .cons r rs, .cons d dd => by
    obtain ⟨h1, h2, h3⟩ := each_zip rs dd
    exact ⟨.cons r h1, by rw [List.zip_cons_cons, List.map_cons, h2], by rw [List.zip_cons_cons, List.map_cons, h3]⟩
theorem each_reads {X : Cx} {pins : List (Addr × Obj)} {σ : L2.St} {H : Hp} {s : Shared} (I : L2.Inv X pins σ H s) : ∀ {vs : List V} {us : List Value} {ds : List PyData}, Vals vs us → DpAll X.K H vs ds → PySem.W.EachIs (fun (u : Value) (b : V × PyData) => ∃ as, Reads s.heap u b.2 as) us (vs.zip ds)
  | _, _, _, .nil, .nil => .nil
  | _, _, _, .cons r rs, .cons d dd => .cons (Dp.reads I _ _ _ d r) (each_reads I rs dd)
theorem each_vals : ∀ {us : List Value} {bs : List (V × PyData)}, PySem.W.EachIs (fun (u : Value) (b : V × PyData) => RelV b.1 u) us bs → Vals (bs.map Prod.fst) us
  | _, _, .nil => .nil
  | _, _, .cons r rs => .cons r (each_vals rs)
theorem cr_sortedD {X : Cx} (hu : X.A.units + 64 < cLine) : CallR X (.builtin "sorted") (rSortedD X.K) := by
  intro pins s σ H xs us Q I rx h
  obtain ⟨a, vs, ds, rfl, hs, hd, ha, hso, hdep, q⟩ := h
  obtain ⟨u, rfl, r⟩ := vals1 rx
  obtain rfl : u = Value.ref a := r
  obtain ⟨its, rv, ⟨o, n, g1, g2, g3, g4⟩, hl⟩ := I.list hs
  obtain ⟨e1, e2, e3⟩ := each_zip rv hd
  have e4 := each_reads I rv hd
  refine PySem.W.sorted_data (vs := its) (bs := vs.zip ds) (enc := Prod.snd) (R := fun u b => RelV b.1 u) ⟨o, g1, g2, n, g4⟩ e1 e4 (by rw [e2]; exact ha) (by rw [e2]; exact hso) ?_ (fun b hb => ?_) fun out hlen he => ?_
  · have e := congrArg List.length e3
    rw [List.length_map] at e
    rw [e]; exact hl
  · have : b.2 ∈ ds := by rw [← e2]; exact List.mem_map.mpr ⟨b, hb, rfl⟩
    have := hdep _ this
    show X.A.units + 2 + _ < cLine
    omega
  · have hv := each_vals he
    have hf : H (s.heap.objs.size + 1) = none := by
      cases hx : H (s.heap.objs.size + 1) with
      | none => rfl
      | some o => exact absurd (I.hok.lt hx) (Nat.not_lt.mpr (Nat.le_succ _))
    refine ⟨.ref (s.heap.objs.size + 1), _, I.laid (fun b u hb => sortedAll_old hb) (Nat.le_succ _) (o := .lst _) ?_, rfl, q _ hf⟩
    obtain ⟨e, he⟩ := sortedAll_at s.heap its out.toArray
    unfold ObjOk
    refine ⟨?_, out, e, hv, he⟩
    rw [List.length_map, List.length_mergeSort]
    have e := congrArg List.length e3
    rw [List.length_map] at e
    rw [e]; exact hl
section
variable {K : PySem.W.Frag} {W : WX} {X : XD} {μ μ' : Mu} {H H' : Hp} {Φ : DP} {x : D} {ds : List D}
theorem dps_of {pd : D → PyData} : ∀ {ds : List D} {vs : List V}, (∀ d ∈ ds, ∀ v, Den K μ H d v → Dp K H v (pd d)) → DenL K μ H ds vs → DpAll K H vs (ds.map pd)
  | [], vs, _, h => by unfold DenL at h; subst h; exact .nil
  | d :: ds, vs, hp, h => by
    unfold DenL at h
    obtain ⟨w, ws, e, a, b⟩ := h
    subst e
    exact .cons (hp d (List.mem_cons_self ..) w a) (dps_of (fun e he => hp e (List.mem_cons_of_mem _ he)) b)
theorem zip_maps {pd : D → PyData} : ∀ {ds : List D} {vs : List V}, DenL K μ H ds vs → vs.zip (ds.map pd) = (vs.zip ds).map (fun t => (t.1, pd t.2)) ∧ (vs.zip ds).map Prod.snd = ds ∧ ∀ t ∈ vs.zip ds, Den K μ H t.2 t.1
  | [], vs, h => by unfold DenL at h; subst h; exact ⟨rfl, rfl, fun _ h => nomatch h⟩
  | d :: ds, vs, h => by
    unfold DenL at h
    obtain ⟨w, ws, e, a, b⟩ := h
    subst e
    obtain ⟨h1, h2, h3⟩ := zip_maps (pd := pd) b
    refine ⟨by rw [List.map_cons, List.zip_cons_cons, List.zip_cons_cons, List.map_cons, h1], by rw [List.zip_cons_cons, List.map_cons, h2], fun t ht => ?_⟩
    rw [List.zip_cons_cons] at ht
    rcases List.mem_cons.mp ht with rfl | ht
    · exact a
    · exact h3 t ht
theorem denL_ts : ∀ {ts : List (V × D)}, (∀ t ∈ ts, Den K μ H t.2 t.1) → DenL K μ H (ts.map Prod.snd) (ts.map Prod.fst)
  | [], _ => by unfold DenL; rfl
  | t :: ts, h => by
    rw [List.map_cons, List.map_cons]
    exact DenL.cons (h t (List.mem_cons_self ..)) (denL_ts fun e he => h e (List.mem_cons_of_mem _ he))
/-- the sorted list -/
def sortD (pd : D → PyData) (ds : List D) : List D := ds.mergeSort (PySem.W.dataLe false pd)
theorem sort_den {pd : D → PyData} {ds : List D} {vs : List V} (h : DenL K μ H ds vs) : DenL K μ H (sortD pd ds) (((vs.zip (ds.map pd)).mergeSort (PySem.W.dataLe false Prod.snd)).map Prod.fst) := by
  obtain ⟨h1, h2, h3⟩ := zip_maps (pd := pd) h
  have e1 : (vs.zip (ds.map pd)).mergeSort (PySem.W.dataLe false Prod.snd) = ((vs.zip ds).mergeSort (fun a b => PySem.W.dataLe false pd a.2 b.2)).map (fun t => (t.1, pd t.2)) := by
    rw [h1]
    exact (PySem.W.sort_maps (r := fun a b => PySem.W.dataLe false pd a.2 b.2) (s := PySem.W.dataLe false Prod.snd) (fun t : V × D => (t.1, pd t.2)) fun a _ b _ => rfl).symm
  have e2 : sortD pd ds = ((vs.zip ds).mergeSort (fun a b => PySem.W.dataLe false pd a.2 b.2)).map Prod.snd := by
    unfold sortD
    conv => lhs; rw [← h2]
    exact (PySem.W.sort_maps (r := fun a b => PySem.W.dataLe false pd a.2 b.2) (s := PySem.W.dataLe false pd) (Prod.snd : V × D → D) fun a _ b _ => rfl).symm
  rw [e1, e2, List.map_map]
  exact denL_ts fun t ht => h3 t (List.mem_mergeSort.mp ht)
theorem cax_sortedD {S : Mu → Prop} (pd : D → PyData) (hd : IsL μ x ds S) (hp : ∀ d ∈ ds, ∀ H v, Mem K μ H → Den K μ H d v → Dp K H v (pd d)) (ha : PySem.W.AllAlike (ds.map pd)) (hs : PySem.W.Sortable (ds.map pd)) (hdep : ∀ d ∈ ds, (pd d).depth ≤ 60) (h : Φ μ (.lst (sortD pd ds))) : CaX K (rSortedD K) μ [x] Φ := fun H vs Q m d k => by
  obtain ⟨v, e, a⟩ := denL1 d
  obtain ⟨p, us, e2, sq, b⟩ := isL_sq m hd a
  subst e2
  exact ⟨p, us, ds.map pd, e, sq, dps_of (fun d hd v hv => hp d hd H v m hv) b, ha, hs, fun d hd => by
    obtain ⟨y, hy, rfl⟩ := List.mem_map.mp hd
    exact hdep y hy, fun l hl => k _ _ _ _ h (Grow.new hl) (m.new hl) (by
    unfold Den
    exact ⟨l, _, rfl, ⟨m.free hl, upd_same⟩, DenL.grow (Grow.new hl) _ _ (sort_den b)⟩)⟩
theorem cax_sortedDM {S : Mu → Prop} (pd : D → PyData) (hd : IsL μ x ds S) (hp : ∀ d ∈ ds, ∀ H v, Mem K μ H → Den K μ H d v → Dp K H v (pd d)) (ha : PySem.W.AllAlike (ds.map pd)) (hs : PySem.W.Sortable (ds.map pd)) (hdep : ∀ d ∈ ds, (pd d).depth ≤ 60) (h : ∀ l, μ l = none → Φ (mput μ l (.lst (sortD pd ds))) (.at l)) : CaX K (rSortedD K) μ [x] Φ := fun H vs Q m d k => by
  obtain ⟨v, e, a⟩ := denL1 d
  obtain ⟨p, us, e2, sq, b⟩ := isL_sq m hd a
  subst e2
  exact ⟨p, us, ds.map pd, e, sq, dps_of (fun d hd v hv => hp d hd H v m hv) b, ha, hs, fun d hd => by
    obtain ⟨y, hy, rfl⟩ := List.mem_map.mp hd
    exact hdep y hy, fun l hl => k _ _ _ _ (h l (m.free hl)) (Grow.newM hl) (m.newM hl ⟨_, upd_same, DenL.grow (Grow.newM hl) _ _ (sort_den b)⟩) (by unfold Den; rfl)⟩
end
/-! ### live data seen as it is now -/
def muN : Mu := fun _ => none
mutual
/-- the data with all lists of the store written out, n deep -/
def seeF (μ : Mu) : Nat → D → D
  | 0, d => d
  | n + 1, .at a => match μ a with
    | some (.lst ds) => .lst (seeFs μ n ds)
    | _ => .at a
  | n + 1, .tup ds => .tup (seeFs μ n ds)
  | n + 1, .lst ds => .lst (seeFs μ n ds)
  | _ + 1, d => d
def seeFs (μ : Mu) : Nat → List D → List D
  | _, [] => []
  | n, d :: ds => seeF μ n d :: seeFs μ n ds
end
theorem seeFs_map (μ : Mu) (n : Nat) : ∀ ds : List D, seeFs μ n ds = ds.map (seeF μ n)
  | [] => by cases n <;> (unfold seeFs; rfl)
  | d :: ds => by
    have ih := seeFs_map μ n ds
    cases n <;> (unfold seeFs; rw [ih]; rfl)
section
variable {K : PySem.W.Frag} {μ μ' : Mu} {H H' : Hp} {W : WX} {X : XD} {ρ : Ro} {Φ : DP} {x y : D} {te : TE} {tr tk : TA} {n : Nat} {P : PD}
theorem less_muN : Less μ muN := fun _ _ => rfl
theorem mem_muN : Mem K muN H := fun a o h => nomatch h
theorem den_seeF (m : Mem K μ H) : ∀ (n : Nat), (∀ (d : D) (v : V), Den K μ H d v → Den K muN H (seeF μ n d) v) ∧ (∀ (ds : List D) (vs : List V), DenL K μ H ds vs → DenL K muN H (seeFs μ n ds) vs) := by
  intro n
  have step : ∀ n, (∀ (d : D) (v : V), Den K μ H d v → Den K muN H (seeF μ n d) v) → ∀ (ds : List D) (vs : List V), DenL K μ H ds vs → DenL K muN H (seeFs μ n ds) vs := by
    intro n hd ds
    rw [seeFs_map]
    induction ds with
    | nil => intro vs h; unfold DenL at h; subst h; exact .nil
    | cons d ds ih =>
      intro vs h
      unfold DenL at h
      obtain ⟨w, ws, e, a, b⟩ := h
      subst e
      exact .cons (hd d w a) (ih ws b)
  induction n with
  | zero =>
    have h0 : ∀ (d : D) (v : V), Den K μ H d v → Den K muN H (seeF μ 0 d) v := fun d v h => by
      unfold seeF; exact Den.less less_muN _ _ h
    exact ⟨h0, step 0 h0⟩
  | succ n ih =>
    have h1 : ∀ (d : D) (v : V), Den K μ H d v → Den K muN H (seeF μ (n + 1) d) v := by
      intro d v h
      cases d with
      | «at» a =>
        unfold seeF
        cases q : μ a with
        | none => exact Den.less less_muN _ _ h
        | some o =>
          cases o with
          | lst ds =>
            obtain ⟨vs, e, b⟩ := m a _ q
            unfold Den at h
            subst h
            show Den K muN H (.lst (seeFs μ n ds)) _
            unfold Den
            exact ⟨a, vs, rfl, ⟨rfl, e⟩, ih.2 ds vs b⟩
          | dct _ _ => exact Den.less less_muN _ _ h
          | obj _ _ _ => exact Den.less less_muN _ _ h
      | tup ds =>
        unfold seeF
        unfold Den at h ⊢
        obtain ⟨p, vs, e, s, b⟩ := h
        refine ⟨p, vs, e, ?_, ih.2 ds vs b⟩
        rcases s with ⟨a, b⟩ | s
        · exact .inl ⟨rfl, b⟩
        · exact .inr s
      | lst ds =>
        unfold seeF
        unfold Den at h ⊢
        obtain ⟨p, vs, e, s, b⟩ := h
        exact ⟨p, vs, e, ⟨rfl, s.2⟩, ih.2 ds vs b⟩
      | _ => unfold seeF; exact Den.less less_muN _ _ h
    exact ⟨h1, step (n + 1) h1⟩
/-- what a value that stands by itself is -/
def scal : D → Bool
  | .non | .bl _ | .int _ | .str _ | .ty _ => true
  | _ => false
theorem den_scal {d : D} {v : V} (h : scal d = true) (a : Den K μ H d v) : Den K μ' H' d v := by
  cases d <;> first | (unfold Den at a ⊢; exact a) | (simp [scal] at h)
theorem mem_whole (m : Mem K μ H) (g : Grow muN H μ' H') : Mem K μ H' := fun a o h => by
  have gg : Grow μ H μ H' := fun b u hb e => ⟨hb, (g b u rfl e).2⟩
  have q := m a o h
  cases o with
  | lst ds =>
    obtain ⟨vs, e, b⟩ := q
    exact ⟨vs, (g a _ rfl e).2, DenL.grow gg _ _ b⟩
  | dct ks ds =>
    obtain ⟨vs, e, n, b⟩ := q
    exact ⟨vs, (g a _ rfl e).2, n, DenL.grow gg _ _ b⟩
  | obj C fs ds =>
    obtain ⟨dx, vs, e, n, b⟩ := q
    exact ⟨dx, vs, (g a _ rfl e).2, n, DenL.grow gg _ _ b⟩
/-- a call that takes live data as they are now, and answers a value that stands by itself -/
theorem evx_callZ (i : Nat) (h : EvL K W X μ ρ tr fun μ1 ds => ds.length = n ∧ P muN (ds.map (seeF μ1 i)) (fun _ d => scal d = true ∧ Φ μ1 d) excN) : EvX K W X μ ρ (tCall (spD K n P) [] E0 tr) Φ := fun σ H Q m e l k =>
  h σ H _ m e l fun μ1 ds vs H1 ⟨hl, hp⟩ g1 m1 d1 => ⟨muN, ds.map (seeF μ1 i), _, excN, mem_muN, by rw [List.append_nil, ← seeFs_map]; exact (den_seeF m1 i).2 _ _ d1, by rw [List.length_map]; exact hl, hp, fun μ' d v H' ⟨hs, hq⟩ g mm dd =>
    k μ1 d v H' hq (g1.trans fun b u hb e => ⟨hb, (g b u rfl e).2⟩) (mem_whole m1 g) (den_scal hs dd), fun _ _ _ _ _ _ z => z.elim⟩
/-- x != y over live data -/
theorem opx_neZ (i : Nat) (hx : Nice 64 (seeF μ i x)) (hy : Nice 64 (seeF μ i y)) (h : Φ μ (.bl (!eqD (seeF μ i x) (seeF μ i y)))) : OpX K (rOr rNe (rNeD K)) μ x y Φ :=
  opx_r fun H v w Q m a b k => ⟨_, _, den_dp _ _ ((den_seeF m i).1 _ _ a) hx.1, den_dp _ _ ((den_seeF m i).1 _ _ b) hy.1, hx.shaped (Nat.le_refl _), hy.shaped (Nat.le_refl _), k μ _ _ H h (Grow.refl _ _) m (by unfold Den; rfl)⟩
theorem opx_eqZ (i : Nat) (hx : Nice 64 (seeF μ i x)) (hy : Nice 64 (seeF μ i y)) (h : Φ μ (.bl (eqD (seeF μ i x) (seeF μ i y)))) : OpX K (rOr rEq (rEqD K)) μ x y Φ :=
  opx_r fun H v w Q m a b k => ⟨_, _, den_dp _ _ ((den_seeF m i).1 _ _ a) hx.1, den_dp _ _ ((den_seeF m i).1 _ _ b) hy.1, hx.shaped (Nat.le_refl _), hy.shaped (Nat.le_refl _), k μ _ _ H h (Grow.refl _ _) m (by unfold Den; rfl)⟩
theorem dp_seeF (i : Nat) {d : D} {v : V} (m : Mem K μ H) (h : Den K μ H d v) (p : plainD (seeF μ i d) = true) : Dp K H v (toP (seeF μ i d)) := den_dp _ _ ((den_seeF m i).1 _ _ h) p
/-- what is told is looked at otherwise: parts of the store are let go -/
theorem evx_less {Ψ : DP} (h : EvX K W X μ ρ te Ψ) (hq : ∀ μ' d, Ψ μ' d → ∃ μ'' d', Less μ' μ'' ∧ (∀ b o, μ'' b = some o → μ' b = some o) ∧ (∀ H v, Mem K μ' H → Den K μ' H d v → Den K μ'' H d' v) ∧ Φ μ'' d') : EvX K W X μ ρ te Φ := fun σ H Q m e l k =>
  h σ H _ m e l fun μ' d v H' p g mm dd => by
    obtain ⟨μ'', d', l1, l2, l3, hφ⟩ := hq μ' d p
    exact k μ'' d' v H' hφ (fun b o hb e => ⟨l1 b (g b o hb e).1, (g b o hb e).2⟩) (mm.less l1 l2) (l3 H' v mm dd)
/-- enumerate of a list -/
def enumD (xs : List D) : List D := xs.zipIdx.map fun p => .tup [.int (p.2 : Nat), p.1]
theorem enumD_len (xs : List D) : (enumD xs).length = xs.length := by unfold enumD; simp
theorem enumD_get {xs : List D} {i : Nat} {d : D} (h : (enumD xs)[i]? = some d) : ∃ x, xs[i]? = some x ∧ d = .tup [.int (i : Nat), x] := by
  unfold enumD at h
  rw [List.getElem?_map, List.getElem?_zipIdx] at h
  cases e : xs[i]? with
  | none => rw [e] at h; cases h
  | some x =>
    rw [e] at h
    simp at h
    exact ⟨x, rfl, h.symm⟩
theorem itx_enum {Ψ : Mu → List D → (Mu → Prop) → Prop} (h : EvL K W X μ ρ tr fun μ1 ds => ∃ a xs S, ds = [a] ∧ IsL μ1 a xs S ∧ (∀ m, S m) ∧ Ψ μ1 (enumD xs) fun _ => True) : ItX K W X μ ρ (iEnum K tr) Ψ := fun σ H R m e l k =>
  h σ H _ m e l fun μ1 ds vs H1 ⟨a, xs, S, hd, ha, hs, hp⟩ g1 m1 d1 => by
    subst hd
    obtain ⟨v1, e2, da⟩ := denL1 d1
    subst e2
    have key : ∃ p vs, v1 = .ref p ∧ StS K μ1 H1 p vs ∧ DenL K μ1 H1 xs vs := by
      rcases ha with ⟨e1 | e1, _⟩ | ⟨a, _, _, hS⟩
      · subst e1; unfold Den at da
        obtain ⟨p, vs, e2, s, b⟩ := da
        exact ⟨p, vs, e2, .inl ⟨s.1, .inl s.2⟩, b⟩
      · subst e1; unfold Den at da; exact da
      · subst hS
        have := hs (fun _ => none)
        cases this
    obtain ⟨p, us, e1, sp, bp⟩ := key
    subst e1
    refine ⟨p, us, rfl, sp.sq, k μ1 _ _ _ H1 hp g1 m1 (itok_pair (n := 0) (xs := fun _ _ => none) (ys := fun _ _ => none) (Y := YPair (fun i => some (V.int ↑i)) fun i => us[i]?) (G := fun H => SqL K H p us) (by rw [enumD_len, bp.length]; exact walk_enum) (fun μ' H' gr mm _ => (gr.stS sp).sq) ?_)⟩
    rintro i μ' H' v H'' d gr mm _ ⟨T, x, y, rfl, hT, rfl, hx, hy⟩ hd
    obtain ⟨dx, ex, rfl⟩ := enumD_get hd
    obtain ⟨u1, q1, r1⟩ := (DenL.grow gr _ _ bp).get ex
    have hy' : us[i]? = some y := hy
    rw [hy'] at q1; cases q1
    have hx' : some (V.int ↑i) = some x := hx
    cases hx'
    exact ⟨T, .int (i : Nat), dx, _, y, rfl, hT, rfl, rfl, by unfold Den; rfl, r1⟩
end
/-! ### methods of own objects: o.m(..), o.m(k = ..) -/
/-- the class has the method m, which keeps its promise; with its text -/
structure MetC (P : Program) (w : World) (K : PySem.W.Frag) (mg : Str → Option Value) (base : Heap) (CX : CXT) (k : Nat) (C : Addr) (m qual : Str) (st : Stmt) (ps : List Str) (sp : Sp) : Prop where
  ex : ∃ (f : Addr) (fd : FuncData), Meth K C m f ∧ Fun K m qual st f fd ∧ FnOk P w K mg base CX k f fd ps sp ∧ Binds K fd ps []
  cl : Cls K C
section
variable {P : Program} {w : World} {K : PySem.W.Frag} {mg : Str → Option Value} {base : Heap} {C : Addr} {m qual : Str} {st : Stmt} {N ps : List Str} {k : Nat}
theorem metC0 {Pd : PD} (h : Mtd K C m qual st) (cl : Cls K C) (S : FnScope N ps (defScope st))
    (hbi : ∀ (kV doc pm : Value) (an : Option Addr) (cdv ct : Value) (us : List Value), us.length = ps.length → bindArgs (PySem.W.fnOf m qual (defArgs st) (defBody st) (defScope st) .none kV doc pm an cdv ct) ⟨us, []⟩ = pure (ps.zip us))
    (hb : ∀ (f : Addr) (cdv : Value) (A : Around) (outer : List Env) (s : Shared) (H : Hp) (E : XK), Room k (A.deeper (envOfC qual (defScope st) s.heap.objs.size f cdv)) →
      ∃ t, PSs (cxOf CX0 P w K mg base N qual (defScope st) f cdv A outer s H E).nox (defBody st) t ∧ ∀ μ ds post exc, ds.length = ps.length → Pd μ ds post exc → GS K WN XN μ (startD N ds) t { nx := fun m _ => post m .non, rt := post }) :
    MetC P w K mg base CX0 (k + 1) C m qual st ps (spD K ps.length Pd) := by
  obtain ⟨f, fd, h1, h2, F⟩ := h
  exact ⟨⟨f, fd, ⟨h1, h2, F.kp⟩, F, def_ok F S (hb f), F.binds hbi⟩, cl⟩
theorem metCX {Pd : PD} (h : Mtd K C m qual st) (cl : Cls K C) (S : FnScope N ps (defScope st))
    (hbi : ∀ (kV doc pm : Value) (an : Option Addr) (cdv ct : Value) (us : List Value), us.length = ps.length → bindArgs (PySem.W.fnOf m qual (defArgs st) (defBody st) (defScope st) .none kV doc pm an cdv ct) ⟨us, []⟩ = pure (ps.zip us))
    (hb : ∀ (f : Addr) (cdv : Value) (A : Around) (outer : List Env) (s : Shared) (H : Hp) (E : XK), Room k (A.deeper (envOfC qual (defScope st) s.heap.objs.size f cdv)) →
      ∃ t, PSs (cxOf (L2.CX P w) P w K mg base N qual (defScope st) f cdv A outer s H E) (defBody st) t ∧ ∀ μ ds post exc, ds.length = ps.length → Pd μ ds post exc → GS K (fun cls d _ H => E cls d H) (fun m _ C d => exc m C d) μ (startD N ds) t { nx := fun m _ => post m .non, rt := post }) :
    MetC P w K mg base (L2.CX P w) (k + 1) C m qual st ps (spD K ps.length Pd) := by
  obtain ⟨f, fd, h1, h2, F⟩ := h
  exact ⟨⟨f, fd, ⟨h1, h2, F.kp⟩, F, def_okX F S (hb f), F.binds hbi⟩, cl⟩
theorem MetC.to0 {n : Nat} {P0 Pd : PD} (c : MetC P w K mg base (L2.CX P w) k C m qual st ps (spD K n Pd)) (h : ∀ μ ds post exc, P0 μ ds post exc → Pd μ ds post excN) : MetC P w K mg base CX0 k C m qual st ps (spD K n P0) := by
  obtain ⟨f, fd, h1, F, G, b⟩ := c.ex
  exact ⟨⟨f, fd, h1, F, fnX_0 G h, b⟩, c.cl⟩
theorem MetC.imp {CX : CXT} {n : Nat} {P1 P2 : PD} (c : MetC P w K mg base CX k C m qual st ps (spD K n P1)) (h : ∀ μ ds post exc, P2 μ ds post exc → P1 μ ds post exc) : MetC P w K mg base CX k C m qual st ps (spD K n P2) := by
  obtain ⟨f, fd, h1, F, G, b⟩ := c.ex
  exact ⟨⟨f, fd, h1, F, fn_imp G h, b⟩, c.cl⟩
end
/-- the call of a method: the object, what is found there, then the arguments -/
theorem meth_kw {M : Model} {A : Around} {env : Env} {s : Shared} {E : Value → Shared → Prop} {o : Expr} {m : Str} {apos pos : Pos} {pl : Sem Bool} {args : List Expr} {kws : List Keyword} {Q : Value → Shared → Prop}
    (hf : wpAny M A (eval o env) (fun ov s1 => wpAny M A (getMethod ov m pl) (fun fx s2 => wpAny M A (callWith pos fx.1 fx.2 (backTo pos (starEach args env)) (backToKw pos (keywordEach kws env))) Q E s2) E s1) E s)
    (ht : eval (.Call (.Attribute o m apos) args kws pos) env = (do
      let ov ← eval o env
      standAt apos.atName
      let __x ← holding [ov] (getMethod ov m pl)
      match __x with
      | (f, first) => callWith pos f first (backTo pos (starEach args env)) (backToKw pos (keywordEach kws env)))) : wpAny M A (eval (.Call (.Attribute o m apos) args kws pos) env) Q E s := by
  rw [ht]
  refine wpAny_bind (wpAny_mono hf (fun ov s1 h1 => wpAny_bind (wpAny_standAt (wpAny_bind (wpAny_holding (wpAny_mono h1 (fun fx s2 h2 => ?_) fun _ _ y => y))))) fun _ _ y => y)
  exact h2
section
variable {X : Cx} {CX : CXT} {k j n : Nat} {C : Addr} {m qual : Str} {st : Stmt} {ps ks : List Str} {sp : Sp} {o : Expr} {pos apos : Pos} {e : Expr} {es : List Expr} {tf : TE} {t tk : TA} {kws : List Keyword} {W : WX} {pm : List Nat} {pl : Sem Bool}
def tMetOS (C : Addr) (m : Str) (sp : Sp) (E : L2.St → XK) (tf : TE) (t : TA) : TE := fun σ H Q => tf σ H fun y H1 => ∃ a dx fs, y = V.ref a ∧ H1 a = some (.ins C dx fs) ∧ fs.lookup m = none ∧ t σ H1 fun vs H2 => sp (V.ref a :: vs) H2 Q (E σ)
def tMetOK (C : Addr) (m : Str) (sp : Sp) (gV : List V → List V → List V) (E : L2.St → XK) (n : Nat) (tf : TE) (tk : TA) : TE := fun σ H Q => tf σ H fun y H1 => ∃ a dx fs, y = V.ref a ∧ H1 a = some (.ins C dx fs) ∧ fs.lookup m = none ∧ tk σ H1 fun zs H2 => zs.length = n ∧ sp (gV [V.ref a] zs) H2 Q (E σ)
theorem pe_metOS {ES : L2.St → XK} (hf : PE X o tf) (c : MetC X.prog X.w X.K X.mg X.base CX k C m qual st ps sp) (hr : Room j X.A) (hj : k ≤ j) (hx : ∀ σ, PassesAt CX X σ (ES σ)) (ha : PA X (e :: es) t)
    (ht : eval (.Call (.Attribute o m apos) (e :: es) [] pos) X.env = (do
      let ov ← eval o X.env
      standAt apos.atName
      let __x ← holding [ov] (getMethod ov m pl)
      match __x with
      | (f, first) => callWith pos f first (backTo pos (starEach (e :: es) X.env)) (backToKw pos (keywordEach [] X.env))))
    (he : starEach (e :: es) X.env = (false, eval e X.env) :: starEach es X.env) (hpl : (backTo pos (starEach es X.env)).any (·.1) = false) : PE X (.Call (.Attribute o m apos) (e :: es) [] pos) (tMetOS C m sp ES tf t) := by
  obtain ⟨g, fd, h1, _, F, b⟩ := c.ex
  refine ⟨fun pins s σ H Q I h => ?_⟩
  refine meth_kw (thn (hf.run pins s σ H _ I h) fun u s1 ⟨y, H1, I1, ry, a, dx, fs, ey, hi, hn, q⟩ => ?_) ht
  subst ey
  obtain rfl : u = Value.ref a := ry
  refine L2.getmeth_ok I1 hi c.cl h1 hn ?_
  refine PySem.W.callWith_K (h₀ := X.base) I.ok.mod.kin h1.kp (thn (ha.run pos pins s1 σ H1 _ I1 q) fun us s2 ⟨vs, H2, I2, r, q2⟩ => ?_) he hpl
  refine ⟨I2.kIn, wpAny_call ?_⟩
  have r2 : Vals (V.ref a :: vs) (Value.ref a :: us) := .cons rfl r
  have hl : (Value.ref a :: us ++ []).length = ps.length := by
    rw [List.append_nil]
    have e := r2.length
    rw [F.len _ _ _ _ q2] at e
    exact e.symm
  have hbb := b _ (Value.ref a :: us) I2.kIn hl
  rw [List.append_nil] at hbb
  refine codeAny_mono (F.run X.A X.stack s2 H2 ⟨Value.ref a :: us, []⟩ (Value.ref a :: us) _ Q (ES σ) (hr.mono hj) I2.env0 hbb r2 q2) fun r s' hq => ?_
  rcases r with e | (_ | _ | _ | u)
  · exact hx σ pins H2 s2 e s' I2 hq
  · exact False.elim hq
  · exact False.elim hq
  · exact False.elim hq
  · exact I2.after hq
theorem pe_metOK {ES : L2.St → XK} (hf : PE X o tf) (c : MetC X.prog X.w X.K X.mg X.base CX k C m qual st ps sp) (hr : Room j X.A) (hj : k ≤ j) (hx : ∀ σ, PassesAt CX X σ (ES σ)) (hm : ks.length = n)
    (h : ∀ (kV doc pv : Value) (an : Option Addr) (cdv ct : Value) (us ws : List Value), us.length = 1 → ws.length = n → bindArgs (PySem.W.fnOf m qual (defArgs st) (defBody st) (defScope st) .none kV doc pv an cdv ct) ⟨us, ks.zip ws⟩ = pure (ps.zip (pm.filterMap fun i => (us ++ ws)[i]?)))
    (hkw : PK X kws tk)
    (ht : eval (.Call (.Attribute o m apos) [] kws pos) X.env = (do
      let ov ← eval o X.env
      standAt apos.atName
      let __x ← holding [ov] (getMethod ov m pl)
      match __x with
      | (f, first) => callWith pos f first (backTo pos (starEach [] X.env)) (backToKw pos (keywordEach kws X.env))))
    (hall : (backToKw pos (keywordEach kws X.env)).all (·.1.isSome) = true) (hks : (backToKw pos (keywordEach kws X.env)).filterMap (·.1) = ks)
    (hn : ((backTo pos (starEach [] X.env)).any (·.1) || (backToKw pos (keywordEach kws X.env)).any (·.1.isNone)) = false) :
    PE X (.Call (.Attribute o m apos) [] kws pos) (tMetOK C m sp (permG 1 n pm) ES n tf tk) := by
  obtain ⟨g, fd, h1, Ff, F, b⟩ := c.ex
  refine ⟨fun pins s σ H Q I h0 => ?_⟩
  refine meth_kw (thn (hf.run pins s σ H _ I h0) fun u s1 ⟨y, H1, I1, ry, a, dx, fs, ey, hi, hnn, q⟩ => ?_) ht
  subst ey
  obtain rfl : u = Value.ref a := ry
  refine L2.getmeth_ok I1 hi c.cl h1 hnn ?_
  refine PySem.W.callWith_KW0 (h₀ := X.base) I.ok.mod.kin h1.kp hall (thn (hkw.run pos pins s1 σ H1 _ I1 q) fun ws s2 ⟨zs, H2, I2, rz, hz, q2⟩ => ?_) hn
  refine ⟨I2.kIn, wpAny_call ?_⟩
  have kb := kbn_of (n := 1) (m := n) (pm := pm) (ks := ks) Ff hm h
  rw [hks]
  have r1 : Vals [V.ref a] [Value.ref a] := .cons rfl .nil
  refine codeAny_mono (F.run X.A X.stack s2 H2 ⟨[Value.ref a], ks.zip ws⟩ _ _ Q (ES σ) (hr.mono hj) I2.env0 (kb.to _ [Value.ref a] ws I2.kIn rfl (by rw [← rz.length, hz, hm])) (kb.rel r1 rz) q2) fun r s' hq => ?_
  rcases r with e | (_ | _ | _ | u)
  · exact hx σ pins H2 s2 e s' I2 hq
  · exact False.elim hq
  · exact False.elim hq
  · exact False.elim hq
  · exact I2.after hq
theorem pe_mtS (hf : PE X o tf) (c : MetC X.prog X.w X.K X.mg X.base (L2.CX X.prog X.w) k C m qual st ps sp) (hr : Room j X.A) (hj : k ≤ j) (tw : Takes X W) (ha : PA X (e :: es) t)
    (ht : eval (.Call (.Attribute o m apos) (e :: es) [] pos) X.env = (do
      let ov ← eval o X.env
      standAt apos.atName
      let __x ← holding [ov] (getMethod ov m pl)
      match __x with
      | (f, first) => callWith pos f first (backTo pos (starEach (e :: es) X.env)) (backToKw pos (keywordEach [] X.env))) := by rfl)
    (he : starEach (e :: es) X.env = (false, eval e X.env) :: starEach es X.env := by rfl) (hpl : (backTo pos (starEach es X.env)).any (·.1) = false := by rfl) : PE X (.Call (.Attribute o m apos) (e :: es) [] pos) (tMetOS C m sp (WE W) tf t) :=
  pe_metOS hf c hr hj (fun σ => passAt tw σ) ha ht he hpl
theorem pe_mt0 (hf : PE X o tf) (c : MetC X.prog X.w X.K X.mg X.base CX0 k C m qual st ps sp) (hr : Room j X.A) (hj : k ≤ j) (ha : PA X (e :: es) t)
    (ht : eval (.Call (.Attribute o m apos) (e :: es) [] pos) X.env = (do
      let ov ← eval o X.env
      standAt apos.atName
      let __x ← holding [ov] (getMethod ov m pl)
      match __x with
      | (f, first) => callWith pos f first (backTo pos (starEach (e :: es) X.env)) (backToKw pos (keywordEach [] X.env))) := by rfl)
    (he : starEach (e :: es) X.env = (false, eval e X.env) :: starEach es X.env := by rfl) (hpl : (backTo pos (starEach es X.env)).any (·.1) = false := by rfl) : PE X (.Call (.Attribute o m apos) (e :: es) [] pos) (tMetOS C m sp (fun _ => E0) tf t) :=
  pe_metOS hf c hr hj (fun σ pins H s e s' I q => q.elim) ha ht he hpl
theorem pe_mtKS (hf : PE X o tf) (c : MetC X.prog X.w X.K X.mg X.base (L2.CX X.prog X.w) k C m qual st ps sp) (hr : Room j X.A) (hj : k ≤ j) (tw : Takes X W) (hm : ks.length = n)
    (h : ∀ (kV doc pv : Value) (an : Option Addr) (cdv ct : Value) (us ws : List Value), us.length = 1 → ws.length = n → bindArgs (PySem.W.fnOf m qual (defArgs st) (defBody st) (defScope st) .none kV doc pv an cdv ct) ⟨us, ks.zip ws⟩ = pure (ps.zip (pm.filterMap fun i => (us ++ ws)[i]?)))
    (hkw : PK X kws tk)
    (ht : eval (.Call (.Attribute o m apos) [] kws pos) X.env = (do
      let ov ← eval o X.env
      standAt apos.atName
      let __x ← holding [ov] (getMethod ov m pl)
      match __x with
      | (f, first) => callWith pos f first (backTo pos (starEach [] X.env)) (backToKw pos (keywordEach kws X.env))) := by rfl)
    (hall : (backToKw pos (keywordEach kws X.env)).all (·.1.isSome) = true := by rfl) (hks : (backToKw pos (keywordEach kws X.env)).filterMap (·.1) = ks := by rfl)
    (hn : ((backTo pos (starEach [] X.env)).any (·.1) || (backToKw pos (keywordEach kws X.env)).any (·.1.isNone)) = false := by rfl) :
    PE X (.Call (.Attribute o m apos) [] kws pos) (tMetOK C m sp (permG 1 n pm) (WE W) n tf tk) :=
  pe_metOK hf c hr hj (fun σ => passAt tw σ) hm h hkw ht hall hks hn
theorem pe_mtK0 (hf : PE X o tf) (c : MetC X.prog X.w X.K X.mg X.base CX0 k C m qual st ps sp) (hr : Room j X.A) (hj : k ≤ j) (hm : ks.length = n)
    (h : ∀ (kV doc pv : Value) (an : Option Addr) (cdv ct : Value) (us ws : List Value), us.length = 1 → ws.length = n → bindArgs (PySem.W.fnOf m qual (defArgs st) (defBody st) (defScope st) .none kV doc pv an cdv ct) ⟨us, ks.zip ws⟩ = pure (ps.zip (pm.filterMap fun i => (us ++ ws)[i]?)))
    (hkw : PK X kws tk)
    (ht : eval (.Call (.Attribute o m apos) [] kws pos) X.env = (do
      let ov ← eval o X.env
      standAt apos.atName
      let __x ← holding [ov] (getMethod ov m pl)
      match __x with
      | (f, first) => callWith pos f first (backTo pos (starEach [] X.env)) (backToKw pos (keywordEach kws X.env))) := by rfl)
    (hall : (backToKw pos (keywordEach kws X.env)).all (·.1.isSome) = true := by rfl) (hks : (backToKw pos (keywordEach kws X.env)).filterMap (·.1) = ks := by rfl)
    (hn : ((backTo pos (starEach [] X.env)).any (·.1) || (backToKw pos (keywordEach kws X.env)).any (·.1.isNone)) = false := by rfl) :
    PE X (.Call (.Attribute o m apos) [] kws pos) (tMetOK C m sp (permG 1 n pm) (fun _ => E0) n tf tk) :=
  pe_metOK hf c hr hj (fun σ pins H s e s' I q => q.elim) hm h hkw ht hall hks hn
end
theorem lookup_zip {α : Type} {m : Str} : ∀ {fs : List Str} {vs : List α}, m ∉ fs → (fs.zip vs).lookup m = none
  | [], vs, _ => by rw [List.zip_nil_left]; rfl
  | f :: fs, [], _ => by rw [List.zip_nil_right]; rfl
  | f :: fs, v :: vs, h => by
    rw [List.zip_cons_cons, List.lookup_cons]
    have hne : (m == f) = false := by
      rw [beq_eq_false_iff_ne]
      exact fun z => h (by rw [z]; exact List.mem_cons_self ..)
    rw [hne]
    exact lookup_zip fun z => h (List.mem_cons_of_mem _ z)
section
variable {K : PySem.W.Frag} {W : WX} {X : XD} {μ : Mu} {ρ : Ro} {Φ : DP} {C : Addr} {m : Str} {n r a b : Nat} {pm : List Nat} {P : PD} {tf : TE} {t tk : TA}
/-- o.m(..) -/
theorem evx_mtS (h : EvX K W X μ ρ tf fun μ0 x => ∃ fs es, ObjD μ0 x C fs es ∧ m ∉ fs ∧ EvL K W X μ0 ρ t fun μ1 ds => ds.length + 1 = n ∧ P μ1 (x :: ds) Φ fun μ' A d => X μ' ρ A d) : EvX K W X μ ρ (tMetOS C m (spD K n P) (WE W) tf t) Φ := fun σ H Q m0 e l k =>
  h σ H _ m0 e l fun μ1 x v H1 ⟨fs, es, ho, hm, h1⟩ g1 m1 d1 => by
    obtain ⟨p, dx, vs, e2, hi, _⟩ := ho.hp m1 d1
    subst e2
    refine ⟨p, dx, _, rfl, hi, lookup_zip hm, h1 σ H1 _ m1 (e.grow g1) (l.grow g1) fun μ2 ds vs H2 ⟨hl, hp⟩ g2 m2 d2 => ?_⟩
    have gg := g1.trans g2
    exact ⟨μ2, x :: ds, Φ, _, m2, DenL.cons (Den.grow g2 _ _ d1) d2, by rw [List.length_cons]; exact hl, hp, fun μ' d v H' p g => k μ' d v H' p (gg.trans g), fun μ' A d dx v H' p g mm => l μ' ρ A d dx v σ H' p (gg.trans g) mm ((e.grow gg).grow g)⟩
theorem evx_mt0 (h : EvX K W X μ ρ tf fun μ0 x => ∃ fs es, ObjD μ0 x C fs es ∧ m ∉ fs ∧ EvL K W X μ0 ρ t fun μ1 ds => ds.length + 1 = n ∧ P μ1 (x :: ds) Φ excN) : EvX K W X μ ρ (tMetOS C m (spD K n P) (fun _ => E0) tf t) Φ := fun σ H Q m0 e l k =>
  h σ H _ m0 e l fun μ1 x v H1 ⟨fs, es, ho, hm, h1⟩ g1 m1 d1 => by
    obtain ⟨p, dx, vs, e2, hi, _⟩ := ho.hp m1 d1
    subst e2
    refine ⟨p, dx, _, rfl, hi, lookup_zip hm, h1 σ H1 _ m1 (e.grow g1) (l.grow g1) fun μ2 ds vs H2 ⟨hl, hp⟩ g2 m2 d2 => ?_⟩
    have gg := g1.trans g2
    exact ⟨μ2, x :: ds, Φ, _, m2, DenL.cons (Den.grow g2 _ _ d1) d2, by rw [List.length_cons]; exact hl, hp, fun μ' d v H' p g => k μ' d v H' p (gg.trans g), fun _ _ _ _ _ _ z => z.elim⟩
/-- o.m(k = ..) -/
theorem evx_mtKS (h : EvX K W X μ ρ tf fun μ0 x => ∃ fs es, ObjD μ0 x C fs es ∧ m ∉ fs ∧ EvL K W X μ0 ρ tk fun μ1 ds => ds.length = r ∧ (permG a b pm [x] ds).length = n ∧ P μ1 (permG a b pm [x] ds) Φ fun μ' A d => X μ' ρ A d) : EvX K W X μ ρ (tMetOK C m (spD K n P) (permG a b pm) (WE W) r tf tk) Φ := fun σ H Q m0 e l k =>
  h σ H _ m0 e l fun μ1 x v H1 ⟨fs, es, ho, hm, h1⟩ g1 m1 d1 => by
    obtain ⟨p, dx, vs, e2, hi, _⟩ := ho.hp m1 d1
    subst e2
    refine ⟨p, dx, _, rfl, hi, lookup_zip hm, h1 σ H1 _ m1 (e.grow g1) (l.grow g1) fun μ2 ds vs H2 ⟨hr, hl, hp⟩ g2 m2 d2 => ?_⟩
    have gg := g1.trans g2
    exact ⟨by rw [← d2.length]; exact hr, μ2, _, Φ, _, m2, permG_den (DenL.cons (Den.grow g2 _ _ d1) DenL.nil) d2, hl, hp, fun μ' d v H' p g => k μ' d v H' p (gg.trans g), fun μ' A d dx v H' p g mm => l μ' ρ A d dx v σ H' p (gg.trans g) mm ((e.grow gg).grow g)⟩
theorem evx_mtK0 (h : EvX K W X μ ρ tf fun μ0 x => ∃ fs es, ObjD μ0 x C fs es ∧ m ∉ fs ∧ EvL K W X μ0 ρ tk fun μ1 ds => ds.length = r ∧ (permG a b pm [x] ds).length = n ∧ P μ1 (permG a b pm [x] ds) Φ excN) : EvX K W X μ ρ (tMetOK C m (spD K n P) (permG a b pm) (fun _ => E0) r tf tk) Φ := fun σ H Q m0 e l k =>
  h σ H _ m0 e l fun μ1 x v H1 ⟨fs, es, ho, hm, h1⟩ g1 m1 d1 => by
    obtain ⟨p, dx, vs, e2, hi, _⟩ := ho.hp m1 d1
    subst e2
    refine ⟨p, dx, _, rfl, hi, lookup_zip hm, h1 σ H1 _ m1 (e.grow g1) (l.grow g1) fun μ2 ds vs H2 ⟨hr, hl, hp⟩ g2 m2 d2 => ?_⟩
    have gg := g1.trans g2
    exact ⟨by rw [← d2.length]; exact hr, μ2, _, Φ, _, m2, permG_den (DenL.cons (Den.grow g2 _ _ d1) DenL.nil) d2, hl, hp, fun μ' d v H' p g => k μ' d v H' p (gg.trans g), fun _ _ _ _ _ _ z => z.elim⟩
end
/-- len where the reading must not name the frame (inside a try) -/
theorem call_lenK {X : Cx} {K : PySem.W.Frag} (h : X.K = K) : CallR X (.builtin "len") fun xs H Q => ∃ x n, xs = [x] ∧ LenV K x H n ∧ Q (.int (n : Nat)) H := by
  subst h
  exact call_len
theorem ix_seqK {X : Cx} {K : PySem.W.Frag} (h : X.K = K) : IxR X (rIx K) := by
  subst h
  exact ix_seq
theorem op_addUK {X : Cx} {K : PySem.W.Frag} (h : X.K = K) : OpR X (binaryOp .Add) (rAddU K) := by
  subst h
  exact op_addU
/-! ### where draws come from -/
/-- S c: at most c draws so far; what it says hangs on what stands at a and g alone -/
structure Src (S : Int → Mu → Prop) (a g : Addr) : Prop where
  mono : ∀ {c c' : Int} {μ : Mu}, S c μ → c ≤ c' → S c' μ
  na : ∀ {c : Int} {μ : Mu} {p : Addr}, S c μ → μ p = none → p ≠ a ∧ p ≠ g
  off : ∀ {c : Int} {μ μ' : Mu} {p : Addr}, S c μ → p ≠ a → p ≠ g → (∀ b, b ≠ p → μ' b = μ b) → S c μ'
theorem Src.put {S : Int → Mu → Prop} {a g p : Addr} {c : Int} {μ : Mu} {o : MO} (s : Src S a g) (h : S c μ) (h1 : p ≠ a) (h2 : p ≠ g) : S c (mput μ p o) := s.off h h1 h2 fun b hb => mput_ne hb
theorem Src.cut {S : Int → Mu → Prop} {a g p : Addr} {c : Int} {μ : Mu} (s : Src S a g) (h : S c μ) (h1 : p ≠ a) (h2 : p ≠ g) : S c (mcut μ p) := s.off h h1 h2 fun b hb => mcut_ne hb
theorem deck_src (a g : Addr) : Src (Deck a g) a g := ⟨fun h q => h.mono q, fun h q => h.na q, fun h h1 h2 q => h.off h1 h2 q⟩
section
variable {K : PySem.W.Frag} {W : WX} {X : XD} {μ : Mu} {ρ : Ro} {Φ : DP} {te : TE} {tt : TT} {g : TG} {wi : TI}
theorem evx_mid (M : DP) (h : EvX K W X μ ρ te M) (k : ∀ m d, M m d → Φ m d) : EvX K W X μ ρ te Φ := h.imp k
/-- a comprehension that draws: st cards a turn -/
theorem evx_lcSk {vs : List Nat} {a ga : Addr} (S0 : Int → Mu → Prop) (hS0 : Src S0 a ga) (h : ItX K W X μ ρ wi fun μ1 ds S => (ds.length ≤ 1000000 ∧ ∀ m, S m) ∧ ∃ (c st : Int) (R : Nat → List D → Prop), S0 c μ1 ∧ R 0 [] ∧
    (∀ i d μ' acc, ds[i]? = some d → acc.length ≤ i → R i acc → S0 (c + st * i) μ' → Keep a ga μ1 μ' → TcX K W X vs μ' (wipeD ρ vs) g d fun μ2 ρ2 =>
      EvB K W X μ2 ρ2 tt fun μ3 b => if b = true then Keep a ga μ' μ3 ∧ EvX K W X μ3 ρ2 te fun μ4 y => Keep a ga μ' μ4 ∧ S0 (c + st * (i + 1)) μ4 ∧ R (i + 1) (acc ++ [y]) else Keep a ga μ' μ3 ∧ S0 (c + st * (i + 1)) μ3 ∧ R (i + 1) acc) ∧
    ∀ μ' acc, acc.length ≤ ds.length → R ds.length acc → S0 (c + st * ds.length) μ' → Keep a ga μ1 μ' → Φ μ' (.lst acc)) : EvX K W X μ ρ (tLc wi g tt te vs) Φ := by
  refine evx_lcI fun σ H R m e l k => h σ H R m e l fun μ1 ds S J H1 ⟨hl, c, st, R, hd, h0, hstep, hend⟩ g1 m1 ok => k μ1 ds S J H1 ⟨hl, ?_⟩ g1 m1 ok
  refine ⟨fun i μ' acc => S0 (c + st * i) μ' ∧ Keep a ga μ1 μ' ∧ R i acc, ⟨hS0.mono hd (by simp), Keep.refl _ _ _, h0⟩, ?_, ?_, ?_⟩
  · rintro Dl hD i acc μ' μ'' hb ⟨h1, h2, h3⟩
    have hn := hS0.na hd hD
    exact ⟨hS0.off h1 hn.1 hn.2 hb, h2.off hD hb, h3⟩
  · rintro Dl hD i d μ' acc hi ha hDl ⟨h1, h2, h3⟩
    have hn := hS0.na hd hD
    intro σ H v Q m e dd k
    refine hstep i d μ' acc hi ha h3 h1 h2 σ H v Q m e dd fun ρ2 σ2 q2 e2 hw => k ρ2 σ2 ?_ e2 hw
    refine q2.imp fun μ3 b r => ?_
    cases b with
    | false =>
      rw [if_neg (by decide)] at r
      refine ⟨r.1 Dl _ hn.1 hn.2 hDl, ?_⟩
      rw [if_neg (by decide)]
      exact ⟨hS0.mono r.2.1 (by rw [Int.natCast_add]; exact Int.le_refl _), h2.trans r.1, r.2.2⟩
    | true =>
      rw [if_pos rfl] at r
      refine ⟨r.1 Dl _ hn.1 hn.2 hDl, ?_⟩
      rw [if_pos rfl]
      refine r.2.imp fun μ4 y ⟨s1, s2, s3⟩ => ⟨s1 Dl _ hn.1 hn.2 hDl, hS0.mono s2 (by rw [Int.natCast_add]; exact Int.le_refl _), h2.trans s1, s3⟩
  · exact .inl fun μ' acc ha ⟨h1, h2, h3⟩ => hend μ' acc ha h3 h1 h2
end
/-! ### list(text) -/
theorem sign_vals : ∀ {cs : List Nat} {us : List Value}, us.length = cs.length → (∀ (j : Nat) (v : Value), us[j]? = some v → ∃ c u, cs[j]? = some c ∧ v = .str ⟨#[c]⟩ u) → Vals (cs.map fun c => V.str ⟨#[c]⟩) us
  | [], [], _, _ => .nil
  | [], _ :: _, h, _ => nomatch h
  | _ :: _, [], h, _ => nomatch h
  | c :: cs, u :: us, hl, h => by
    obtain ⟨c', t, e1, e2⟩ := h 0 u rfl
    have e1' : c = c' := Option.some.inj e1
    subst e1' e2
    exact .cons ⟨t, rfl⟩ (sign_vals (by simpa using hl) fun j v e => h (j + 1) v e)
abbrev rListT : List V → Hp → VK → Prop := fun xs H Q => ∃ z : Str, xs = [.str z] ∧ z.length ≤ 1000000 ∧ ∀ l, H l = none → Q (.ref l) (upd H l (.lst (z.cps.toList.map fun c => V.str ⟨#[c]⟩)))
theorem call_listT {X : Cx} (hcalm : X.calm = true) : CallR X (.type "list") rListT := by
  intro pins s σ H xs us Q I r h
  obtain ⟨z, rfl, hz, q⟩ := h
  obtain ⟨u, rfl, rx⟩ := vals1 r
  obtain ⟨t, rfl⟩ := rx
  refine call_list_str (I.ok.hd hcalm) z t (fun h' tk acc' c' hk hD hacc => ?_) (Nat.le_trans hz (by decide))
  have hv : Vals (z.cps.toList.map fun c => V.str ⟨#[c]⟩) acc'.toList := by
    refine sign_vals (by rw [Array.length_toList, Array.length_toList]; exact hacc.1) fun j v e => ?_
    obtain ⟨c, u, hc, hv⟩ := hacc.2 j v (by rw [← Array.getElem?_toList]; exact e)
    exact ⟨c, u, by rw [Array.getElem?_toList]; exact hc, hv⟩
  exact ⟨.ref s.heap.objs.size, upd H s.heap.objs.size (.lst (z.cps.toList.map fun c => V.str ⟨#[c]⟩)), I.laid (t' := tk) hk (Nat.le_refl _)
    (show ObjOk X.prog X.w _ _ _ (.lst (z.cps.toList.map fun c => V.str ⟨#[c]⟩)) from ⟨by rw [List.length_map, Array.length_toList]; exact Nat.le_trans hz (by decide), acc'.toList, c', hv, by rw [Array.toArray_toList]; exact hD⟩), rfl, q _ (I.hok.fresh (Nat.le_refl _))⟩
section
variable {K : PySem.W.Frag} {W : WX} {X : XD} {μ : Mu} {H : Hp} {ρ : Ro} {Φ : DP} {ta tb tv te : TE} {E : ED}
theorem signs_den (z : Str) : DenL K μ H (signsD z) (z.cps.toList.map fun c => V.str ⟨#[c]⟩) := by
  unfold signsD
  generalize z.cps.toList = cs
  induction cs with
  | nil => exact DenL.nil
  | cons c cs ih => exact DenL.cons (by unfold Den; rfl) ih
theorem cax_listTM {z : Str} (hz : z.length ≤ 1000000) (h : ∀ p, μ p = none → Φ (mput μ p (.lst (signsD z))) (.at p)) : CaX K rListT μ [.str z] Φ := fun H vs Q m d k => by
  obtain ⟨v, e, a⟩ := denL1 d
  unfold Den at a
  subst a
  exact ⟨z, e, hz, fun l hl => k _ _ _ _ (h l (m.free hl)) (Grow.newM hl) (m.newM hl ⟨_, upd_same, signs_den z⟩) (by unfold Den; rfl)⟩
theorem cax_listT {z : Str} (hz : z.length ≤ 1000000) (h : Φ μ (.lst (signsD z))) : CaX K rListT μ [.str z] Φ := fun H vs Q m d k => by
  obtain ⟨v, e, a⟩ := denL1 d
  unfold Den at a
  subst a
  exact ⟨z, e, hz, fun l hl => k _ _ _ _ h (Grow.new hl) (m.new hl) (by unfold Den; exact ⟨l, _, rfl, ⟨m.free hl, upd_same⟩, signs_den z⟩)⟩
/-! ### dicts -/
instance decKey (k : Key) (ks : List Key) : Decidable (k ∈ ks) := @List.instDecidableMemOfLawfulBEq Key instBEqOfDecidableEq inferInstance k ks
theorem evx_dnewM (h : ∀ p, μ p = none → Φ (mput μ p (.dct [] [])) (.at p)) : EvX K W X μ ρ tDNewK Φ := fun σ H Q m e l k p hp =>
  k _ _ _ _ (h p (m.free hp)) (Grow.newM hp) (m.newM hp ⟨[], upd_same, rfl, DenL.nil⟩) (by unfold Den; rfl)
/-- d[k] = v: the keys and the data behind it -/
def putKs (ks : List Key) (k : Key) : List Key := if k ∈ ks then ks else ks ++ [k]
def putDs {α : Type} (ks : List Key) (ds : List α) (k : Key) (d : α) : List α := if k ∈ ks then (ks.zip ds).map fun p => if p.1 = k then d else p.2 else ds ++ [d]
theorem any_mem {α : Type} {k : Key} : ∀ {ks : List Key} {ds : List α}, ks.length = ds.length → ((ks.zip ds).any fun kv => decide (kv.1 = k)) = decide (k ∈ ks)
  | [], ds, _ => by rw [List.zip_nil_left]; rfl
  | g :: ks, [], h => nomatch h
  | g :: ks, d :: ds, h => by
    rw [List.zip_cons_cons, List.any_cons, any_mem (by simpa using h)]
    by_cases hg : g = k
    · simp [hg]
    · simp [hg, Ne.symm hg]
theorem map_zip {α : Type} {k : Key} {v : α} : ∀ {ks : List Key} {vs : List α}, ks.length = vs.length → (ks.zip vs).map (fun kv => if kv.1 = k then (kv.1, v) else kv) = ks.zip ((ks.zip vs).map fun p => if p.1 = k then v else p.2)
  | [], vs, _ => by rw [List.zip_nil_left, List.zip_nil_left]; rfl
  | g :: ks, [], h => nomatch h
  | g :: ks, w :: vs, h => by
    rw [List.zip_cons_cons, List.map_cons, List.map_cons, List.zip_cons_cons, map_zip (by simpa using h)]
    by_cases hg : g = k
    · rw [if_pos hg, if_pos hg]
    · rw [if_neg hg, if_neg hg]
theorem putK_any {k : Key} {v : V} {ks : List Key} {vs : List V} (h : ks.length = vs.length) : putK (ks.zip vs) k v = (putKs ks k).zip (putDs ks vs k v) ∧ (putKs ks k).length = (putDs ks vs k v).length := by
  unfold putK putKs putDs
  rw [any_mem h]
  by_cases hk : k ∈ ks
  · rw [if_pos (decide_eq_true hk), if_pos hk, if_pos hk, map_zip h]
    refine ⟨rfl, ?_⟩
    rw [List.length_map, List.length_zip, h, Nat.min_self]
  · rw [if_neg (by rw [decide_eq_false hk]; decide), if_neg hk, if_neg hk, List.zip_append h]
    refine ⟨rfl, ?_⟩
    rw [List.length_append, List.length_append, h]; rfl
theorem den_putDs {k : Key} {d : D} {v : V} (r : Den K μ H d v) : ∀ {ks : List Key} {ds : List D} {vs : List V}, DenL K μ H ds vs → DenL K μ H ((ks.zip ds).map fun p => if p.1 = k then d else p.2) ((ks.zip vs).map fun p => if p.1 = k then v else p.2)
  | [], ds, vs, h => by rw [List.zip_nil_left, List.zip_nil_left]; exact DenL.nil
  | g :: ks, [], vs, h => by unfold DenL at h; subst h; exact DenL.nil
  | g :: ks, e :: ds, vs, h => by
    unfold DenL at h
    obtain ⟨w, ws, e1, a, b⟩ := h
    subst e1
    rw [List.zip_cons_cons, List.zip_cons_cons, List.map_cons, List.map_cons]
    refine DenL.cons ?_ (den_putDs r b)
    by_cases hg : g = k
    · rw [if_pos hg, if_pos hg]; exact r
    · rw [if_neg hg, if_neg hg]; exact a
theorem den_putD {k : Key} {d : D} {v : V} (r : Den K μ H d v) {ks : List Key} {ds : List D} {vs : List V} (h : DenL K μ H ds vs) : DenL K μ H (putDs ks ds k d) (putDs ks vs k v) := by
  unfold putDs
  by_cases hk : k ∈ ks
  · rw [if_pos hk, if_pos hk]; exact den_putDs r h
  · rw [if_neg hk, if_neg hk]; exact h.append (DenL.cons r DenL.nil)
theorem gs_dput (h : EvX K W X μ ρ tv fun μ1 d => EvX K W X μ1 ρ ta fun μ2 x => EvX K W X μ2 ρ tb fun μ3 y => ∃ a ks ds k, x = .at a ∧ y = keyD k ∧ μ3 a = some (.dct ks ds) ∧ ks.length ≤ 1000000 ∧ E.nx (mput μ3 a (.dct (putKs ks k) (putDs ks ds k d))) ρ) : GS K W X μ ρ (sDPut ta tb tv) E := fun σ H D m e l k =>
  h σ H _ m e l fun μ1 d v H1 h1 g1 m1 d1 => h1 σ H1 _ m1 (e.grow g1) (l.grow g1) fun μ2 x w H2 h2 g2 m2 d2 => h2 σ H2 _ m2 ((e.grow g1).grow g2) ((l.grow g1).grow g2) fun μ3 y u H3 ⟨a, ks, ds, kk, ex, ey, ha, hl, hq⟩ g3 m3 d3 => by
    subst ex ey
    have ek := den_key d3
    subst ek
    unfold Den at d2
    subst d2
    obtain ⟨vs, q, n, b⟩ := m3 a _ ha
    have gg := (g1.trans g2).trans g3
    have dv := Den.grow (g2.trans g3) _ _ d1
    obtain ⟨e1, e2⟩ := putK_any (k := kk) (v := v) n
    refine ⟨a, _, rfl, DPut.k q (by rw [List.length_zip, n, Nat.min_self, ← n]; exact Nat.lt_of_le_of_lt hl (by decide)), ?_⟩
    rw [e1]
    exact k.nx _ _ _ _ hq (gg.trans (Grow.wr ha)) (m3.wr ha ⟨_, upd_same, e2, DenL.grow (Grow.wr ha) _ _ (den_putD dv b)⟩) ((e.grow gg).grow (Grow.wr ha))
theorem valV_none {k : Key} : ∀ {ks : List Key} {vs : List V}, ks.length = vs.length → (valV (ks.zip vs) k).isSome = decide (k ∈ ks)
  | [], vs, _ => by rw [List.zip_nil_left]; rfl
  | g :: ks, [], h => nomatch h
  | g :: ks, w :: vs, h => by
    rw [List.zip_cons_cons]
    by_cases hg : g = k
    · rw [valV_pos hg]; simp [hg]
    · rw [valV_neg hg, valV_none (by simpa using h)]; simp [Ne.symm hg]
/-- a dict: kept, or one that may change -/
def DctD (μ : Mu) (x : D) (ks : List Key) (ds : List D) : Prop := x = .dct ks ds ∨ ∃ a, x = .at a ∧ μ a = some (.dct ks ds)
theorem DctD.hp {x : D} {ks : List Key} {ds : List D} {v : V} (m : Mem K μ H) (hx : DctD μ x ks ds) (dv : Den K μ H x v) : ∃ p vs, v = .ref p ∧ H p = some (.dK (ks.zip vs)) ∧ ks.length = vs.length ∧ DenL K μ H ds vs := by
  rcases hx with rfl | ⟨a, rfl, ha⟩
  · unfold Den at dv
    obtain ⟨p, vs, e1, s, n, b⟩ := dv
    exact ⟨p, vs, e1, s.2, n, b⟩
  · unfold Den at dv
    obtain ⟨vs, q, n, b⟩ := m a _ ha
    exact ⟨a, vs, dv, q, n, b⟩
theorem evx_din (h : EvX K W X μ ρ ta fun μ1 y => EvX K W X μ1 ρ tb fun μ2 x => ∃ ks ds k, DctD μ2 x ks ds ∧ y = keyD k ∧ Φ μ2 (.bl (decide (k ∈ ks)))) : EvX K W X μ ρ (tDIn ta tb) Φ := fun σ H Q m e l kk =>
  h σ H _ m e l fun μ1 y w H1 h1 g1 m1 d1 => h1 σ H1 _ m1 (e.grow g1) (l.grow g1) fun μ2 x v H2 ⟨ks, ds, k, hx, hy, hq⟩ g2 m2 d2 => by
    subst hy
    have ek := den_key d1
    subst ek
    obtain ⟨p, vs, e1, e2, n, _⟩ := hx.hp m2 d2
    exact ⟨p, _, e1, DGet.k e2, kk μ2 _ _ H2 hq (g1.trans g2) m2 (by unfold Den; rw [valV_none n])⟩
theorem evx_dnotin (h : EvX K W X μ ρ ta fun μ1 y => EvX K W X μ1 ρ tb fun μ2 x => ∃ ks ds k, DctD μ2 x ks ds ∧ y = keyD k ∧ Φ μ2 (.bl (!decide (k ∈ ks)))) : EvX K W X μ ρ (tDNotIn ta tb) Φ := fun σ H Q m e l kk =>
  h σ H _ m e l fun μ1 y w H1 h1 g1 m1 d1 => h1 σ H1 _ m1 (e.grow g1) (l.grow g1) fun μ2 x v H2 ⟨ks, ds, k, hx, hy, hq⟩ g2 m2 d2 => by
    subst hy
    have ek := den_key d1
    subst ek
    obtain ⟨p, vs, e1, e2, n, _⟩ := hx.hp m2 d2
    exact ⟨p, _, e1, DGet.k e2, kk μ2 _ _ H2 hq (g1.trans g2) m2 (by unfold Den; rw [valV_none n])⟩
abbrev rDictP (K : PySem.W.Frag) : List V → Hp → VK → Prop := fun xs H Q => ∃ (a : Addr) (ps : List Addr) (kvs : List (Key × V)), xs = [.ref a] ∧ SqL K H a (ps.map V.ref) ∧ Paired (fun p kv => SqT K H p [kV kv.1, kv.2]) ps kvs ∧
    ∀ p, H p = none → Q (.ref p) (upd H p (.dK (mergeK [] kvs)))
theorem pairs_den : ∀ {ks : List Key} {es : List D} {vs : List V}, ks.length = es.length → DenL K μ H ((ks.zip es).map fun p => .tup [keyD p.1, p.2]) vs → ∃ (ps : List Addr) (us : List V), vs = ps.map V.ref ∧ ks.length = us.length ∧ DenL K μ H es us ∧ Paired (fun p kv => SqT K H p [kV kv.1, kv.2]) ps (ks.zip us)
  | [], [], vs, _, h => by
    rw [List.zip_nil_left] at h
    unfold List.map DenL at h
    subst h
    exact ⟨[], [], rfl, rfl, DenL.nil, .nil⟩
  | [], _ :: _, vs, hl, _ => nomatch hl
  | _ :: _, [], vs, hl, _ => nomatch hl
  | k :: ks, d :: es, vs, hl, h => by
    rw [List.zip_cons_cons, List.map_cons] at h
    unfold DenL at h
    obtain ⟨w, ws, e1, a, b⟩ := h
    obtain ⟨ps, us, e2, n, b2, pr⟩ := pairs_den (by simpa using hl) b
    unfold Den at a
    obtain ⟨p, zs, e3, st, dz⟩ := a
    obtain ⟨z1, z2, e4, dk, dd⟩ := denL2 dz
    have ek := den_key dk
    subst ek e4 e3 e2 e1
    refine ⟨p :: ps, z2 :: us, rfl, by rw [List.length_cons, List.length_cons, n], DenL.cons dd b2, ?_⟩
    rw [List.zip_cons_cons]
    exact .cons st.sq pr
theorem mergeK_nd : ∀ {ks : List Key} {us : List V} {ks0 : List Key} {us0 : List V}, ks.length = us.length → ks0.length = us0.length → (ks0 ++ ks).Nodup → mergeK (ks0.zip us0) (ks.zip us) = (ks0 ++ ks).zip (us0 ++ us)
  | [], us, ks0, us0, h, h0, _ => by
    have : us = [] := List.eq_nil_of_length_eq_zero h.symm
    subst this
    rw [List.zip_nil_left, List.append_nil, List.append_nil]; rfl
  | k :: ks, [], ks0, us0, h, _, _ => nomatch h
  | k :: ks, u :: us, ks0, us0, h, h0, hn => by
    rw [List.zip_cons_cons]
    unfold mergeK
    rw [List.foldl_cons]
    show mergeK (putK (ks0.zip us0) k u) (ks.zip us) = _
    have hk : k ∉ ks0 := fun hm => by
      rw [List.nodup_append] at hn
      exact hn.2.2 _ hm _ (List.mem_cons_self ..) rfl
    rw [putK_zip hk h0, mergeK_nd (by simpa using h) (by rw [List.length_append, List.length_append, h0]; rfl) (by rw [List.append_assoc]; exact hn), List.append_assoc, List.append_assoc]
    rfl
/-- dict(pairs), all keys unlike -/
theorem cax_dictP {x : D} {S : Mu → Prop} {ks : List Key} {es : List D} (hd : IsL μ x ((ks.zip es).map fun p => .tup [keyD p.1, p.2]) S) (hl : ks.length = es.length) (hn : ks.Nodup) (h : Φ μ (.dct ks es)) : CaX K (rDictP K) μ [x] Φ := fun H vs Q m d k => by
  obtain ⟨v, e, a⟩ := denL1 d
  obtain ⟨p, us, e1, sq, b⟩ := isL_sq m hd a
  obtain ⟨ps, ws, e2, n, b2, pr⟩ := pairs_den hl b
  subst e e1 e2
  refine ⟨p, ps, ks.zip ws, rfl, sq, pr, fun q hq => ?_⟩
  have em := mergeK_nd (ks0 := []) (us0 := []) n rfl (by rw [List.nil_append]; exact hn)
  rw [List.zip_nil_left, List.nil_append, List.nil_append] at em
  rw [em]
  exact k _ _ _ _ h (Grow.new hq) (m.new hq) (by unfold Den; exact ⟨q, ws, rfl, ⟨m.free hq, upd_same⟩, n, DenL.grow (Grow.new hq) _ _ b2⟩)
end
/-! ### xs[lo:hi:step] -/
def stepIx (n : Nat) (lo hi : Option Int) (st : Int) : List Nat := sliceRange (sliceBounds lo hi (some st) n).1 (sliceBounds lo hi (some st) n).2.1 (sliceBounds lo hi (some st) n).2.2
def stepD {α : Type} (xs : List α) (lo hi : Option Int) (st : Int) : List α := (stepIx xs.length lo hi st).filterMap fun i => xs[i]?
def tStepL (K : PySem.W.Frag) (te : TE) (tl th : TO) (st : Int) : TE := fun σ H Q => te σ H fun x H1 => tl σ H1 fun lo H2 => th σ H2 fun hi H3 => ∃ a xs, x = .ref a ∧ SqL K H3 a xs ∧ ∀ p, H3 p = none → Q (.ref p) (upd H3 p (.lst (stepD xs lo hi st)))
theorem pe_stepL {X : Cx} {e : Expr} {te : TE} {lo hi : Option Expr} {tl th : TO} {k : Int} {kk : Nat} {p1 p3 pos : Pos} (h0 : k ≠ 0) (he : PE X e te) (hlo : PO X lo tl) (hhi : PO X hi th) : PE X (.Subscript e (.Slice lo hi (some (.Constant (.int k) kk p1)) p3) pos) (tStepL X.K te tl th k) := by
  refine ⟨fun pins s σ H Q I h => ?_⟩
  refine Subscript_ (thn (he.run pins s σ H _ I h) fun v s1 ⟨x, H1, I1, r1, q1⟩ => ?_)
  have hst : PO X (some (.Constant (.int k) kk p1)) (tPart (tC (.int k))) := po_some pe_int
  refine wpAny_Slice (thn (hlo.run pins s1 σ H1 _ I1 q1) fun vl s2 ⟨l, H2, I2, pl, q2⟩ => ?_)
  refine thn (hhi.run pins s2 σ H2 _ I2 q2) fun vu s3 ⟨u, H3, I3, pu, a, xs, ex, hx, q⟩ => ?_
  subst ex
  cases r1
  refine thn (hst.run pins s3 σ H3 (fun o H4 => o = some k ∧ H4 = H3) I3 ⟨k, rfl, rfl, rfl⟩) fun vs s4 ⟨o, H4, I4, ps, eo, e4⟩ => ?_
  subst eo e4
  have I5 : Inv X pins σ H4 { s4 with heap := s4.heap.push { cls := .type "slice", data := .fields #[vl, vu, vs] } } := I4.kept (t' := s4.toks) fun b ob q => Heap.get?_push_of_some _ q
  obtain ⟨its, r, ht, hz⟩ := I5.list hx
  have hlen := r.length
  show wpAny (model X.prog X.w) X.A (subscriptTail e (.Slice lo hi (some (.Constant (.int k) kk p1)) p3) (.ref a) (.ref s4.heap.objs.size)) (EP X pins σ Q) X.xe { s4 with heap := s4.heap.push { cls := .type "slice", data := .fields #[vl, vu, vs] } }
  refine tail_any (ops := [.ref a, .ref s4.heap.objs.size]) ht.isList.typeIs (PySem.slot_list_getitem.lookup) ?_ (by with_unfolding_all rfl)
  refine wpAny_getItem_list_slice ht.isList (Heap.IsSliceOf.new _ vl vu vs) pl pu ps (by simpa using h0) ?_ (by rw [List.size_toArray]; omega)
  have hv : Vals (stepD xs l u k) ((stepIx xs.length l u k).filterMap fun i => its[i]?) := perm_vals r
  have hpk : slicePick its.toArray l u (some k) = ((stepIx xs.length l u k).filterMap fun i => its[i]?).toArray := by
    unfold slicePick stepIx
    rw [List.size_toArray, hlen]
    congr 1
    congr 1
    funext i
    exact List.getElem?_toArray ..
  rw [hpk]
  refine ⟨.ref _, _, I5.laid (t' := s4.toks) (o := .lst (stepD xs l u k)) (fun b ob q => Heap.get?_push_of_some _ q) (Nat.le_refl _) ?_, rfl, q _ (I5.hok.fresh (Nat.le_refl _))⟩
  refine ⟨?_, _, 0, hv, Heap.get?_push_size _ rfl⟩
  have h1 := slicePick_size_le its.toArray l u (some k)
  rw [hpk, List.size_toArray, List.size_toArray, ← hv.length, ← hlen] at h1
  exact Nat.le_trans h1 hz
section
variable {K : PySem.W.Frag} {W : WX} {X : XD} {μ : Mu} {H : Hp} {ρ : Ro} {Φ : DP} {ta tb tv te : TE} {tl th : TO} {E : ED} {st : Int} {n : Nat} {P : PD} {tk : TA}
theorem evx_stepL (h : EvX K W X μ ρ te fun μ1 x => EvO K W X μ1 ρ tl fun μ2 l => EvO K W X μ2 ρ th fun μ3 u => ∃ ds S, IsL μ3 x ds S ∧ Φ μ3 (.lst (stepD ds l u st))) : EvX K W X μ ρ (tStepL K te tl th st) Φ := fun σ H Q m e l k =>
  h σ H _ m e l fun μ1 x v H1 h1 g1 m1 d1 => h1 σ H1 _ m1 (e.grow g1) (l.grow g1) fun μ2 lo H2 h2 g2 m2 => h2 σ H2 _ m2 ((e.grow g1).grow g2) ((l.grow g1).grow g2) fun μ3 hi H3 ⟨ds, S, hd, hq⟩ g3 m3 => by
    obtain ⟨p, vs, e1, sq, b⟩ := isL_sq m3 hd (Den.grow (g2.trans g3) _ _ d1)
    refine ⟨p, vs, e1, sq, fun q hq' => k _ _ _ _ hq (((g1.trans g2).trans g3).trans (Grow.new hq')) (m3.new hq') ?_⟩
    unfold Den
    refine ⟨q, _, rfl, ⟨m3.free hq', upd_same⟩, ?_⟩
    unfold stepD
    rw [b.length]
    exact DenL.grow (Grow.new hq') _ _ (perm_den b)
/-- xs[::-1] -/
theorem evx_revL (h : EvX K W X μ ρ te fun μ1 x => ∃ ds S, IsL μ1 x ds S ∧ Φ μ1 (.lst ds.reverse)) : EvX K W X μ ρ (tRevL K te) Φ := fun σ H Q m e l k =>
  h σ H _ m e l fun μ1 x v H1 ⟨ds, S, hd, hq⟩ g1 m1 d1 => by
    obtain ⟨p, vs, e1, sq, b⟩ := isL_sq m1 hd d1
    exact ⟨p, vs, e1, sq, fun q hq' => k _ _ _ _ hq (g1.trans (Grow.new hq')) (m1.new hq') (by
      unfold Den
      exact ⟨q, _, rfl, ⟨m1.free hq', upd_same⟩, DenL.grow (Grow.new hq') _ _ b.reverse⟩)⟩
/-- what a slice keeps -/
theorem cut_to {α : Type} (f : α → D) (xs : List α) (k : Nat) : cutD (xs.map f) none (some (k : Int)) = (xs.take k).map f := by
  unfold cutD
  simp only [HT.sIx_none, HT.sIx_nat]
  rw [List.drop_zero, Nat.sub_zero, List.length_map, ← List.map_take]
  congr 1
  exact List.take_eq_take_iff.mpr (by omega)
theorem cut_from {α : Type} (f : α → D) (xs : List α) (k : Nat) : cutD (xs.map f) (some (k : Int)) none = (xs.drop k).map f := by
  unfold cutD
  simp only [HT.sIx_none, HT.sIx_nat]
  rw [List.length_map, ← List.map_drop, ← List.map_take]
  congr 1
  rw [List.take_of_length_le (by rw [List.length_drop]; omega)]
  rcases Nat.lt_or_ge k xs.length with h | h
  · rw [Nat.min_eq_left (by omega)]
  · rw [Nat.min_eq_right h, List.drop_eq_nil_of_le (Nat.le_refl _), List.drop_eq_nil_of_le h]
/-- a pure call by keywords over live data -/
theorem evx_ckZ {a b : Nat} {pm : List Nat} (i : Nat) (h : EvL K W X μ ρ tk fun μ1 es => (permG a b pm [] es).length = n ∧ P muN ((permG a b pm [] es).map (seeF μ1 i)) (fun _ d => scal d = true ∧ Φ μ1 d) excN) : EvX K W X μ ρ (tCallK (spD K n P) (permG a b pm) E0 tNil tk) Φ := fun σ H Q m e l k =>
  h σ H _ m e l fun μ1 es vs H1 ⟨hl, hp⟩ g1 m1 d1 => ⟨muN, (permG a b pm [] es).map (seeF μ1 i), _, excN, mem_muN, by rw [← seeFs_map]; exact (den_seeF m1 i).2 _ _ (permG_den DenL.nil d1), by rw [List.length_map]; exact hl, hp, fun μ' d v H' ⟨hs, hq⟩ g mm dd =>
    k μ1 d v H' hq (g1.trans fun b u hb e => ⟨hb, (g b u rfl e).2⟩) (mem_whole m1 g) (den_scal hs dd), fun _ _ _ _ _ _ z => z.elim⟩
end
theorem pi_via {X : Cx} {tg e : Expr} {w w' : TI} (h : PI X tg e w') (hk : w' = w) : PI X tg e w := hk ▸ h
theorem pc_dinBk {X : Cx} {s : Shared} {H : Hp} {sc : Scope} {ce : Env} {fp : List Addr} {i o : Expr} {ty td : TE} (hu : X.A.units + 1 < cLine) (hi : PE (X.blk s H sc ce fp) i ty) (ho : PE (X.blk s H sc ce fp) o td) : PC (X.blk s H sc ce fp) .In i o (tDIn ty td) := pc_din (X := X.blk s H sc ce fp) hu hi ho
theorem pc_dnotinBk {X : Cx} {s : Shared} {H : Hp} {sc : Scope} {ce : Env} {fp : List Addr} {i o : Expr} {ty td : TE} (hu : X.A.units + 1 < cLine) (hi : PE (X.blk s H sc ce fp) i ty) (ho : PE (X.blk s H sc ce fp) o td) : PC (X.blk s H sc ce fp) .NotIn i o (tDNotIn ty td) := pc_dnotin (X := X.blk s H sc ce fp) hu hi ho
/-! ### [e for x in xs for y in ys] -/
section
variable {K : PySem.W.Frag} {W : WX} {X : XD} {μ : Mu} {ρ : Ro} {Φ : DP} {te : TE} {g g1 : TG} {wi wi1 : TI}
theorem evx_lc2P {vs vs1 : List Nat} (h : ItX K W X μ ρ wi fun μ1 ds S => (∀ m : Mu, (∀ b o, μ1 b = some o → m b = some o) → S m) ∧ ∃ (fs : D → List D),
    (∀ d, d ∈ ds → ∀ μ' : Mu, (∀ b o, μ1 b = some o → μ' b = some o) → TcX K W X vs μ' (wipeD ρ vs) g d fun μ2 ρ2 => ItX K W X μ2 ρ2 wi1 fun μ3 es S1 => μ3 = μ2 ∧ (∀ m, S1 m) ∧ es.length = (fs d).length ∧
      ∀ (j : Nat) (e : D), es[j]? = some e → ∀ μ'' : Mu, (∀ b o, μ1 b = some o → μ'' b = some o) → TcX K W X vs1 μ'' (wipeD ρ2 vs1) g1 e fun μ4 ρ4 => EvX K W X μ4 ρ4 te fun μ5 y => μ5 = μ4 ∧ (fs d)[j]? = some y) ∧
    (ds.flatMap fs).length ≤ 1000000 ∧ Φ μ1 (.lst (ds.flatMap fs))) : EvX K W X μ ρ (tLc2 wi g tYes wi1 g1 tYes te vs vs1) Φ := fun σ H Q m e l k => by
  refine h σ H _ m e l fun μ1 ds S J H1 ⟨hS, fs, hp, hlen, hq⟩ gr1 m1 ok Dl hD => ?_
  have hDm := m1.free hD
  have up : ∀ acc : List D, ∀ b o, μ1 b = some o → mput μ1 Dl (.lst acc) b = some o := fun acc b o e => by
    rw [mput_ne (fun z => by rw [z, hDm] at e; cases e)]; exact e
  have cutp : ∀ acc : List D, mcut (mput μ1 Dl (.lst acc)) Dl = μ1 := fun acc => by
    funext b
    by_cases hb : b = Dl
    · rw [hb, mcut_same, hDm]
    · rw [mcut_ne hb, mput_ne hb]
  have putp : ∀ acc acc' : List D, mput (mput μ1 Dl (.lst acc)) Dl (.lst acc') = mput μ1 Dl (.lst acc') := fun acc acc' => by
    funext b
    by_cases hb : b = Dl
    · rw [hb, mput_same, mput_same]
    · rw [mput_ne hb, mput_ne hb, mput_ne hb]
  obtain ⟨G, Y, w, hG, hY⟩ := ok.w
  have gn : Grow μ1 H1 (mput μ1 Dl (.lst [])) (upd H1 Dl (.lst [])) := Grow.newM hD
  have e1 := wipe_env (vs := vs) (e.grow gr1)
  let Pv : List D → Hp → Prop := fun acc H' => Grow μ1 H1 (mput μ1 Dl (.lst acc)) H' ∧ Mem K (mput μ1 Dl (.lst acc)) H'
  refine ⟨fun i m H' => m = ds.length - i ∧ i ≤ ds.length ∧ Pv ((ds.take i).flatMap fs) H', ⟨ds.length, by simp, Nat.zero_le _, gn, m1.newM hD ⟨[], upd_same, DenL.nil⟩⟩, ?_⟩
  rintro i mm H' ⟨rfl, hi, gr, me⟩
  have q := hG _ H' gr me (hS _ (up _))
  by_cases hlt : i < ds.length
  · refine .inr ⟨w.goes i H' hlt q, Pv ((ds.take (i + 1)).flatMap fs), fun H'' p' => ⟨ds.length - (i + 1), by omega, rfl, hlt, p'⟩, fun x H'' y => ?_⟩
    have hdi : ds[i]? = some ds[i] := List.getElem?_eq_getElem hlt
    have y0 := w.yields i H' x H'' hlt q y
    obtain ⟨q1, q2, q3⟩ := hY i _ H' x H'' ds[i] gr me (hS _ (up _)) y0 hdi
    have gg := gr.trans q1
    refine hp ds[i] (List.getElem_mem hlt) _ (up _) (wipe σ vs) H'' x _ q2 (e1.grow gg) q3 fun ρ2 σ2 it e2 hw => ⟨by rw [hw, wipe_wipe], ?_⟩
    unfold tYes
    dsimp only
    rw [if_pos rfl]
    refine it σ2 H'' _ q2 e2 (l.grow (gr1.trans gg)) fun μ3 es S1 J1 H4 ⟨e3, hS1, hle, hin⟩ g3 m3 ok1 => ?_
    subst e3
    obtain ⟨G1, Y1, w1, hG1, hY1⟩ := ok1.w
    have hfl : ds.take (i + 1) = ds.take i ++ [ds[i]] := by rw [List.take_succ, hdi]; rfl
    have hacc : (ds.take (i + 1)).flatMap fs = (ds.take i).flatMap fs ++ fs ds[i] := by
      rw [hfl, List.flatMap_append]
      show _ ++ (fs ds[i] ++ []) = _
      rw [List.append_nil]
    have hle2 : ((ds.take (i + 1)).flatMap fs).length ≤ 1000000 := by
      refine Nat.le_trans ?_ hlen
      conv => rhs; rw [← List.take_append_drop (i + 1) ds, List.flatMap_append, List.length_append]
      omega
    rw [hacc, List.length_append] at hle2
    let A := (ds.take i).flatMap fs
    refine ⟨fun j k H5 => k = es.length - j ∧ j ≤ es.length ∧ Grow (mput μ1 Dl (.lst A)) H4 (mput μ1 Dl (.lst (A ++ (fs ds[i]).take j))) H5 ∧ Pv (A ++ (fs ds[i]).take j) H5, ⟨es.length, by simp, Nat.zero_le _, by rw [List.take_zero, List.append_nil]; exact Grow.refl _ _, by rw [List.take_zero, List.append_nil]; exact ⟨gg.trans g3, m3⟩⟩, ?_⟩
    rintro j kk H5 ⟨rfl, hj, gz, g5, m5⟩
    have hs1 := hG1 _ H5 gz m5 (hS1 _)
    by_cases hjl : j < es.length
    · refine .inr ⟨w1.goes j H5 hjl hs1, fun H6 => Grow (mput μ1 Dl (.lst A)) H4 (mput μ1 Dl (.lst (A ++ (fs ds[i]).take (j + 1)))) H6 ∧ Pv (A ++ (fs ds[i]).take (j + 1)) H6, fun H6 p' => ⟨es.length - (j + 1), by omega, rfl, hjl, p'⟩, fun x1 H6 y1 => ?_⟩
      have hej : es[j]? = some es[j] := List.getElem?_eq_getElem hjl
      have y2 := w1.yields j H5 x1 H6 hjl hs1 y1
      obtain ⟨r1, r2, r3⟩ := hY1 j _ H5 x1 H6 es[j] gz m5 (hS1 _) y2 hej
      have gz2 := gz.trans r1
      have e5 := wipe_env (vs := vs1) ((e2.grow g3).grow gz2)
      have lg : LiftX K (mput μ1 Dl (.lst (A ++ (fs ds[i]).take j))) H6 X W := l.grow ((gr1.trans g5).trans r1)
      refine hin j es[j] hej _ (up _) (wipe σ2 vs1) H6 x1 _ r2 e5 r3 fun ρ4 σ4 p4 e4 hw4 => ⟨by rw [hw4, wipe_wipe], ?_⟩
      first | (dsimp only; rw [if_pos rfl]) | (unfold tYes; dsimp only; rw [if_pos rfl])
      refine p4 σ4 H6 _ r2 e4 lg fun μ5 yd yv H7 ⟨e6, hy⟩ g7 m7 dy => ?_
      subst e6
      have hl7 : mput μ1 Dl (.lst (A ++ (fs ds[i]).take j)) Dl = some (.lst (A ++ (fs ds[i]).take j)) := mput_same
      obtain ⟨us, hu, hb⟩ := m7 Dl _ hl7
      have et : (fs ds[i]).take (j + 1) = (fs ds[i]).take j ++ [yd] := by rw [List.take_succ, hy]; rfl
      have hsz : (A ++ (fs ds[i]).take j).length ≤ 1000000 := by
        rw [List.length_append]
        have h1 : ((fs ds[i]).take j).length ≤ (fs ds[i]).length := List.length_take_le' ..
        show ((ds.take i).flatMap fs).length + _ ≤ _
        omega
      have m8 := m7.wr (mo' := .lst ((A ++ (fs ds[i]).take j) ++ [yd])) hl7 ⟨us ++ [yv], upd_same, (DenL.grow (Grow.wr hl7) _ _ hb).append (DenL.cons (Den.grow (Grow.wr hl7) _ _ dy) DenL.nil)⟩
      have g8 : Grow (mput μ1 Dl (.lst (A ++ (fs ds[i]).take j))) H7 (mput (mput μ1 Dl (.lst (A ++ (fs ds[i]).take j))) Dl (.lst ((A ++ (fs ds[i]).take j) ++ [yd]))) (upd H7 Dl (.lst (us ++ [yv]))) := Grow.wr hl7
      rw [putp] at m8 g8
      rw [List.append_assoc, ← et] at m8 g8
      exact ⟨us, hu, by rw [← hb.length]; exact Nat.lt_of_le_of_lt hsz (by decide), (gz2.trans g7).trans g8, ((g5.trans r1).trans g7).trans g8, m8⟩
    · have e9 : j = es.length := by omega
      subst e9
      have ef : (fs ds[i]).take es.length = fs ds[i] := by rw [hle, List.take_length]
      rw [ef] at g5 m5
      refine .inl ⟨w1.stops H5 hs1, ?_⟩
      show Pv ((ds.take (i + 1)).flatMap fs) H5
      rw [hacc]
      exact ⟨g5, m5⟩
  · have ei : i = ds.length := by omega
    subst ei
    refine .inl ⟨w.stops H' q, ?_⟩
    rw [List.take_length] at gr me
    obtain ⟨us, hu, hb⟩ := me Dl _ mput_same
    have mc := me.cut (a := Dl)
    have gc : Grow μ1 H1 (mcut (mput μ1 Dl (.lst (ds.flatMap fs))) Dl) H' := gr.trans Grow.cut
    have db := DenL.less (Less.cut (a := Dl)) _ _ hb
    rw [cutp] at mc gc db
    exact k μ1 _ _ H' hq (gr1.trans gc) mc (by unfold Den; exact ⟨Dl, us, rfl, ⟨hDm, hu⟩, db⟩)
end
/-! ### numbers of the program: fractions -/
def numD (a b : Int) : D := .tup [.int a, .int b]
/-- the program's number of a fraction -/
def numQ (q : Rat) : D := numD q.num q.den
theorem numQ_inj {q r : Rat} (h : numQ q = numQ r) : q = r := by
  unfold numQ numD at h
  injection h with h
  injection h with h1 h2
  injection h2 with h2 _
  injection h1 with h1
  injection h2 with h2
  exact Rat.ext h1 (Int.ofNat.inj h2)
theorem rat_eq {q : Rat} {a b : Int} (hb : 0 < b) (hg : Nat.gcd a.natAbs b.natAbs = 1) (h : (a : Rat) = q * b) : q.num = a ∧ (q.den : Int) = b := by
  obtain ⟨d, rfl⟩ := Int.eq_ofNat_of_zero_le (Int.le_of_lt hb)
  have hd : d ≠ 0 := by omega
  have e : q = ⟨a, d, hd, by simpa using hg⟩ := by
    rw [Rat.mk_eq_divInt, Rat.divInt_eq_div, h]
    have : ((d : Int) : Rat) ≠ 0 := by
      intro z
      have : ((d : Int) : Rat) = ((0 : Int) : Rat) := z
      rw [Rat.intCast_inj] at this
      omega
    grind
  rw [e]
  exact ⟨rfl, rfl⟩
/-- a fraction by any two ints -/
theorem num_by {q : Rat} {a b : Int} (hb : b ≠ 0) : q = (a : Rat) / (b : Rat) ↔ (a : Rat) = q * b := by
  have : (b : Rat) ≠ 0 := by
    intro z
    have : (b : Rat) = ((0 : Int) : Rat) := z
    rw [Rat.intCast_inj] at this
    exact hb this
  grind
theorem rat_num_den (q : Rat) : (q.num : Rat) = q * ((q.den : Int) : Rat) := by
  have h := Rat.num_divInt_den q
  rw [Rat.divInt_eq_div] at h
  exact ((num_by (q := q) (a := q.num) (b := q.den) (by have := q.den_pos; omega)).mp h.symm)
theorem gcd_lower {a b : Int} (h : b ≠ 0) : ∃ (G x y : Int), 0 < G ∧ ((Nat.gcd a.natAbs b.natAbs : Nat) : Int) = G ∧ a = G * x ∧ b = G * y ∧ Nat.gcd x.natAbs y.natAbs = 1 := by
  have hg : 0 < Nat.gcd a.natAbs b.natAbs := Nat.gcd_pos_of_pos_right _ (by omega)
  obtain ⟨x, hx⟩ : ((Nat.gcd a.natAbs b.natAbs : Nat) : Int) ∣ a := Int.ofNat_dvd_left.mpr (Nat.gcd_dvd_left _ _)
  obtain ⟨y, hy⟩ : ((Nat.gcd a.natAbs b.natAbs : Nat) : Int) ∣ b := Int.ofNat_dvd_left.mpr (Nat.gcd_dvd_right _ _)
  refine ⟨_, x, y, by omega, rfl, hx, hy, ?_⟩
  have e1 : a.natAbs = Nat.gcd a.natAbs b.natAbs * x.natAbs := by
    conv => lhs; rw [hx]
    rw [Int.natAbs_mul]; rfl
  have e2 : b.natAbs = Nat.gcd a.natAbs b.natAbs * y.natAbs := by
    conv => lhs; rw [hy]
    rw [Int.natAbs_mul]; rfl
  have e3 : Nat.gcd a.natAbs b.natAbs * Nat.gcd x.natAbs y.natAbs = Nat.gcd a.natAbs b.natAbs := by
    rw [← Nat.gcd_mul_left, ← e1, ← e2]
  exact Nat.eq_of_mul_eq_mul_left hg (by rw [e3, Nat.mul_one])
/-- the sign of what lies below -/
theorem low_quot {a b s : Int} (h : b ≠ 0) (hs : s = if b < 0 then -((Nat.gcd a.natAbs b.natAbs : Nat) : Int) else ((Nat.gcd a.natAbs b.natAbs : Nat) : Int)) : numD (a.fdiv s) (b.fdiv s) = numQ ((a : Rat) / (b : Rat)) := by
  obtain ⟨G, x, y, hG, eG, ea, eb, hc⟩ := gcd_lower (a := a) h
  rw [eG] at hs
  have hy0 : y ≠ 0 := by rintro rfl; rw [Int.mul_zero] at eb; exact h eb
  have fin : ∀ x' y' : Int, 0 < y' → Nat.gcd x'.natAbs y'.natAbs = 1 → a * y' = x' * b → numD x' y' = numQ ((a : Rat) / (b : Rat)) := by
    intro x' y' h1 h2 h3
    have e : (x' : Rat) = ((a : Rat) / (b : Rat)) * (y' : Rat) := by
      have hb : (b : Rat) ≠ 0 := by
        intro z
        have : (b : Rat) = ((0 : Int) : Rat) := z
        rw [Rat.intCast_inj] at this
        exact h this
      have : (a : Rat) * (y' : Rat) = (x' : Rat) * (b : Rat) := by
        rw [← Rat.intCast_mul, ← Rat.intCast_mul, h3]
      grind
    obtain ⟨e1, e2⟩ := rat_eq h1 h2 e
    unfold numQ
    rw [e1, e2]
  by_cases hb : b < 0
  · rw [if_pos hb] at hs
    rw [hs]
    have e1 : a.fdiv (-G) = -x := by rw [ea, show G * x = (-G) * (-x) by grind, Int.mul_fdiv_cancel_left _ (by omega)]
    have e2 : b.fdiv (-G) = -y := by rw [eb, show G * y = (-G) * (-y) by grind, Int.mul_fdiv_cancel_left _ (by omega)]
    rw [e1, e2]
    have hy : y < 0 := by
      rcases Int.lt_trichotomy y 0 with q | q | q
      · exact q
      · exact absurd q hy0
      · have := Int.mul_pos hG q; omega
    exact fin _ _ (by omega) (by rw [Int.natAbs_neg, Int.natAbs_neg]; exact hc) (by rw [ea, eb]; grind)
  · rw [if_neg hb] at hs
    rw [hs]
    have e1 : a.fdiv G = x := by rw [ea, Int.mul_fdiv_cancel_left _ (by omega)]
    have e2 : b.fdiv G = y := by rw [eb, Int.mul_fdiv_cancel_left _ (by omega)]
    rw [e1, e2]
    have hy : 0 < y := by
      rcases Int.lt_trichotomy y 0 with q | q | q
      · have := Int.mul_neg_of_pos_of_neg hG q; omega
      · exact absurd q hy0
      · exact q
    exact fin _ _ hy hc (by rw [ea, eb]; grind)
/-! ### how great the two ints are -/
def Sz (n : Nat) (q : Rat) : Prop := q.num.natAbs < 2 ^ n ∧ q.den < 2 ^ n
theorem Sz.mono {n m : Nat} {q : Rat} (h : Sz n q) (hm : n ≤ m) : Sz m q := ⟨Nat.lt_of_lt_of_le h.1 (Nat.pow_le_pow_right (by decide) hm), Nat.lt_of_lt_of_le h.2 (Nat.pow_le_pow_right (by decide) hm)⟩
/-- a fraction by two ints is no greater than they -/
theorem div_le {q : Rat} {a b : Int} (hb : b ≠ 0) (h : (a : Rat) = q * b) : q.num.natAbs ≤ a.natAbs ∧ q.den ≤ b.natAbs := by
  have e : a * (q.den : Int) = q.num * b := by
    rw [← Rat.intCast_inj, Rat.intCast_mul, Rat.intCast_mul, h, rat_num_den q]
    grind
  have hd : q.den ∣ b.natAbs := by
    have h1 : (q.den : Int) ∣ q.num * b := ⟨a, by rw [← e]; grind⟩
    have h2 : q.den ∣ q.num.natAbs * b.natAbs := by
      have := Int.natAbs_dvd_natAbs.mpr h1
      rwa [Int.natAbs_mul] at this
    exact Nat.Coprime.dvd_of_dvd_mul_left (Nat.Coprime.symm q.reduced) h2
  obtain ⟨k, hk⟩ := hd
  have hk0 : 0 < k := Nat.pos_of_ne_zero (by rintro rfl; rw [Nat.mul_zero] at hk; omega)
  refine ⟨?_, by rw [hk]; exact Nat.le_mul_of_pos_right _ hk0⟩
  have e2 : a.natAbs * q.den = q.num.natAbs * b.natAbs := by
    have := congrArg Int.natAbs e
    rw [Int.natAbs_mul, Int.natAbs_mul] at this
    exact this
  rw [hk] at e2
  have e3 : a.natAbs = q.num.natAbs * k := by
    refine Nat.eq_of_mul_eq_mul_right q.den_pos ?_
    rw [e2]
    grind
  rw [e3]
  exact Nat.le_mul_of_pos_right _ hk0
theorem Sz.div {n : Nat} {a b : Int} (hb : b ≠ 0) (h1 : a.natAbs < 2 ^ n) (h2 : b.natAbs < 2 ^ n) : Sz n ((a : Rat) / (b : Rat)) := by
  obtain ⟨e1, e2⟩ := div_le (q := (a : Rat) / (b : Rat)) hb ((num_by hb).mp rfl)
  exact ⟨Nat.lt_of_le_of_lt e1 h1, Nat.lt_of_le_of_lt e2 h2⟩
theorem lt_pow_mul {a b n m : Nat} (h1 : a < 2 ^ n) (h2 : b < 2 ^ m) : a * b < 2 ^ (n + m) := by
  rw [Nat.pow_add]
  exact Nat.mul_lt_mul'' h1 h2
theorem lt_pow_add {a b n : Nat} (h1 : a < 2 ^ n) (h2 : b < 2 ^ n) : a + b < 2 ^ (n + 1) := by
  rw [Nat.pow_succ]; omega
theorem add_by (q r : Rat) : ((q.num * r.den + r.num * q.den : Int) : Rat) = (q + r) * ((q.den * r.den : Int) : Rat) := by
  rw [Rat.intCast_add, Rat.intCast_mul, Rat.intCast_mul, Rat.intCast_mul, rat_num_den q, rat_num_den r]
  grind
theorem mul_by (q r : Rat) : ((q.num * r.num : Int) : Rat) = (q * r) * ((q.den * r.den : Int) : Rat) := by
  rw [Rat.intCast_mul, Rat.intCast_mul, rat_num_den q, rat_num_den r]
  grind
theorem den_ne (q : Rat) : (q.den : Int) ≠ 0 := by have := q.den_pos; omega
theorem Sz.add {n m : Nat} {q r : Rat} (h1 : Sz n q) (h2 : Sz m r) : Sz (n + m + 1) (q + r) := by
  obtain ⟨e1, e2⟩ := div_le (Int.mul_ne_zero (den_ne q) (den_ne r)) (add_by q r)
  refine ⟨Nat.lt_of_le_of_lt e1 ?_, Nat.lt_of_le_of_lt e2 ?_⟩
  · refine Nat.lt_of_le_of_lt (Int.natAbs_add_le _ _) ?_
    rw [Int.natAbs_mul, Int.natAbs_mul, Int.natAbs_natCast, Int.natAbs_natCast]
    exact lt_pow_add (lt_pow_mul h1.1 h2.2) (by rw [Nat.add_comm n m]; exact lt_pow_mul h2.1 h1.2)
  · rw [Int.natAbs_mul, Int.natAbs_natCast, Int.natAbs_natCast]
    exact Nat.lt_of_lt_of_le (lt_pow_mul h1.2 h2.2) (Nat.pow_le_pow_right (by decide) (by omega))
theorem Sz.mul {n m : Nat} {q r : Rat} (h1 : Sz n q) (h2 : Sz m r) : Sz (n + m) (q * r) := by
  obtain ⟨e1, e2⟩ := div_le (Int.mul_ne_zero (den_ne q) (den_ne r)) (mul_by q r)
  refine ⟨Nat.lt_of_le_of_lt e1 ?_, Nat.lt_of_le_of_lt e2 ?_⟩
  · rw [Int.natAbs_mul]
    exact lt_pow_mul h1.1 h2.1
  · rw [Int.natAbs_mul, Int.natAbs_natCast, Int.natAbs_natCast]
    exact lt_pow_mul h1.2 h2.2
theorem sz0 (n : Nat) (h : 1 ≤ n) : Sz n 0 := ⟨Nat.two_pow_pos _, Nat.lt_of_lt_of_le (by decide : 1 < 2 ^ 1) (Nat.pow_le_pow_right (by decide) h)⟩
theorem sz1 (n : Nat) (h : 1 ≤ n) : Sz n 1 := ⟨Nat.lt_of_lt_of_le (by decide : 1 < 2 ^ 1) (Nat.pow_le_pow_right (by decide) h), Nat.lt_of_lt_of_le (by decide : 1 < 2 ^ 1) (Nat.pow_le_pow_right (by decide) h)⟩
/-! ### texts of signs, numbers: what many laws use -/
/-- the text of one sign -/
def sg (c : Nat) : Str := ⟨#[c]⟩
theorem join_sg : ∀ cs : List Nat, (Str.join ⟨#[]⟩ (cs.map sg)).cps.toList = cs
  | [] => rfl
  | [c] => rfl
  | c :: c' :: cs => by
    have ih := join_sg (c' :: cs)
    show ((sg c).cps ++ #[] ++ (Str.join ⟨#[]⟩ ((c' :: cs).map sg)).cps).toList = _
    rw [Array.toList_append, ih]
    rfl
theorem join_sg' (cs : List Nat) : Txt.join ⟨#[]⟩ (cs.map sg) = ⟨cs.toArray⟩ := by
  rw [TL.join_eq]
  have h := join_sg cs
  generalize Str.join ⟨#[]⟩ (cs.map sg) = z at h
  obtain ⟨a⟩ := z
  simp only at h
  rw [← h]
theorem rising_sg : ∀ (c : Nat) (cs : List Nat), risingS (sg c) (cs.map sg) = true → (c :: cs).Pairwise (· ≤ ·)
  | c, [], _ => List.pairwise_singleton _ _
  | c, d :: cs, h => by
    rw [List.map_cons] at h
    unfold risingS at h
    rw [Bool.and_eq_true] at h
    have ih := rising_sg d cs h.2
    have h1 : c ≤ d := by
      have h2 := h.1
      simp only [sg, ltCps, Bool.not_eq_true', Bool.or_eq_false_iff, decide_eq_false_iff_not] at h2
      omega
    refine List.Pairwise.cons (fun e he => ?_) ih
    rcases List.mem_cons.mp he with e1 | e1
    · omega
    · have := (List.pairwise_cons.mp ih).1 e e1
      omega
theorem sorted_sg : ∀ cs : List Nat, sortedS (cs.map sg) = true → cs.Pairwise (· ≤ ·)
  | [], _ => List.Pairwise.nil
  | c :: cs, h => rising_sg c cs h
/-- one to three letters, ascending -/
def Signs (z : Str) : Prop := z.cps.toList.Pairwise (· < ·) ∧ (∀ c ∈ z.cps.toList, 97 ≤ c ∧ c ≤ 122) ∧ 1 ≤ z.cps.toList.length ∧ z.cps.toList.length ≤ 3
def letters : List Nat := (Str.ofString "abcdefghijklmnopqrstuvwxyz").cps.toList
theorem letters_nd : letters.Nodup := by decide +kernel
theorem letters_in : ∀ c ∈ letters, 97 ≤ c ∧ c ≤ 122 := by decide +kernel
theorem letters_len : letters.length = 26 := by decide +kernel
theorem perm_map_sg {zs : List Str} : ∀ {cs : List Nat}, zs.Perm (cs.map sg) → ∃ es : List Nat, zs = es.map sg ∧ es.Perm cs := fun {cs} h => by
  refine ⟨zs.map fun z => z.cps.toList.headD 0, ?_, ?_⟩
  · rw [List.map_map]
    have : ∀ z ∈ zs, (sg ∘ fun z : Str => z.cps.toList.headD 0) z = z := fun z hz => by
      obtain ⟨c, _, rfl⟩ := List.mem_map.mp (h.mem_iff.mp hz)
      rfl
    conv => lhs; rw [← List.map_id zs]
    exact (List.map_congr_left fun z hz => (this z hz).symm)
  · have := h.map fun z : Str => z.cps.toList.headD 0
    rw [List.map_map] at this
    have e : ((fun z : Str => z.cps.toList.headD 0) ∘ sg) = id := by funext c; rfl
    rw [e, List.map_id] at this
    exact this
theorem signs_mk {zs : List Str} {es : List Nat} (hp : zs.Perm (es.map sg)) (hs : sortedS zs = true) (hn : es.Nodup) (hi : ∀ c ∈ es, c ∈ letters) (h1 : 1 ≤ es.length) (h3 : es.length ≤ 3) : ∃ z, Txt.join (Str.ofString "") zs = z ∧ Signs z := by
  obtain ⟨fs, rfl, hf⟩ := perm_map_sg hp
  refine ⟨_, rfl, ?_⟩
  have e : Txt.join (Str.ofString "") (fs.map sg) = ⟨fs.toArray⟩ := join_sg' fs
  rw [e]
  have hle := sorted_sg fs hs
  have hnd : fs.Nodup := hf.nodup_iff.mpr hn
  refine ⟨?_, fun c hc => letters_in c (hi c (hf.mem_iff.mp (by simpa using hc))), ?_, ?_⟩
  · show fs.toArray.toList.Pairwise _
    rw [List.toList_toArray]
    exact (List.Pairwise.and hle hnd).imp fun {a b} h => Nat.lt_of_le_of_ne h.1 h.2
  · show 1 ≤ fs.toArray.toList.length
    rw [List.toList_toArray, hf.length_eq]; exact h1
  · show fs.toArray.toList.length ≤ 3
    rw [List.toList_toArray, hf.length_eq]; exact h3
def sgD (c : Nat) : D := .str (sg c)
theorem sgD_map (cs : List Nat) : cs.map sgD = (cs.map sg).map D.str := by rw [List.map_map]; rfl
theorem signsD_eq (z : Str) : signsD z = z.cps.toList.map sgD := rfl
theorem perm_erase : ∀ {cs : List Nat} {k : Nat} (hk : k < cs.length), (cs[k] :: cs.eraseIdx k).Perm cs
  | c :: cs, 0, _ => List.Perm.refl _
  | c :: cs, k + 1, hk => by
    have ih := perm_erase (cs := cs) (k := k) (by rw [List.length_cons] at hk; omega)
    exact (List.Perm.swap _ _ _).trans (List.Perm.cons c ih)
theorem map_erase {α β : Type} (f : α → β) : ∀ (cs : List α) (k : Nat), (cs.map f).eraseIdx k = (cs.eraseIdx k).map f
  | [], _ => rfl
  | c :: cs, 0 => rfl
  | c :: cs, k + 1 => by
    show f c :: (cs.map f).eraseIdx k = f c :: (cs.eraseIdx k).map f
    rw [map_erase f cs k]
theorem pick_perm {cs es as : List Nat} {k : Nat} (hk : k < cs.length) (h : (cs ++ es).Perm as) : (cs.eraseIdx k ++ (es ++ [cs[k]])).Perm as := by
  refine List.Perm.trans ?_ h
  rw [← List.append_assoc]
  refine List.perm_append_comm.trans ?_
  rw [← List.append_assoc]
  exact List.Perm.append_right _ (perm_erase hk)
theorem sum_sg : ∀ cs : List Nat, ((cs.map sg).map (·.length)).sum = cs.length
  | [] => rfl
  | c :: cs => by
    rw [List.map_cons, List.map_cons, List.sum_cons, sum_sg cs, List.length_cons]
    show 1 + _ = _
    omega
theorem seq_nat {j : Int} {n : Nat} (h0 : 0 ≤ j) (h1 : j < n) : seqIndex? j n = some j.toNat := by
  have h2 : ¬ j < 0 := by omega
  unfold seqIndex?
  dsimp only
  rw [if_neg h2, if_pos (by rw [Bool.and_eq_true, decide_eq_true_eq, decide_eq_true_eq]; exact ⟨h0, h1⟩)]
def txt (cs : List Nat) : Str := ⟨cs.toArray⟩
theorem txt_cps (cs : List Nat) : (txt cs).cps.toList = cs := List.toList_toArray ..
theorem txt_len (cs : List Nat) : (txt cs).length = cs.length := by
  show cs.toArray.size = _
  rw [List.size_toArray]
theorem map_at {α : Type} {f : α → D} {l : List α} {i : Nat} {d : D} (h : (l.map f)[i]? = some d) : ∃ x, l[i]? = some x ∧ d = f x := by
  rw [List.getElem?_map] at h
  cases e : l[i]? with
  | none => rw [e] at h; exact nomatch h
  | some x => rw [e] at h; cases h; exact ⟨x, rfl, rfl⟩
theorem sg_inj {a b : Nat} (h : sg a = sg b) : a = b := by
  have : (sg a).cps.toList = (sg b).cps.toList := by rw [h]
  simpa [sg] using this
theorem mem_snc {α : Type} {l : List α} {d : α} {P : α → Prop} (h : ∀ e ∈ l, P e) (hd : P d) : ∀ e ∈ l ++ [d], P e := fun e he => by
  rcases List.mem_append.mp he with he | he
  · exact h e he
  · rw [List.mem_singleton] at he; subst he; exact hd
theorem take_snc {α : Type} {l : List α} {i : Nat} {d : α} (h : l[i]? = some d) : l.take (i + 1) = l.take i ++ [d] := by rw [List.take_succ, h]; rfl
theorem nice_numQ (n : Nat) (q : Rat) : Nice (n + 1) (numQ q) := nice_tup fun e he => by
  simp only [List.mem_cons, List.not_mem_nil, or_false] at he
  rcases he with rfl | rfl <;> exact nice_int _ _
theorem lay_sg1 {c : Nat} (h : c < 1114112) : (PyData.str (sg c)).canLay0 = true := by
  show Array.all #[c] (fun x => decide (x < 1114112)) = true
  simp [h]
theorem pick_anyB {α : Type} {ds : List α} {x : Int} (h0 : 0 ≤ x) (h1 : x < ds.length) : ∃ d, d ∈ ds ∧ atI ds x = some d := by
  have hk : x.toNat < ds.length := by omega
  refine ⟨ds[x.toNat], List.getElem_mem hk, ?_⟩
  unfold atI ixN
  rw [if_pos h0, if_pos h1]
  exact List.getElem?_eq_getElem hk
theorem str_txt (z : Str) : z = txt z.cps.toList := by
  obtain ⟨⟨l⟩⟩ := z
  rfl
theorem in_letters {k : Nat} (h1 : 97 ≤ k) (h2 : k ≤ 122) : k ∈ letters := by
  have hh : ∀ j : Fin 26, (97 + j.val) ∈ letters := by decide +kernel
  have := hh ⟨k - 97, by omega⟩
  rwa [show 97 + (k - 97) = k by omega] at this
theorem sum_len1 : ∀ ws : List Nat, ((ws.map sg).map (·.length)).sum = ws.length
  | [] => rfl
  | c :: ws => by
    have ih := sum_len1 ws
    show (sg c).length + ((ws.map sg).map (·.length)).sum = ws.length + 1
    rw [ih]
    show 1 + ws.length = _
    omega
theorem join_txt (ws : List Nat) : Txt.join (Str.ofString "") (ws.map sg) = txt ws := join_sg' ws
theorem add_txt (a b : List Nat) : txt a ++ txt b = txt (a ++ b) := by
  show (⟨a.toArray ++ b.toArray⟩ : Str) = ⟨(a ++ b).toArray⟩
  rw [List.append_toArray]
def isNum (a b : Int) : Bool := decide (1 ≤ b) && decide (((Nat.gcd a.natAbs b.natAbs : Nat) : Int) = 1)
def P_isnum : PD := fun μ ds post _ => ∃ a b : Int, ds = [numD a b] ∧ post μ (.bl (isNum a b))
theorem isNum_pos {a b : Int} (h : isNum a b = true) : 0 < b := by
  unfold isNum at h
  rw [Bool.and_eq_true, decide_eq_true_eq] at h
  omega
theorem isNum_q (q : Rat) : isNum q.num q.den = true := by
  unfold isNum
  have h1 := q.den_pos
  have h2 : Nat.gcd q.num.natAbs q.den = 1 := q.reduced
  rw [decide_eq_true (by omega), Int.natAbs_natCast, h2]
  rfl
/-- the signs of a machine -/
def okSigns (cs : List Nat) : Prop := cs.Pairwise (· < ·) ∧ (∀ c ∈ cs, c ∈ letters) ∧ cs ≠ []
def P_csigns (A : Addr) : PD := fun μ ds post exc => ∃ z : Str, ds = [.str z] ∧ (okSigns z.cps.toList → post μ .non) ∧ (¬ okSigns z.cps.toList → exc μ A (.str z))
def lastS (cs : List Nat) : Str := match cs.getLast? with | none => ⟨#[]⟩ | some c => sg c
theorem lastS_snoc (cs : List Nat) (c : Nat) : lastS (cs ++ [c]) = sg c := by unfold lastS; rw [List.getLast?_concat]
theorem le_last (cs : List Nat) (c : Nat) (h : cs.Pairwise (· < ·)) : (!decide ((lastS cs).cps.toList < (sg c).cps.toList)) = true ↔ ¬ (cs ++ [c]).Pairwise (· < ·) := by
  have e : ∀ a b : Nat, ((sg a).cps.toList < (sg b).cps.toList) ↔ a < b := fun a b => by
    have h1 : decide ((sg a).cps.toList < (sg b).cps.toList) = decide (a < b) := by
      rw [← PyProof.Rows.ltCps_eq]
      simp [ltCps, sg]
    exact decide_eq_decide.mp h1
  rw [Bool.not_eq_true', decide_eq_false_iff_not]
  refine not_congr ?_
  rcases List.eq_nil_or_concat cs with rfl | ⟨ds, d, rfl⟩
  · refine ⟨fun _ => List.pairwise_singleton _ _, fun _ => ?_⟩
    exact List.nil_lt_cons c []
  · rw [List.concat_eq_append] at h ⊢
    rw [lastS_snoc, e]
    refine ⟨fun hl => ?_, fun hp => ?_⟩
    · rw [List.pairwise_append]
      refine ⟨h, List.pairwise_singleton _ _, fun x hx y hy => ?_⟩
      rw [List.mem_singleton] at hy
      subst hy
      rcases List.mem_append.mp hx with hx | hx
      · have := (List.pairwise_append.mp h).2.2 x hx d (List.mem_singleton.mpr rfl)
        omega
      · rw [List.mem_singleton] at hx; omega
    · exact (List.pairwise_append.mp hp).2.2 d (List.mem_append_right _ (List.mem_singleton.mpr rfl)) c (List.mem_singleton.mpr rfl)
section
open PySem.HandSPX PySem.W Builtin Builtin.ObjectAttr
variable {prog : Program} {w : World} {A : Around} {E : Value → Shared → Prop} {R : Result → Shared → Prop} {h : Heap} {g : Array GenState} {d : Drawn} {t : Nat} {os : OsState}
variable {nm q : Str} {C N : Addr} {bs bm bmB : List Value} {hdct : Bool} {sn : List Str} {sub : List Value} {ab : Bool} {col : Option Bool} {dd : Option Addr} {k0 k1 k2 k3 k5 : Option Value} {B newId initId : String}
theorem check_new_kw {M : Model} (F : ExcBaseFacts B newId initId bmB) (hT : ∀ X : String, bm.contains (.type X) = bmB.contains (.type X)) {kw : List (Str × Value)} {Q : Unit → Shared → Prop}
    (hC : h.get? C = some (excClassObj nm q C N bs bm hdct sn sub ab col dd k0 k1 k2 k3 k5 newId)) (hq : Q () ⟨h, g, d, t, os⟩) : wpAny M A (checkBuiltinCall newId ⟨.ref C :: [], kw⟩) Q E ⟨h, g, d, t, os⟩ := by
  have hcont : (Value.ref C :: bm).contains (.type B) = true := by rw [List.contains_cons, hT, F.hasB, Bool.or_true]
  have hstar := F.noStar
  simp only [checkBuiltinCall, F.newKind, F.newSplit, F.newRow]
  repeat (first | refine wpAny_loadPart_at hC ?_ | (refine wpAny_isSubtype_exc hC ?_; rw [hcont]) | refine wpAny_staticBase_exc hC ?_ | refine wpAny_madeBy_exc hC ?_ | simp only [bne_self_eq_false, Bool.false_eq_true, if_false] | wp_step)
  exact hq
theorem new_kw (F : ExcBaseFacts B newId initId bmB) (hT : ∀ X : String, bm.contains (.type X) = bmB.contains (.type X)) {u : Value}
    (hC : h.get? C = some (excClassObj nm q C N bs bm hdct sn sub ab col dd k0 k1 k2 k3 k5 newId))
    (hq : R (.ok (.ret (.ref (h.objs.size + 1)))) ⟨(h.push { cls := .type "tuple", data := .seq ([] : List Value).toArray }).push
      { cls := .ref C, data := .fields #[.ref h.objs.size, .none, .none, .none, .bool false, .none] }, g, d, t, os⟩) :
    codeAny (model prog w) A (.builtin newId ⟨.ref C :: [], [("value", u)]⟩) R ⟨h, g, d, t, os⟩ := by
  have hends := F.ends
  have hcB : (Value.ref C :: bm).contains (.type B) = true := by rw [List.contains_cons, hT, F.hasB, Bool.or_true]
  have hcA : (Value.ref C :: bm).contains (.type "AttributeError") = false := by rw [List.contains_cons, hT, F.noAttr]; rfl
  have hcN : (Value.ref C :: bm).contains (.type "NameError") = false := by rw [List.contains_cons, hT, F.noName]; rfl
  refine codeAny_builtinAt F.entry ?_
  unfold Builtin.«BaseException.__new__»
  refine PySem.wpAt_bind ?_
  show PySem.wpAt _ _ _ (stack >>= _) _ _ _
  refine PySem.wpAt_bind (PySem.wpAt_stack fun p below => PySem.wpAt_of_wpAny ?_)
  wp_walk
  refine PySem.wpAt_of_wpAny ?_
  rw [F.owner]
  repeat (first | with_reducible refine wpAny_madeHere_exc F.canon hC ?_ | with_reducible refine wpAny_loadPart_at hC ?_ | (with_reducible refine wpAny_isSubtype_exc hC ?_; first | rw [hcB] | rw [hcA] | rw [hcN]) | wp_step)
  show R _ _
  rw [Heap.size_push]
  exact hq
theorem type_call_kw (F : ExcBaseFacts B newId initId bmB) (hT : ∀ X : String, bm.contains (.type X) = bmB.contains (.type X)) {u : Value} {fI : Addr} {Q : Fin → Shared → Prop}
    (hC : h.get? C = some (excClassObj nm q C N bs bm hdct sn sub ab col dd k0 k1 k2 k3 k5 newId))
    (hi : W.Looks (model prog w) h (typeLookup (.ref C) "__init__") (some (.ref fI))) (hb : ∀ self, W.Looks (model prog w) h (bindSpecial (.ref fI) self) (.ref fI, [self]))
    (hq : codeAny (model prog w) A (.call (.ref fI) ⟨[.ref (h.objs.size + 1)], [("value", u)]⟩)
      (fun r s' => match r with | .ok (.ret v) => v = .none ∧ Q (.done (.ret (.ref (h.objs.size + 1)))) s' | .ok _ => False | .error e => E e s')
      ⟨(h.push (W.kdv_tup [])).push (excO C h.objs.size), g, d, t, os⟩) :
    wpAny (model prog w) A (Builtin.«type.__call__» ⟨[.ref C], [("value", u)]⟩) Q E ⟨h, g, d, t, os⟩ := by
  repeat (first | with_reducible refine wpAny_loadPart_at hC ?_ | with_reducible refine wpAny_madeBy_exc hC ?_ | wp_step)
  refine codeAny_call_builtin_code (Code.quiet_builtin _ F.quiet) (check_new_kw F hT hC ?_)
  refine new_kw F hT hC ?_
  show wpAny _ _ _ _ _ _
  have k : ∀ b o, h.get? b = some o → ((h.push (W.kdv_tup [])).push (excO C h.objs.size)).get? b = some o := fun b o e => Heap.get?_push_of_some _ (Heap.get?_push_of_some _ e)
  have hC₁ := k _ _ hC
  have hget : ((h.push (W.kdv_tup [])).push (excO C h.objs.size)).get? (h.objs.size + 1) = some (excO C h.objs.size) := by heap_get
  have hcC : (Value.ref C :: bm).contains (.ref C) = true := by simp
  have i1 := hi.keeps k
  have b1 := (hb (.ref (h.objs.size + 1))).keeps k
  unfold isInstance
  repeat (first | with_reducible refine wpAny_loadPart_at hget ?_ | (with_reducible refine wpAny_isSubtype_exc hC₁ ?_; rw [hcC]) | wp_step)
  show wpAny _ _ (typeLookup (.ref C) _) _ _ _
  refine i1.at ?_
  refine wpAny_holding (wpAny_bind (b1.at ?_))
  refine wpAny_bind (wpAny_call (codeAny_mono hq fun r s' z => ?_))
  rcases r with e | (v | _ | _ | _) <;> first | exact z | exact z.elim | skip
  obtain ⟨rfl, z⟩ := z
  first
    | exact wpAny_pure (wpAny_pure z)
    | (wp_walk; exact z)
theorem call_kw (F : ExcBaseFacts B newId initId bmB) (hT : ∀ X : String, bm.contains (.type X) = bmB.contains (.type X)) {u : Value} {fI : Addr}
    (hC : h.get? C = some (excClassObj nm q C N bs bm hdct sn sub ab col dd k0 k1 k2 k3 k5 newId))
    (hi : W.Looks (model prog w) h (typeLookup (.ref C) "__init__") (some (.ref fI))) (hb : ∀ self, W.Looks (model prog w) h (bindSpecial (.ref fI) self) (.ref fI, [self]))
    (hq : codeAny (model prog w) (A.under (.builtin "type.__call__" ⟨[.ref C], [("value", u)]⟩)) (.call (.ref fI) ⟨[.ref (h.objs.size + 1)], [("value", u)]⟩) (W.InitBack (h.objs.size + 1) R)
      ⟨(h.push (W.kdv_tup [])).push (excO C h.objs.size), g, d, t, os⟩) :
    codeAny (model prog w) A (.call (.ref C) ⟨[], [("value", u)]⟩) R ⟨h, g, d, t, os⟩ := by
  have f1 := tc_lookup
  have f2 := tc_bind (.ref C)
  have hTy : (⟨h, g, d, t, os⟩ : Shared).TypeIs (.ref C) "type" := ⟨_, hC, rfl⟩
  refine codeAny_of_tree ?_
  show wpAny _ _ (callAny (.ref C) _) _ _ _
  repeat (any_goals (first | assumption | with_reducible refine wpAny_loadPart_at hC ?_ | wp_step))
  refine ⟨rfl, ?_⟩
  refine codeAny_call_builtin_at (Code.quiet_builtin _ (by decide +kernel)) entry_typeCall (wpAny_check_type_call_sub hC (type_call_kw F hT hC hi hb ?_))
  refine codeAny_mono hq fun r s' z => ?_
  rcases r with e | (v | _ | _ | _) <;> exact z
end
/-! ### own errors as values -/
section
variable {X : Cx} {e : Expr} {es : List Expr} {p pos : Pos} {tk ta : TA} {kws : List Keyword}
def tMkOK (C : Addr) (sp : Sp) (tk : TA) : L2.St → Hp → XK → Prop := fun σ H Q => tk σ H fun zs H1 => zs.length = 1 ∧ ∀ a, H1 a = none → sp (permG 1 1 [0, 1] [.ref a] zs) (upd H1 a (exo a C none))
  (fun v H2 => v = .non ∧ ∃ (d : Addr) (fs : List (Str × V)), H2 a = some (exo a C (some d)) ∧ H2 d = some (exd d fs) ∧ H1 d = none ∧ Q (.ref C) (some d) (upd (del H2 a) d (.xd fs))) (fun _ _ _ => False)
theorem pmk_kw {CX : CXT} {x : Str} {C fI : Addr} {k : Nat} {fd : FuncData} {ps : List Str} {sp : Sp} (T : OexC X.K C) (iC : PySem.W.findIn X.K (.ref C) "__init__" = some (some (.ref fI))) (tI : PySem.W.typeIn X.K (.ref fI) = some (.type "function"))
    (F1 : FnOk X.prog X.w X.K X.mg X.base CX k fI fd ps sp) (hr : Room (k + 1) X.A) (hb : KBn X.K fd ps 1 [("value" : Str)] (permG 1 1 [0, 1]) (permG 1 1 [0, 1])) (hx : Passes CX X (fun _ _ _ => False)) (hg : Gl X x) (hm : X.mg x = some (.ref C)) (hkw : PK X kws tk)
    (hdb : (x == ("__debug__" : Str)) = false := by decide) (hall : (backToKw pos (keywordEach kws X.env)).all (·.1.isSome) = true := by rfl) (hks : (backToKw pos (keywordEach kws X.env)).filterMap (·.1) = [("value" : Str)] := by rfl)
    (hn : ((backTo pos (starEach [] X.env)).any (·.1) || (backToKw pos (keywordEach kws X.env)).any (·.1.isNone)) = false := by rfl) :
    PMk X (.Call (.Name x p) [] kws pos) (tMkOK C sp tk) := by
  intro pins s σ H Q I h
  obtain ⟨nm, q, N, bs, bm, sn, sub, ab, col, dd, k0, k1, k2, k3, k5, hC, hbm⟩ := T.cls
  refine wpAny_Call_Name_kw (ld_glob I hg hm ?_ hdb)
  refine PySem.W.callWith_KW0 (h₀ := X.base) I.ok.mod.kin T.kC hall ?_ hn
  refine thn (hkw.run pos pins s σ H _ I h) fun ws s1 ⟨vs, H1, I1, r1, hq1, q1⟩ => ⟨I1.kIn, ?_⟩
  rw [hks]
  obtain ⟨hp, g, dr, tk, os⟩ := s1
  have hlw : ws.length = 1 := by rw [← r1.length]; exact hq1
  obtain ⟨u, rfl⟩ : ∃ u, ws = [u] := by
    match ws, hlw with
    | [u], _ => exact ⟨u, rfl⟩
  show wpAny _ _ (call (.ref C) [] [("value", u)]) _ _ _
  have hsz : hp.objs.size ≤ hp.objs.size + 1 := Nat.le_succ _
  have hn : H1 (hp.objs.size + 1) = none := I1.hok.fresh hsz
  have hq := q1 (hp.objs.size + 1) hn
  have kk : ∀ b o, hp.get? b = some o → ((hp.push (PySem.W.kdv_tup [])).push (PySem.HandSPX.excO C hp.objs.size)).get? b = some o := fun b o e => Heap.get?_push_of_some _ (Heap.get?_push_of_some _ e)
  have hget : ((hp.push (PySem.W.kdv_tup [])).push (PySem.HandSPX.excO C hp.objs.size)).get? (hp.objs.size + 1) = some (PySem.HandSPX.excO C hp.objs.size) := by heap_get
  have I2 : L2.Inv X pins σ (upd H1 (hp.objs.size + 1) (exo (hp.objs.size + 1) C none)) ⟨(hp.push (PySem.W.kdv_tup [])).push (PySem.HandSPX.excO C hp.objs.size), g, dr, tk, os⟩ :=
    I1.laid (t' := tk) (a := hp.objs.size + 1) (o := exo (hp.objs.size + 1) C none) (h' := (hp.push (PySem.W.kdv_tup [])).push (PySem.HandSPX.excO C hp.objs.size)) kk hsz (exo_ok hget)
  have r0 : Vals [V.ref (hp.objs.size + 1)] [Value.ref (hp.objs.size + 1)] := .cons rfl .nil
  have r2 := hb.rel r0 r1
  refine wpAny_call (call_kw F.excBase_ValueError (fun Y => PySem.HandSPX.refsVE_contains Y bm hbm) (I1.kIn _ _ hC) (PySem.W.looks_findIn I1.kIn iC) (fun self => PySem.W.bind_fn I1.kIn self tI)
    (codeAny_mono (F1.run _ X.stack _ _ ⟨[Value.ref (hp.objs.size + 1)], [("value", u)]⟩ (permG 1 1 [0, 1] [Value.ref (hp.objs.size + 1)] [u]) _ _ (fun _ _ _ => False) (hr.make C [] [("value", u)]) (I2.env0.make C [] [("value", u)]) (hb.to _ [Value.ref (hp.objs.size + 1)] [u] I2.kIn rfl rfl) r2 hq) fun r s' hq' => ?_))
  cases r with
  | error er => exact hx pins σ _ _ er s' I2 hq'
  | ok fl =>
    cases fl with
    | ret u =>
      obtain ⟨v, H2, os2, bare2, un2, hok2, rv, ev, d, fs, ea, ed, hd1, q2⟩ := hq'
      subst ev
      obtain ⟨h2, g2, d2, t2, os'⟩ := s'
      exact ⟨rv, mk_end (raises_own T.exC T.tyC) I1 hsz kk un2 hok2 os2 bare2 ea ed hd1 q2⟩
    | next => exact False.elim hq'
    | brk => exact False.elim hq'
    | cont => exact False.elim hq'
/-- an error made, kept as a value -/
def tMkE (t : L2.St → Hp → XK → Prop) : TE := fun σ H Q => t σ H fun cls d H' => ∃ C dx, cls = .ref C ∧ d = some dx ∧ ∀ a, H' a = none → Q (.ref a) (upd H' a (ExT a C dx))
theorem pe_mkE {t : L2.St → Hp → XK → Prop} (hm : PMk X e t) (hex : X.ex = []) : PE X e (tMkE t) := by
  refine ⟨fun pins s σ H Q I h => ?_⟩
  refine wpAny_mono (hm pins s σ H _ I h) (fun u s1 hu => ?_) (fun _ _ z => z)
  obtain ⟨a, oe, vs, sI, H', cls, d, rfl, J, k, hne, ha, hz, hd, h1, na, os, ag, r, C, dx, rfl, rfl, hq⟩ := hu
  have J1 : L2.Inv X pins σ H' s1 := by
    obtain ⟨hp, g, dr, tk, os1⟩ := s1
    have h3 := J.call (g' := g) (t' := tk) (d' := dr) (ch := []) (Un.kept k) (J.hok.kept k) ag (fun _ z => nomatch z)
    have os2 : os1 = sI.os := os
    subst os2
    exact h3
  have y0 : X.s_0.heap.get? a = none := by
    cases e : X.s_0.heap.get? a with
    | none => rfl
    | some o =>
      obtain ⟨o', q⟩ := J.base.there a o e (by rw [hex]; exact List.not_mem_nil)
      rw [hne] at q
      cases q
  have nL : a ≠ X.env.locals := fun z => by
    obtain ⟨m, ⟨o, es, ep, q, _⟩, _⟩ := J.loc
    rw [← z, hne] at q; cases q
  have yc : ∀ x c, X.env.cells.lookup x = some c → c ≠ a := fun y cc e z => by
    obtain ⟨v, o, q, _⟩ := J.cell y cc e
    rw [z, hne] at q
    cases q
  have yp : ∀ p ∈ X.pn ++ pins, p.1 ≠ a := fun p hp z => by
    have q := (J.pin p hp).1
    rw [z, hne] at q
    cases q
  have T := inv_track J1 na y0 nL yc yp (o := ExT a C dx) ⟨⟨oe, vs, ha, hz.1, hz.2, hd⟩, ⟨oe, ha⟩, fun h1 h2 ⟨o, v, e, r⟩ k => ⟨o, v, k o e, r⟩⟩
  exact ⟨.ref a, _, T, rfl, hq a na⟩
end
/-- the __init__ by keyword -/
structure IniK (P : Program) (w : World) (K : PySem.W.Frag) (mg : Str → Option Value) (base : Heap) (fI : Addr) : Prop where
  ex : ∃ fd : FuncData, PySem.W.typeIn K (.ref fI) = some (.type "function") ∧ FnOk P w K mg base CX0 1 fI fd ["self", "value"] (spInit K "value") ∧ KBn K fd ["self", "value"] 1 [("value" : Str)] (permG 1 1 [0, 1]) (permG 1 1 [0, 1])
section
variable {X : Cx} {x : Str} {C fI : Addr} {j : Nat} {e : Expr} {es : List Expr} {ta tk : TA} {p pos : Pos} {kws : List Keyword}
/-- C(e), an own error -/
theorem pe_mkX (hC : ExcD X.K X.mg x C fI) (hI : IniD X.prog X.w X.K X.mg X.base fI) (hr : Room j X.A) (hj : 2 ≤ j) (ha : PA X (e :: es) ta)
    (hex : X.ex = [] := by rfl) (hg : Gl X x := by rfl) (hdb : (x == ("__debug__" : Str)) = false := by decide)
    (he : starEach (e :: es) X.env = (false, eval e X.env) :: starEach es X.env := by rfl) (hpl : (backTo pos (starEach es X.env)).any (·.1) = false := by rfl) : PE X (.Call (.Name x p) (e :: es) [] pos) (tMkE (tMkO C (spInit X.K "value") [] ta)) := by
  obtain ⟨fd, h1, h2, h3⟩ := hI.ex
  exact pe_mkE (pmk_oex hC.k.ox hC.i h1 h2 (hr.mono hj) h3 .nil pass0 hg hC.m ha hdb he hpl) hex
/-- C(value = e) -/
theorem pe_mkXK (hC : ExcD X.K X.mg x C fI) (hI : IniK X.prog X.w X.K X.mg X.base fI) (hr : Room j X.A) (hj : 2 ≤ j) (hkw : PK X kws tk)
    (hex : X.ex = [] := by rfl) (hg : Gl X x := by rfl) (hdb : (x == ("__debug__" : Str)) = false := by decide) (hall : (backToKw pos (keywordEach kws X.env)).all (·.1.isSome) = true := by rfl) (hks : (backToKw pos (keywordEach kws X.env)).filterMap (·.1) = [("value" : Str)] := by rfl)
    (hn : ((backTo pos (starEach [] X.env)).any (·.1) || (backToKw pos (keywordEach kws X.env)).any (·.1.isNone)) = false := by rfl) : PE X (.Call (.Name x p) [] kws pos) (tMkE (tMkOK C (spInit X.K "value") tk)) := by
  obtain ⟨fd, h1, h2, h3⟩ := hI.ex
  exact pe_mkE (pmk_kw hC.k.ox hC.i h1 h2 (hr.mono hj) h3 pass0 hg hC.m hkw hdb hall hks hn) hex
end
section
variable {K : PySem.W.Frag} {W : WX} {X : XD} {μ : Mu} {ρ : Ro} {Φ : DP} {C : Addr} {tr : TA}
theorem den_exc {H1 : Hp} {w : V} {d : D} {a p dx : Addr} {μ1 : Mu} (m1 : Mem K μ1 H1) (dd : Den K μ1 H1 d w) (hp : H1 p = none) (hdx' : H1 dx = none) (hne : dx ≠ p)
    (ha : (upd (L2.del (upd (upd (upd H1 p (exo p C none)) dx (exd dx [(("value" : Str), w)])) p (exo p C (some dx))) p) dx (.xd [(("value" : Str), w)])) a = none) :
    ∃ H2, (upd (upd (L2.del (upd (upd (upd H1 p (exo p C none)) dx (exd dx [(("value" : Str), w)])) p (exo p C (some dx))) p) dx (.xd [(("value" : Str), w)])) a (ExT a C dx)) = H2 ∧ Grow μ1 H1 μ1 H2 ∧ Mem K μ1 H2 ∧ Den K μ1 H2 (.exc C d) (.ref a) := by
  have eq : upd (L2.del (upd (upd (upd H1 p (exo p C none)) dx (exd dx [(("value" : Str), w)])) p (exo p C (some dx))) p) dx (.xd [(("value" : Str), w)]) = upd H1 dx (.xd [(("value" : Str), w)]) := by
    funext b
    by_cases h1 : b = dx
    · rw [h1, upd_same, upd_same]
    · rw [upd_ne h1, upd_ne h1]
      by_cases h2 : b = p
      · rw [h2, del_same, hp]
      · rw [del_ne h2, upd_ne h2, upd_ne h1, upd_ne h2]
  rw [eq] at ha ⊢
  have g1 : Grow μ1 H1 μ1 (upd H1 dx (.xd [(("value" : Str), w)])) := Grow.new hdx'
  have g2 : Grow μ1 (upd H1 dx (.xd [(("value" : Str), w)])) μ1 (upd (upd H1 dx (.xd [(("value" : Str), w)])) a (ExT a C dx)) := Grow.new ha
  have m2 := m1.new (o := .xd [(("value" : Str), w)]) hdx'
  have hda : dx ≠ a := ne_of_none upd_same ha
  refine ⟨_, rfl, g1.trans g2, m2.new ha, ?_⟩
  unfold Den
  exact ⟨a, dx, w, rfl, ⟨m2.free ha, upd_same⟩, ⟨m1.free hdx', by rw [upd_ne hda]; exact upd_same⟩, Den.grow (g1.trans g2) _ _ dd⟩
theorem evx_mkX (hC : OexC K C) (hv : PySem.W.findIn K (.ref C) "value" = some none) (h : EvL K W X μ ρ tr fun μ1 ds => ∃ d, ds = [d] ∧ Φ μ1 (.exc C d)) : EvX K W X μ ρ (tMkE (tMkO C (spInit K "value") [] tr)) Φ := fun σ H Q m e l k => by
  refine h σ H _ m e l fun μ1 ds vs H1 ⟨d, hd, hx⟩ g1 m1 d1 => ?_
  subst hd
  obtain ⟨w, e1, a⟩ := denL1 d1
  subst e1
  refine ⟨Nat.le_of_ble_eq_true rfl, fun p hp => ⟨p, C, w, rfl, hC, hv, upd_same, fun dx hdx hne => ⟨rfl, dx, [(("value" : Str), w)], upd_same, ?_, ?_, C, dx, rfl, rfl, fun q hq => ?_⟩⟩⟩
  · rw [upd_ne hne, upd_same]
  · rw [upd_ne hne] at hdx; exact hdx
  · have hdx' : H1 dx = none := by rw [upd_ne hne] at hdx; exact hdx
    obtain ⟨H2, e2, g2, m2, d2⟩ := den_exc m1 a hp hdx' hne hq
    rw [e2]
    exact k μ1 _ _ _ hx (g1.trans g2) m2 d2
theorem evx_mkXK (hC : OexC K C) (hv : PySem.W.findIn K (.ref C) "value" = some none) (h : EvL K W X μ ρ tr fun μ1 ds => ∃ d, ds = [d] ∧ Φ μ1 (.exc C d)) : EvX K W X μ ρ (tMkE (tMkOK C (spInit K "value") tr)) Φ := fun σ H Q m e l k => by
  refine h σ H _ m e l fun μ1 ds vs H1 ⟨d, hd, hx⟩ g1 m1 d1 => ?_
  subst hd
  obtain ⟨w, e1, a⟩ := denL1 d1
  subst e1
  refine ⟨rfl, fun p hp => ⟨p, C, w, rfl, hC, hv, upd_same, fun dx hdx hne => ⟨rfl, dx, [(("value" : Str), w)], upd_same, ?_, ?_, C, dx, rfl, rfl, fun q hq => ?_⟩⟩⟩
  · rw [upd_ne hne, upd_same]
  · rw [upd_ne hne] at hdx; exact hdx
  · have hdx' : H1 dx = none := by rw [upd_ne hne] at hdx; exact hdx
    obtain ⟨H2, e2, g2, m2, d2⟩ := den_exc m1 a hp hdx' hne hq
    rw [e2]
    exact k μ1 _ _ _ hx (g1.trans g2) m2 d2
end
/-! ### list(d.keys()), list(d.values()) -/
def VwK (v d : Addr) : HO := .ext fun h => PySem.W.KdlKeysView h v d
def VwV (v d : Addr) : HO := .ext fun h => h.IsValuesView v d
def tVw (vw : Addr → Addr → HO) (td : TE) : TE := fun σ H Q => td σ H fun x H1 => ∃ d kvs, x = .ref d ∧ H1 d = some (.dK kvs) ∧ ∀ v, H1 v = none → Q (.ref v) (upd H1 v (vw v d))
section
variable {X : Cx} {e : Expr} {td : TE} {apos cpos : Pos}
theorem pe_vkeys (he : PE X e td) (hbase : attributeBase e "keys" X.env (eval e X.env) = eval e X.env := by rfl) (hline : (apos.endLine == cpos.line) = true := by rfl) : PE X (.Call (.Attribute e "keys" apos) [] [] cpos) (tVw VwK td) := by
  refine ⟨fun pins s σ H Q I h => ?_⟩
  refine wpAny_Call_method (T := "dict") (id := "dict.keys") hbase rfl hline F.plainAttrs_dict F.slot_dict_keys F.type_dict_keys (thn (he.run pins s σ H _ I h) fun u s1 ⟨x, H1, I1, rx, d, kvs, ex, hd, q⟩ => ?_)
  subst ex
  obtain rfl : u = Value.ref d := rx
  obtain ⟨z, lo, vs, rk, hdd⟩ := (show ObjOk X.prog X.w H1 s1.heap d (.dK kvs) from I1.hok d _ hd)
  refine ⟨hdd.typeIs, hdd.mapOf.noDict, ?_⟩
  show wpAny _ _ (callWith cpos (.builtin "dict.keys") [.ref d] [] []) _ X.xe s1
  refine method_meetsIn F.slot_dict_keys F.entry_dict_keys rfl (PySem.evalArgs_none ⟨rfl, hdd.typeIs, F.args_dict_keys_1 _, _, PySem.W.kdl_meets_keys (mixKind X.prog X.w) d lo, ⟨vs, hdd⟩, ?_⟩)
  refine ⟨.ref s1.heap.objs.size, _, I1.laid (t' := s1.toks) (o := VwK s1.heap.objs.size d) (fun b ob q => Heap.get?_push_of_some _ q) (Nat.le_refl _) ?_, rfl, q _ (I1.hok.fresh (Nat.le_refl _))⟩
  exact ⟨⟨_, Heap.get?_push_size _ rfl, rfl, rfl⟩, ⟨_, Heap.get?_push_size _ rfl⟩, fun h1 h2 ⟨o, a, b⟩ k => ⟨o, k o a, b⟩⟩
theorem pe_vvals (he : PE X e td) (hbase : attributeBase e "values" X.env (eval e X.env) = eval e X.env := by rfl) (hline : (apos.endLine == cpos.line) = true := by rfl) : PE X (.Call (.Attribute e "values" apos) [] [] cpos) (tVw VwV td) := by
  refine ⟨fun pins s σ H Q I h => ?_⟩
  refine wpAny_Call_method (T := "dict") (id := "dict.values") hbase rfl hline F.plainAttrs_dict F.slot_dict_values F.type_dict_values (thn (he.run pins s σ H _ I h) fun u s1 ⟨x, H1, I1, rx, d, kvs, ex, hd, q⟩ => ?_)
  subst ex
  obtain rfl : u = Value.ref d := rx
  obtain ⟨z, lo, vs, rk, hdd⟩ := (show ObjOk X.prog X.w H1 s1.heap d (.dK kvs) from I1.hok d _ hd)
  refine ⟨hdd.typeIs, hdd.mapOf.noDict, ?_⟩
  show wpAny _ _ (callWith cpos (.builtin "dict.values") [.ref d] [] []) _ X.xe s1
  refine method_meetsIn F.slot_dict_values F.entry_dict_values rfl (PySem.evalArgs_none ⟨rfl, hdd.typeIs, F.args_dict_values_1 _, _, meets_dict_values (mixKind X.prog X.w) d lo, ⟨vs, hdd⟩, ?_⟩)
  refine ⟨.ref s1.heap.objs.size, _, I1.laid (t' := s1.toks) (o := VwV s1.heap.objs.size d) (fun b ob q => Heap.get?_push_of_some _ q) (Nat.le_refl _) ?_, rfl, q _ (I1.hok.fresh (Nat.le_refl _))⟩
  exact ⟨⟨_, Heap.get?_push_size _ rfl, rfl, rfl⟩, ⟨_, Heap.get?_push_size _ rfl⟩, fun h1 h2 ⟨o, a, b⟩ k => ⟨o, k o a, b⟩⟩
abbrev rListK : List V → Hp → VK → Prop := fun xs H Q => ∃ v d kvs, xs = [.ref v] ∧ H v = some (VwK v d) ∧ H d = some (.dK kvs) ∧ ∀ p, H p = none → Q (.ref p) (upd H p (.lst (kvs.map fun kv => kV kv.1)))
abbrev rListVs : List V → Hp → VK → Prop := fun xs H Q => ∃ v d kvs, xs = [.ref v] ∧ H v = some (VwV v d) ∧ H d = some (.dK kvs) ∧ ∀ p, H p = none → Q (.ref p) (upd H p (.lst (kvs.map fun kv => kv.2)))
theorem call_listK (hc : X.calm = true) : CallR X (.type "list") rListK := by
  intro pins s σ H xs us Q I r h
  obtain ⟨v, p, kvs, e, hv, hk, q⟩ := h
  subst e
  obtain ⟨u, eu, rx⟩ := vals1 r
  subst eu
  obtain rfl : u = Value.ref v := rx
  obtain ⟨z, lo, vs, rk, hd⟩ := (show ObjOk X.prog X.w H s.heap p (.dK kvs) from I.hok p _ hk)
  have hview : PySem.W.KdlKeysView s.heap v p := (show ObjOk X.prog X.w H s.heap v (VwK v p) from I.hok v _ hv).1
  obtain ⟨ep, hat⟩ := hd.dictAt
  have hl : kvs.length = vs.length := Paired.length rk
  refine PySem.W.kdl_call (PySem.W.kdl_keys (r := v) (knd := mixKind X.prog X.w) (kvs := vs) (ep := ep)) (I.ok.hd hc) ⟨hview, hat⟩ (by rw [← hl]; exact z) fun h' tk acc' c' hkeep hS hacc => ?_
  refine ⟨.ref s.heap.objs.size, upd H s.heap.objs.size (.lst (kvs.map fun kv => kV kv.1)), I.laid hkeep (Nat.le_refl _) (show ObjOk X.prog X.w _ _ _ (.lst (kvs.map fun kv => kV kv.1)) from ⟨?_, acc'.toList, c', ?_, ?_⟩), rfl, q _ (I.hok.fresh (Nat.le_refl _))⟩
  · rw [List.length_map]; exact z
  · have el : acc'.toList.length = acc'.size := by simp
    refine vals_of_at (by rw [List.length_map, el, hacc.1, hl]) fun j x w h1 h2 => ?_
    obtain ⟨k, y, hky, hi⟩ := hacc.2 j w (by rw [← Array.getElem?_toList]; exact h2)
    have e1 : (kvs.map (·.1))[j]? = some k := by
      rw [KV.keys rk, List.getElem?_map, hky] <;> rfl
    have e2 : (kvs.map fun kv => kV kv.1)[j]? = some (kV k) := by
      have e3 : (kvs.map fun kv => kV kv.1) = (kvs.map (·.1)).map kV := by rw [List.map_map] <;> rfl
      rw [e3, List.getElem?_map, e1] <;> rfl
    rw [e2] at h1
    cases h1
    exact keyIs_rel hi
  · rw [Array.toArray_toList]; exact hS
theorem kv_vals : ∀ {kvs : List (Key × V)} {vs : List (Key × Value)}, KV kvs vs → Vals (kvs.map (·.2)) (vs.map (·.2))
  | _, _, .nil => .nil
  | _, _, .cons h t => .cons h.2 (kv_vals t)
theorem call_listVs (hc : X.calm = true) : CallR X (.type "list") rListVs := by
  intro pins s σ H xs us Q I r h
  obtain ⟨v, p, kvs, e, hv, hk, q⟩ := h
  subst e
  obtain ⟨u, eu, rx⟩ := vals1 r
  subst eu
  obtain rfl : u = Value.ref v := rx
  obtain ⟨z, lo, vs, rk, hd⟩ := (show ObjOk X.prog X.w H s.heap p (.dK kvs) from I.hok p _ hk)
  have hview : s.heap.IsValuesView v p := (show ObjOk X.prog X.w H s.heap v (VwV v p) from I.hok v _ hv).1
  obtain ⟨ep, hat⟩ := hd.dictAt
  have hl : kvs.length = vs.length := Paired.length rk
  refine PySem.W.kdl_call (PySem.W.kdl_values (r := v) (knd := mixKind X.prog X.w) (kvs := vs) (ep := ep)) (I.ok.hd hc) ⟨hview, hat⟩ (by rw [← hl]; exact z) fun h' tk acc' c' hkeep hS hacc => ?_
  have ev := PySem.W.kdl_vals_eq (kvs := vs) acc'.toList (by rw [Array.length_toList]; exact hacc.1) fun j w h2 => hacc.2 j w (by rw [← Array.getElem?_toList]; exact h2)
  refine ⟨.ref s.heap.objs.size, upd H s.heap.objs.size (.lst (kvs.map fun kv => kv.2)), I.laid hkeep (Nat.le_refl _) (show ObjOk X.prog X.w _ _ _ (.lst (kvs.map fun kv => kv.2)) from ⟨by rw [List.length_map]; exact z, acc'.toList, c', by rw [ev]; exact kv_vals rk, by rw [Array.toArray_toList]; exact hS⟩), rfl, q _ (I.hok.fresh (Nat.le_refl _))⟩
end
section
variable {K : PySem.W.Frag} {W : WX} {X : XD} {μ : Mu} {H : Hp} {ρ : Ro} {Φ : DP} {td : TE}
theorem keys_den : ∀ {ks : List Key} {vs : List V}, ks.length = vs.length → DenL K μ H (ks.map keyD) ((ks.zip vs).map fun kv => kV kv.1)
  | [], vs, _ => by rw [List.zip_nil_left]; exact DenL.nil
  | k :: ks, [], h => nomatch h
  | k :: ks, v :: vs, h => by
    rw [List.zip_cons_cons, List.map_cons, List.map_cons]
    refine DenL.cons ?_ (keys_den (by simpa using h))
    cases k <;> (unfold keyD Den; rfl)
theorem zip_snd {α β : Type} : ∀ {ks : List α} {vs : List β}, ks.length = vs.length → (ks.zip vs).map (fun kv => kv.2) = vs
  | [], vs, h => (List.eq_nil_of_length_eq_zero h.symm) ▸ rfl
  | k :: ks, [], h => nomatch h
  | k :: ks, v :: vs, h => by rw [List.zip_cons_cons, List.map_cons, zip_snd (by simpa using h)]
theorem vw_ne {H1 : Hp} {d v : Addr} {o : HO} (hd : H1 d = some o) (hv : H1 v = none) : d ≠ v := ne_of_none hd hv
def tListK (td : TE) : TE := tCB rListK (tCons (tVw VwK td) tNil)
def tListV (td : TE) : TE := tCB rListVs (tCons (tVw VwV td) tNil)
theorem pe_listK {X : Cx} {e : Expr} {td : TE} (h : PE X e (tCB rListK (tCons (tVw VwK td) tNil))) : PE X e (tListK td) := h
theorem pe_listVs {X : Cx} {e : Expr} {td : TE} (h : PE X e (tCB rListVs (tCons (tVw VwV td) tNil))) : PE X e (tListV td) := h
theorem evx_listK (h : EvX K W X μ ρ td fun μ1 x => ∃ ks ds, DctD μ1 x ks ds ∧ Φ μ1 (.lst (ks.map keyD))) : EvX K W X μ ρ (tListK td) Φ := fun σ H Q m e l k =>
  h σ H _ m e l fun μ1 x v H1 ⟨ks, ds, hx, hq⟩ g1 m1 d1 => by
    obtain ⟨p, vs, e1, e2, n, b⟩ := hx.hp m1 d1
    refine ⟨p, _, e1, e2, fun w hw => ⟨w, p, _, rfl, upd_same, by rw [upd_ne (vw_ne e2 hw)]; exact e2, fun q hq' => ?_⟩⟩
    have g2 : Grow μ1 H1 μ1 (upd H1 w (VwK w p)) := Grow.new hw
    have m2 := m1.new (o := VwK w p) hw
    exact k μ1 _ _ _ hq ((g1.trans g2).trans (Grow.new hq')) (m2.new hq') (by unfold Den; exact ⟨q, _, rfl, ⟨m2.free hq', upd_same⟩, keys_den n⟩)
theorem evx_listVs (h : EvX K W X μ ρ td fun μ1 x => ∃ ks ds, DctD μ1 x ks ds ∧ Φ μ1 (.lst ds)) : EvX K W X μ ρ (tListV td) Φ := fun σ H Q m e l k =>
  h σ H _ m e l fun μ1 x v H1 ⟨ks, ds, hx, hq⟩ g1 m1 d1 => by
    obtain ⟨p, vs, e1, e2, n, b⟩ := hx.hp m1 d1
    refine ⟨p, _, e1, e2, fun w hw => ⟨w, p, _, rfl, upd_same, by rw [upd_ne (vw_ne e2 hw)]; exact e2, fun q hq' => ?_⟩⟩
    have g2 : Grow μ1 H1 μ1 (upd H1 w (VwV w p)) := Grow.new hw
    have m2 := m1.new (o := VwV w p) hw
    exact k μ1 _ _ _ hq ((g1.trans g2).trans (Grow.new hq')) (m2.new hq') (by
      unfold Den
      refine ⟨q, _, rfl, ⟨m2.free hq', upd_same⟩, ?_⟩
      rw [zip_snd n]
      exact DenL.grow (Grow.new hq') _ _ (DenL.grow g2 _ _ b))
/-- tuple(a list) -/
theorem cax_tupleL {x : D} {ds : List D} {S : Mu → Prop} (hd : IsL μ x ds S) (h : Φ μ (.tup ds)) :
    CaX K (fun xs H Q => ∃ p ys, xs = [.ref p] ∧ ((SqL K H p ys ∧ ∀ l, H l = none → Q (.ref l) (upd H l (.tup ys))) ∨ (SqT K H p ys ∧ Q (.ref p) H))) μ [x] Φ := fun H vs Q m d k => by
  obtain ⟨v, e, a⟩ := denL1 d
  obtain ⟨p, us, e1, sq, b⟩ := isL_sq m hd a
  subst e e1
  exact ⟨p, us, rfl, .inl ⟨sq, fun l hl => k _ _ _ _ h (Grow.new hl) (m.new hl) (by unfold Den; exact ⟨l, us, rfl, .inl ⟨m.free hl, .inl upd_same⟩, DenL.grow (Grow.new hl) _ _ b⟩)⟩⟩
end
/-! ### live data, dicts too, seen as they are now -/
mutual
def seeG (μ : Mu) : Nat → D → D
  | 0, d => d
  | n + 1, .at a => match μ a with
    | some (.lst ds) => .lst (seeGs μ n ds)
    | some (.dct ks ds) => .dct ks (seeGs μ n ds)
    | _ => .at a
  | n + 1, .tup ds => .tup (seeGs μ n ds)
  | n + 1, .lst ds => .lst (seeGs μ n ds)
  | n + 1, .dct ks ds => .dct ks (seeGs μ n ds)
  | _ + 1, d => d
def seeGs (μ : Mu) : Nat → List D → List D
  | _, [] => []
  | n, d :: ds => seeG μ n d :: seeGs μ n ds
end
theorem seeGs_map (μ : Mu) (n : Nat) : ∀ ds : List D, seeGs μ n ds = ds.map (seeG μ n)
  | [] => by unfold seeGs; rfl
  | d :: ds => by unfold seeGs; rw [seeGs_map μ n ds]; rfl
section
variable {K : PySem.W.Frag} {μ μ' : Mu} {H H' : Hp} {W : WX} {X : XD} {ρ : Ro} {Φ : DP} {x y : D} {te : TE} {tr tk : TA} {n : Nat} {P : PD}
theorem den_seeG (m : Mem K μ H) : ∀ (n : Nat), (∀ (d : D) (v : V), Den K μ H d v → Den K muN H (seeG μ n d) v) ∧ (∀ (ds : List D) (vs : List V), DenL K μ H ds vs → DenL K muN H (seeGs μ n ds) vs) := by
  intro n
  have step : ∀ n, (∀ (d : D) (v : V), Den K μ H d v → Den K muN H (seeG μ n d) v) → (∀ (ds : List D) (vs : List V), DenL K μ H ds vs → DenL K muN H (seeGs μ n ds) vs) := by
    intro n hd ds
    induction ds with
    | nil => intro vs h; unfold DenL at h; subst h; unfold seeGs; exact DenL.nil
    | cons d ds ih =>
      intro vs h
      unfold DenL at h
      obtain ⟨w, ws, e, a, b⟩ := h
      subst e
      unfold seeGs
      exact DenL.cons (hd d w a) (ih ws b)
  induction n with
  | zero =>
    have h0 : ∀ (d : D) (v : V), Den K μ H d v → Den K muN H (seeG μ 0 d) v := fun d v h => by
      unfold seeG; exact Den.less less_muN _ _ h
    exact ⟨h0, step 0 h0⟩
  | succ n ih =>
    have h1 : ∀ (d : D) (v : V), Den K μ H d v → Den K muN H (seeG μ (n + 1) d) v := by
      intro d v h
      cases d with
      | «at» a =>
        unfold seeG
        cases q : μ a with
        | none => exact Den.less less_muN _ _ h
        | some o =>
          cases o with
          | lst ds =>
            obtain ⟨vs, e, b⟩ := m a _ q
            unfold Den at h
            subst h
            show Den K muN H (.lst (seeGs μ n ds)) _
            unfold Den
            exact ⟨a, vs, rfl, ⟨rfl, e⟩, ih.2 ds vs b⟩
          | dct ks ds =>
            obtain ⟨vs, e, nn, b⟩ := m a _ q
            unfold Den at h
            subst h
            show Den K muN H (.dct ks (seeGs μ n ds)) _
            unfold Den
            exact ⟨a, vs, rfl, ⟨rfl, e⟩, nn, ih.2 ds vs b⟩
          | obj _ _ _ => exact Den.less less_muN _ _ h
      | tup ds =>
        unfold seeG
        unfold Den at h ⊢
        obtain ⟨p, vs, e, s, b⟩ := h
        refine ⟨p, vs, e, ?_, ih.2 ds vs b⟩
        rcases s with ⟨a, b⟩ | s
        · exact .inl ⟨rfl, b⟩
        · exact .inr s
      | lst ds =>
        unfold seeG
        unfold Den at h ⊢
        obtain ⟨p, vs, e, s, b⟩ := h
        exact ⟨p, vs, e, ⟨rfl, s.2⟩, ih.2 ds vs b⟩
      | dct ks ds =>
        unfold seeG
        unfold Den at h ⊢
        obtain ⟨p, vs, e, s, nn, b⟩ := h
        exact ⟨p, vs, e, ⟨rfl, s.2⟩, nn, ih.2 ds vs b⟩
      | _ => unfold seeG; exact Den.less less_muN _ _ h
    exact ⟨h1, step (n + 1) h1⟩
theorem evx_callY (i : Nat) (h : EvL K W X μ ρ tr fun μ1 ds => ds.length = n ∧ P muN (ds.map (seeG μ1 i)) (fun _ d => scal d = true ∧ Φ μ1 d) excN) : EvX K W X μ ρ (tCall (spD K n P) [] E0 tr) Φ := fun σ H Q m e l k =>
  h σ H _ m e l fun μ1 ds vs H1 ⟨hl, hp⟩ g1 m1 d1 => ⟨muN, ds.map (seeG μ1 i), _, excN, mem_muN, by rw [List.append_nil, ← seeGs_map]; exact (den_seeG m1 i).2 _ _ d1, by rw [List.length_map]; exact hl, hp, fun μ' d v H' ⟨hs, hq⟩ g mm dd =>
    k μ1 d v H' hq (g1.trans fun b u hb e => ⟨hb, (g b u rfl e).2⟩) (mem_whole m1 g) (den_scal hs dd), fun _ _ _ _ _ _ z => z.elim⟩
end
/-! ### plain data, dicts too, at most n deep (a dict counts for two) -/
def alE : Nat → D → Bool
  | _, .non => true
  | _, .bl _ => true
  | _, .int _ => true
  | _, .str _ => true
  | n + 1, .tup ds => ds.all (alE n)
  | n + 1, .lst ds => ds.all (alE n)
  | n + 2, .dct _ ds => ds.all (alE n)
  | _, _ => false
theorem alE_key (n : Nat) (k : Key) : alE n (keyD k) = true := by cases k <;> cases n <;> first | rfl | (rename_i n; cases n <;> rfl)
theorem alE_scal (n : Nat) : alE n .non = true ∧ (∀ b, alE n (.bl b) = true) ∧ (∀ i, alE n (.int i) = true) ∧ (∀ z, alE n (.str z) = true) := by
  refine ⟨?_, fun _ => ?_, fun _ => ?_, fun _ => ?_⟩ <;> (cases n with | zero => rfl | succ n => cases n <;> rfl)
theorem alE_tup {n : Nat} {ds : List D} : alE (n + 1) (.tup ds) = ds.all (alE n) := by cases n <;> rfl
theorem alE_lst {n : Nat} {ds : List D} : alE (n + 1) (.lst ds) = ds.all (alE n) := by cases n <;> rfl
theorem alE_dct {n : Nat} {ks : List Key} {ds : List D} : alE (n + 2) (.dct ks ds) = ds.all (alE n) := rfl
theorem alE_succ : ∀ (n : Nat) (d : D), alE n d = true → alE (n + 1) d = true := by
  intro n
  induction n using Nat.strongRecOn with
  | ind n ih =>
    intro d h
    cases d with
    | non => exact (alE_scal _).1
    | bl b => exact (alE_scal _).2.1 b
    | int i => exact (alE_scal _).2.2.1 i
    | str z => exact (alE_scal _).2.2.2 z
    | tup ds =>
      cases n with
      | zero => cases h
      | succ n =>
        rw [alE_tup, List.all_eq_true] at h ⊢
        exact fun d hd => ih n (by omega) d (h d hd)
    | lst ds =>
      cases n with
      | zero => cases h
      | succ n =>
        rw [alE_lst, List.all_eq_true] at h ⊢
        exact fun d hd => ih n (by omega) d (h d hd)
    | dct ks ds =>
      match n, h, ih with
      | 0, h, _ => cases h
      | 1, h, _ => cases h
      | n + 2, h, ih =>
        rw [alE_dct, List.all_eq_true] at h ⊢
        exact fun d hd => ih n (by omega) d (h d hd)
    | ty _ => cases n with | zero => cases h | succ n => cases n <;> cases h
    | frz _ => cases n with | zero => cases h | succ n => cases n <;> cases h
    | obj _ _ _ => cases n with | zero => cases h | succ n => cases n <;> cases h
    | exc _ _ => cases n with | zero => cases h | succ n => cases n <;> cases h
    | «at» _ => cases n with | zero => cases h | succ n => cases n <;> cases h
theorem alE_mono {n m : Nat} {d : D} (h : alE n d = true) (hm : n ≤ m) : alE m d = true := by
  obtain ⟨k, rfl⟩ := Nat.exists_eq_add_of_le hm
  clear hm
  induction k with
  | zero => exact h
  | succ k ih => exact alE_succ _ _ ih
/-- what is alike itself now -/
def Fine (μ : Mu) (n : Nat) (d : D) : Prop := alE n (seeG μ n d) = true
theorem seeG_pure (μ : Mu) : ∀ (n : Nat) (d : D) (m : Nat), alE m d = true → seeG μ n d = d := by
  intro n
  induction n with
  | zero => intro d m h; unfold seeG; rfl
  | succ n ih =>
    intro d m h
    have all : ∀ (ds : List D) (m : Nat), ds.all (alE m) = true → seeGs μ n ds = ds := fun ds m hd => by
      rw [seeGs_map]
      conv => rhs; rw [← List.map_id ds]
      exact List.map_congr_left fun d hm => ih d m (List.all_eq_true.mp hd d hm)
    cases d with
    | tup ds =>
      cases m with
      | zero => cases h
      | succ m => rw [alE_tup] at h; unfold seeG; rw [all ds m h]
    | lst ds =>
      cases m with
      | zero => cases h
      | succ m => rw [alE_lst] at h; unfold seeG; rw [all ds m h]
    | dct ks ds =>
      match m, h with
      | 0, h => cases h
      | 1, h => cases h
      | m + 2, h => rw [alE_dct] at h; unfold seeG; rw [all ds m h]
    | «at» _ => cases m with | zero => cases h | succ m => cases m <;> cases h
    | _ => unfold seeG; rfl
theorem fine_pure {μ : Mu} {n m : Nat} {d : D} (h : alE m d = true) (hm : m ≤ n) : Fine μ n d := by
  unfold Fine
  rw [seeG_pure μ n d m h]
  exact alE_mono h hm
/-- changes that put nothing but ints in lists and dicts -/
def Tame (μ μ' : Mu) : Prop := ∀ b o, μ b = some o → match o with
  | .lst ds => ∃ es, μ' b = some (.lst es) ∧ ∀ e ∈ es, e ∈ ds ∨ ∃ i, e = .int i
  | .dct _ ds => ∃ ks' es, μ' b = some (.dct ks' es) ∧ ∀ e ∈ es, e ∈ ds ∨ ∃ i, e = .int i
  | .obj _ _ _ => True
theorem Tame.refl (μ : Mu) : Tame μ μ := fun b o h => by
  cases o with
  | lst ds => exact ⟨ds, h, fun e he => .inl he⟩
  | dct ks ds => exact ⟨ks, ds, h, fun e he => .inl he⟩
  | obj _ _ _ => trivial
theorem Tame.trans {μ μ1 μ2 : Mu} (h : Tame μ μ1) (k : Tame μ1 μ2) : Tame μ μ2 := fun b o e => by
  have h1 := h b o e
  cases o with
  | lst ds =>
    obtain ⟨es, e1, q1⟩ := h1
    obtain ⟨fs, e2, q2⟩ := k b _ e1
    exact ⟨fs, e2, fun x hx => (q2 x hx).elim (q1 x) .inr⟩
  | dct ks ds =>
    obtain ⟨ks1, es, e1, q1⟩ := h1
    obtain ⟨ks2, fs, e2, q2⟩ := k b _ e1
    exact ⟨ks2, fs, e2, fun x hx => (q2 x hx).elim (q1 x) .inr⟩
  | obj _ _ _ => trivial
theorem tame_stay {μ μ' : Mu} (h : ∀ b o, μ b = some o → μ' b = some o) : Tame μ μ' := fun b o e => by
  cases o with
  | lst ds => exact ⟨ds, h b _ e, fun e he => .inl he⟩
  | dct ks ds => exact ⟨ks, ds, h b _ e, fun e he => .inl he⟩
  | obj _ _ _ => trivial
theorem tame_lst {μ : Mu} {p : Addr} {ds es : List D} (h : μ p = some (.lst ds)) (he : ∀ e ∈ es, e ∈ ds ∨ ∃ i, e = .int i) : Tame μ (mput μ p (.lst es)) := fun b o e => by
  by_cases hb : b = p
  · subst hb
    rw [h] at e; cases e
    exact ⟨es, mput_same, he⟩
  · have := Tame.refl μ b o e
    cases o with
    | lst ds => exact ⟨ds, by rw [mput_ne hb]; exact e, fun e he => .inl he⟩
    | dct ks ds => exact ⟨ks, ds, by rw [mput_ne hb]; exact e, fun e he => .inl he⟩
    | obj _ _ _ => trivial
theorem tame_dct {μ : Mu} {p : Addr} {ks ks' : List Key} {ds es : List D} (h : μ p = some (.dct ks ds)) (he : ∀ e ∈ es, e ∈ ds ∨ ∃ i, e = .int i) : Tame μ (mput μ p (.dct ks' es)) := fun b o e => by
  by_cases hb : b = p
  · subst hb
    rw [h] at e; cases e
    exact ⟨ks', es, mput_same, he⟩
  · cases o with
    | lst ds => exact ⟨ds, by rw [mput_ne hb]; exact e, fun e he => .inl he⟩
    | dct ks ds => exact ⟨ks, ds, by rw [mput_ne hb]; exact e, fun e he => .inl he⟩
    | obj _ _ _ => trivial
theorem tame_deck {a g : Addr} {c c' : Int} {μ μ' : Mu} (h : Deck a g c μ) (h' : Deck a g c' μ') (k : Keep a g μ μ') : Tame μ μ' := fun b o e => by
  obtain ⟨gs, o1, m1, k1, d⟩ := h
  obtain ⟨gs', o2, m2, k2, d'⟩ := h'
  by_cases ha : b = a
  · subst ha
    rw [d.ha] at e; cases e
    refine ⟨_, d'.ha, fun x hx => ?_⟩
    simp only [List.mem_cons, List.not_mem_nil, or_false] at hx
    rcases hx with rfl | rfl | rfl | rfl
    · exact .inl (List.mem_cons_self ..)
    · exact .inr ⟨_, rfl⟩
    · exact .inr ⟨_, rfl⟩
    · exact .inr ⟨_, rfl⟩
  · by_cases hg : b = g
    · subst hg
      rw [d.hg] at e; cases e
      refine ⟨_, d'.hg, fun x hx => ?_⟩
      obtain ⟨i, _, rfl⟩ := List.mem_map.mp hx
      exact .inr ⟨_, rfl⟩
    · have e2 := k b o ha hg e
      cases o with
      | lst ds => exact ⟨ds, e2, fun e he => .inl he⟩
      | dct ks ds => exact ⟨ks, ds, e2, fun e he => .inl he⟩
      | obj _ _ _ => trivial
theorem seeG_int (μ : Mu) (n : Nat) (i : Int) : seeG μ n (.int i) = .int i := by cases n <;> (unfold seeG; rfl)
theorem fine_tame {μ μ' : Mu} (t : Tame μ μ') : ∀ (n m : Nat) (d : D), alE m (seeG μ n d) = true → alE m (seeG μ' n d) = true := by
  intro n
  induction n with
  | zero => intro m d h; unfold seeG at h ⊢; exact h
  | succ n ih =>
    have all : ∀ (m : Nat) (ds es : List D), (∀ e ∈ es, e ∈ ds ∨ ∃ i, e = .int i) → (seeGs μ n ds).all (alE m) = true → (seeGs μ' n es).all (alE m) = true := fun m ds es hs h => by
      rw [seeGs_map, List.all_eq_true] at h ⊢
      intro x hx
      obtain ⟨e, he, rfl⟩ := List.mem_map.mp hx
      rcases hs e he with h1 | ⟨i, rfl⟩
      · exact ih m e (h _ (List.mem_map.mpr ⟨e, h1, rfl⟩))
      · rw [seeG_int]; exact (alE_scal m).2.2.1 i
    have lst : ∀ (m : Nat) (ds es : List D), (∀ e ∈ es, e ∈ ds ∨ ∃ i, e = .int i) → alE m (.lst (seeGs μ n ds)) = true → alE m (.lst (seeGs μ' n es)) = true := fun m ds es hs h => by
      cases m with
      | zero => cases h
      | succ m => rw [alE_lst] at h ⊢; exact all m ds es hs h
    have tup : ∀ (m : Nat) (ds : List D), alE m (.tup (seeGs μ n ds)) = true → alE m (.tup (seeGs μ' n ds)) = true := fun m ds h => by
      cases m with
      | zero => cases h
      | succ m => rw [alE_tup] at h ⊢; exact all m ds ds (fun e he => .inl he) h
    have dct : ∀ (m : Nat) (ks ks' : List Key) (ds es : List D), (∀ e ∈ es, e ∈ ds ∨ ∃ i, e = .int i) → alE m (.dct ks (seeGs μ n ds)) = true → alE m (.dct ks' (seeGs μ' n es)) = true := fun m ks ks' ds es hs h => by
      match m, h with
      | 0, h => cases h
      | 1, h => cases h
      | m + 2, h => rw [alE_dct] at h ⊢; exact all m ds es hs h
    intro m d h
    cases d with
    | «at» a =>
      unfold seeG at h ⊢
      cases q : μ a with
      | none => rw [q] at h; cases m with | zero => cases h | succ m => cases m <;> cases h
      | some o =>
        rw [q] at h
        cases o with
        | lst ds =>
          obtain ⟨es, e1, hs⟩ := t a _ q
          rw [e1]
          exact lst m ds es hs h
        | dct ks ds =>
          obtain ⟨ks', es, e1, hs⟩ := t a _ q
          rw [e1]
          exact dct m ks ks' ds es hs h
        | obj _ _ _ => cases m with | zero => cases h | succ m => cases m <;> cases h
    | tup ds => unfold seeG at h ⊢; exact tup m ds h
    | lst ds => unfold seeG at h ⊢; exact lst m ds ds (fun e he => .inl he) h
    | dct ks ds => unfold seeG at h ⊢; exact dct m ks ks ds ds (fun e he => .inl he) h
    | _ => unfold seeG at h ⊢; exact h
theorem Fine.tame {μ μ' : Mu} {n : Nat} {d : D} (h : Fine μ n d) (t : Tame μ μ') : Fine μ' n d := fine_tame t n n d h
/-- a list whose things are fine -/
theorem fine_lst {μ : Mu} {p : Addr} {n : Nat} {ds : List D} (hp : μ p = some (.lst ds)) (h : ∀ d ∈ ds, Fine μ n d) : Fine μ (n + 1) (.at p) := by
  unfold Fine seeG
  rw [hp]
  show alE (n + 1) (.lst (seeGs μ n ds)) = true
  rw [alE_lst, seeGs_map, List.all_eq_true]
  intro x hx
  obtain ⟨d, hd, rfl⟩ := List.mem_map.mp hx
  exact h d hd
theorem Fine.up1 {μ : Mu} : ∀ (n : Nat) (m : Nat) (d : D), alE m (seeG μ n d) = true → seeG μ (n + 1) d = seeG μ n d := by
  intro n
  induction n with
  | zero =>
    intro m d h
    rw [show seeG μ 0 d = d by unfold seeG; rfl] at h ⊢
    exact seeG_pure μ 1 d m h
  | succ n ih =>
    have all : ∀ (m : Nat) (ds : List D), (seeGs μ n ds).all (alE m) = true → seeGs μ (n + 1) ds = seeGs μ n ds := fun m ds h => by
      rw [seeGs_map, List.all_eq_true] at h
      rw [seeGs_map, seeGs_map]
      exact List.map_congr_left fun d hd => ih m d (h _ (List.mem_map.mpr ⟨d, hd, rfl⟩))
    intro m d h
    cases d with
    | «at» a =>
      unfold seeG at h ⊢
      cases q : μ a with
      | none => rfl
      | some o =>
        rw [q] at h
        cases o with
        | lst ds =>
          cases m with
          | zero => cases h
          | succ m => rw [alE_lst] at h; show D.lst _ = D.lst _; rw [all m ds h]
        | dct ks ds =>
          match m, h with
          | 0, h => cases h
          | 1, h => cases h
          | m + 2, h => rw [alE_dct] at h; show D.dct _ _ = D.dct _ _; rw [all m ds h]
        | obj _ _ _ => cases m with | zero => cases h | succ m => cases m <;> cases h
    | tup ds =>
      unfold seeG at h ⊢
      cases m with
      | zero => cases h
      | succ m => rw [alE_tup] at h; rw [all m ds h]
    | lst ds =>
      unfold seeG at h ⊢
      cases m with
      | zero => cases h
      | succ m => rw [alE_lst] at h; rw [all m ds h]
    | dct ks ds =>
      unfold seeG at h ⊢
      match m, h with
      | 0, h => cases h
      | 1, h => cases h
      | m + 2, h => rw [alE_dct] at h; rw [all m ds h]
    | _ => unfold seeG; rfl
theorem Fine.up {μ : Mu} {n m : Nat} {d : D} (h : Fine μ n d) (hm : n ≤ m) : Fine μ m d := by
  obtain ⟨k, rfl⟩ := Nat.exists_eq_add_of_le hm
  clear hm
  induction k with
  | zero => exact h
  | succ k ih =>
    unfold Fine at ih ⊢
    rw [Nat.add_succ, Fine.up1 _ _ _ ih]
    exact alE_succ _ _ ih
theorem fine_dct {μ : Mu} {p : Addr} {n : Nat} {ks : List Key} {ds : List D} (hp : μ p = some (.dct ks ds)) (h : ∀ d ∈ ds, Fine μ n d) : Fine μ (n + 2) (.at p) := by
  have h2 : ∀ d ∈ ds, alE n (seeG μ (n + 1) d) = true := fun d hd => by rw [Fine.up1 n n d (h d hd)]; exact h d hd
  unfold Fine seeG
  rw [hp]
  show alE (n + 2) (.dct ks (seeGs μ (n + 1) ds)) = true
  rw [alE_dct, seeGs_map, List.all_eq_true]
  intro x hx
  obtain ⟨d, hd, rfl⟩ := List.mem_map.mp hx
  exact h2 d hd
/-- the laws' comparison of what is the same, dicts too -/
def P_alikeE : Nat → PD
  | 0 => fun _ _ _ _ => False
  | n + 1 => fun μ ds post _ => ∃ d, ds = [d, d] ∧ alE n d = true ∧ post μ (.bl true)
section
variable {K : PySem.W.Frag} {W : WX} {X : XD} {μ : Mu} {ρ : Ro} {Φ : DP} {te : TE} {tt : TT} {g : TG} {wi : TI}
theorem evx_dnew (h : Φ μ (.dct [] [])) : EvX K W X μ ρ tDNewK Φ := fun σ H Q m e l k p hp =>
  k _ _ _ _ h (Grow.new hp) (m.new hp) (by unfold Den; exact ⟨p, [], rfl, ⟨m.free hp, upd_same⟩, rfl, DenL.nil⟩)
/-- a comprehension that draws, the list found kept as one that will change -/
theorem evx_lcSkM {vs : List Nat} {a ga : Addr} (S0 : Int → Mu → Prop) (hS0 : Src S0 a ga) (h : ItX K W X μ ρ wi fun μ1 ds S => (ds.length ≤ 1000000 ∧ ∀ m, S m) ∧ ∃ (c st : Int) (R : Nat → List D → Prop), S0 c μ1 ∧ R 0 [] ∧
    (∀ i d μ' acc, ds[i]? = some d → acc.length ≤ i → R i acc → S0 (c + st * i) μ' → Keep a ga μ1 μ' → TcX K W X vs μ' (wipeD ρ vs) g d fun μ2 ρ2 =>
      EvB K W X μ2 ρ2 tt fun μ3 b => if b = true then Keep a ga μ' μ3 ∧ EvX K W X μ3 ρ2 te fun μ4 y => Keep a ga μ' μ4 ∧ S0 (c + st * (i + 1)) μ4 ∧ R (i + 1) (acc ++ [y]) else Keep a ga μ' μ3 ∧ S0 (c + st * (i + 1)) μ3 ∧ R (i + 1) acc) ∧
    ∀ p μ' acc, μ1 p = none → acc.length ≤ ds.length → μ' p = some (.lst acc) → R ds.length acc → S0 (c + st * ds.length) μ' → Keep a ga μ1 μ' → Φ μ' (.at p)) : EvX K W X μ ρ (tLc wi g tt te vs) Φ := by
  refine evx_lcI fun σ H R m e l k => h σ H R m e l fun μ1 ds S J H1 ⟨hl, c, st, R, hd, h0, hstep, hend⟩ g1 m1 ok => k μ1 ds S J H1 ⟨hl, ?_⟩ g1 m1 ok
  refine ⟨fun i μ' acc => S0 (c + st * i) μ' ∧ Keep a ga μ1 μ' ∧ R i acc, ⟨hS0.mono hd (by simp), Keep.refl _ _ _, h0⟩, ?_, ?_, ?_⟩
  · rintro Dl hD i acc μ' μ'' hb ⟨h1, h2, h3⟩
    have hn := hS0.na hd hD
    exact ⟨hS0.off h1 hn.1 hn.2 hb, h2.off hD hb, h3⟩
  · rintro Dl hD i d μ' acc hi ha hDl ⟨h1, h2, h3⟩
    have hn := hS0.na hd hD
    intro σ H v Q m e dd k
    refine hstep i d μ' acc hi ha h3 h1 h2 σ H v Q m e dd fun ρ2 σ2 q2 e2 hw => k ρ2 σ2 ?_ e2 hw
    refine q2.imp fun μ3 b r => ?_
    cases b with
    | false =>
      rw [if_neg (by decide)] at r
      refine ⟨r.1 Dl _ hn.1 hn.2 hDl, ?_⟩
      rw [if_neg (by decide)]
      exact ⟨hS0.mono r.2.1 (by rw [Int.natCast_add]; exact Int.le_refl _), h2.trans r.1, r.2.2⟩
    | true =>
      rw [if_pos rfl] at r
      refine ⟨r.1 Dl _ hn.1 hn.2 hDl, ?_⟩
      rw [if_pos rfl]
      refine r.2.imp fun μ4 y ⟨s1, s2, s3⟩ => ⟨s1 Dl _ hn.1 hn.2 hDl, hS0.mono s2 (by rw [Int.natCast_add]; exact Int.le_refl _), h2.trans s1, s3⟩
  · exact .inr fun p μ' acc hp ha hd' ⟨h1, h2, h3⟩ => hend p μ' acc hp ha hd' h3 h1 h2
end
/-! ### drawn values -/
/-- a value told now (μ0: the store ahead): plain, or a new list, a new dict of plain things -/
def LiveV (a g : Addr) (b m : Nat) (μ0 μ' : Mu) (d : D) : Prop := (alE m d = true ∧ ∃ T, tyD d = some T ∧ T ≠ "list" ∧ T ≠ "dict") ∨
  (∃ p ds, d = .at p ∧ μ' p = some (.lst ds) ∧ ds.length ≤ b ∧ p ≠ a ∧ p ≠ g ∧ μ0 p = none ∧ ∀ e ∈ ds, alE m e = true) ∨
  (∃ p ks ds, d = .at p ∧ μ' p = some (.dct ks ds) ∧ ks.length ≤ b ∧ p ≠ a ∧ p ≠ g ∧ μ0 p = none ∧ ∀ e ∈ ds, alE m e = true)
theorem live_frz {a g : Addr} {b m : Nat} {c : Int} {μ0 μ' : Mu} {d : D} (h : LiveV a g b m μ0 μ' d) (D0 : Deck a g c μ') (K0 : Keep a g μ0 μ') :
    ∃ μ'' d', Less μ' μ'' ∧ (∀ b o, μ'' b = some o → μ' b = some o) ∧ (∀ (K : PySem.W.Frag) H v, Mem K μ' H → Den K μ' H d v → Den K μ'' H d' v) ∧ alE (m + 2) d' = true ∧ Deck a g c μ'' ∧ Keep a g μ0 μ'' := by
  have cutb : ∀ p b o, mcut μ' p b = some o → μ' b = some o := fun p b o e => by
    by_cases hb : b = p
    · rw [hb, mcut_same] at e; cases e
    · rwa [mcut_ne hb] at e
  have kp : ∀ p, μ0 p = none → Keep a g μ0 (mcut μ' p) := fun p hp b o h1 h2 e => by
    have : b ≠ p := fun z => by rw [z, hp] at e; cases e
    rw [mcut_ne this]; exact K0 b o h1 h2 e
  rcases h with ⟨h1, _⟩ | ⟨p, ds, rfl, h1, _, ha, hg, h0, he⟩ | ⟨p, ks, ds, rfl, h1, _, ha, hg, h0, he⟩
  · exact ⟨μ', d, fun _ h => h, fun _ _ h => h, fun _ _ _ _ h => h, alE_mono h1 (by omega), D0, K0⟩
  · refine ⟨mcut μ' p, .lst ds, Less.cut, cutb p, fun K H v mm dd => ?_, by rw [alE_lst, List.all_eq_true]; exact fun e h => alE_succ _ _ (he e h), D0.cut ha hg, kp p h0⟩
    obtain ⟨vs, q, b⟩ := mm p _ h1
    unfold Den at dd ⊢
    exact ⟨p, vs, dd, ⟨mcut_same, q⟩, DenL.less Less.cut _ _ b⟩
  · refine ⟨mcut μ' p, .dct ks ds, Less.cut, cutb p, fun K H v mm dd => ?_, by rw [alE_dct, List.all_eq_true]; exact he, D0.cut ha hg, kp p h0⟩
    obtain ⟨vs, q, n, b⟩ := mm p _ h1
    unfold Den at dd ⊢
    exact ⟨p, vs, dd, ⟨mcut_same, q⟩, n, DenL.less Less.cut _ _ b⟩
/-! ### texts: f-strings, str(int), int(text), startswith, partition; dicts written out -/
/-- f'..' of two parts or more -/
def tJoined (ts : List TE) : TE := fun σ H Q => tJs ts Str.empty σ H fun out H1 => Q (.str out) H1
theorem pe_joinedK {X : Cx} {v1 v2 : Expr} {rest : List Expr} {ts : List TE} {pos : Pos} (h : PJ X (v1 :: v2 :: rest) ts) : PE X (.JoinedStr (v1 :: v2 :: rest) pos) (tJoined ts) := pe_joined h
abbrev rStarts : V → List V → Hp → VK → Prop := fun x xs H Q => ∃ a b, x = .str a ∧ xs = [.str b] ∧ Q (.bl (Txt.startswith a b)) H
abbrev rPartit : V → List V → Hp → VK → Prop := fun x xs H Q => ∃ a b, x = .str a ∧ xs = [.str b] ∧ (b.length == 0) = false ∧ a.length ≤ sizeLine ∧
    ∀ p, H p = none → Q (.ref p) (upd H p (.tup [.str (Txt.partition a b).1, .str (Txt.partition a b).2.1, .str (Txt.partition a b).2.2]))
theorem pe_starts {X : Cx} {o e : Expr} {to te : TE} {apos pos : Pos} (ho : PE X o to) (he : PE X e te)
    (hs : starEach [e] X.env = [(false, eval e X.env)] := by rfl) (hbase : attributeBase o "startswith" X.env (eval o X.env) = eval o X.env := by rfl) (hline : (apos.endLine == pos.line) = true := by rfl) : PE X (.Call (.Attribute o "startswith" apos) [e] [] pos) (tM1 rStarts to te) := pe_m1 F.slot_str_startswith F.type_str_startswith mt_startswith ho he hs hbase hline
theorem pe_partit {X : Cx} {o e : Expr} {to te : TE} {apos pos : Pos} (ho : PE X o to) (he : PE X e te)
    (hs : starEach [e] X.env = [(false, eval e X.env)] := by rfl) (hbase : attributeBase o "partition" X.env (eval o X.env) = eval o X.env := by rfl) (hline : (apos.endLine == pos.line) = true := by rfl) : PE X (.Call (.Attribute o "partition" apos) [e] [] pos) (tM1 rPartit to te) := pe_m1 F.slot_str_partition F.type_str_partition mt_partition ho he hs hbase hline
abbrev rStrI : List V → Hp → VK → Prop := fun xs H Q => ∃ i : Int, xs = [.int i] ∧ i.natAbs.log2 < 1920 ∧ Q (.str (toString i)) H
abbrev rIntT : List V → Hp → VK → Prop := fun xs H Q => ∃ (a : Str) (n : Int), xs = [.str a] ∧ PySem.intText? a = some n ∧ a.length ≤ 640 ∧ Q (.int n) H
theorem call_strI {X : Cx} : CallR X (.type "str") rStrI := call_str_int
theorem call_intT {X : Cx} : CallR X (.type "int") rIntT := call_int_str
section
variable {K : PySem.W.Frag} {W : WX} {X : XD} {μ : Mu} {ρ : Ro} {Φ : DP} {te to : TE}
/-- the parts of an f-string, one behind the other -/
def EvJ (K : PySem.W.Frag) (W : WX) (X : XD) (ρ : Ro) : Mu → List TE → Str → DP → Prop
  | μ, [], acc, Φ => Φ μ (.str acc)
  | μ, t :: ts, acc, Φ => EvX K W X μ ρ t fun μ1 d => ∃ y, d = .str y ∧ (acc ++ y).length ≤ sizeLine ∧ EvJ K W X ρ μ1 ts (acc ++ y) Φ
theorem evj_run : ∀ (ts : List TE) (μ : Mu) (acc : Str) (σ : L2.St) (H : Hp) (Q : Str → Hp → Prop), EvJ K W X ρ μ ts acc Φ → Mem K μ H → EnvIs K μ H ρ σ → LiftX K μ H X W → (∀ μ' out H', Φ μ' (.str out) → Grow μ H μ' H' → Mem K μ' H' → Q out H') → tJs ts acc σ H Q
  | [], μ, acc, σ, H, Q, h, m, e, l, k => k μ acc H h (Grow.refl _ _) m
  | t :: ts, μ, acc, σ, H, Q, h, m, e, l, k => h σ H _ m e l fun μ1 d v H1 ⟨y, ed, hy, h2⟩ g1 m1 d1 => by
    subst ed
    unfold Den at d1
    exact ⟨y, d1, hy, evj_run ts μ1 (acc ++ y) σ H1 Q h2 m1 (e.grow g1) (l.grow g1) fun μ' out H' q g mm => k μ' out H' q (g1.trans g) mm⟩
theorem evj_cons {t : TE} {ts : List TE} {acc : Str} (h : EvX K W X μ ρ t fun μ1 d => ∃ y, d = .str y ∧ (acc ++ y).length ≤ sizeLine ∧ EvJ K W X ρ μ1 ts (acc ++ y) Φ) : EvJ K W X ρ μ (t :: ts) acc Φ := h
theorem evj_nil {acc : Str} (h : Φ μ (.str acc)) : EvJ K W X ρ μ [] acc Φ := h
theorem evx_joined {ts : List TE} (h : EvJ K W X ρ μ ts Str.empty Φ) : EvX K W X μ ρ (tJoined ts) Φ := fun σ H Q m e l k =>
  evj_run ts μ Str.empty σ H _ h m e l fun μ' out H' q g mm => k μ' _ _ H' q g mm (by unfold Den; rfl)
theorem evx_fmt (h : EvX K W X μ ρ te fun μ1 d => ∃ i : Int, d = .int i ∧ i.natAbs.log2 < 1920 ∧ Φ μ1 (.str (toString i))) : EvX K W X μ ρ (tFmt te) Φ := fun σ H Q m e l k =>
  h σ H _ m e l fun μ1 d v H1 ⟨i, ed, hi, hq⟩ g1 m1 d1 => by
    subst ed
    unfold Den at d1
    exact .inr ⟨i, d1, hi, k μ1 _ _ H1 hq g1 m1 (by unfold Den; rfl)⟩
theorem evx_fmtS (h : EvX K W X μ ρ te fun μ1 d => ∃ z : Str, d = .str z ∧ z.length ≤ 1000000 ∧ Φ μ1 (.str z)) : EvX K W X μ ρ (tFmt te) Φ := fun σ H Q m e l k =>
  h σ H _ m e l fun μ1 d v H1 ⟨z, ed, hz, hq⟩ g1 m1 d1 => by
    subst ed
    unfold Den at d1
    exact .inl ⟨z, d1, Nat.le_trans hz (by decide), k μ1 _ _ H1 hq g1 m1 (by unfold Den; rfl)⟩
theorem evx_starts (h : EvX K W X μ ρ to fun μ1 o => ∃ a, o = .str a ∧ EvX K W X μ1 ρ te fun μ2 d => ∃ b, d = .str b ∧ Φ μ2 (.bl (Txt.startswith a b))) : EvX K W X μ ρ (tM1 rStarts to te) Φ := fun σ H Q m e l k =>
  h σ H _ m e l fun μ1 o v H1 ⟨a, e1, h1⟩ g1 m1 d1 => by
    subst e1
    unfold Den at d1
    subst d1
    refine ⟨⟨a, rfl⟩, h1 σ H1 _ m1 (e.grow g1) (l.grow g1) fun μ2 d u H2 ⟨b, e2, hq⟩ g2 m2 d2 => ?_⟩
    subst e2
    unfold Den at d2
    subst d2
    exact ⟨a, b, rfl, rfl, k μ2 _ _ H2 hq (g1.trans g2) m2 (by unfold Den; rfl)⟩
theorem evx_partit (h : EvX K W X μ ρ to fun μ1 o => ∃ a, o = .str a ∧ EvX K W X μ1 ρ te fun μ2 d => ∃ b, d = .str b ∧ (b.length == 0) = false ∧ a.length ≤ 1000000 ∧ Φ μ2 (.tup [.str (Txt.partition a b).1, .str (Txt.partition a b).2.1, .str (Txt.partition a b).2.2])) : EvX K W X μ ρ (tM1 rPartit to te) Φ := fun σ H Q m e l k =>
  h σ H _ m e l fun μ1 o v H1 ⟨a, e1, h1⟩ g1 m1 d1 => by
    subst e1
    unfold Den at d1
    subst d1
    refine ⟨⟨a, rfl⟩, h1 σ H1 _ m1 (e.grow g1) (l.grow g1) fun μ2 d u H2 ⟨b, e2, hb, ha, hq⟩ g2 m2 d2 => ?_⟩
    subst e2
    unfold Den at d2
    subst d2
    refine ⟨a, b, rfl, rfl, hb, Nat.le_trans ha (by decide), fun p hp => ?_⟩
    exact k μ2 _ _ _ hq ((g1.trans g2).trans (Grow.new hp)) (m2.new hp) (by unfold Den; exact ⟨p, _, rfl, .inl ⟨m2.free hp, .inl upd_same⟩, DenL.cons (by unfold Den; rfl) (DenL.cons (by unfold Den; rfl) (DenL.cons (by unfold Den; rfl) DenL.nil))⟩)
theorem cax_strI {i : Int} (hi : i.natAbs.log2 < 1920) (h : Φ μ (.str (toString i))) : CaX K rStrI μ [.int i] Φ := fun H vs Q m d k => by
  obtain ⟨v, e, a⟩ := denL1 d
  unfold Den at a
  subst a
  exact ⟨i, e, hi, k μ _ _ H h (Grow.refl _ _) m (by unfold Den; rfl)⟩
theorem cax_intT {z : Str} {n : Int} (hz : PySem.intText? z = some n) (hl : z.length ≤ 640) (h : Φ μ (.int n)) : CaX K rIntT μ [.str z] Φ := fun H vs Q m d k => by
  obtain ⟨v, e, a⟩ := denL1 d
  unfold Den at a
  subst a
  exact ⟨z, n, e, hz, hl, k μ _ _ H h (Grow.refl _ _) m (by unfold Den; rfl)⟩
/-- a dict of texts written out -/
def trsC (kvs : List (Key × Str)) : List (TE × TE) := kvs.map fun kv => (tC (kV kv.1), tC (.str kv.2))
theorem tPairs_C : ∀ (kvs : List (Key × Str)) (σ : L2.St) (H : Hp) (Q : List (V × V) → Hp → Prop), Q (kvs.map fun kv => (kV kv.1, V.str kv.2)) H → tPairs (trsC kvs) σ H Q
  | [], _, _, _, h => h
  | kv :: r, σ, H, Q, h => tPairs_C r σ H (fun ps H3 => Q ((kV kv.1, V.str kv.2) :: ps) H3) h
theorem den_strs : ∀ zs : List Str, DenL K μ H (zs.map D.str) (zs.map V.str)
  | [] => DenL.nil
  | z :: zs => DenL.cons (by unfold Den; rfl) (den_strs zs)
theorem evx_disp {trs : List (TE × TE)} {kvs : List (Key × Str)} (et : trs = trsC kvs) (hn : (kvs.map (·.1)).Nodup) (h15 : kvs.length ≤ 15) (h : Φ μ (.dct (kvs.map (·.1)) ((kvs.map (·.2)).map D.str))) : EvX K W X μ ρ (tDisp trs) Φ := fun σ H Q m e l k p hp => by
  subst et
  refine tPairs_C _ _ _ _ ⟨upd_same, kvs.map (fun kv => (kv.1, V.str kv.2)), by rw [List.map_map]; rfl, by rw [List.length_map]; exact h15, ?_⟩
  have ez : kvs.map (fun kv => (kv.1, V.str kv.2)) = (kvs.map (·.1)).zip ((kvs.map (·.2)).map V.str) := by
    rw [List.map_map, List.zip_map']
    rfl
  have em : mergeK [] (kvs.map (fun kv => (kv.1, V.str kv.2))) = (kvs.map (·.1)).zip ((kvs.map (·.2)).map V.str) := by
    have q := mergeK_nd (ks := kvs.map (·.1)) (us := (kvs.map (·.2)).map V.str) (ks0 := []) (us0 := []) (by rw [List.length_map, List.length_map, List.length_map]) rfl (by rw [List.nil_append]; exact hn)
    rw [List.zip_nil_left, List.nil_append, List.nil_append] at q
    rw [ez, q]
  have eu : upd (upd H p (.dK [])) p (.dK (mergeK [] (kvs.map (fun kv => (kv.1, V.str kv.2))))) = upd H p (.dK ((kvs.map (·.1)).zip ((kvs.map (·.2)).map V.str))) := by
    rw [em]
    funext b
    by_cases hb : b = p
    · subst hb; rw [upd_same, upd_same]
    · rw [upd_ne hb, upd_ne hb, upd_ne hb]
  rw [eu]
  refine k μ _ _ _ h (Grow.new hp) (m.new hp) ?_
  unfold Den
  exact ⟨p, _, rfl, ⟨m.free hp, upd_same⟩, by rw [List.length_map, List.length_map, List.length_map], den_strs _⟩
end
section
open TL PySem.StrLaws
/-! ### texts of numbers -/
def intL (i : Int) : List Nat := if i < 0 then 45 :: numL i.natAbs else numL i.natAbs
theorem str_int (i : Int) : Str.ofString (toString i) = txt (intL i) := by
  have pos : ∀ m : Nat, Str.ofString (toString ((m : Nat) : Int)) = txt (numL m) := fun m => ext_tl (by rw [tl_num]; exact (txt_cps _).symm)
  unfold intL
  cases i with
  | ofNat m =>
    rw [if_neg (by exact Int.not_lt.mpr (Int.natCast_nonneg m))]
    exact pos m
  | negSucc m =>
    rw [if_pos (Int.negSucc_lt_zero m)]
    have e : toString (Int.negSucc m) = "-" ++ toString (((m + 1 : Nat) : Int)) := rfl
    refine ext_tl ?_
    have e2 : tl (Str.ofString ("-" ++ toString (((m + 1 : Nat) : Int)))) = 45 :: tl (Str.ofString (toString (((m + 1 : Nat) : Int)))) := by
      rw [Str.ofString_eq_toList, Str.ofString_eq_toList, String.toList_append, List.map_append]
      rfl
    rw [e, e2, pos]
    show 45 :: (txt (numL (m + 1))).cps.toList = (txt (45 :: numL (m + 1))).cps.toList
    rw [txt_cps, txt_cps]
theorem intL_ne (i : Int) : intL i ≠ [] := by
  unfold intL
  split
  · exact List.cons_ne_nil _ _
  · exact numL_ne _
theorem intL_len {i : Int} {k : Nat} (hk : 0 < k) (h : i.natAbs < 10 ^ k) : (intL i).length ≤ k + 1 := by
  have := numL_len hk h
  unfold intL
  split
  · rw [List.length_cons]; omega
  · omega
theorem intL_sig {i : Int} : ∀ c ∈ intL i, c = 45 ∨ (48 ≤ c ∧ c ≤ 57) := fun c hc => by
  unfold intL at hc
  split at hc
  · rcases List.mem_cons.mp hc with rfl | hc
    · exact .inl rfl
    · exact .inr (numL_digits _ c hc)
  · exact .inr (numL_digits _ c hc)
theorem int_back {i : Int} (h : (intL i).length ≤ 4300) : PySem.intText? (txt (intL i)) = some i := by
  unfold intL at *
  split at h
  · rename_i hi
    rw [if_pos hi]
    have e := PySem.intText_neg (x := txt (45 :: numL i.natAbs)) (cs := numL i.natAbs) (txt_cps _) (numL_digits _) (numL_ne _) (by rw [txt_len]; exact h)
    rw [e, numL_val]
    congr 1
    omega
  · rename_i hi
    rw [if_neg hi]
    have e := PySem.intText_digits (x := txt (numL i.natAbs)) (by rw [txt_cps]; exact numL_digits _) (by rw [txt_cps]; exact numL_ne _) (by rw [txt_len]; exact h)
    rw [e, txt_cps, numL_val]
    congr 1
    omega
theorem starts_minus (cs : List Nat) : Txt.startswith (txt cs) (Str.ofString "-") = decide (cs.head? = some 45) := by
  unfold Txt.startswith
  cases cs with
  | nil => rfl
  | cons c cs =>
    have e1 : (0 + (Str.ofString "-").length ≤ (txt (c :: cs)).length) := by rw [txt_len]; show 1 ≤ cs.length + 1; omega
    rw [decide_eq_true e1, Bool.true_and, subAt_eq]
    have e2 : (tl (txt (c :: cs)) : List Nat) = c :: cs := txt_cps _
    show ((((txt (c :: cs)).cps.toList).drop 0).take 1 == [45]) = _
    rw [txt_cps]
    show ([c] == [45]) = _
    by_cases hc : c = 45
    · subst hc; rfl
    · rw [decide_eq_false (by rw [List.head?_cons]; exact fun z => hc (Option.some.inj z))]
      exact beq_eq_false_iff_ne.mpr fun z => hc (by injection z)
/-- the digits of a text of an integer -/
theorem digits_of (i : Int) : (if (intL i).head? = some 45 then (intL i).drop 1 else intL i) = numL i.natAbs := by
  unfold intL
  by_cases hi : i < 0
  · rw [if_pos hi]; rfl
  · rw [if_neg hi, if_neg fun z => ?_]
    have := numL_digits i.natAbs 45 (by
      cases q : numL i.natAbs with
      | nil => exact absurd q (numL_ne _)
      | cons c r => rw [q] at z; rw [← Option.some.inj z]; exact List.mem_cons_self ..)
    omega
/-- no figures to no end: a first nought stands alone -/
theorem num_zero {n : Nat} (h : (numL n).head? = some 48) : n = 0 := by
  have key : ∀ n : Nat, 0 < n → ∃ c, (numL n).head? = some c ∧ 48 < c := by
    intro n
    induction n using Nat.strongRecOn with
    | _ n ih =>
      intro hn
      by_cases h : n < 10
      · rw [numL_lt h]; exact ⟨48 + n, rfl, by omega⟩
      · rw [numL_step (by omega)]
        obtain ⟨c, h1, h2⟩ := ih (n / 10) (by omega) (by omega)
        exact ⟨c, by rw [List.head?_append, h1]; rfl, h2⟩
  by_cases hn : 0 < n
  · obtain ⟨c, h1, h2⟩ := key n hn
    rw [h1] at h
    have := Option.some.inj h
    omega
  · omega
/-- the text of a number -/
def qL (q : Rat) : List Nat := if q.den = 1 then intL q.num else intL q.num ++ 47 :: numL q.den
/-- at most nine figures above and below -/
def Nine (q : Rat) : Prop := q.num.natAbs < 10 ^ 9 ∧ q.den < 10 ^ 9
theorem qL_len {q : Rat} (h : Nine q) : (qL q).length ≤ 20 := by
  have h1 := intL_len (by decide) h.1
  have h2 := numL_len (by decide) h.2
  unfold qL
  split
  · omega
  · rw [List.length_append, List.length_cons]; omega
theorem qL_sig {q : Rat} : ∀ c ∈ qL q, c = 45 ∨ (47 ≤ c ∧ c ≤ 57) := fun c hc => by
  unfold qL at hc
  split at hc
  · exact (intL_sig c hc).imp id fun h => ⟨by omega, h.2⟩
  · rcases List.mem_append.mp hc with hc | hc
    · exact (intL_sig c hc).imp id fun h => ⟨by omega, h.2⟩
    · rcases List.mem_cons.mp hc with rfl | hc
      · exact .inr ⟨by decide, by decide⟩
      · have := numL_digits _ c hc
        exact .inr ⟨by omega, this.2⟩
theorem qL_ne (q : Rat) : qL q ≠ [] := by
  unfold qL
  split
  · exact intL_ne _
  · exact fun z => absurd (List.append_eq_nil_iff.mp z).2 (List.cons_ne_nil _ _)
theorem nine_log {n : Nat} (h : n < 10 ^ 9) : n.log2 < 1920 := by
  by_cases h0 : n = 0
  · subst h0; decide
  · exact (Nat.log2_lt h0).mpr (Nat.lt_trans h (by exact Nat.lt_of_lt_of_le (show 10 ^ 9 < 2 ^ 30 by decide) (Nat.pow_le_pow_right (by decide) (by decide))))
theorem cut_txt {cs : List Nat} {i j : Nat} (hi : i ≤ cs.length) : cutS (txt cs) (some (i : Int)) (some (j : Int)) = txt ((cs.drop i).take (j - i)) := by
  unfold cutS
  simp only [HT.sIx_nat]
  rw [txt_cps, txt_len, Nat.min_eq_left hi]
  refine congrArg txt (List.take_eq_take_iff.mpr ?_)
  rw [List.length_drop]
  omega
theorem cut_tail {cs : List Nat} {i : Nat} (hi : i ≤ cs.length) : cutS (txt cs) (some (i : Int)) none = txt (cs.drop i) := by
  unfold cutS
  simp only [HT.sIx_nat, HT.sIx_none]
  rw [txt_cps, txt_len, Nat.min_eq_left hi]
  refine congrArg txt (List.take_of_length_le ?_)
  rw [List.length_drop]
  exact Nat.le_refl _
theorem in_digits {c : Nat} (h : 48 ≤ c ∧ c ≤ 57) : c ∈ (Str.ofString "0123456789").cps.toList := by
  have e : (Str.ofString "0123456789").cps.toList = [48, 49, 50, 51, 52, 53, 54, 55, 56, 57] := by decide
  rw [e]
  simp only [List.mem_cons, List.not_mem_nil, or_false]
  omega
theorem all_true {α : Type} : ∀ l : List α, (l.map fun _ => true).all id = true
  | [] => rfl
  | _ :: l => all_true l
theorem sg_eq (c d : Nat) : ((sg c : Str) = sg d) ↔ c = d := ⟨fun h => sg_inj h, fun h => by rw [h]⟩
theorem txt_inj {a b : List Nat} : (txt a = txt b) ↔ a = b := ⟨fun h => by rw [← txt_cps a, h, txt_cps], fun h => by rw [h]⟩
/-! ### patterns -/
inductive Pat where
  | any | empty | none
  | sign (c : Nat)
  | many (p : Pat)
  | weigh (q : Rat) (p : Pat)
  | both (o : Bool) (p q : Pat)
def patD : Pat → D
  | .any => .tup [.str "any"]
  | .empty => .tup [.str "empty"]
  | .none => .tup [.str "none"]
  | .sign c => .tup [.str "sign", .str (sg c)]
  | .many p => .tup [.str "many", patD p]
  | .weigh q p => .tup [.str "weigh", numQ q, patD p]
  | .both o p q => .tup [.str (if o then "or" else "then"), patD p, patD q]
def Pat.words : Pat → List Nat
  | .any => [46]
  | .empty => [49]
  | .none => [48]
  | .sign c => [c]
  | .many p => p.words ++ [42]
  | .weigh q p => qL q ++ 91 :: (p.words ++ [93])
  | .both o p q => 40 :: (p.words ++ ((if o then [32, 43, 32] else [32]) ++ (q.words ++ [41])))
def Pat.Good : Pat → Prop
  | .any => True
  | .empty => True
  | .none => True
  | .sign c => 97 ≤ c ∧ c ≤ 122
  | .many p => p.Good
  | .weigh q p => Nine q ∧ p.Good
  | .both _ p q => p.Good ∧ q.Good
/-- how deep -/
def Pat.dep : Pat → Nat
  | .many p => p.dep + 1
  | .weigh _ p => p.dep + 1
  | .both _ p q => max p.dep q.dep + 1
  | _ => 0
end
/-! ### x in (..): texts, integers -/
section
variable {K : PySem.W.Frag} {μ : Mu} {H : Hp} {Φ : DP}
theorem denL_strs : ∀ {zs : List Str} {vs : List V}, DenL K μ H (zs.map D.str) vs → vs = zs.map V.str
  | [], vs, h => by rw [List.map_nil] at h; unfold DenL at h; exact h
  | z :: zs, vs, h => by
    rw [List.map_cons] at h
    unfold DenL at h
    obtain ⟨w, ws, e, a, b⟩ := h
    unfold Den at a
    rw [e, a, denL_strs b]
    rfl
theorem denL_intsV : ∀ {zs : List Int} {vs : List V}, DenL K μ H (zs.map D.int) vs → vs = zs.map V.int
  | [], vs, h => by rw [List.map_nil] at h; unfold DenL at h; exact h
  | z :: zs, vs, h => by
    rw [List.map_cons] at h
    unfold DenL at h
    obtain ⟨w, ws, e, a, b⟩ := h
    unfold Den at a
    rw [e, a, denL_intsV b]
    rfl
theorem tup_sq {ds : List D} {v : V} (d : Den K μ H (.tup ds) v) : ∃ p vs, v = .ref p ∧ SqT K H p vs ∧ DenL K μ H ds vs := by
  unfold Den at d
  obtain ⟨p, vs, e, s, b⟩ := d
  exact ⟨p, vs, e, StT.sq s, b⟩
theorem opx_inTS {z : Str} {zs : List Str} (h : Φ μ (.bl (zs.any fun y => eqV (.str y) (.str z)))) : OpX K (rIn K false) μ (.str z) (.tup (zs.map D.str)) Φ := fun H v w Q m a b k => by
  unfold Den at a
  subst a
  obtain ⟨p, vs, e, s, bl⟩ := tup_sq b
  have := denL_strs bl
  subst this
  refine ⟨p, _, e, .inr s, rfl, ?_, ?_⟩
  · rw [List.all_map, List.all_eq_true]; exact fun _ _ => rfl
  · refine k μ _ _ H h (Grow.refl _ _) m ?_
    unfold Den
    rw [if_neg (by decide)]
    unfold inV
    rw [List.any_map]
    rfl
theorem opx_inTI {z : Int} {zs : List Int} (h : Φ μ (.bl (zs.any fun y => eqV (.int y) (.int z)))) : OpX K (rIn K false) μ (.int z) (.tup (zs.map D.int)) Φ := fun H v w Q m a b k => by
  unfold Den at a
  subst a
  obtain ⟨p, vs, e, s, bl⟩ := tup_sq b
  have := denL_intsV bl
  subst this
  refine ⟨p, _, e, .inr s, rfl, ?_, ?_⟩
  · rw [List.all_map, List.all_eq_true]; exact fun _ _ => rfl
  · refine k μ _ _ H h (Grow.refl _ _) m ?_
    unfold Den
    rw [if_neg (by decide)]
    unfold inV
    rw [List.any_map]
    rfl
end
section
open TL PySem.StrLaws
/-! ### patterns as they stand in texts -/
/-- what may stand behind a pattern's text -/
def Fr (r : List Nat) : Prop := ∀ c, r.head? = some c → c ≠ 45 ∧ c ≠ 91 ∧ ¬ (47 ≤ c ∧ c ≤ 57)
theorem fr_cons {c : Nat} {r : List Nat} (h : c ≠ 45 ∧ c ≠ 91 ∧ ¬ (47 ≤ c ∧ c ≤ 57)) : Fr (c :: r) := fun d e => by
  rw [List.head?_cons] at e
  rw [← Option.some.inj e]; exact h
theorem drop_on {cs a b : List Nat} {i : Nat} (h : cs.drop i = a ++ b) (ha : a ≠ []) : cs.drop (i + a.length) = b ∧ i + a.length + b.length = cs.length := by
  have hl := congrArg List.length h
  rw [List.length_drop, List.length_append] at hl
  have hp := List.length_pos_iff.mpr ha
  exact ⟨by rw [← List.drop_drop, h, List.drop_left], by omega⟩
theorem take1 {l : List Nat} {c : Nat} : (txt (l.take 1) = txt [c]) ↔ l.head? = some c := by
  rw [txt_inj]
  cases l with
  | nil => exact Iff.intro (fun h => nomatch h) (fun h => nomatch h)
  | cons d l => 
    show [d] = [c] ↔ some d = some c
    exact Iff.intro (fun h => by rw [List.head_eq_of_cons_eq h]) (fun h => by rw [Option.some.inj h])
theorem cut_k {cs rest : List Nat} {e k : Nat} (he : e ≤ cs.length) (h : cs.drop e = rest) : cutS (txt cs) (some (e : Int)) (some ((e : Int) + (k : Int))) = txt (rest.take k) := by
  have := cut_txt (cs := cs) (i := e) (j := e + k) he
  rw [h, Nat.add_sub_cancel_left] at this
  rw [← this, Int.natCast_add]
theorem cut_1 {cs rest : List Nat} {e : Nat} (he : e ≤ cs.length) (h : cs.drop e = rest) : cutS (txt cs) (some (e : Int)) (some ((e : Int) + 1)) = txt (rest.take 1) := cut_k (k := 1) he h
theorem cut_3 {cs rest : List Nat} {e : Nat} (he : e ≤ cs.length) (h : cs.drop e = rest) : cutS (txt cs) (some (e : Int)) (some ((e : Int) + 3)) = txt (rest.take 3) := cut_k (k := 3) he h
theorem head_no {r : List Nat} {c : Nat} {z : Str} (hz : z = txt [c]) (h : r.head? ≠ some c) : decide (txt (r.take 1) = z) = false := decide_eq_false fun q => h (take1.mp (q.trans hz))
theorem head_yes {r : List Nat} {c : Nat} {z : Str} (hz : z = txt [c]) : decide (txt ((c :: r).take 1) = z) = true := decide_eq_true hz.symm
theorem qL_head (q : Rat) : ∃ c r, qL q = c :: r ∧ (c = 45 ∨ (47 ≤ c ∧ c ≤ 57)) := by
  obtain ⟨c, r, e⟩ := List.exists_cons_of_ne_nil (qL_ne q)
  exact ⟨c, r, e, qL_sig c (by rw [e]; exact List.mem_cons_self ..)⟩
theorem Pat.words_ne : ∀ p : Pat, p.words ≠ []
  | .any => List.cons_ne_nil _ _
  | .empty => List.cons_ne_nil _ _
  | .none => List.cons_ne_nil _ _
  | .sign _ => List.cons_ne_nil _ _
  | .many p => fun z => by unfold Pat.words at z; exact absurd (List.append_eq_nil_iff.mp z).2 (List.cons_ne_nil _ _)
  | .weigh q p => fun z => by unfold Pat.words at z; exact absurd (List.append_eq_nil_iff.mp z).2 (List.cons_ne_nil _ _)
  | .both _ _ _ => fun z => by unfold Pat.words at z; exact absurd z (List.cons_ne_nil _ _)
theorem head_app {a b : List Nat} (h : a ≠ []) : (a ++ b).head? = a.head? := by
  cases a with
  | nil => exact absurd rfl h
  | cons c a => rfl
theorem Pat.words_plus : ∀ p : Pat, p.Good → p.words.head? ≠ some 43
  | .any, _ => by decide
  | .empty, _ => by decide
  | .none, _ => by decide
  | .sign c, h => fun z => by
    have e : c = 43 := Option.some.inj z
    unfold Pat.Good at h
    omega
  | .many p, h => by
    unfold Pat.words
    rw [head_app p.words_ne]
    exact p.words_plus h
  | .weigh q p, h => by
    unfold Pat.words
    rw [head_app (qL_ne q)]
    obtain ⟨c, r, e, hc⟩ := qL_head q
    rw [e]
    exact fun z => by
      have : c = 43 := Option.some.inj z
      omega
  | .both _ _ _, _ => fun z => by
    unfold Pat.words at z
    exact absurd (Option.some.inj z) (by decide)
theorem words_weigh (q : Rat) (p : Pat) : (Pat.weigh q p).words = qL q ++ 91 :: (p.words ++ [93]) := rfl
theorem words_both (o : Bool) (p q : Pat) : (Pat.both o p q).words = 40 :: (p.words ++ ((if o then [32, 43, 32] else [32]) ++ (q.words ++ [41]))) := rfl
theorem no_plus (q : Pat) (h : q.Good) {l : List Nat} : decide (txt (List.take 3 ([32] ++ (q.words ++ l))) = Str.ofString " + ") = false := decide_eq_false fun z => by
  obtain ⟨c, t, e⟩ := List.exists_cons_of_ne_nil q.words_ne
  have h1 := q.words_plus h
  rw [e] at h1 z
  have z2 := txt_inj.mp (z.trans (show Str.ofString " + " = txt [32, 43, 32] from rfl))
  have z3 : (32 : Nat) :: c :: (t ++ l).take 1 = [32, 43, 32] := z2
  injection z3 with _ z4
  injection z4 with z5 _
  exact h1 (by rw [List.head?_cons, z5])
theorem ch_no {z : Str} {c : Nat} (l : List Nat) (hz : z = txt l) (h : [c] ≠ l) : decide (txt [c] = z) = false := decide_eq_false fun q => h (txt_inj.mp (q.trans hz))
def Pat.core : Pat → Bool
  | .many _ => false
  | _ => true
def stars : Nat → Pat → Pat
  | 0, q => q
  | k + 1, q => .many (stars k q)
theorem core_of : ∀ p : Pat, ∃ k q, p = stars k q ∧ q.core = true ∧ q.dep ≤ p.dep ∧ (p.Good → q.Good)
  | .many p => by
    obtain ⟨k, q, e, h1, h2, h3⟩ := core_of p
    exact ⟨k + 1, q, by rw [e]; rfl, h1, by show q.dep ≤ p.dep + 1; omega, h3⟩
  | .any => ⟨0, _, rfl, rfl, Nat.le_refl _, id⟩
  | .empty => ⟨0, _, rfl, rfl, Nat.le_refl _, id⟩
  | .none => ⟨0, _, rfl, rfl, Nat.le_refl _, id⟩
  | .sign _ => ⟨0, _, rfl, rfl, Nat.le_refl _, id⟩
  | .weigh _ _ => ⟨0, _, rfl, rfl, Nat.le_refl _, id⟩
  | .both _ _ _ => ⟨0, _, rfl, rfl, Nat.le_refl _, id⟩
theorem words_stars (q : Pat) : ∀ k, (stars k q).words = q.words ++ List.replicate k 42
  | 0 => by rw [List.replicate_zero, List.append_nil]; rfl
  | k + 1 => by
    show (stars k q).words ++ [42] = _
    rw [words_stars q k, List.append_assoc, List.replicate_succ']
def P_pat (n : Nat) : PD := fun μ ds post _ => ∃ (cs : List Nat) (i : Nat) (p : Pat) (r : List Nat), ds = [.str (txt cs), .int i] ∧ cs.drop i = p.words ++ r ∧ p.Good ∧ p.dep < n ∧ Fr r ∧ r.head? ≠ some 42 ∧ cs.length ≤ 900000 ∧ post μ (.tup [patD p, .int ((i + p.words.length : Nat) : Int)])
def P_part (n : Nat) : PD := fun μ ds post _ => ∃ (cs : List Nat) (i : Nat) (p : Pat) (r : List Nat), ds = [.str (txt cs), .int i] ∧ cs.drop i = p.words ++ r ∧ p.Good ∧ p.dep ≤ n ∧ p.core = true ∧ Fr r ∧ cs.length ≤ 900000 ∧ post μ (.tup [patD p, .int ((i + p.words.length : Nat) : Int)])
/-- the words of a pair behind its bracket -/
def pairL (o : Bool) (p q : Pat) : List Nat := p.words ++ ((if o then [32, 43, 32] else [32]) ++ (q.words ++ [41]))
def P_pairA (n : Nat) : PD := fun μ ds post _ => ∃ (cs : List Nat) (i : Nat) (o : Bool) (p q : Pat) (r : List Nat), ds = [.str (txt cs), .int i] ∧ cs.drop i = pairL o p q ++ r ∧ p.Good ∧ q.Good ∧ p.dep < n ∧ q.dep < n ∧ cs.length ≤ 900000 ∧ post μ (.tup [patD (.both o p q), .int ((i + (pairL o p q).length : Nat) : Int)])
/-- none, empty or a weighed one -/
def Pat.low : Pat → Bool
  | .none => true
  | .empty => true
  | .weigh _ _ => true
  | _ => false
def P_weighA (n : Nat) : PD := fun μ ds post _ => ∃ (cs : List Nat) (i : Nat) (p : Pat) (r : List Nat), ds = [.str (txt cs), .int i] ∧ cs.drop i = p.words ++ r ∧ p.Good ∧ p.dep ≤ n ∧ p.low = true ∧ Fr r ∧ cs.length ≤ 900000 ∧ post μ (.tup [patD p, .int ((i + p.words.length : Nat) : Int)])
/-- the signs that numbers have -/
def numSig (c : Nat) : Prop := c = 45 ∨ (47 ≤ c ∧ c ≤ 57)
theorem in_sig (c : Nat) : decide (c ∈ (Str.ofString "-/0123456789").cps.toList) = true ↔ numSig c := by
  have e : (Str.ofString "-/0123456789").cps.toList = [45, 47, 48, 49, 50, 51, 52, 53, 54, 55, 56, 57] := by decide
  rw [e, decide_eq_true_eq]
  unfold numSig
  simp only [List.mem_cons, List.not_mem_nil, or_false]
  omega
end
local macro_rules | `(tactic| walk_at "d2") => `(tactic| first
  | with_reducible refine gs_seq ?_
  | with_reducible refine gs_asg ?_
  | with_reducible refine gs_ret ?_
  | with_reducible refine gs_drop ?_
  | with_reducible refine gs_next ?_
  | with_reducible refine gs_par ?_
  | with_reducible refine gs_retN ?_
  | ((with_reducible refine evx_var (d := ?dd) ?hh ?_); (case hh => exact rfl))
  | with_reducible refine evx_int ?_
  | with_reducible refine evx_str ?_
  | with_reducible refine evx_bl ?_
  | with_reducible refine evx_non ?_
  | with_reducible refine evx_ty ?_
  | with_reducible refine evx_at ?_
  | with_reducible refine evx_op ?_
  | with_reducible refine evx_un ?_
  | ((with_reducible refine evx_isT (cs := ["list", "tuple"]) ?hr ?hc ?_); (case hr => exact fun μ1 Ψ q => evl_cons (evx_ty (evl_cons (evx_ty (evl_nil q))))); (case hc => decide))
  | ((fail_if_success (with_reducible show EvX _ _ _ _ _ (tCB _ (tCons _ (tCons (tTup _) tNil))) _)); (with_reducible refine evx_cb ?_))
  | with_reducible refine evl_cons ?_
  | with_reducible refine evl_nil ?_
  | with_reducible refine evx_tup ?_
  | with_reducible refine evx_if ?_
  | with_reducible refine evb_test ?_
  | with_reducible refine evb_B ?_
  | with_reducible refine evb_and ?_
  | with_reducible refine evb_or ?_
  | with_reducible refine evb_not ?_
  | with_reducible refine evx_andV ?_
  | with_reducible refine evx_orV ?_
  | with_reducible refine evx_notV ?_
  | with_reducible refine evx_isN ?_
  | with_reducible refine evx_notN ?_
  | with_reducible refine evx_xv ?_
  | with_reducible refine evx_call ?_
  | with_reducible refine evx_callS ?_
  | with_reducible refine evx_ck ?_
  | with_reducible refine evx_ckS ?_
  | with_reducible refine evx_sl ?_
  | with_reducible refine evo_none ?_
  | with_reducible refine evo_part ?_
  | ((with_reducible refine slx_S ?_ ?_); (exact Nat.le_of_ble_eq_true rfl))
  | with_reducible refine tgx_name ?_
  | ((with_reducible refine tgx_tup ?_ ?_); exact rfl)
  | with_reducible refine tgsx_cons ?_
  | with_reducible refine tgsx_nil ?_
  | with_reducible refine gs_break ?_
  | with_reducible refine gs_cont ?_
  | walk_at "dop")
local macro_rules | `(tactic| walk_at "d1") => `(tactic| first | walk_at "d2" | with_reducible refine gs_if ?_)
local macro_rules | `(tactic| walk_at "dl") => `(tactic| refine ⟨Nat.le_of_ble_eq_true rfl, ?_⟩)
local macro_rules | `(tactic| walk_at "dop") => `(tactic| first
  | with_reducible refine opx_i0 ?_
  | with_reducible refine opx_b0 ?_
  | with_reducible refine opx_l (opx_i0 ?_)
  | with_reducible refine opx_l (opx_eqI ?_)
  | with_reducible refine opx_l (opx_neI ?_)
  | with_reducible refine opx_l (opx_eqS ?_)
  | with_reducible refine opx_l (opx_neS ?_)
  | with_reducible refine opx_l (opx_eqB ?_)
  | with_reducible refine opx_l (opx_neB ?_)
  | ((with_reducible refine opx_i ?_ ?_); walk_at "ds")
  | ((with_reducible refine opx_l (opx_i ?_ ?_)); walk_at "ds")
  | with_reducible refine unx_i ?_
  | ((with_reducible refine cax_is (T := ?tt) (b := ?bb) ?ht ?hk ?_); (case ht => exact rfl); (case hk => walk_at "dty"))
  | ((refine cax_len (n := ?nn) ?hx ?_); (case hx => exact rfl))
  | with_reducible refine cax_abs ?_
  | with_reducible refine cax_int ?_
  | with_reducible refine cax_gcd ?_
  | with_reducible refine cax_max2 ?_
  | with_reducible refine cax_min2 ?_
  | ((with_reducible show OpX _ (rIx _) _ (D.at _) _ _); (refine opx_ixA (es := ?ee) (d := ?dd) ?h1 ?h2 ?_); (case h1 => first | assumption | exact mput_same); (case h2 => exact rfl))
  | ((with_reducible show OpX _ (rIx _) _ _ _ _); (refine opx_ix (es := ?ee) (d := ?dd) ?h1 ?h2 ?_); (case h1 => first | exact rfl | assumption); (case h2 => first | exact rfl | assumption))
  | (refine ⟨Nat.le_of_ble_eq_true rfl, ?_⟩)
  | with_reducible refine ⟨_, rfl, ?_⟩
  | ((refine ⟨?tt, ?bb, ?ht, ?hk, ?_⟩); (case ht => exact rfl); (case hk => walk_at "dtys"))
  | with_reducible refine ⟨_, _, rfl, ?_⟩
  | (refine ⟨rfl, ?_⟩))
/-- a side condition: known, or plain arithmetic -/
local macro_rules | `(tactic| walk_at "ds") => `(tactic| first | assumption | exact ⟨by decide, by decide⟩ | (exact by decide) | omega)
local macro_rules | `(tactic| walk_at "dix") => `(tactic| first | (exact rfl; exact rfl) | (first | assumption | exact rfl); (first | assumption | exact rfl))
local macro_rules | `(tactic| walk_at "dx") => `(tactic| ((repeat (walk_at "d1")); try dsimp only))
/-- as dx, but up to an if -/
local macro_rules | `(tactic| walk_at "dn") => `(tactic| ((repeat (walk_at "d2")); try dsimp only))
local macro_rules | `(tactic| walk_at "d0") => `(tactic| try dsimp only [cxOf, Cx.nox, Cx.wish, Cx.tr, Cx.suite])
local macro_rules | `(tactic| walk_at "dty") => `(tactic| first | exact kit_int_int | exact kit_int_bool | exact kit_int_str | exact kit_int_list | exact kit_int_tuple | exact kit_bool_bool | exact kit_bool_int | exact kit_bool_str | exact kit_str_str | exact kit_tuple_tuple | exact kit_tuple_list | exact kit_list_list | exact kit_list_tuple | exact kit_NoneType_int | exact kit_NoneType_bool | exact kit_NoneType_str | exact kit_NoneType_list | exact kit_tuple_str | exact kit_list_str | exact kit_str_bool | exact kit_str_int | exact kit_str_list | exact kit_str_tuple | exact kit_bool_list | exact kit_bool_tuple)
local macro_rules | `(tactic| walk_at "dtys") => `(tactic| first | exact kits_int_lt | exact kits_bool_lt | exact kits_str_lt | exact kits_tuple_lt | exact kits_list_lt | exact kits_NoneType_lt)
local macro_rules | `(tactic| walk_at "dz") => `(tactic| ((walk_at "dx"); (repeat ((first | refine ifY rfl ?_ | refine ifNo rfl ?_); walk_at "dx"))))
def top (i : Nat) : Stmt := PySem.Challenge.pw_textworths_k85_whole_patterns_there_and.main.body.getD i (.Pass ⟨0, 0, 0, 0⟩)
abbrev s_WorthError___init__ : Stmt := inClass (top 2) 0
theorem sc_WorthError___init__ : FnScope ["self", "value"] ["self", "value"] (defScope s_WorthError___init__) := ⟨rfl, rfl, rfl, by decide +kernel, rfl, by decide +kernel, by decide +kernel⟩
abbrev s_is_number : Stmt := top 5
theorem sc_is_number : FnScope ["value", "above", "below"] ["value"] (defScope s_is_number) := ⟨rfl, rfl, rfl, by decide +kernel, rfl, by decide +kernel, by decide +kernel⟩
abbrev s_whole_of : Stmt := top 10
theorem sc_whole_of : FnScope ["text", "digits", "sign"] ["text"] (defScope s_whole_of) := ⟨rfl, rfl, rfl, by decide +kernel, rfl, by decide +kernel, by decide +kernel⟩
abbrev s_number_of : Stmt := top 11
theorem sc_number_of : FnScope ["text", "above_text", "stroke", "below_text", "above", "below"] ["text"] (defScope s_number_of) := ⟨rfl, rfl, rfl, by decide +kernel, rfl, by decide +kernel, by decide +kernel⟩
abbrev s_read_number : Stmt := top 12
theorem sc_read_number : FnScope ["text", "found"] ["text"] (defScope s_read_number) := ⟨rfl, rfl, rfl, by decide +kernel, rfl, by decide +kernel, by decide +kernel⟩
abbrev s_weighed_at : Stmt := top 13
theorem sc_weighed_at : FnScope ["text", "at", "end", "word", "number", "inner"] ["text", "at"] (defScope s_weighed_at) := ⟨rfl, rfl, rfl, by decide +kernel, rfl, by decide +kernel, by decide +kernel⟩
abbrev s_pair_at : Stmt := top 14
theorem sc_pair_at : FnScope ["text", "at", "one", "end", "kind", "between", "other"] ["text", "at"] (defScope s_pair_at) := ⟨rfl, rfl, rfl, by decide +kernel, rfl, by decide +kernel, by decide +kernel⟩
abbrev s_part_at : Stmt := top 15
theorem sc_part_at : FnScope ["text", "at", "sign"] ["text", "at"] (defScope s_part_at) := ⟨rfl, rfl, rfl, by decide +kernel, rfl, by decide +kernel, by decide +kernel⟩
abbrev s_pattern_at : Stmt := top 16
theorem sc_pattern_at : FnScope ["text", "at", "found"] ["text", "at"] (defScope s_pattern_at) := ⟨rfl, rfl, rfl, by decide +kernel, rfl, by decide +kernel, by decide +kernel⟩
abbrev s_read_pattern : Stmt := top 17
theorem sc_read_pattern : FnScope ["text", "found"] ["text"] (defScope s_read_pattern) := ⟨rfl, rfl, rfl, by decide +kernel, rfl, by decide +kernel, by decide +kernel⟩
abbrev s_show_number : Stmt := top 19
theorem sc_show_number : FnScope ["number", "above", "below"] ["number"] (defScope s_show_number) := ⟨rfl, rfl, rfl, by decide +kernel, rfl, by decide +kernel, by decide +kernel⟩
abbrev s_show_pattern : Stmt := top 20
theorem sc_show_pattern : FnScope ["pattern", "kind", "between"] ["pattern"] (defScope s_show_pattern) := ⟨rfl, rfl, rfl, by decide +kernel, rfl, by decide +kernel, by decide +kernel⟩
abbrev s__law_well : Stmt := top 22
theorem sc__law_well : FnScope ["_law_script", "_law_place", "_law_cell"] ["_law_script", "_law_place"] (defScope s__law_well) := ⟨rfl, rfl, rfl, by decide +kernel, rfl, by decide +kernel, by decide +kernel⟩
abbrev s__law_dip : Stmt := top 23
theorem sc__law_dip : FnScope ["_law_well_here", "_law_many", "_law_drawn", "_law_mixed"] ["_law_well_here", "_law_many"] (defScope s__law_dip) := ⟨rfl, rfl, rfl, by decide +kernel, rfl, by decide +kernel, by decide +kernel⟩
abbrev s__law_common : Stmt := top 24
theorem sc__law_common : FnScope ["_law_one", "_law_other"] ["_law_one", "_law_other"] (defScope s__law_common) := ⟨rfl, rfl, rfl, by decide +kernel, rfl, by decide +kernel, by decide +kernel⟩
abbrev s__law_pair : Stmt := top 25
theorem sc__law_pair : FnScope ["_law_well_here", "_law_mode", "_law_above", "_law_below", "_law_share"] ["_law_well_here"] (defScope s__law_pair) := ⟨rfl, rfl, rfl, by decide +kernel, rfl, by decide +kernel, by decide +kernel⟩
abbrev s__law_said : Stmt := top 26
theorem sc__law_said : FnScope ["_law_pair_here"] ["_law_pair_here"] (defScope s__law_said) := ⟨rfl, rfl, rfl, by decide +kernel, rfl, by decide +kernel, by decide +kernel⟩
abbrev s__law_leaf : Stmt := top 27
theorem sc__law_leaf : FnScope ["_law_well_here", "_law_mode"] ["_law_well_here"] (defScope s__law_leaf) := ⟨rfl, rfl, rfl, by decide +kernel, rfl, by decide +kernel, by decide +kernel⟩
abbrev s__law_tree : Stmt := top 28
theorem sc__law_tree : FnScope ["_law_well_here", "_law_room", "_law_deep", "_law_mode", "_law_one"] ["_law_well_here", "_law_room", "_law_deep"] (defScope s__law_tree) := ⟨rfl, rfl, rfl, by decide +kernel, rfl, by decide +kernel, by decide +kernel⟩
abbrev s__law_words : Stmt := top 29
theorem sc__law_words : FnScope ["_law_tree_here", "_law_kind"] ["_law_tree_here"] (defScope s__law_words) := ⟨rfl, rfl, rfl, by decide +kernel, rfl, by decide +kernel, by decide +kernel⟩
abbrev s__law_chain : Stmt := top 30
theorem sc__law_chain : FnScope ["_law_well_here", "_law_tree_here", "_law_turn", "_law_mode"] ["_law_well_here"] (defScope s__law_chain) := ⟨rfl, rfl, rfl, by decide +kernel, rfl, by decide +kernel, by decide +kernel⟩
abbrev s__law_same : Stmt := top 31
theorem sc__law_same : FnScope ["_law_told", "_law_due", "_law_kind", "_law_spot"] ["_law_told", "_law_due"] (defScope s__law_same) := ⟨rfl, rfl, rfl, by decide +kernel, rfl, by decide +kernel, by decide +kernel⟩
abbrev s__law_numbers_right : Stmt := top 32
theorem sc__law_numbers_right : FnScope ["_law_well_here", "_law_fee", "_law_said_here"] ["_law_well_here"] (defScope s__law_numbers_right) := ⟨rfl, rfl, rfl, by decide +kernel, rfl, by decide +kernel, by decide +kernel⟩
abbrev s__law_patterns_right : Stmt := top 33
theorem sc__law_patterns_right : FnScope ["_law_well_here", "_law_tree_here", "_law_said_here", "_law_longer", "_law_back"] ["_law_well_here"] (defScope s__law_patterns_right) := ⟨rfl, rfl, rfl, by decide +kernel, rfl, by decide +kernel, by decide +kernel⟩
abbrev s_law : Stmt := top 34
theorem sc_law : FnScope ["_law_script", "_law_spot", "_law_well_here", "_law_turn"] ["_law_script"] (defScope s_law) := ⟨rfl, rfl, rfl, by decide +kernel, rfl, by decide +kernel, by decide +kernel⟩
section
variable {P : Program} {w : World} {K : PySem.W.Frag} {mg : Str → Option Value} {base : Heap} {A_IN fI : Addr}
theorem c_is_number (h : Std K mg "is_number" s_is_number) (m_gcd : mg "gcd" = some (.builtin "math.gcd")) : Cal P w K mg base CX0 1 "is_number" s_is_number ["value"] (spD K 1 P_isnum) := by
  refine cal0 h sc_is_number (fun _ _ _ _ _ _ us hl => match us, hl with | [_], _ => rfl) fun f cdv A outer s H E hr => ⟨_,
    have hu64 := hr.units; (pss_cons (ps_asg (pv 0) (pg_tup rfl (pgs_cons (pg_name (i := 1) sc_is_number.nd rfl (Or.inl rfl)) (pgs_cons (pg_name (i := 2) sc_is_number.nd rfl (Or.inl rfl)) pgs_nil))))
 (pss_one (ps_ret (pe_and (pe_cmpR op_ge (pv 2) pe_int (nomark _)) (pe_one (pe_cmpR (op_eqU hu64) (pe_callBfun cr_gcd (by rfl) m_gcd (pa_cons (pv 1) (pa_cons (pv 2) pa_nil))) pe_int (nomark _))))))), fun μ ds post exc hl hP => ?_⟩
  obtain ⟨a, b, rfl, hp⟩ := hP
  unfold numD isNum at *
  walk_at "d0"
  walk_at "dx"
  refine ifD (fun hb => ?_) (fun hb => ?_)
  · rw [decide_eq_true hb, Bool.true_and] at hp
    walk_at "dx"
    exact hp
  · rw [decide_eq_false hb, Bool.false_and] at hp
    exact hp
end
def P_sn : PD := fun μ ds post _ => ∃ q : Rat, ds = [numQ q] ∧ Nine q ∧ post μ (.str (txt (qL q)))
def P_whole : PD := fun μ ds post _ => ∃ i : Int, ds = [.str (txt (intL i))] ∧ i.natAbs < 10 ^ 9 ∧ post μ (.int i)
def P_number : PD := fun μ ds post _ => ∃ q : Rat, ds = [.str (txt (qL q))] ∧ Nine q ∧ post μ (numQ q)
section
variable {P : Program} {w : World} {K : PySem.W.Frag} {mg : Str → Option Value} {base : Heap} {tDI tMD : Tok} {fI A_Unreadable : Addr}
theorem c_show_number (h : Std K mg "show_number" s_show_number) : Cal P w K mg base CX0 1 "show_number" s_show_number ["number"] (spD K 1 P_sn) := by
  refine cal0 h sc_show_number (fun _ _ _ _ _ _ us hl => match us, hl with | [_], _ => rfl) fun f cdv A outer s H E hr => ⟨_,
    have hu64 := hr.units; (pss_cons (ps_asg (pv 0) (pg_tup rfl (pgs_cons (pg_name (i := 1) sc_show_number.nd rfl (Or.inl rfl)) (pgs_cons (pg_name (i := 2) sc_show_number.nd rfl (Or.inl rfl)) pgs_nil))))
 (pss_one (ps_ret (pe_ifExp (pt_cmpR (op_eqU hu64) (pv 2) pe_int (nomark _)) (pe_joined1 (pe_fmt (pv 1))) (pe_joinedK (PJ.cons (pe_fmt (pv 1)) (PJ.cons pe_str (PJ.cons (pe_fmt (pv 2)) PJ.nil)))))))), fun μ ds post exc hl hP => ?_⟩
  obtain ⟨q, rfl, ⟨h1, h2⟩, hp⟩ := hP
  have l1 := intL_len (by decide) h1
  have l2 := intL_len (i := (q.den : Int)) (k := 9) (by decide) h2
  unfold numQ numD
  unfold qL at hp
  walk_at "d0"
  walk_at "dx"
  refine ifD (fun hd => ?_) (fun hd => ?_)
  · rw [if_pos (by omega)] at hp
    refine evx_fmt ?_
    walk_at "dx"
    refine ⟨nine_log h1, ?_⟩
    rw [str_int]
    exact hp
  · rw [if_neg (by omega)] at hp
    have emp : ∀ cs : List Nat, Str.empty ++ txt cs = txt cs := fun cs => add_txt [] cs
    have fits : ∀ cs : List Nat, cs.length ≤ 1000 → (txt cs).length ≤ sizeLine := fun cs h => by rw [txt_len]; exact Nat.le_trans h (by decide)
    have d2 : intL (q.den : Int) = TL.numL q.den := by unfold intL; rw [if_neg (by omega)]; rfl
    refine evx_joined (evj_cons (evx_fmt ?_))
    walk_at "dx"
    refine ⟨nine_log h1, ?_⟩
    rw [str_int]
    refine ⟨_, rfl, by rw [emp]; exact fits _ (by omega), evj_cons ?_⟩
    rw [emp]
    walk_at "dx"
    refine ⟨by rw [show Str.ofString "/" = txt [47] from rfl, add_txt]; exact fits _ (by rw [List.length_append]; show _ + 1 ≤ _; omega), evj_cons (evx_fmt ?_)⟩
    walk_at "dx"
    refine ⟨nine_log h2, ?_⟩
    rw [str_int, d2, show Str.ofString "/" = txt [47] from rfl, add_txt]
    rw [d2] at l2
    refine ⟨_, rfl, by rw [add_txt]; exact fits _ (by rw [List.length_append, List.length_append]; show _ + 1 + _ ≤ _; omega), evj_nil ?_⟩
    rw [add_txt, List.append_assoc]
    exact hp
theorem c_said (h : Std K mg "_law_said" s__law_said) (n_str : mg "str" = none) : Cal P w K mg base CX0 1 "_law_said" s__law_said ["_law_pair_here"] (spD K 1 P_sn) := by
  refine cal0 h sc__law_said (fun _ _ _ _ _ _ us hl => match us, hl with | [_], _ => rfl) fun f cdv A outer s H E hr => ⟨_,
    have hu64 := hr.units; (pss_one (ps_ret (pe_ifExp (pt_cmpR (op_eqU hu64) (pe_ix ix_seq (pv 0) pe_int (fun _ _ => rfl)) pe_int (nomark _)) (pe_callTy call_strI (by rfl) n_str (by decide +kernel) (pa_cons (pe_ix ix_seq (pv 0) pe_int (fun _ _ => rfl)) pa_nil)) (pe_op op_addU (pe_op op_addU (pe_callTy call_strI (by rfl) n_str (by decide +kernel) (pa_cons (pe_ix ix_seq (pv 0) pe_int (fun _ _ => rfl)) pa_nil)) pe_str) (pe_callTy call_strI (by rfl) n_str (by decide +kernel) (pa_cons (pe_ix ix_seq (pv 0) pe_int (fun _ _ => rfl)) pa_nil)))))), fun μ ds post exc hl hP => ?_⟩
  obtain ⟨q, rfl, ⟨h1, h2⟩, hp⟩ := hP
  have l1 := intL_len (by decide) h1
  have l2 := intL_len (i := (q.den : Int)) (k := 9) (by decide) h2
  have d2 : intL (q.den : Int) = TL.numL q.den := by unfold intL; rw [if_neg (by omega)]; rfl
  unfold numQ numD
  unfold qL at hp
  walk_at "d0"
  walk_at "dx"
  refine ifD (fun hd => ?_) (fun hd => ?_)
  · rw [if_pos (by omega)] at hp
    walk_at "dx"
    refine cax_strI (nine_log h1) ?_
    rw [str_int]
    exact hp
  · rw [if_neg (by omega)] at hp
    walk_at "dx"
    refine cax_strI (nine_log h1) ?_
    walk_at "dx"
    rw [str_int, show Str.ofString "/" = txt [47] from rfl]
    refine opx_r (opx_l (opx_addS (by rw [txt_len, txt_len]; show _ + 1 ≤ _; omega) ?_))
    walk_at "dx"
    refine cax_strI (nine_log h2) ?_
    walk_at "dx"
    rw [str_int, d2, add_txt]
    rw [d2] at l2
    refine opx_r (opx_l (opx_addS (by rw [txt_len, txt_len, List.length_append]; show _ + 1 + _ ≤ _; omega) ?_))
    rw [add_txt, List.append_assoc]
    exact hp
theorem c_whole (h : Std K mg "whole_of" s_whole_of) (n_len : mg "len" = none) (n_all : mg "all" = none) (n_int : mg "int" = none) (m_DIGITS : mg "DIGITS" = some (.str "0123456789" tDI)) (m_MOST_DIGITS : mg "MOST_DIGITS" = some (.int 9 tMD)) : Cal P w K mg base CX0 1 "whole_of" s_whole_of ["text"] (spD K 1 P_whole) := by
  refine cal0 h sc_whole_of (fun _ _ _ _ _ _ us hl => match us, hl with | [_], _ => rfl) fun f cdv A outer s H E hr => ⟨_,
    have hu64 := hr.units; (pss_cons (ps_set (i := 1) sc_whole_of.nd rfl (Or.inl rfl) (pe_ifExp (pt_val (pe_starts (pv 0) pe_str)) (pe_slice sl_str (pv 0) (po_some pe_int) po_none) (pv 0)))
 (pss_cons (ps_if (PW.pt (pw_or (pt_cmpR (op_eqU hu64) (pv 1) pe_str (nomark _)) (pw_or (pt_cmpR op_gt (pe_callB call_len (by rfl) n_len (by decide +kernel) (pa_cons (pv 1) pa_nil)) (pe_glob (v := .int 9) rfl m_MOST_DIGITS ⟨_, rfl⟩) (nomark _)) (pw_or1 (pt_not (pt_val (pe_callB (cr_all rfl) (by rfl) n_all (by decide +kernel) (pa_cons (pe_lc (own := [("sign", 2)]) rfl sc_whole_of.nd (pi_str (pv 1)) (blkOk_by (own := [("sign", 2)]) (N := ["text", "digits", "sign"]) (sc := defScope s_whole_of) (by decide +kernel)) (fun _ _ _ _ _ => pg_via (g := (gName 2)) (pg_name (i := 2) sc_whole_of.nd rfl (Or.inl rfl)) (by (try dsimp only [Cx.blk, Cx.nox, Cx.tr]) <;> exact rfl)) (fun _ _ _ _ _ => pts_via pts_nil (by (try dsimp only [Cx.blk, Cx.nox, Cx.tr]) <;> exact rfl)) (fun _ _ _ _ _ => pe_via (pe_cmpR op_in_sign (pv 2) (pe_glob (v := .str "0123456789") rfl m_DIGITS ⟨_, rfl⟩) rfl) (by (try dsimp only [Cx.blk, Cx.nox, Cx.tr]) <;> exact rfl))) pa_nil))))))))
 (pss_one (ps_ret pe_non))
 pss_nil)
 (pss_cons (ps_if (PW.pt (pw_and (pt_cmpR (op_eqU hu64) (pe_ix ix_seq (pv 1) pe_int (fun _ _ => rfl)) pe_str (nomark _)) (pw_and1 (pt_cmpR (op_neU hu64) (pv 0) pe_str (nomark _)))))
 (pss_one (ps_ret pe_non))
 pss_nil)
 (pss_one (ps_ret (pe_callTy call_intT (by rfl) n_int (by decide +kernel) (pa_cons (pv 0) pa_nil))))))), fun μ ds post exc hl hP => ?_⟩
  obtain ⟨i, rfl, h1, hp⟩ := hP
  have l1 := intL_len (by decide) h1
  have l2 := TL.numL_len (by decide) h1
  walk_at "d0"
  refine gs_seq (gs_at (fun μ' ρ' => μ' = μ ∧ ρ' = [some (.str (txt (intL i))), some (.str (txt (TL.numL i.natAbs))), none]) ?_ ?_)
  · walk_at "dx"
    refine evx_starts ?_
    walk_at "dx"
    rw [starts_minus]
    have dg := digits_of i
    have lt : (txt (intL i)).length ≤ 1000000 := by rw [txt_len]; omega
    refine ifD (fun hm => ?_) (fun hm => ?_)
    · rw [if_pos hm] at dg
      walk_at "dx"
      refine slx_S lt ?_
      rw [show ((1 : Int)) = ((1 : Nat) : Int) from rfl, cut_tail (by rw [← Nat.lt_iff_add_one_le]; exact List.length_pos_iff.mpr (intL_ne i)), dg]
      walk_at "dx"
      rfl
    · rw [if_neg hm] at dg
      walk_at "dx"
      rw [dg]
      rfl
  rintro μ1 ρ1 ⟨rfl, rfl⟩
  have nz : TL.numL i.natAbs ≠ [] := TL.numL_ne _
  have dgs := TL.numL_digits i.natAbs
  have nz0 := @num_zero i.natAbs
  generalize hc : TL.numL i.natAbs = cs at l2 nz dgs nz0
  walk_at "dx"
  refine ifNo (by
    refine decide_eq_false fun z => nz ?_
    have := congrArg (fun s : Str => s.cps.toList) z
    rw [txt_cps] at this
    exact this) ?_
  walk_at "dx"
  refine cax_len (n := (txt cs).length) ⟨by rw [txt_len]; omega, rfl⟩ ?_
  walk_at "dx"
  refine ifNo (decide_eq_false (by rw [txt_len]; omega)) ?_
  walk_at "dx"
  refine evx_lcP (itx_str ?_)
  walk_at "dx"
  refine ⟨⟨by rw [signsD_eq, txt_cps, List.length_map]; omega, fun _ _ => True.intro⟩, fun _ => true, fun _ => .bl true, ?_, ?_⟩
  · intro d hd μ3 hμ
    rw [signsD_eq, txt_cps] at hd
    obtain ⟨c, hc', rfl⟩ := List.mem_map.mp hd
    refine tcx_name (by decide) ?_
    refine evb_yes ⟨rfl, rfl, fun _ => ?_⟩
    walk_at "dx"
    refine opx_inSign ?_
    rw [decide_eq_true (in_digits (dgs c hc'))]
    exact ⟨rfl, rfl⟩
  rw [List.filter_eq_self.mpr (fun _ _ => rfl), signsD_eq, txt_cps]
  walk_at "dx"
  refine cax_all (zs := cs.map fun _ => true) (x := .lst _) (S := fun _ => True) ?_ ?_
  · have e : ((cs.map sgD).map fun _ => D.bl true) = (cs.map fun _ => true).map D.bl := by rw [List.map_map, List.map_map]; rfl
    rw [e]
    exact isL_lst
  rw [all_true]
  walk_at "dz"
  obtain ⟨c, r, rfl⟩ : ∃ c r, cs = c :: r := List.exists_cons_of_ne_nil nz
  refine opx_ixS (c := c) (by rw [txt_len]; omega) (by rw [txt_cps]; exact atI_pos (n := 0) rfl) ?_
  walk_at "dx"
  refine ifD (fun h0 => ?_) (fun h0 => ?_)
  · have h48 : c = 48 := (sg_eq c 48).mp h0
    have hi : i = 0 := by
      have := nz0 (by rw [h48]; rfl)
      omega
    have e0 : txt (intL i) = Str.ofString "0" := by subst hi; decide
    walk_at "dx"
    rw [e0]
    walk_at "dz"
    refine cax_intT (n := i) (by rw [← e0]; exact int_back (by omega)) (by decide) hp
  · walk_at "dz"
    exact cax_intT (int_back (by omega)) (by rw [txt_len]; omega) hp
theorem c_number (h : Std K mg "number_of" s_number_of) (C_whole_of : Cal P w K mg base CX0 1 "whole_of" s_whole_of ["text"] (spD K 1 P_whole)) (C_is_number : Cal P w K mg base CX0 1 "is_number" s_is_number ["value"] (spD K 1 P_isnum)) : Cal P w K mg base CX0 2 "number_of" s_number_of ["text"] (spD K 1 P_number) := by
  refine cal0 h sc_number_of (fun _ _ _ _ _ _ us hl => match us, hl with | [_], _ => rfl) fun f cdv A outer s H E hr => ⟨_,
    have hu64 := hr.units; (pss_cons (ps_asg (pe_partit (pv 0) pe_str) (pg_tup rfl (pgs_cons (pg_name (i := 1) sc_number_of.nd rfl (Or.inl rfl)) (pgs_cons (pg_name (i := 2) sc_number_of.nd rfl (Or.inl rfl)) (pgs_cons (pg_name (i := 3) sc_number_of.nd rfl (Or.inl rfl)) pgs_nil)))))
 (pss_cons (ps_set (i := 4) sc_number_of.nd rfl (Or.inl rfl) (pe_c C_whole_of hr (by first | decide | omega) (pa_cons (pv 1) pa_nil)))
 (pss_cons (ps_if (pt_cmp (pc_isN (pv 4)))
 (pss_one (ps_ret pe_non))
 pss_nil)
 (pss_cons (ps_if (pt_cmpR (op_eqU hu64) (pv 2) pe_str (nomark _))
 (pss_one (ps_ret (pe_tup (pa_cons (pv 4) (pa_cons pe_int pa_nil)))))
 pss_nil)
 (pss_cons (ps_set (i := 5) sc_number_of.nd rfl (Or.inl rfl) (pe_c C_whole_of hr (by first | decide | omega) (pa_cons (pv 3) pa_nil)))
 (pss_cons (ps_if (PW.pt (pw_or (pt_cmp (pc_isN (pv 5))) (pw_or (pt_cmpR op_lt (pv 5) pe_int (nomark _)) (pw_or1 (pt_not (pt_val (pe_c C_is_number hr (by first | decide | omega) (pa_cons (pe_tup (pa_cons (pv 4) (pa_cons (pv 5) pa_nil))) pa_nil))))))))
 (pss_one (ps_ret pe_non))
 pss_nil)
 (pss_one (ps_ret (pe_tup (pa_cons (pv 4) (pa_cons (pv 5) pa_nil))))))))))), fun μ ds post exc hl hP => ?_⟩
  obtain ⟨q, rfl, ⟨h1, h2⟩, hp⟩ := hP
  have l1 := intL_len (by decide) h1
  have l2 := qL_len ⟨h1, h2⟩
  have sl : TL.tl (Str.ofString "/") = 47 :: [] := rfl
  walk_at "d0"
  walk_at "dx"
  refine evx_partit ?_
  walk_at "dx"
  refine ⟨by rw [txt_len]; omega, ?_⟩
  have free : (47 : Nat) ∉ TL.tl (txt (intL q.num)) := fun z => by
    have z2 : 47 ∈ intL q.num := by rw [← txt_cps (intL q.num)]; exact z
    have := intL_sig 47 z2
    omega
  have hpos := q.den_pos
  by_cases hd : q.den = 1
  · have e1 : qL q = intL q.num := by unfold qL; rw [if_pos hd]
    rw [e1, TL.partition_none sl free]
    walk_at "dx"
    refine ⟨q.num, rfl, h1, ?_⟩
    walk_at "dz"
    have e2 : numQ q = .tup [.int q.num, .int 1] := by unfold numQ numD; rw [hd]; rfl
    rw [← e2]
    exact hp
  · have e1 : txt (qL q) = txt (intL q.num) ++ Str.ofString "/" ++ txt (TL.numL q.den) := by
      unfold qL
      rw [if_neg hd, show Str.ofString "/" = txt [47] from rfl, add_txt, add_txt, List.append_assoc]
      rfl
    have d2 : intL (q.den : Int) = TL.numL q.den := by unfold intL; rw [if_neg (by omega)]; rfl
    rw [e1, TL.partition_app sl free]
    walk_at "dx"
    refine ⟨q.num, rfl, h1, ?_⟩
    walk_at "dz"
    rw [← d2]
    refine ⟨q.den, rfl, h2, ?_⟩
    walk_at "dz"
    refine ifNo (decide_eq_false (by omega)) ?_
    walk_at "dx"
    refine ⟨q.num, q.den, rfl, ?_⟩
    rw [isNum_q]
    walk_at "dz"
    exact hp
theorem c_read_number (h : Std K mg "read_number" s_read_number) (X_Unreadable : ExcD K mg "Unreadable" A_Unreadable fI) (G_init : IniD P w K mg base fI) (C_number_of : Cal P w K mg base CX0 2 "number_of" s_number_of ["text"] (spD K 1 P_number)) : Cal P w K mg base (L2.CX P w) 3 "read_number" s_read_number ["text"] (spD K 1 P_number) := by
  refine calX h sc_read_number (fun _ _ _ _ _ _ us hl => match us, hl with | [_], _ => rfl) fun f cdv A outer s H E hr => ⟨_,
    have hu64 := hr.units; (pss_cons (ps_set (i := 1) sc_read_number.nd rfl (Or.inl rfl) (pe_c C_number_of hr (by first | decide | omega) (pa_cons (pv 0) pa_nil)))
 (pss_cons (ps_if (pt_cmp (pc_isN (pv 1)))
 (pss_one (ps_raiseD X_Unreadable G_init hr (by decide) (takes_of rfl rfl rfl rfl) (pa_cons (pv 0) pa_nil)))
 pss_nil)
 (pss_one (ps_ret (pv 1))))), fun μ ds post exc hl hP => ?_⟩
  obtain ⟨q, rfl, hq, hp⟩ := hP
  walk_at "d0"
  walk_at "dx"
  refine ⟨q, rfl, hq, ?_⟩
  walk_at "dz"
  exact hp
end
def P_show : Nat → PD
  | 0 => fun _ _ _ _ => False
  | n + 1 => fun μ ds post _ => ∃ p : Pat, ds = [patD p] ∧ p.Good ∧ p.dep ≤ n ∧ p.words.length ≤ 900000 ∧ post μ (.str (txt p.words))
theorem add_lit {a : List Nat} {b : String} {c : List Nat} (h : Str.ofString b = txt c) : txt a ++ Str.ofString b = txt (a ++ c) := by rw [h, add_txt]
section
variable {P : Program} {w : World} {K : PySem.W.Frag} {mg : Str → Option Value} {base : Heap}
theorem c_show (h : Std K mg "show_pattern" s_show_pattern) (C_show_number : Cal P w K mg base CX0 1 "show_number" s_show_number ["number"] (spD K 1 P_sn)) : ∀ n, Cal P w K mg base CX0 (n+2) "show_pattern" s_show_pattern ["pattern"] (spD K 1 (P_show n))
  | 0 => (cal_false (n := 1) h (fun _ _ _ _ _ _ us hl => match us, hl with | [_], _ => rfl)).mono (by omega)
  | n + 1 => by
    have C_show_pattern := c_show h C_show_number n
    refine cal0 h sc_show_pattern (fun _ _ _ _ _ _ us hl => match us, hl with | [_], _ => rfl) fun f cdv A outer s H E hr => ⟨_,
      have hu64 := hr.units; (pss_cons (ps_set (i := 1) sc_show_pattern.nd rfl (Or.inl rfl) (pe_ix ix_seq (pv 0) pe_int (fun _ _ => rfl)))
 (pss_cons (ps_if (pt_cmpR (op_eqU hu64) (pv 1) pe_str (nomark _))
 (pss_one (ps_ret (pe_ix ix_seq (pv 0) pe_int (fun _ _ => rfl))))
 pss_nil)
 (pss_cons (ps_if (pt_cmpR (op_eqU hu64) (pv 1) pe_str (nomark _))
 (pss_one (ps_ret pe_str))
 pss_nil)
 (pss_cons (ps_if (pt_cmpR (op_eqU hu64) (pv 1) pe_str (nomark _))
 (pss_one (ps_ret pe_str))
 pss_nil)
 (pss_cons (ps_if (pt_cmpR (op_eqU hu64) (pv 1) pe_str (nomark _))
 (pss_one (ps_ret pe_str))
 pss_nil)
 (pss_cons (ps_if (pt_cmpR (op_eqU hu64) (pv 1) pe_str (nomark _))
 (pss_one (ps_ret (pe_op op_addU (pe_c C_show_pattern hr (by first | decide | omega) (pa_cons (pe_ix ix_seq (pv 0) pe_int (fun _ _ => rfl)) pa_nil)) pe_str)))
 pss_nil)
 (pss_cons (ps_if (pt_cmpR (op_eqU hu64) (pv 1) pe_str (nomark _))
 (pss_one (ps_ret (pe_op op_addU (pe_op op_addU (pe_op op_addU (pe_c C_show_number hr (by first | decide | omega) (pa_cons (pe_ix ix_seq (pv 0) pe_int (fun _ _ => rfl)) pa_nil)) pe_str) (pe_c C_show_pattern hr (by first | decide | omega) (pa_cons (pe_ix ix_seq (pv 0) pe_int (fun _ _ => rfl)) pa_nil))) pe_str)))
 pss_nil)
 (pss_cons (ps_set (i := 2) sc_show_pattern.nd rfl (Or.inl rfl) (pe_ifExp (pt_cmpR (op_eqU hu64) (pv 1) pe_str (nomark _)) pe_str pe_str))
 (pss_one (ps_ret (pe_op op_addU (pe_op op_addU (pe_op op_addU (pe_op op_addU pe_str (pe_c C_show_pattern hr (by first | decide | omega) (pa_cons (pe_ix ix_seq (pv 0) pe_int (fun _ _ => rfl)) pa_nil))) (pv 2)) (pe_c C_show_pattern hr (by first | decide | omega) (pa_cons (pe_ix ix_seq (pv 0) pe_int (fun _ _ => rfl)) pa_nil))) pe_str))))))))))), fun μ ds post exc hl hP => ?_⟩
    obtain ⟨p, rfl, hg, hd, hl, hp⟩ := hP
    walk_at "d0"
    cases p with
    | any => unfold patD; walk_at "dz"; exact hp
    | empty => unfold patD; walk_at "dz"; exact hp
    | none => unfold patD; walk_at "dz"; exact hp
    | sign c => unfold patD; walk_at "dz"; exact hp
    | many p =>
      obtain ⟨m, rfl⟩ : ∃ m, n = m + 1 := ⟨n - 1, by unfold Pat.dep at hd; omega⟩
      unfold Pat.dep at hd
      unfold Pat.words at hl hp
      rw [List.length_append] at hl
      unfold patD
      walk_at "dz"
      refine ⟨p, rfl, hg, by omega, by omega, ?_⟩
      walk_at "dx"
      refine opx_r (opx_l (opx_addS (by rw [txt_len]; show _ + 1 ≤ _; omega) ?_))
      rw [add_lit (c := [42]) rfl]
      exact hp
    | weigh q p =>
      obtain ⟨m, rfl⟩ : ∃ m, n = m + 1 := ⟨n - 1, by unfold Pat.dep at hd; omega⟩
      unfold Pat.dep at hd
      unfold Pat.words at hl hp
      rw [List.length_append, List.length_cons, List.length_append] at hl
      have lq := qL_len hg.1
      unfold patD
      walk_at "dz"
      refine ⟨q, rfl, hg.1, ?_⟩
      walk_at "dx"
      refine opx_r (opx_l (opx_addS (by rw [txt_len]; show _ + 1 ≤ _; omega) ?_))
      rw [add_lit (c := [91]) rfl]
      walk_at "dx"
      refine ⟨p, rfl, hg.2, by omega, by omega, ?_⟩
      refine opx_r (opx_l (opx_addS (by rw [txt_len, txt_len, List.length_append]; show _ + 1 + _ ≤ _; omega) ?_))
      rw [add_txt]
      walk_at "dx"
      refine opx_r (opx_l (opx_addS (by rw [txt_len, List.length_append, List.length_append]; show _ + 1 + _ + 1 ≤ _; omega) ?_))
      rw [add_lit (c := [93]) rfl, List.append_assoc, List.append_assoc]
      exact hp
    | both o p q =>
      obtain ⟨m, rfl⟩ : ∃ m, n = m + 1 := ⟨n - 1, by unfold Pat.dep at hd; omega⟩
      unfold Pat.dep at hd
      unfold Pat.words at hl hp
      rw [List.length_cons, List.length_append, List.length_append, List.length_append] at hl
      unfold patD
      cases o with
      | true =>
        rw [if_pos rfl] at hl
        walk_at "dz"
        refine ⟨p, rfl, hg.1, by omega, by omega, ?_⟩
        rw [show Str.ofString "(" = txt [40] from rfl, show Str.ofString " + " = txt [32, 43, 32] from rfl]
        refine opx_r (opx_l (opx_addS (by rw [txt_len, txt_len]; show 1 + _ ≤ _; omega) ?_))
        rw [add_txt]
        walk_at "dx"
        refine opx_r (opx_l (opx_addS (by rw [txt_len, txt_len, List.length_append]; show 1 + _ + 3 ≤ _; omega) ?_))
        rw [add_txt]
        walk_at "dx"
        refine ⟨q, rfl, hg.2, by omega, by simp only [List.length_cons, List.length_nil] at hl; omega, ?_⟩
        refine opx_r (opx_l (opx_addS (by rw [txt_len, txt_len, List.length_append, List.length_append]; simp only [List.length_cons, List.length_nil] at hl ⊢; omega) ?_))
        rw [add_txt]
        walk_at "dx"
        refine opx_r (opx_l (opx_addS (by rw [txt_len, List.length_append, List.length_append, List.length_append]; show _ + 1 ≤ _; simp only [List.length_cons, List.length_nil] at hl ⊢; omega) ?_))
        rw [add_lit (c := [41]) rfl, List.append_assoc, List.append_assoc, List.append_assoc]
        exact hp
      | false =>
        rw [if_neg (by decide)] at hl
        walk_at "dz"
        refine ⟨p, rfl, hg.1, by omega, by omega, ?_⟩
        rw [show Str.ofString "(" = txt [40] from rfl, show Str.ofString " " = txt [32] from rfl]
        refine opx_r (opx_l (opx_addS (by rw [txt_len, txt_len]; show 1 + _ ≤ _; omega) ?_))
        rw [add_txt]
        walk_at "dx"
        refine opx_r (opx_l (opx_addS (by rw [txt_len, txt_len, List.length_append]; show 1 + _ + 1 ≤ _; omega) ?_))
        rw [add_txt]
        walk_at "dx"
        refine ⟨q, rfl, hg.2, by omega, by simp only [List.length_cons, List.length_nil] at hl; omega, ?_⟩
        refine opx_r (opx_l (opx_addS (by rw [txt_len, txt_len, List.length_append, List.length_append]; simp only [List.length_cons, List.length_nil] at hl ⊢; omega) ?_))
        rw [add_txt]
        walk_at "dx"
        refine opx_r (opx_l (opx_addS (by rw [txt_len, List.length_append, List.length_append, List.length_append]; show _ + 1 ≤ _; simp only [List.length_cons, List.length_nil] at hl ⊢; omega) ?_))
        rw [add_lit (c := [41]) rfl, List.append_assoc, List.append_assoc, List.append_assoc]
        exact hp
theorem c_words (h : Std K mg "_law_words" s__law_words) (C__law_said : Cal P w K mg base CX0 1 "_law_said" s__law_said ["_law_pair_here"] (spD K 1 P_sn)) : ∀ n, Cal P w K mg base CX0 (n+2) "_law_words" s__law_words ["_law_tree_here"] (spD K 1 (P_show n))
  | 0 => (cal_false (n := 1) h (fun _ _ _ _ _ _ us hl => match us, hl with | [_], _ => rfl)).mono (by omega)
  | n + 1 => by
    have C__law_words := c_words h C__law_said n
    refine cal0 h sc__law_words (fun _ _ _ _ _ _ us hl => match us, hl with | [_], _ => rfl) fun f cdv A outer s H E hr => ⟨_,
      have hu64 := hr.units; have hu := hu_of hr; (pss_cons (ps_set (i := 1) sc__law_words.nd rfl (Or.inl rfl) (pe_ix ix_seq (pv 0) pe_int (fun _ _ => rfl)))
 (pss_cons (ps_if (pt_cmpR (op_eqU hu64) (pv 1) pe_str (nomark _))
 (pss_one (ps_ret (pe_ix ix_seq (pv 0) pe_int (fun _ _ => rfl))))
 pss_nil)
 (pss_cons (ps_if (pt_cmpR op_in_seq (pv 1) (pe_tup (pa_cons pe_str (pa_cons pe_str (pa_cons pe_str pa_nil)))) rfl)
 (pss_one (ps_ret (pe_dget hu (pe_disp (pps_cons pe_str pe_str (pps_cons pe_str pe_str (pps_cons pe_str pe_str pps_nil))) rfl rfl (by decide) (by decide)) (pv 1) (fun _ _ => rfl))))
 pss_nil)
 (pss_cons (ps_if (pt_cmpR (op_eqU hu64) (pv 1) pe_str (nomark _))
 (pss_one (ps_ret (pe_op op_addU (pe_c C__law_words hr (by first | decide | omega) (pa_cons (pe_ix ix_seq (pv 0) pe_int (fun _ _ => rfl)) pa_nil)) pe_str)))
 pss_nil)
 (pss_cons (ps_if (pt_cmpR (op_eqU hu64) (pv 1) pe_str (nomark _))
 (pss_one (ps_ret (pe_op op_addU (pe_op op_addU (pe_op op_addU (pe_c C__law_said hr (by first | decide | omega) (pa_cons (pe_ix ix_seq (pv 0) pe_int (fun _ _ => rfl)) pa_nil)) pe_str) (pe_c C__law_words hr (by first | decide | omega) (pa_cons (pe_ix ix_seq (pv 0) pe_int (fun _ _ => rfl)) pa_nil))) pe_str)))
 pss_nil)
 (pss_one (ps_ret (pe_op op_addU (pe_op op_addU (pe_op op_addU (pe_op op_addU pe_str (pe_c C__law_words hr (by first | decide | omega) (pa_cons (pe_ix ix_seq (pv 0) pe_int (fun _ _ => rfl)) pa_nil))) (pe_dget hu (pe_disp (pps_cons pe_str pe_str (pps_cons pe_str pe_str pps_nil)) rfl rfl (by decide) (by decide)) (pv 1) (fun _ _ => rfl))) (pe_c C__law_words hr (by first | decide | omega) (pa_cons (pe_ix ix_seq (pv 0) pe_int (fun _ _ => rfl)) pa_nil))) pe_str)))))))), fun μ ds post exc hl hP => ?_⟩
    obtain ⟨p, rfl, hg, hd, hl, hp⟩ := hP
    walk_at "d0"
    cases p with
    | any =>
      unfold patD
      walk_at "dz"
      refine opx_inTS (zs := ["any", "empty", "none"]) ?_
      walk_at "dz"
      refine evx_dget (evx_disp (kvs := [(.inr "any", "."), (.inr "empty", "1"), (.inr "none", "0")]) rfl (by decide) (by decide) ?_)
      walk_at "dx"
      exact ⟨_, _, .inr "any", .str ".", .inl rfl, rfl, by rfl, hp⟩
    | empty =>
      unfold patD
      walk_at "dz"
      refine opx_inTS (zs := ["any", "empty", "none"]) ?_
      walk_at "dz"
      refine evx_dget (evx_disp (kvs := [(.inr "any", "."), (.inr "empty", "1"), (.inr "none", "0")]) rfl (by decide) (by decide) ?_)
      walk_at "dx"
      exact ⟨_, _, .inr "empty", .str "1", .inl rfl, rfl, by rfl, hp⟩
    | none =>
      unfold patD
      walk_at "dz"
      refine opx_inTS (zs := ["any", "empty", "none"]) ?_
      walk_at "dz"
      refine evx_dget (evx_disp (kvs := [(.inr "any", "."), (.inr "empty", "1"), (.inr "none", "0")]) rfl (by decide) (by decide) ?_)
      walk_at "dx"
      exact ⟨_, _, .inr "none", .str "0", .inl rfl, rfl, by rfl, hp⟩
    | sign c => unfold patD; walk_at "dz"; exact hp
    | many p =>
      obtain ⟨m, rfl⟩ : ∃ m, n = m + 1 := ⟨n - 1, by unfold Pat.dep at hd; omega⟩
      unfold Pat.dep at hd
      unfold Pat.words at hl hp
      rw [List.length_append] at hl
      unfold patD
      walk_at "dz"
      refine opx_inTS (zs := ["any", "empty", "none"]) ?_
      walk_at "dz"
      refine ⟨p, rfl, hg, by omega, by omega, ?_⟩
      walk_at "dx"
      refine opx_r (opx_l (opx_addS (by rw [txt_len]; show _ + 1 ≤ _; omega) ?_))
      rw [add_lit (c := [42]) rfl]
      exact hp
    | weigh q p =>
      obtain ⟨m, rfl⟩ : ∃ m, n = m + 1 := ⟨n - 1, by unfold Pat.dep at hd; omega⟩
      unfold Pat.dep at hd
      unfold Pat.words at hl hp
      rw [List.length_append, List.length_cons, List.length_append] at hl
      have lq := qL_len hg.1
      unfold patD
      walk_at "dz"
      refine opx_inTS (zs := ["any", "empty", "none"]) ?_
      walk_at "dz"
      refine ⟨q, rfl, hg.1, ?_⟩
      walk_at "dx"
      refine opx_r (opx_l (opx_addS (by rw [txt_len]; show _ + 1 ≤ _; omega) ?_))
      rw [add_lit (c := [91]) rfl]
      walk_at "dx"
      refine ⟨p, rfl, hg.2, by omega, by omega, ?_⟩
      refine opx_r (opx_l (opx_addS (by rw [txt_len, txt_len, List.length_append]; show _ + 1 + _ ≤ _; omega) ?_))
      rw [add_txt]
      walk_at "dx"
      refine opx_r (opx_l (opx_addS (by rw [txt_len, List.length_append, List.length_append]; show _ + 1 + _ + 1 ≤ _; omega) ?_))
      rw [add_lit (c := [93]) rfl, List.append_assoc, List.append_assoc]
      exact hp
    | both o p q =>
      obtain ⟨m, rfl⟩ : ∃ m, n = m + 1 := ⟨n - 1, by unfold Pat.dep at hd; omega⟩
      unfold Pat.dep at hd
      unfold Pat.words at hl hp
      rw [List.length_cons, List.length_append, List.length_append, List.length_append] at hl
      unfold patD
      cases o with
      | true =>
        rw [if_pos rfl] at hl
        walk_at "dz"
        refine opx_inTS (zs := ["any", "empty", "none"]) ?_
        walk_at "dz"
        refine ⟨p, rfl, hg.1, by omega, by omega, ?_⟩
        rw [show Str.ofString "(" = txt [40] from rfl]
        refine opx_r (opx_l (opx_addS (by rw [txt_len, txt_len]; show 1 + _ ≤ _; omega) ?_))
        rw [add_txt]
        walk_at "dx"
        refine evx_dget (evx_disp (kvs := [(.inr "then", " "), (.inr "or", " + ")]) rfl (by decide) (by decide) ?_)
        walk_at "dx"
        refine ⟨_, _, .inr "or", .str " + ", .inl rfl, rfl, by rfl, ?_⟩
        rw [show Str.ofString " + " = txt [32, 43, 32] from rfl]
        refine opx_r (opx_l (opx_addS (by rw [txt_len, txt_len, List.length_append]; show 1 + _ + 3 ≤ _; omega) ?_))
        rw [add_txt]
        walk_at "dx"
        refine ⟨q, rfl, hg.2, by omega, by simp only [List.length_cons, List.length_nil] at hl; omega, ?_⟩
        refine opx_r (opx_l (opx_addS (by rw [txt_len, txt_len, List.length_append, List.length_append]; simp only [List.length_cons, List.length_nil] at hl ⊢; omega) ?_))
        rw [add_txt]
        walk_at "dx"
        refine opx_r (opx_l (opx_addS (by rw [txt_len, List.length_append, List.length_append, List.length_append]; show _ + 1 ≤ _; simp only [List.length_cons, List.length_nil] at hl ⊢; omega) ?_))
        rw [add_lit (c := [41]) rfl, List.append_assoc, List.append_assoc, List.append_assoc]
        exact hp
      | false =>
        rw [if_neg (by decide)] at hl
        walk_at "dz"
        refine opx_inTS (zs := ["any", "empty", "none"]) ?_
        walk_at "dz"
        refine ⟨p, rfl, hg.1, by omega, by omega, ?_⟩
        rw [show Str.ofString "(" = txt [40] from rfl]
        refine opx_r (opx_l (opx_addS (by rw [txt_len, txt_len]; show 1 + _ ≤ _; omega) ?_))
        rw [add_txt]
        walk_at "dx"
        refine evx_dget (evx_disp (kvs := [(.inr "then", " "), (.inr "or", " + ")]) rfl (by decide) (by decide) ?_)
        walk_at "dx"
        refine ⟨_, _, .inr "then", .str " ", .inl rfl, rfl, by rfl, ?_⟩
        rw [show Str.ofString " " = txt [32] from rfl]
        refine opx_r (opx_l (opx_addS (by rw [txt_len, txt_len, List.length_append]; show 1 + _ + 1 ≤ _; omega) ?_))
        rw [add_txt]
        walk_at "dx"
        refine ⟨q, rfl, hg.2, by omega, by simp only [List.length_cons, List.length_nil] at hl; omega, ?_⟩
        refine opx_r (opx_l (opx_addS (by rw [txt_len, txt_len, List.length_append, List.length_append]; simp only [List.length_cons, List.length_nil] at hl ⊢; omega) ?_))
        rw [add_txt]
        walk_at "dx"
        refine opx_r (opx_l (opx_addS (by rw [txt_len, List.length_append, List.length_append, List.length_append]; show _ + 1 ≤ _; simp only [List.length_cons, List.length_nil] at hl ⊢; omega) ?_))
        rw [add_lit (c := [41]) rfl, List.append_assoc, List.append_assoc, List.append_assoc]
        exact hp
end
section
variable {P : Program} {w : World} {K : PySem.W.Frag} {mg : Str → Option Value} {base : Heap} {tL : Tok} {fI A_Unreadable : Addr}
theorem c_weighed {n : Nat} (h : Std K mg "weighed_at" s_weighed_at) (n_len : mg "len" = none) (C_number_of : Cal P w K mg base CX0 2 "number_of" s_number_of ["text"] (spD K 1 P_number)) (C_pattern_at : Cal P w K mg base CX0 (3*n+2) "pattern_at" s_pattern_at ["text", "at"] (spD K 2 (P_pat n))) : Cal P w K mg base CX0 (3*n+3) "weighed_at" s_weighed_at ["text", "at"] (spD K 2 (P_weighA n)) := by
  refine cal0 h sc_weighed_at (fun _ _ _ _ _ _ us hl => match us, hl with | [_, _], _ => rfl) fun f cdv A outer s H E hr => ⟨_,
    have hu64 := hr.units; (pss_cons (ps_set (i := 2) sc_weighed_at.nd rfl (Or.inl rfl) (pv 1))
 (pss_cons (ps_while PassesOwn.never (PW.pt (pw_and (pt_cmpR op_lt (pv 2) (pe_callB call_len (by rfl) n_len (by decide +kernel) (pa_cons (pv 0) pa_nil)) (nomark _)) (pw_and1 (pt_cmpR op_in_sign (pe_ix ix_seq (pv 0) (pv 2) (fun _ _ => rfl)) pe_str rfl))))
 (pss_one (ps_set (i := 2) sc_weighed_at.nd rfl (Or.inl rfl) (pe_op op_addU (pv 2) pe_int))))
 (pss_cons (ps_set (i := 3) sc_weighed_at.nd rfl (Or.inl rfl) (pe_slice sl_str (pv 0) (po_some (pv 1)) (po_some (pv 2))))
 (pss_cons (ps_if (pt_cmpR (op_neU hu64) (pe_slice sl_str (pv 0) (po_some (pv 2)) (po_some (pe_op op_addU (pv 2) pe_int))) pe_str (nomark _))
 (pss_cons (ps_if (pt_cmpR (op_eqU hu64) (pv 3) pe_str (nomark _))
 (pss_one (ps_ret (pe_tup (pa_cons (pe_tup (pa_cons pe_str pa_nil)) (pa_cons (pv 2) pa_nil)))))
 pss_nil)
 (pss_one (ps_ret (pe_ifExp (pt_cmpR (op_eqU hu64) (pv 3) pe_str (nomark _)) (pe_tup (pa_cons (pe_tup (pa_cons pe_str pa_nil)) (pa_cons (pv 2) pa_nil))) pe_non))))
 pss_nil)
 (pss_cons (ps_set (i := 4) sc_weighed_at.nd rfl (Or.inl rfl) (pe_c C_number_of hr (by first | decide | omega) (pa_cons (pv 3) pa_nil)))
 (pss_cons (ps_if (pt_cmp (pc_isN (pv 4)))
 (pss_one (ps_ret pe_non))
 pss_nil)
 (pss_cons (ps_set (i := 5) sc_weighed_at.nd rfl (Or.inl rfl) (pe_c C_pattern_at hr (by first | decide | omega) (pa_cons (pv 0) (pa_cons (pe_op op_addU (pv 2) pe_int) pa_nil))))
 (pss_cons (ps_if (PW.pt (pw_or (pt_cmp (pc_isN (pv 5))) (pw_or1 (pt_cmpR (op_neU hu64) (pe_slice sl_str (pv 0) (po_some (pe_ix ix_seq (pv 5) pe_int (fun _ _ => rfl))) (po_some (pe_op op_addU (pe_ix ix_seq (pv 5) pe_int (fun _ _ => rfl)) pe_int))) pe_str (nomark _)))))
 (pss_one (ps_ret pe_non))
 pss_nil)
 (pss_one (ps_ret (pe_tup (pa_cons (pe_tup (pa_cons pe_str (pa_cons (pv 4) (pa_cons (pe_ix ix_seq (pv 5) pe_int (fun _ _ => rfl)) pa_nil)))) (pa_cons (pe_op op_addU (pe_ix ix_seq (pv 5) pe_int (fun _ _ => rfl)) pe_int) pa_nil))))))))))))), fun μ ds post exc hl hP => ?_⟩
  obtain ⟨cs, i, p, r, rfl, hs, hg, hd, hw, hf, hl9, hp⟩ := hP
  -- the word and what stands behind it
  obtain ⟨wd, rest, e1, e2, e3⟩ : ∃ wd rest : List Nat, cs.drop i = wd ++ rest ∧ (∀ c ∈ wd, numSig c) ∧ (∀ c, rest.head? = some c → ¬ numSig c) ∧ wd ≠ [] ∧ (p = .none → wd = [48] ∧ rest = r) ∧ (p = .empty → wd = [49] ∧ rest = r) ∧ (∀ q p', p = .weigh q p' → wd = qL q ∧ rest = 91 :: (p'.words ++ 93 :: r)) := by
    cases p with
    | none => exact ⟨[48], r, hs, (fun c hc => by rw [List.mem_singleton.mp hc]; exact .inr ⟨by decide, by decide⟩), (fun c hc => by have := hf c hc; unfold numSig; omega), List.cons_ne_nil _ _, fun _ => ⟨rfl, rfl⟩, (fun z => nomatch z), fun _ _ z => nomatch z⟩
    | empty => exact ⟨[49], r, hs, (fun c hc => by rw [List.mem_singleton.mp hc]; exact .inr ⟨by decide, by decide⟩), (fun c hc => by have := hf c hc; unfold numSig; omega), List.cons_ne_nil _ _, (fun z => nomatch z), fun _ => ⟨rfl, rfl⟩, fun _ _ z => nomatch z⟩
    | weigh q p' =>
      refine ⟨qL q, 91 :: (p'.words ++ 93 :: r), ?_, fun c hc => qL_sig c hc, (fun c hc => ?_), qL_ne q, (fun z => nomatch z), (fun z => nomatch z), fun q2 p2 z => ?_⟩
      · rw [hs, words_weigh, List.append_assoc, List.cons_append, List.append_assoc]; rfl
      · have : (91 : Nat) = c := Option.some.inj hc
        unfold numSig; omega
      · injection z with z1 z2; subst z1; subst z2; exact ⟨rfl, rfl⟩
    | _ => cases hw
  obtain ⟨e3, e4, eN, eE, eW⟩ := e3
  obtain ⟨d1, d2⟩ := drop_on e1 e4
  have hwp := List.length_pos_iff.mpr e4
  walk_at "d0"
  walk_at "dn"
  refine gs_at (fun μ' ρ' => μ' = μ ∧ ρ' = [some (.str (txt cs)), some (.int i), some (.int ((i + wd.length : Nat) : Int)), none, none, none]) ?_ ?_
  · refine gs_while (fun m μ' ρ' => μ' = μ ∧ ∃ j : Nat, j + m = wd.length ∧ ρ' = [some (.str (txt cs)), some (.int i), some (.int ((i + j : Nat) : Int)), none, none, none]) wd.length ⟨rfl, 0, by omega, rfl⟩ ?_
    rintro m μ1 ρ1 ⟨rfl, j, hj, rfl⟩
    have get : cs[i + j]? = (wd ++ rest)[j]? := by rw [← e1, List.getElem?_drop]
    have d2' := d2
    walk_at "dx"
    refine cax_len (n := (txt cs).length) ⟨by rw [txt_len]; omega, rfl⟩ ?_
    walk_at "dx"
    refine ifD (fun hlt => ?_) (fun hlt => ?_)
    · rw [txt_len] at hlt
      have hlt2 : i + j < cs.length := by omega
      rw [List.getElem?_eq_getElem hlt2] at get
      have hat : atI (txt cs).cps.toList (((i + j : Nat)) : Int) = some cs[i + j] := by rw [txt_cps]; exact atI_pos (List.getElem?_eq_getElem hlt2)
      generalize cs[i + j] = c at get hat
      walk_at "dx"
      refine opx_ixS (c := c) (by rw [txt_len]; omega) hat ?_
      walk_at "dx"
      refine opx_inSign ?_
      rcases Nat.lt_or_ge j wd.length with hjw | hjw
      · rw [List.getElem?_append_left hjw] at get
        rw [(in_sig c).mpr (e2 c (List.mem_of_getElem? get.symm))]
        walk_at "dz"
        exact ⟨m - 1, by omega, rfl, j + 1, by omega, rfl⟩
      · have hjw2 : j = wd.length := by omega
        rw [List.getElem?_append_right hjw, hjw2, Nat.sub_self, ← List.head?_eq_getElem?] at get
        have hn : decide (c ∈ (Str.ofString "-/0123456789").cps.toList) = false := by
          cases q : decide (c ∈ (Str.ofString "-/0123456789").cps.toList) with
          | false => rfl
          | true => exact absurd ((in_sig c).mp q) (e3 c get.symm)
        rw [hn, hjw2]
        walk_at "dz"
    · rw [txt_len] at hlt
      have hjw2 : j = wd.length := by omega
      rw [hjw2]
      walk_at "dz"
  rintro μ1 ρ1 ⟨rfl, rfl⟩
  have tl : (txt cs).length ≤ 1000000 := by rw [txt_len]; omega
  have ew : cutS (txt cs) (some (i : Int)) (some ((i + wd.length : Nat) : Int)) = txt wd := by
    rw [cut_txt (by omega), e1, Nat.add_sub_cancel_left, List.take_left]
  walk_at "dx"
  refine slx_S tl ?_
  rw [ew]
  walk_at "dx"
  refine slx_S tl ?_
  rw [cut_1 (by omega) d1]
  walk_at "dx"
  cases p with
  | none =>
    obtain ⟨rfl, rfl⟩ := eN rfl
    rw [head_no (z := "[") (c := 91) rfl fun z => (hf 91 z).2.1 rfl]
    walk_at "dz"
    exact hp
  | empty =>
    obtain ⟨rfl, rfl⟩ := eE rfl
    rw [head_no (z := "[") (c := 91) rfl fun z => (hf 91 z).2.1 rfl]
    walk_at "dz"
    exact hp
  | weigh q p' =>
    obtain ⟨rfl, rfl⟩ := eW q p' rfl
    rw [head_yes (z := "[") (c := 91) rfl]
    have lw : (Pat.weigh q p').words.length = (qL q).length + 1 + p'.words.length + 1 := by
      rw [words_weigh, List.length_append, List.length_cons, List.length_append]
      show _ = _
      simp only [List.length_cons, List.length_nil]
      omega
    unfold Pat.dep at hd
    obtain ⟨d3, d4⟩ := drop_on (a := [91]) (b := p'.words ++ 93 :: r) d1 (List.cons_ne_nil _ _)
    obtain ⟨d5, d6⟩ := drop_on d3 p'.words_ne
    simp only [List.length_cons, List.length_nil, Nat.zero_add] at d3 d4 d5 d6
    walk_at "dz"
    refine ⟨q, rfl, hg.1, ?_⟩
    walk_at "dz"
    refine ⟨cs, i + (qL q).length + 1, p', 93 :: r, rfl, d3, hg.2, by omega, fr_cons (by decide), by rw [List.head?_cons]; decide, hl9, ?_⟩
    walk_at "dz"
    refine slx_S tl ?_
    rw [cut_1 (by omega) d5]
    walk_at "dx"
    rw [head_yes (z := "]") (c := 93) rfl]
    walk_at "dz"
    rw [lw, show ((i + ((qL q).length + 1 + p'.words.length + 1) : Nat) : Int) = ((i + (qL q).length + 1 + p'.words.length : Nat) : Int) + 1 by omega] at hp
    exact hp
  | _ => cases hw
theorem c_pair_at {n : Nat} (h : Std K mg "pair_at" s_pair_at) (n_len : mg "len" = none) (C_pattern_at : Cal P w K mg base CX0 (3*n+2) "pattern_at" s_pattern_at ["text", "at"] (spD K 2 (P_pat n))) : Cal P w K mg base CX0 (3*n+3) "pair_at" s_pair_at ["text", "at"] (spD K 2 (P_pairA n)) := by
  refine cal0 h sc_pair_at (fun _ _ _ _ _ _ us hl => match us, hl with | [_, _], _ => rfl) fun f cdv A outer s H E hr => ⟨_,
    have hu64 := hr.units; (pss_cons (ps_set (i := 2) sc_pair_at.nd rfl (Or.inl rfl) (pe_c C_pattern_at hr (by first | decide | omega) (pa_cons (pv 0) (pa_cons (pv 1) pa_nil))))
 (pss_cons (ps_if (pt_cmp (pc_isN (pv 2)))
 (pss_one (ps_ret pe_non))
 pss_nil)
 (pss_cons (ps_set (i := 3) sc_pair_at.nd rfl (Or.inl rfl) (pe_ix ix_seq (pv 2) pe_int (fun _ _ => rfl)))
 (pss_cons (ps_asg (pe_ifExp (pt_cmpR (op_eqU hu64) (pe_slice sl_str (pv 0) (po_some (pv 3)) (po_some (pe_op op_addU (pv 3) pe_int))) pe_str (nomark _)) (pe_tup (pa_cons pe_str (pa_cons pe_str pa_nil))) (pe_tup (pa_cons pe_str (pa_cons pe_str pa_nil)))) (pg_tup rfl (pgs_cons (pg_name (i := 4) sc_pair_at.nd rfl (Or.inl rfl)) (pgs_cons (pg_name (i := 5) sc_pair_at.nd rfl (Or.inl rfl)) pgs_nil))))
 (pss_cons (ps_if (pt_cmpR (op_neU hu64) (pe_slice sl_str (pv 0) (po_some (pv 3)) (po_some (pe_op op_addU (pv 3) (pe_callB call_len (by rfl) n_len (by decide +kernel) (pa_cons (pv 5) pa_nil))))) (pv 5) (nomark _))
 (pss_one (ps_ret pe_non))
 pss_nil)
 (pss_cons (ps_set (i := 6) sc_pair_at.nd rfl (Or.inl rfl) (pe_c C_pattern_at hr (by first | decide | omega) (pa_cons (pv 0) (pa_cons (pe_op op_addU (pv 3) (pe_callB call_len (by rfl) n_len (by decide +kernel) (pa_cons (pv 5) pa_nil))) pa_nil))))
 (pss_cons (ps_if (PW.pt (pw_or (pt_cmp (pc_isN (pv 6))) (pw_or1 (pt_cmpR (op_neU hu64) (pe_slice sl_str (pv 0) (po_some (pe_ix ix_seq (pv 6) pe_int (fun _ _ => rfl))) (po_some (pe_op op_addU (pe_ix ix_seq (pv 6) pe_int (fun _ _ => rfl)) pe_int))) pe_str (nomark _)))))
 (pss_one (ps_ret pe_non))
 pss_nil)
 (pss_one (ps_ret (pe_tup (pa_cons (pe_tup (pa_cons (pv 4) (pa_cons (pe_ix ix_seq (pv 2) pe_int (fun _ _ => rfl)) (pa_cons (pe_ix ix_seq (pv 6) pe_int (fun _ _ => rfl)) pa_nil)))) (pa_cons (pe_op op_addU (pe_ix ix_seq (pv 6) pe_int (fun _ _ => rfl)) pe_int) pa_nil)))))))))))), fun μ ds post exc hl hP => ?_⟩
  obtain ⟨cs, i, o, p, q, r, rfl, hs, hg1, hg2, hd1, hd2, hl9, hp⟩ := hP
  have tl : (txt cs).length ≤ 1000000 := by rw [txt_len]; omega
  have hpl := List.length_pos_iff.mpr p.words_ne
  walk_at "d0"
  cases o with
  | true =>
    have hs1 : cs.drop i = p.words ++ ([32, 43, 32] ++ (q.words ++ 41 :: r)) := by
      rw [hs]; unfold pairL; rw [if_pos rfl]; simp only [List.append_assoc, List.cons_append, List.nil_append]
    have lw : (pairL true p q).length = p.words.length + 3 + q.words.length + 1 := by
      unfold pairL; rw [if_pos rfl]; simp only [List.length_append, List.length_cons, List.length_nil]; omega
    obtain ⟨d1, d2⟩ := drop_on hs1 p.words_ne
    obtain ⟨d3, d4⟩ := drop_on d1 (List.cons_ne_nil _ _)
    obtain ⟨d5, d6⟩ := drop_on d3 q.words_ne
    simp only [List.length_cons, List.length_nil, Nat.zero_add] at d3 d4 d5 d6
    walk_at "dx"
    refine ⟨cs, i, p, _, rfl, hs1, hg1, hd1, fr_cons (by decide), by rw [List.cons_append, List.head?_cons]; decide, hl9, ?_⟩
    walk_at "dz"
    refine slx_S tl ?_
    rw [cut_3 (by omega) d1]
    walk_at "dx"
    rw [decide_eq_true (show txt (List.take 3 ([32, 43, 32] ++ (q.words ++ 41 :: r))) = Str.ofString " + " from rfl)]
    walk_at "dz"
    refine cax_len (n := (Str.ofString " + ").length) ⟨by decide, rfl⟩ ?_
    walk_at "dx"
    rw [show (((Str.ofString " + ").length : Nat) : Int) = 3 from rfl]
    refine slx_S tl ?_
    rw [cut_3 (by omega) d1]
    walk_at "dx"
    rw [decide_eq_true (show txt (List.take 3 ([32, 43, 32] ++ (q.words ++ 41 :: r))) = Str.ofString " + " from rfl)]
    walk_at "dz"
    refine cax_len (n := (Str.ofString " + ").length) ⟨by decide, rfl⟩ ?_
    walk_at "dx"
    refine ⟨cs, i + p.words.length + 3, q, 41 :: r, rfl, d3, hg2, hd2, fr_cons (by decide), by rw [List.head?_cons]; decide, hl9, ?_⟩
    walk_at "dz"
    refine slx_S tl ?_
    rw [cut_1 (by omega) d5]
    walk_at "dx"
    rw [head_yes (z := ")") (c := 41) rfl]
    walk_at "dz"
    rw [lw, show ((i + (p.words.length + 3 + q.words.length + 1) : Nat) : Int) = ((i + p.words.length + 3 + q.words.length : Nat) : Int) + 1 by omega] at hp
    exact hp
  | false =>
    have hs1 : cs.drop i = p.words ++ ([32] ++ (q.words ++ 41 :: r)) := by
      rw [hs]; unfold pairL; rw [if_neg (by decide)]; simp only [List.append_assoc, List.cons_append, List.nil_append]
    have lw : (pairL false p q).length = p.words.length + 1 + q.words.length + 1 := by
      unfold pairL; rw [if_neg (by decide)]; simp only [List.length_append, List.length_cons, List.length_nil]; omega
    obtain ⟨d1, d2⟩ := drop_on hs1 p.words_ne
    obtain ⟨d3, d4⟩ := drop_on d1 (List.cons_ne_nil _ _)
    obtain ⟨d5, d6⟩ := drop_on d3 q.words_ne
    simp only [List.length_cons, List.length_nil, Nat.zero_add] at d3 d4 d5 d6
    walk_at "dx"
    refine ⟨cs, i, p, _, rfl, hs1, hg1, hd1, fr_cons (by decide), by rw [List.cons_append, List.head?_cons]; decide, hl9, ?_⟩
    walk_at "dz"
    refine slx_S tl ?_
    rw [cut_3 (by omega) d1]
    walk_at "dx"
    rw [no_plus q hg2]
    walk_at "dz"
    refine cax_len (n := (Str.ofString " ").length) ⟨by decide, rfl⟩ ?_
    walk_at "dx"
    rw [show (((Str.ofString " ").length : Nat) : Int) = 1 from rfl]
    refine slx_S tl ?_
    rw [cut_1 (by omega) d1]
    walk_at "dx"
    rw [show [32] ++ (q.words ++ 41 :: r) = 32 :: (q.words ++ 41 :: r) from rfl, head_yes (z := " ") (c := 32) rfl]
    walk_at "dz"
    refine cax_len (n := (Str.ofString " ").length) ⟨by decide, rfl⟩ ?_
    walk_at "dx"
    refine ⟨cs, i + p.words.length + 1, q, 41 :: r, rfl, d3, hg2, hd2, fr_cons (by decide), by rw [List.head?_cons]; decide, hl9, ?_⟩
    walk_at "dz"
    refine slx_S tl ?_
    rw [cut_1 (by omega) d5]
    walk_at "dx"
    rw [head_yes (z := ")") (c := 41) rfl]
    walk_at "dz"
    rw [lw, show ((i + (p.words.length + 1 + q.words.length + 1) : Nat) : Int) = ((i + p.words.length + 1 + q.words.length : Nat) : Int) + 1 by omega] at hp
    exact hp
end
section
variable {P : Program} {w : World} {K : PySem.W.Frag} {mg : Str → Option Value} {base : Heap} {tL : Tok} {fI A_Unreadable : Addr}
theorem c_part_at {n : Nat} (h : Std K mg "part_at" s_part_at) (m_LETTERS : mg "LETTERS" = some (.str "abcdefghijklmnopqrstuvwxyz" tL)) (C_pair_at : Cal P w K mg base CX0 (3*n+3) "pair_at" s_pair_at ["text", "at"] (spD K 2 (P_pairA n))) (C_weighed_at : Cal P w K mg base CX0 (3*n+3) "weighed_at" s_weighed_at ["text", "at"] (spD K 2 (P_weighA n))) : Cal P w K mg base CX0 (3*n+4) "part_at" s_part_at ["text", "at"] (spD K 2 (P_part n)) := by
  refine cal0 h sc_part_at (fun _ _ _ _ _ _ us hl => match us, hl with | [_, _], _ => rfl) fun f cdv A outer s H E hr => ⟨_,
    have hu64 := hr.units; (pss_cons (ps_set (i := 2) sc_part_at.nd rfl (Or.inl rfl) (pe_slice sl_str (pv 0) (po_some (pv 1)) (po_some (pe_op op_addU (pv 1) pe_int))))
 (pss_cons (ps_if (pt_cmpR (op_eqU hu64) (pv 2) pe_str (nomark _))
 (pss_one (ps_ret pe_non))
 pss_nil)
 (pss_cons (ps_if (pt_cmpR (op_eqU hu64) (pv 2) pe_str (nomark _))
 (pss_one (ps_ret (pe_c C_pair_at hr (by first | decide | omega) (pa_cons (pv 0) (pa_cons (pe_op op_addU (pv 1) pe_int) pa_nil)))))
 pss_nil)
 (pss_cons (ps_if (pt_cmpR (op_eqU hu64) (pv 2) pe_str (nomark _))
 (pss_one (ps_ret (pe_tup (pa_cons (pe_tup (pa_cons pe_str pa_nil)) (pa_cons (pe_op op_addU (pv 1) pe_int) pa_nil)))))
 pss_nil)
 (pss_cons (ps_if (pt_cmpR op_in_sign (pv 2) (pe_glob (v := .str "abcdefghijklmnopqrstuvwxyz") rfl m_LETTERS ⟨_, rfl⟩) rfl)
 (pss_one (ps_ret (pe_tup (pa_cons (pe_tup (pa_cons pe_str (pa_cons (pv 2) pa_nil))) (pa_cons (pe_op op_addU (pv 1) pe_int) pa_nil)))))
 pss_nil)
 (pss_one (ps_ret (pe_c C_weighed_at hr (by first | decide | omega) (pa_cons (pv 0) (pa_cons (pv 1) pa_nil)))))))))), fun μ ds post exc hl hP => ?_⟩
  obtain ⟨cs, i, p, r, rfl, hs, hg, hd, hw, hf, hl9, hp⟩ := hP
  have tl : (txt cs).length ≤ 1000000 := by rw [txt_len]; omega
  obtain ⟨d1, d2⟩ := drop_on hs p.words_ne
  walk_at "d0"
  walk_at "dx"
  refine slx_S tl ?_
  rw [cut_1 (by omega) hs]
  cases p with
  | any =>
    rw [show List.take 1 (Pat.any.words ++ r) = [46] from rfl]
    walk_at "dz"
    exact hp
  | empty =>
    rw [show List.take 1 (Pat.empty.words ++ r) = [49] from rfl]
    walk_at "dz"
    refine opx_inSign (c := 49) ?_
    walk_at "dz"
    exact ⟨cs, i, .empty, r, rfl, hs, hg, hd, rfl, hf, hl9, hp⟩
  | none =>
    rw [show List.take 1 (Pat.none.words ++ r) = [48] from rfl]
    walk_at "dz"
    refine opx_inSign (c := 48) ?_
    walk_at "dz"
    exact ⟨cs, i, .none, r, rfl, hs, hg, hd, rfl, hf, hl9, hp⟩
  | sign c =>
    unfold Pat.Good at hg
    rw [show List.take 1 ((Pat.sign c).words ++ r) = [c] from rfl]
    walk_at "dx"
    rw [ch_no (z := "") (c := c) [] rfl (by intro z; exact nomatch z)]
    walk_at "dz"
    rw [ch_no (z := "(") (c := c) [40] rfl (by intro z; injection z; omega)]
    walk_at "dz"
    rw [ch_no (z := ".") (c := c) [46] rfl (by intro z; injection z; omega)]
    walk_at "dz"
    refine opx_inSign (c := c) ?_
    rw [decide_eq_true (show c ∈ (Str.ofString "abcdefghijklmnopqrstuvwxyz").cps.toList from in_letters hg.1 hg.2)]
    walk_at "dz"
    exact hp
  | many p => cases hw
  | weigh q p =>
    obtain ⟨c, t, e, hc⟩ := qL_head q
    have e1 : List.take 1 ((Pat.weigh q p).words ++ r) = [c] := by rw [words_weigh, e]; rfl
    rw [e1]
    walk_at "dx"
    rw [ch_no (z := "") (c := c) [] rfl (by intro z; exact nomatch z)]
    walk_at "dz"
    rw [ch_no (z := "(") (c := c) [40] rfl (by intro z; injection z; omega)]
    walk_at "dz"
    rw [ch_no (z := ".") (c := c) [46] rfl (by intro z; injection z; omega)]
    walk_at "dz"
    refine opx_inSign (c := c) ?_
    rw [decide_eq_false (show c ∉ (Str.ofString "abcdefghijklmnopqrstuvwxyz").cps.toList from fun z => by have := letters_in c z; omega)]
    walk_at "dz"
    exact ⟨cs, i, .weigh q p, r, rfl, hs, hg, hd, rfl, hf, hl9, hp⟩
  | both o p q =>
    rw [show List.take 1 ((Pat.both o p q).words ++ r) = [40] from rfl]
    unfold Pat.dep at hd
    have lw : (Pat.both o p q).words.length = (pairL o p q).length + 1 := rfl
    obtain ⟨d3, d4⟩ := drop_on (a := [40]) (b := pairL o p q ++ r) hs (List.cons_ne_nil _ _)
    walk_at "dz"
    refine ⟨cs, i + 1, o, p, q, r, rfl, d3, hg.1, hg.2, by omega, by omega, hl9, ?_⟩
    rw [lw, show i + ((pairL o p q).length + 1) = i + 1 + (pairL o p q).length by omega] at hp
    exact hp
theorem c_pattern_step {n : Nat} (h : Std K mg "pattern_at" s_pattern_at) (C_part_at : Cal P w K mg base CX0 (3*n+4) "part_at" s_part_at ["text", "at"] (spD K 2 (P_part n))) : Cal P w K mg base CX0 (3*n+5) "pattern_at" s_pattern_at ["text", "at"] (spD K 2 (P_pat (n+1))) := by
  refine cal0 h sc_pattern_at (fun _ _ _ _ _ _ us hl => match us, hl with | [_, _], _ => rfl) fun f cdv A outer s H E hr => ⟨_,
    have hu64 := hr.units; (pss_cons (ps_set (i := 2) sc_pattern_at.nd rfl (Or.inl rfl) (pe_c C_part_at hr (by first | decide | omega) (pa_cons (pv 0) (pa_cons (pv 1) pa_nil))))
 (pss_cons (ps_while PassesOwn.never (PW.pt (pw_and (pt_cmp (pc_notN (pv 2))) (pw_and1 (pt_cmpR (op_eqU hu64) (pe_slice sl_str (pv 0) (po_some (pe_ix ix_seq (pv 2) pe_int (fun _ _ => rfl))) (po_some (pe_op op_addU (pe_ix ix_seq (pv 2) pe_int (fun _ _ => rfl)) pe_int))) pe_str (nomark _)))))
 (pss_one (ps_set (i := 2) sc_pattern_at.nd rfl (Or.inl rfl) (pe_tup (pa_cons (pe_tup (pa_cons pe_str (pa_cons (pe_ix ix_seq (pv 2) pe_int (fun _ _ => rfl)) pa_nil))) (pa_cons (pe_op op_addU (pe_ix ix_seq (pv 2) pe_int (fun _ _ => rfl)) pe_int) pa_nil))))))
 (pss_one (ps_ret (pv 2))))), fun μ ds post exc hl hP => ?_⟩
  obtain ⟨cs, i, p, r, rfl, hs, hg, hd, hf, h42, hl9, hp⟩ := hP
  have tl : (txt cs).length ≤ 1000000 := by rw [txt_len]; omega
  obtain ⟨k, q, rfl, hc, hqd, hqg⟩ := core_of p
  rw [words_stars, List.append_assoc] at hs
  rw [words_stars, List.length_append, List.length_replicate] at hp
  obtain ⟨d1, d2⟩ := drop_on hs q.words_ne
  have fr : Fr (List.replicate k 42 ++ r) := by
    cases k with
    | zero => exact hf
    | succ k => exact fr_cons (by decide)
  walk_at "d0"
  walk_at "dn"
  refine ⟨cs, i, q, _, rfl, hs, hqg hg, by omega, hc, fr, hl9, ?_⟩
  walk_at "dn"
  refine gs_at (fun μ' ρ' => μ' = μ ∧ ρ' = [some (.str (txt cs)), some (.int i), some (.tup [patD (stars k q), .int ((i + (q.words.length + k) : Nat) : Int)])]) ?_ ?_
  · refine gs_while (fun m μ' ρ' => μ' = μ ∧ ∃ j : Nat, j + m = k ∧ ρ' = [some (.str (txt cs)), some (.int i), some (.tup [patD (stars j q), .int ((i + (q.words.length + j) : Nat) : Int)])]) k ⟨rfl, 0, by omega, rfl⟩ ?_
    rintro m μ1 ρ1 ⟨rfl, j, hj, rfl⟩
    have dj : cs.drop (i + (q.words.length + j)) = List.replicate m 42 ++ r := by
      rw [← Nat.add_assoc, ← List.drop_drop, d1, ← hj, ← List.replicate_append_replicate, List.append_assoc]
      exact List.drop_left' (List.length_replicate ..)
    have hle : i + (q.words.length + j) ≤ cs.length := by
      rw [List.length_append, List.length_replicate] at d2
      omega
    walk_at "dx"
    refine ifY rfl ?_
    walk_at "dx"
    refine slx_S tl ?_
    rw [cut_1 hle dj]
    walk_at "dx"
    cases m with
    | zero =>
      rw [head_no (z := "*") (c := 42) rfl (by rw [List.replicate_zero, List.nil_append]; exact h42)]
      have : j = k := by omega
      subst this
      walk_at "dz"
    | succ m =>
      rw [show List.replicate (m + 1) 42 ++ r = 42 :: (List.replicate m 42 ++ r) from rfl, head_yes (z := "*") (c := 42) rfl]
      walk_at "dz"
      exact ⟨m, by omega, rfl, j + 1, by omega, rfl⟩
  rintro μ1 ρ1 ⟨rfl, rfl⟩
  walk_at "dx"
  exact hp
theorem c_pattern (h1 : Std K mg "pattern_at" s_pattern_at) (h2 : Std K mg "part_at" s_part_at) (h3 : Std K mg "pair_at" s_pair_at) (h4 : Std K mg "weighed_at" s_weighed_at) (n_len : mg "len" = none) (m_LETTERS : mg "LETTERS" = some (.str "abcdefghijklmnopqrstuvwxyz" tL)) (C_number_of : Cal P w K mg base CX0 2 "number_of" s_number_of ["text"] (spD K 1 P_number)) : ∀ n, Cal P w K mg base CX0 (3*n+2) "pattern_at" s_pattern_at ["text", "at"] (spD K 2 (P_pat n))
  | 0 => ((cal_false (n := 2) h1 (fun _ _ _ _ _ _ us hl => match us, hl with | [_, _], _ => rfl)).imp (fun _ _ _ _ ⟨_, _, _, _, _, _, _, z, _⟩ => absurd z (Nat.not_lt_zero _))).mono (by omega)
  | n + 1 => c_pattern_step h1 (c_part_at h2 m_LETTERS (c_pair_at h3 n_len (c_pattern h1 h2 h3 h4 n_len m_LETTERS C_number_of n)) (c_weighed h4 n_len C_number_of (c_pattern h1 h2 h3 h4 n_len m_LETTERS C_number_of n)))
end
/-- plain data of tuples, texts and integers -/
def sm : Nat → D → Bool
  | _, .int _ => true
  | _, .str _ => true
  | n + 1, .tup ds => decide (ds.length ≤ 1000) && ds.all (sm n)
  | _, _ => false
theorem sm_flat (n : Nat) : (∀ i, sm n (.int i) = true) ∧ ∀ z, sm n (.str z) = true := ⟨fun _ => (by cases n <;> rfl), fun _ => (by cases n <;> rfl)⟩
theorem sm_mono : ∀ (n : Nat) (d : D), sm n d = true → sm (n + 1) d = true := by
  intro n
  induction n with
  | zero => intro d h; cases d <;> first | rfl | cases h
  | succ n ih =>
    intro d h
    cases d with
    | tup ds =>
      have h2 : (decide (ds.length ≤ 1000) && ds.all (sm n)) = true := h
      rw [Bool.and_eq_true, List.all_eq_true] at h2
      show (decide (ds.length ≤ 1000) && ds.all (sm (n + 1))) = true
      rw [Bool.and_eq_true, List.all_eq_true]
      exact ⟨h2.1, fun d hd => ih d (h2.2 d hd)⟩
    | int i => rfl
    | str z => rfl
    | _ => cases h
theorem sm_le {n m : Nat} {d : D} (h : sm n d = true) (hm : n ≤ m) : sm m d = true := by
  obtain ⟨k, rfl⟩ := Nat.exists_eq_add_of_le hm
  clear hm
  induction k with
  | zero => exact h
  | succ k ih => exact sm_mono _ _ ih
theorem sm_num (n : Nat) (q : Rat) : sm (n + 1) (numQ q) = true := by
  show (decide _ && ([D.int _, .int _].all (sm n))) = true
  rw [List.all_cons, List.all_cons, (sm_flat n).1, (sm_flat n).1]
  rfl
theorem sm_pat : ∀ p : Pat, sm (p.dep + 2) (patD p) = true
  | .any => rfl
  | .empty => rfl
  | .none => rfl
  | .sign _ => rfl
  | .many p => by
    show (decide _ && ([D.str _, patD p].all (sm (p.dep + 2)))) = true
    rw [List.all_cons, List.all_cons, sm_pat p, (sm_flat _).2]
    rfl
  | .weigh q p => by
    show (decide _ && ([D.str _, numQ q, patD p].all (sm (p.dep + 2)))) = true
    rw [List.all_cons, List.all_cons, List.all_cons, sm_pat p, (sm_flat _).2, sm_num]
    rfl
  | .both o p q => by
    show (decide _ && ([D.str _, patD p, patD q].all (sm (max p.dep q.dep + 2)))) = true
    rw [List.all_cons, List.all_cons, List.all_cons, sm_le (sm_pat p) (by omega), sm_le (sm_pat q) (by omega), (sm_flat _).2]
    rfl
def P_same : Nat → PD
  | 0 => fun _ _ _ _ => False
  | n + 1 => fun μ ds post _ => ∃ d, ds = [d, d] ∧ sm n d = true ∧ post μ (.bl true)
def P_readp (A : Addr) : PD := fun μ ds post _ => ∃ p : Pat, ds = [.str (txt p.words)] ∧ p.Good ∧ p.dep < 24 ∧ p.words.length ≤ 900000 ∧ post μ (patD p)
section
variable {P : Program} {w : World} {K : PySem.W.Frag} {mg : Str → Option Value} {base : Heap} {fI A_Unreadable : Addr}
theorem c_same (h : Std K mg "_law_same" s__law_same) (n_isinstance : mg "isinstance" = none) (n_list : mg "list" = none) (n_tuple : mg "tuple" = none) (n_len : mg "len" = none) (n_range : mg "range" = none) (n_str : mg "str" = none) (n_bool : mg "bool" = none) (n_int : mg "int" = none) :
    ∀ n, Cal P w K mg base CX0 n "_law_same" s__law_same ["_law_told", "_law_due"] (spD K 2 (P_same n))
  | 0 => cal_false (n := 2) h (fun _ _ _ _ _ _ us hl => match us, hl with | [_, _], _ => rfl)
  | n + 1 => by
    have C__law_same := c_same h n_isinstance n_list n_tuple n_len n_range n_str n_bool n_int n
    refine cal0 h sc__law_same (fun _ _ _ _ _ _ us hl => match us, hl with | [_, _], _ => rfl) fun f cdv A outer s H E hr => ⟨_,
      have hu64 := hr.units; (pss_cons (ps_if (PW.pt (pw_or (pt_val (pe_callB call_isU (by rfl) n_isinstance (by decide +kernel) (pa_cons (pv 1) (pa_cons (pe_bltn (v := .ty "tuple") (by rfl) n_tuple (by decide +kernel) rfl) pa_nil)))) (pw_or1 (pt_val (pe_callB call_isU (by rfl) n_isinstance (by decide +kernel) (pa_cons (pv 1) (pa_cons (pe_bltn (v := .ty "list") (by rfl) n_list (by decide +kernel) rfl) pa_nil)))))))
 (pss_cons (ps_set (i := 2) sc__law_same.nd rfl (Or.inl rfl) (pe_ifExp (pt_val (pe_callB call_isU (by rfl) n_isinstance (by decide +kernel) (pa_cons (pv 1) (pa_cons (pe_bltn (v := .ty "tuple") (by rfl) n_tuple (by decide +kernel) rfl) pa_nil)))) (pe_callB call_isU (by rfl) n_isinstance (by decide +kernel) (pa_cons (pv 0) (pa_cons (pe_bltn (v := .ty "tuple") (by rfl) n_tuple (by decide +kernel) rfl) pa_nil))) (pe_callB call_isU (by rfl) n_isinstance (by decide +kernel) (pa_cons (pv 0) (pa_cons (pe_bltn (v := .ty "list") (by rfl) n_list (by decide +kernel) rfl) pa_nil)))))
 (pss_cons (ps_if (PW.pt (pw_or (pt_not (pt_val (pv 2))) (pw_or1 (pt_cmpR (op_neU hu64) (pe_callB call_len (by rfl) n_len (by decide +kernel) (pa_cons (pv 0) pa_nil)) (pe_callB call_len (by rfl) n_len (by decide +kernel) (pa_cons (pv 1) pa_nil)) (nomark _)))))
 (pss_one (ps_ret pe_bl))
 pss_nil)
 (pss_cons (ps_for PassesOwn.never rfl (pi_range1 rfl n_range (pa_cons (pe_callB call_len (by rfl) n_len (by decide +kernel) (pa_cons (pv 1) pa_nil)) pa_nil)) (pg_name (i := 3) sc__law_same.nd rfl (Or.inl rfl))
 (pss_one (ps_if (pt_not (pt_val (pe_c C__law_same hr (by first | decide | omega) (pa_cons (pe_ix ix_seq (pv 0) (pv 3) (fun _ _ => rfl)) (pa_cons (pe_ix ix_seq (pv 1) (pv 3) (fun _ _ => rfl)) pa_nil)))))
 (pss_one (ps_ret pe_bl))
 pss_nil)))
 (pss_one (ps_ret pe_bl)))))
 pss_nil)
 (pss_cons (ps_if (pt_val (pe_callB call_isU (by rfl) n_isinstance (by decide +kernel) (pa_cons (pv 1) (pa_cons (pe_bltn (v := .ty "str") (by rfl) n_str (by decide +kernel) rfl) pa_nil))))
 (pss_one (ps_ret (pe_and (pe_callB call_isU (by rfl) n_isinstance (by decide +kernel) (pa_cons (pv 0) (pa_cons (pe_bltn (v := .ty "str") (by rfl) n_str (by decide +kernel) rfl) pa_nil))) (pe_one (pe_cmpR (op_eqU hu64) (pv 0) (pv 1) (nomark _))))))
 pss_nil)
 (pss_one (ps_ret (pe_and (pe_callB call_isU (by rfl) n_isinstance (by decide +kernel) (pa_cons (pv 0) (pa_cons (pe_bltn (v := .ty "int") (by rfl) n_int (by decide +kernel) rfl) pa_nil))) (pe_and (pe_not (pe_callB call_isU (by rfl) n_isinstance (by decide +kernel) (pa_cons (pv 0) (pa_cons (pe_bltn (v := .ty "bool") (by rfl) n_bool (by decide +kernel) rfl) pa_nil)))) (pe_one (pe_cmpR (op_eqU hu64) (pv 0) (pv 1) (nomark _))))))))), fun μ ds post exc hl hP => ?_⟩
    obtain ⟨d, rfl, had, hp⟩ := hP
    walk_at "d0"
    cases d
    case int i =>
      walk_at "dz"
      rw [decide_eq_true rfl]
      exact hp
    case str z =>
      walk_at "dz"
      rw [decide_eq_true rfl]
      exact hp
    case tup ds =>
      cases n with
      | zero => cases had
      | succ m =>
        have h2 : (decide (ds.length ≤ 1000) && ds.all (sm m)) = true := had
        rw [Bool.and_eq_true, List.all_eq_true, decide_eq_true_eq] at h2
        walk_at "dz"
        refine ifN (fun z => absurd rfl z) (fun _ => ?_)
        walk_at "dz"
        refine gs_for (itx_range1 ?_)
        walk_at "dx"
        refine ⟨⟨by omega, by omega⟩, ?_⟩
        refine ⟨fun i μ' ρ' => μ' = μ ∧ ∃ u, ρ' = [some (.tup ds), some (.tup ds), some (.bl true), u], ⟨rfl, none, rfl⟩, fun _ _ _ _ _ => True.intro, ?_, ?_⟩
        · rintro i d μ' ρ' hd ⟨rfl, u, rfl⟩
          obtain ⟨hi, rfl⟩ := rangeD_get hd
          have hi2 : i < ds.length := by omega
          rw [Int.zero_add]
          have hat : atI ds (i : Int) = some ds[i] := atI_pos (List.getElem?_eq_getElem hi2)
          walk_at "dx"
          refine ⟨ds[i], rfl, h2.2 _ (List.getElem_mem hi2), ?_⟩
          walk_at "dz"
          exact ⟨_, rfl⟩
        · rintro μ' ρ' ⟨rfl, u, rfl⟩
          walk_at "dz"
          exact hp
    all_goals (cases n with | zero => cases had | succ n => cases had)
theorem c_read_pattern (h : Std K mg "read_pattern" s_read_pattern) (n_len : mg "len" = none) (X_Unreadable : ExcD K mg "Unreadable" A_Unreadable fI) (G_init : IniD P w K mg base fI) (C_pattern_at : Cal P w K mg base CX0 74 "pattern_at" s_pattern_at ["text", "at"] (spD K 2 (P_pat 24))) : Cal P w K mg base (L2.CX P w) 75 "read_pattern" s_read_pattern ["text"] (spD K 1 (P_readp A_Unreadable)) := by
  refine calX h sc_read_pattern (fun _ _ _ _ _ _ us hl => match us, hl with | [_], _ => rfl) fun f cdv A outer s H E hr => ⟨_,
    have hu64 := hr.units; (pss_cons (ps_set (i := 1) sc_read_pattern.nd rfl (Or.inl rfl) (pe_c C_pattern_at hr (by first | decide | omega) (pa_cons (pv 0) (pa_cons pe_int pa_nil))))
 (pss_cons (ps_if (PW.pt (pw_or (pt_cmp (pc_isN (pv 1))) (pw_or1 (pt_cmpR (op_neU hu64) (pe_ix ix_seq (pv 1) pe_int (fun _ _ => rfl)) (pe_callB call_len (by rfl) n_len (by decide +kernel) (pa_cons (pv 0) pa_nil)) (nomark _)))))
 (pss_one (ps_raiseD X_Unreadable G_init hr (by decide) (takes_of rfl rfl rfl rfl) (pa_cons (pv 0) pa_nil)))
 pss_nil)
 (pss_one (ps_ret (pe_ix ix_seq (pv 1) pe_int (fun _ _ => rfl)))))), fun μ ds post exc hl hP => ?_⟩
  obtain ⟨p, rfl, hg, hd, hl9, hp⟩ := hP
  walk_at "d0"
  walk_at "dx"
  refine ⟨p.words, 0, p, [], rfl, by rw [List.drop_zero, List.append_nil], hg, hd, (fun _ z => nomatch z), (fun z => nomatch z), hl9, ?_⟩
  walk_at "dz"
  refine cax_len (n := (txt p.words).length) ⟨by rw [txt_len]; omega, rfl⟩ ?_
  walk_at "dx"
  rw [decide_eq_true (show ((0 + p.words.length : Nat) : Int) = (((txt p.words).length : Nat) : Int) by rw [txt_len, Nat.zero_add])]
  walk_at "dz"
  exact hp
end
/-- a well at a: what a great cell has more, a mixed number, at most c mixed draws so far -/
def Well (a : Addr) (c : Int) (μ : Mu) : Prop := ∃ g n t : Int, μ a = some (.lst [.int g, .int n, .int t]) ∧ 0 ≤ g ∧ g.natAbs < 2 ^ 1048577 ∧ 0 ≤ n ∧ n ≤ 1000000000000000000000000000000000000 ∧ 0 ≤ t ∧ t ≤ c
theorem Well.mono {a : Addr} {c c' : Int} {μ : Mu} (h : Well a c μ) (hc : c ≤ c') : Well a c' μ := by
  obtain ⟨g, n, t, h1, h2, h3, h4, h5, h6, h7⟩ := h
  exact ⟨g, n, t, h1, h2, h3, h4, h5, h6, by omega⟩
theorem well_src (a : Addr) : Src (Well a) a a := ⟨fun h q => h.mono q, fun h q => by
  obtain ⟨g, n, t, h1, _⟩ := h
  exact ⟨fun z => (by rw [z, h1] at q; exact nomatch q), fun z => (by rw [z, h1] at q; exact nomatch q)⟩, fun h h1 h2 q => by
  obtain ⟨g, n, t, r1, r⟩ := h
  exact ⟨g, n, t, by rw [q _ (Ne.symm h1)]; exact r1, r⟩⟩
def P_well : PD := fun μ ds post _ => ∃ (ns : List Int) (k : Nat), ds = [.frz (ns.map D.int), .int k] ∧ ns.length ≤ 63 ∧ k ≤ 63 ∧ (∀ n ∈ ns, n.natAbs < 2 ^ 1048576) ∧
  ∀ a μ', μ a = none → Well a 0 μ' → (∀ b, b ≠ a → μ' b = μ b) → post μ' (.at a)
def P_wdraw : PD := fun μ ds post _ => ∃ (a : Addr) (c n : Int), ds = [.at a, .int n] ∧ Well a c μ ∧ c ≤ 1000000 ∧ 0 < n ∧ n.natAbs < 2 ^ 9000 ∧
  ∀ μ' x, 0 ≤ x → x < n → Well a (c + 1) μ' → (∀ b, b ≠ a → μ' b = μ b) → post μ' (.int x)
theorem p10_33 : (10 : Int) ^ (33 : Int).toNat = 1000000000000000000000000000000000 := by decide
theorem p10_39 : (10 : Int) ^ (39 : Int).toNat = 1000000000000000000000000000000000000000 := by decide
theorem p10_37 : (10 : Int) ^ (37 : Int).toNat = 10000000000000000000000000000000000000 := by decide
theorem p10_11 : (10 : Int) ^ (11 : Int).toNat = 100000000000 := by decide
theorem p10_18 : (10 : Int) ^ (18 : Int).toNat = 1000000000000000000 := by decide
theorem keep_of {a : Addr} {μ μ' : Mu} (h : ∀ b, b ≠ a → μ' b = μ b) : Keep a a μ μ' := fun b o h1 _ e => (h b h1).trans e
theorem cp10 {n : Int} (h0 : 0 ≤ n) (h : n ≤ 100) : CPowB 10 n := ⟨h0, 4, by decide, by omega⟩
theorem fmod_nn {x n : Int} (h : 0 < n) : 0 ≤ x.fmod n ∧ x.fmod n < n := by
  rw [Int.fmod_eq_emod_of_nonneg _ (by omega)]
  exact ⟨Int.emod_nonneg _ (by omega), Int.emod_lt_of_pos _ h⟩
theorem fdiv_nn {x n : Int} {b : Nat} (h : 0 < n) (hx : 0 ≤ x) (hb : x.natAbs < b) : 0 ≤ x.fdiv n ∧ (x.fdiv n).natAbs < b := by
  rw [Int.fdiv_eq_ediv_of_nonneg _ (by omega)]
  have h1 := Int.ediv_nonneg hx (Int.le_of_lt h)
  have h2 : x / n ≤ x := Int.ediv_le_self _ hx
  omega
theorem small_lt {n : Int} (h0 : 0 ≤ n) (h : n ≤ 10 ^ 31) : n.natAbs < 2 ^ 9000 := by
  have h1 : n.natAbs < 2 ^ 128 := by omega
  exact Nat.lt_of_lt_of_le h1 (Nat.pow_le_pow_right (by decide) (by decide))
theorem great_ok {n : Int} (h : n.natAbs < 2 ^ 1048576) : 0 ≤ (if (if n < 0 then -n else n) - 1000000000000000000 > 0 then (if n < 0 then -n else n) - 1000000000000000000 else 0) ∧
    (if (if n < 0 then -n else n) - 1000000000000000000 > 0 then (if n < 0 then -n else n) - 1000000000000000000 else 0).natAbs < 2 ^ 1048577 := by
  have e : (2 : Nat) ^ 1048577 = 2 ^ 1048576 * 2 := Nat.pow_succ ..
  generalize (2 : Nat) ^ 1048577 = A at *
  generalize (2 : Nat) ^ 1048576 = B at *
  split <;> split <;> omega
theorem p10_24 : (10 : Int) ^ (24 : Int).toNat = 1000000000000000000000000 := by decide
theorem p10_25 : (10 : Int) ^ (25 : Int).toNat = 10000000000000000000000000 := by decide
section
variable {P : Program} {w : World} {K : PySem.W.Frag} {mg : Str → Option Value} {base : Heap}
theorem c_well (h : Std K mg "_law_well" s__law_well) (n_int : mg "int" = none) (n_len : mg "len" = none) (n_max : mg "max" = none) (n_abs : mg "abs" = none) : Cal P w K mg base CX0 1 "_law_well" s__law_well ["_law_script", "_law_place"] (spD K 2 P_well) := by
  refine cal0 h sc__law_well (fun _ _ _ _ _ _ us hl => match us, hl with | [_, _], _ => rfl) fun f cdv A outer s H E hr => ⟨_,
    have hu64 := hr.units; (pss_cons (ps_set (i := 2) sc__law_well.nd rfl (Or.inl rfl) (pe_ifExp (pt_cmpR op_lt (pv 1) (pe_callB call_len (by rfl) n_len (by decide +kernel) (pa_cons (pv 0) pa_nil)) (nomark _)) (pe_ix ix_seq (pv 0) (pv 1) (fun _ _ => rfl)) (pe_op op_addU (pe_op op_mulU (pv 1) pe_int) (pe_op op_mulU (pe_callB call_len (by rfl) n_len (by decide +kernel) (pa_cons (pv 0) pa_nil)) pe_int))))
 (pss_one (ps_ret (pe_lst (pa_cons (pe_callB (call_max2 rfl) (by rfl) n_max (by decide +kernel) (pa_cons pe_int (pa_cons (pe_op op_sub (pe_callB call_abs (by rfl) n_abs (by decide +kernel) (pa_cons (pv 2) pa_nil)) (pe_op op_powB pe_int pe_int)) pa_nil))) (pa_cons (pe_op op_modN (pe_callTy call_int1 (by rfl) n_int (by decide +kernel) (pa_cons (pe_op op_addU (pe_op op_addU (pe_op op_mulU (pv 2) pe_int) (pe_op op_mulU (pv 1) pe_int)) pe_int) pa_nil)) (pe_op op_addU (pe_op op_powB pe_int pe_int) pe_int)) (pa_cons pe_int pa_nil))))))), fun μ ds post exc hl hP => ?_⟩
  obtain ⟨ns, k, rfl, hl63, hk, hb, hp⟩ := hP
  have q18 := cp10 (n := 18) (by decide) (by decide)
  have q24 := cp10 (n := 24) (by decide) (by decide)
  walk_at "d0"
  refine gs_seq (gs_at (fun μ' ρ' => μ' = μ ∧ ∃ n : Int, n.natAbs < 2 ^ 1048576 ∧ ρ' = [some (.frz (ns.map D.int)), some (.int k), some (.int n)]) ?_ ?_)
  · walk_at "dx"
    rw [List.length_map]
    have c1 : CMulB (k : Int) 7919 := ⟨64, 64, by omega, by decide, by decide⟩
    have c2 : CMulB (ns.length : Int) 104729 := ⟨64, 64, by omega, by decide, by decide⟩
    refine ifD (fun hk1 => ?_) (fun hk1 => ?_)
    · have hlt : k < ns.length := by omega
      have hat : atI (ns.map D.int) (k : Int) = some (.int ns[k]) := atI_pos (by rw [List.getElem?_map, List.getElem?_eq_getElem hlt]; rfl)
      walk_at "dx"
      exact ⟨_, hb _ (List.getElem_mem hlt), rfl⟩
    · walk_at "dx"
      rw [List.length_map]
      walk_at "dx"
      exact ⟨_, Nat.lt_of_lt_of_le (show _ < 2 ^ 64 by omega) (Nat.pow_le_pow_right (by decide) (by decide)), rfl⟩
  rintro μ1 ρ1 ⟨rfl, n, hn, rfl⟩
  have gr := great_ok hn
  have c3 : CMulB n 48611 := ⟨1048577, 64, Nat.lt_of_lt_of_le hn (Nat.pow_le_pow_right (by decide) (by decide)), by decide, by decide⟩
  have c4 : CMulB (k : Int) 6700417 := ⟨64, 64, by omega, by decide, by decide⟩
  walk_at "dx"
  refine evx_lstM ?_
  walk_at "dx"
  rw [p10_18, p10_24, show ((1000000000000000000000000 : Int) + 7) = 1000000000000000000000007 from rfl]
  have f1 := fmod_nn (x := n * 48611 + k * 6700417 + 31337) (n := 1000000000000000000000007) (by decide)
  walk_at "dx"
  intro p hp0
  exact hp p _ hp0 ⟨_, _, _, mput_same, gr.1, gr.2, f1.1, by omega, by decide, by decide⟩ fun b hb => mput_ne hb
theorem c_dip (h : Std K mg "_law_dip" s__law_dip) (n_int : mg "int" = none) : Cal P w K mg base CX0 1 "_law_dip" s__law_dip ["_law_well_here", "_law_many"] (spD K 2 P_wdraw) := by
  refine cal0 h sc__law_dip (fun _ _ _ _ _ _ us hl => match us, hl with | [_, _], _ => rfl) fun f cdv A outer s H E hr => ⟨_,
    have hu64 := hr.units; (pss_cons (ps_if (pt_cmpR op_gt (pe_ix ix_seq (pv 0) pe_int (fun _ _ => rfl)) pe_int (nomark _))
 (pss_cons (ps_set (i := 2) sc__law_dip.nd rfl (Or.inl rfl) (pe_op op_modN (pe_callTy call_int1 (by rfl) n_int (by decide +kernel) (pa_cons (pe_ix ix_seq (pv 0) pe_int (fun _ _ => rfl)) pa_nil)) (pv 1)))
 (pss_cons (ps_asg (pe_op op_divB (pe_ix ix_seq (pv 0) pe_int (fun _ _ => rfl)) (pv 1)) (pg_sub (pv 0) pe_int set_list))
 (pss_one (ps_ret (pv 2)))))
 pss_nil)
 (pss_cons (ps_asg (pe_op op_addU (pe_ix ix_seq (pv 0) pe_int (fun _ _ => rfl)) pe_int) (pg_sub (pv 0) pe_int set_list))
 (pss_cons (ps_set (i := 3) sc__law_dip.nd rfl (Or.inl rfl) (pe_op op_modN (pe_op op_powB (pe_callTy call_int1 (by rfl) n_int (by decide +kernel) (pa_cons (pe_op op_addU (pe_ix ix_seq (pv 0) pe_int (fun _ _ => rfl)) (pe_op op_mulU pe_int (pe_ix ix_seq (pv 0) pe_int (fun _ _ => rfl)))) pa_nil)) pe_int) (pe_op op_addU (pe_op op_powB pe_int pe_int) pe_int)))
 (pss_cons (ps_set (i := 3) sc__law_dip.nd rfl (Or.inl rfl) (pe_op op_modN (pe_op op_powB (pe_callTy call_int1 (by rfl) n_int (by decide +kernel) (pa_cons (pe_op op_addU (pv 3) (pe_op op_mulU pe_int (pe_ix ix_seq (pv 0) pe_int (fun _ _ => rfl)))) pa_nil)) pe_int) (pe_op op_addU (pe_op op_powB pe_int pe_int) pe_int)))
 (pss_one (ps_ret (pe_op op_modN (pe_callTy call_int1 (by rfl) n_int (by decide +kernel) (pa_cons (pe_op op_divB (pv 3) pe_int) pa_nil)) (pv 1)))))))), fun μ ds post exc hl hP => ?_⟩
  obtain ⟨a, c, n, rfl, ⟨gr, m, t, ha, g0, g1, m0, m1, t0, t1⟩, hc, hn, hn2, hp⟩ := hP
  have hn0 : n ≠ 0 := by omega
  have hdv : CDivB gr n := ⟨hn0, hn2⟩
  walk_at "d0"
  walk_at "dx"
  refine ifD (fun h0 => ?_) (fun h0 => ?_)
  · walk_at "dx"
    have f1 := fmod_nn (x := gr) hn
    have f2 := fdiv_nn hn g0 g1
    refine tgx_subA (a := a) (k := 0) (j := 0) ha rfl ?_ (fun Ψ q => by walk_at "dx"; exact q) (fun Ψ q => by walk_at "dx"; exact q)
    walk_at "dx"
    exact hp _ _ f1.1 f1.2 ⟨_, m, t, mput_same, f2.1, f2.2, m0, m1, t0, by omega⟩ fun b hb => mput_ne hb
  · walk_at "dx"
    refine tgx_subA (a := a) (k := 2) (j := 2) ha rfl ?_ (fun Ψ q => by walk_at "dx"; exact q) (fun Ψ q => by walk_at "dx"; exact q)
    have q25 := cp10 (n := 25) (by decide) (by decide)
    have q24 := cp10 (n := 24) (by decide) (by decide)
    have ht1 : t + 1 ≤ 1000001 := by omega
    have c1 : CMulB 1000003 (t + 1) := ⟨64, 64, by decide, by omega, by decide⟩
    have c2 : CPowB (m + 1000003 * (t + 1)) 3 := ⟨by decide, 128, by omega, by decide⟩
    walk_at "dx"
    rw [p10_25, show ((10000000000000000000000000 : Int) + 13) = 10000000000000000000000013 from rfl]
    generalize (m + 1000003 * (t + 1)) ^ (3 : Int).toNat = z
    have f1 := fmod_nn (x := z) (n := 10000000000000000000000013) (by decide)
    walk_at "dx"
    generalize z.fmod 10000000000000000000000013 = v at f1 ⊢
    have c3 : CMulB 77347 (t + 1) := ⟨64, 64, by decide, by omega, by decide⟩
    have c4 : CPowB (v + 77347 * (t + 1)) 2 := ⟨by decide, 256, by omega, by decide⟩
    walk_at "dx"
    rw [p10_24, show ((1000000000000000000000000 : Int) + 7) = 1000000000000000000000007 from rfl]
    generalize (v + 77347 * (t + 1)) ^ (2 : Int).toNat = y
    have f2 := fmod_nn (x := y) (n := 1000000000000000000000007) (by decide)
    walk_at "dx"
    generalize y.fmod 1000000000000000000000007 = x at f2 ⊢
    have c5 : CDivB x 4096 := ⟨by decide, by decide⟩
    walk_at "dx"
    have f3 := fmod_nn (x := x.fdiv 4096) hn
    exact hp _ _ f3.1 f3.2 ⟨gr, m, t + 1, mput_same, g0, g1, m0, m1, by omega, by omega⟩ fun b hb => mput_ne hb
end
theorem p10_9 : (10 : Int) ^ (9 : Int).toNat = 1000000000 := by decide
theorem natAbs_fdiv_le (x : Int) (g : Nat) : (x.fdiv (g : Int)).natAbs ≤ x.natAbs := by
  rw [Int.fdiv_eq_ediv_of_nonneg _ (by omega)]
  by_cases hg : g = 0
  · subst hg; simp
  have hg1 : (0 : Int) < g := by omega
  by_cases hx : 0 ≤ x
  · have h1 := Int.ediv_nonneg hx (Int.le_of_lt hg1)
    have h2 := Int.ediv_le_self (g : Int) hx
    omega
  · have h1 : x / (g : Int) < 0 := Int.ediv_neg_of_neg_of_pos (by omega) hg1
    have h2 : x ≤ x / (g : Int) := by
      refine Int.le_ediv_of_mul_le hg1 ?_
      have : x * (g : Int) ≤ x * 1 := Int.mul_le_mul_of_nonpos_left (by omega) (by omega)
      omega
    omega
def P_common : PD := fun μ ds post _ => ∃ a b : Int, ds = [.int a, .int b] ∧ 0 < b ∧ post μ (.int (Nat.gcd a.natAbs b.natAbs : Nat))
def P_lpair : PD := fun μ ds post _ => ∃ (a : Addr) (c : Int), ds = [.at a] ∧ Well a c μ ∧ c ≤ 900000 ∧ ∀ μ' q, Nine q → Well a (c + 6) μ' → (∀ b, b ≠ a → μ' b = μ b) → post μ' (numQ q)
def P_leaf : PD := fun μ ds post _ => ∃ (a : Addr) (c : Int), ds = [.at a] ∧ Well a c μ ∧ c ≤ 900000 ∧ ∀ μ' p, Pat.Good p → p.dep = 0 → p.words.length = 1 → Well a (c + 2) μ' → (∀ b, b ≠ a → μ' b = μ b) → post μ' (patD p)
section
variable {P : Program} {w : World} {K : PySem.W.Frag} {mg : Str → Option Value} {base : Heap}
theorem c_common (h : Std K mg "_law_common" s__law_common) (n_abs : mg "abs" = none) (n_int : mg "int" = none) : Cal P w K mg base CX0 1 "_law_common" s__law_common ["_law_one", "_law_other"] (spD K 2 P_common) := by
  refine cal0 h sc__law_common (fun _ _ _ _ _ _ us hl => match us, hl with | [_, _], _ => rfl) fun f cdv A outer s H E hr => ⟨_,
    have hu64 := hr.units; (pss_cons (ps_set (i := 0) sc__law_common.nd rfl (Or.inl rfl) (pe_callB call_abs (by rfl) n_abs (by decide +kernel) (pa_cons (pv 0) pa_nil)))
 (pss_cons (ps_while PassesOwn.never (pt_cmpR op_gt (pv 0) pe_int (nomark _))
 (pss_one (ps_par (i := 0) (j := 1) rfl sc__law_common.nd rfl rfl (by decide) rfl rfl (pa_cons (pe_op op_modN (pe_callTy call_int1 (by rfl) n_int (by decide +kernel) (pa_cons (pv 1) pa_nil)) (pv 0)) (pa_cons (pv 0) pa_nil)) (by rfl))))
 (pss_one (ps_ret (pv 1))))), fun μ ds post exc hl hP => ?_⟩
  obtain ⟨a, b, rfl, hb, hp⟩ := hP
  have ab : (if a < 0 then -a else a) = (a.natAbs : Int) := by split <;> omega
  walk_at "d0"
  walk_at "dx"
  rw [ab]
  refine gs_while (fun m μ' ρ' => ∃ y : Nat, μ' = μ ∧ ρ' = [some (.int m), some (.int y)] ∧ Nat.gcd m y = Nat.gcd a.natAbs b.natAbs) a.natAbs ⟨b.natAbs, rfl, by rw [show ((b.natAbs : Nat) : Int) = b by omega]; rfl, rfl⟩ ?_
  rintro x μ' ρ' ⟨y, rfl, rfl, hg⟩
  walk_at "dx"
  refine ifD (fun hn => ?_) (fun hn => ?_)
  · have hx : (x : Int) ≠ 0 := by omega
    walk_at "dx"
    refine ⟨y % x, Nat.mod_lt _ (by omega), x, rfl, ?_, ?_⟩
    · rw [Int.fmod_eq_emod_of_nonneg _ (by omega)]
      rfl
    · rw [← hg, ← Nat.gcd_rec]
  · walk_at "dx"
    have : x = 0 := by omega
    subst this
    rw [Nat.gcd_zero_left] at hg
    rw [hg]
    exact hp
theorem c_leaf (h : Std K mg "_law_leaf" s__law_leaf) (C__law_dip : Cal P w K mg base CX0 1 "_law_dip" s__law_dip ["_law_well_here", "_law_many"] (spD K 2 P_wdraw)) : Cal P w K mg base CX0 2 "_law_leaf" s__law_leaf ["_law_well_here"] (spD K 1 P_leaf) := by
  refine cal0 h sc__law_leaf (fun _ _ _ _ _ _ us hl => match us, hl with | [_], _ => rfl) fun f cdv A outer s H E hr => ⟨_,
    have hu64 := hr.units; (pss_cons (ps_set (i := 1) sc__law_leaf.nd rfl (Or.inl rfl) (pe_c C__law_dip hr (by first | decide | omega) (pa_cons (pv 0) (pa_cons pe_int pa_nil))))
 (pss_cons (ps_if (pt_cmpR op_lt (pv 1) pe_int (nomark _))
 (pss_one (ps_ret (pe_ix ix_seq (pe_lst (pa_cons (pe_tup (pa_cons pe_str pa_nil)) (pa_cons (pe_tup (pa_cons pe_str pa_nil)) (pa_cons (pe_tup (pa_cons pe_str pa_nil)) pa_nil)))) (pv 1) (fun _ _ => rfl))))
 pss_nil)
 (pss_one (ps_ret (pe_tup (pa_cons pe_str (pa_cons (pe_ix ix_seq pe_str (pe_c C__law_dip hr (by first | decide | omega) (pa_cons (pv 0) (pa_cons pe_int pa_nil))) (fun _ _ => rfl)) pa_nil))))))), fun μ ds post exc hl hP => ?_⟩
  obtain ⟨a, c, rfl, W0, hc, hp⟩ := hP
  walk_at "d0"
  walk_at "dx"
  refine ⟨a, c, 6, rfl, W0, by omega, by decide, by decide, fun μ1 x hx0 hx1 W1 B1 => ?_⟩
  walk_at "dx"
  refine ifD (fun h3 => ?_) (fun h3 => ?_)
  · walk_at "dx"
    refine evx_lst ?_
    walk_at "dx"
    obtain ⟨d, hd, hat⟩ := pick_any (ds := [patD .any, patD .empty, patD .none]) hx0 h3
    refine opx_ix (x := .lst _) rfl hat ?_
    simp only [List.mem_cons, List.not_mem_nil, or_false] at hd
    rcases hd with rfl | rfl | rfl
    · exact hp _ .any True.intro rfl rfl (W1.mono (by omega)) B1
    · exact hp _ .empty True.intro rfl rfl (W1.mono (by omega)) B1
    · exact hp _ .none True.intro rfl rfl (W1.mono (by omega)) B1
  · walk_at "dx"
    refine ⟨a, _, 26, rfl, W1, by omega, by decide, by decide, fun μ2 j hj0 hj1 W2 B2 => ?_⟩
    obtain ⟨ch, hch, hat⟩ := pick_anyB (ds := letters) hj0 (by rw [letters_len]; exact hj1)
    refine opx_ixS (by decide) hat ?_
    walk_at "dx"
    exact hp _ (.sign ch) (letters_in ch hch) rfl rfl (W2.mono (by omega)) fun b hb => (B2 b hb).trans (B1 b hb)
theorem c_lpair (h : Std K mg "_law_pair" s__law_pair) (C__law_dip : Cal P w K mg base CX0 1 "_law_dip" s__law_dip ["_law_well_here", "_law_many"] (spD K 2 P_wdraw)) (C__law_common : Cal P w K mg base CX0 1 "_law_common" s__law_common ["_law_one", "_law_other"] (spD K 2 P_common)) : Cal P w K mg base CX0 2 "_law_pair" s__law_pair ["_law_well_here"] (spD K 1 P_lpair) := by
  refine cal0 h sc__law_pair (fun _ _ _ _ _ _ us hl => match us, hl with | [_], _ => rfl) fun f cdv A outer s H E hr => ⟨_,
    have hu64 := hr.units; (pss_cons (ps_set (i := 1) sc__law_pair.nd rfl (Or.inl rfl) (pe_c C__law_dip hr (by first | decide | omega) (pa_cons (pv 0) (pa_cons pe_int pa_nil))))
 (pss_cons (ps_set (i := 2) sc__law_pair.nd rfl (Or.inl rfl) (pe_ifExp (pt_cmpR op_lt (pv 1) pe_int (nomark _)) (pv 1) (pe_op op_addU pe_int (pe_c C__law_dip hr (by first | decide | omega) (pa_cons (pv 0) (pa_cons (pe_ix ix_seq (pe_lst (pa_cons pe_int (pa_cons pe_int (pa_cons (pe_op op_sub (pe_op op_powB pe_int pe_int) pe_int) pa_nil)))) (pe_op op_divB (pv 1) pe_int) (fun _ _ => rfl)) pa_nil))))))
 (pss_cons (ps_set (i := 3) sc__law_pair.nd rfl (Or.inl rfl) (pe_ifExp (PW.pt (pw_or (pt_cmpR (op_eqU hu64) (pv 1) pe_int (nomark _)) (pw_or1 (pt_cmpR (op_eqU hu64) (pe_c C__law_dip hr (by first | decide | omega) (pa_cons (pv 0) (pa_cons pe_int pa_nil))) pe_int (nomark _))))) pe_int (pe_op op_addU pe_int (pe_c C__law_dip hr (by first | decide | omega) (pa_cons (pv 0) (pa_cons (pe_ix ix_seq (pe_lst (pa_cons pe_int (pa_cons (pe_op op_sub (pe_op op_powB pe_int pe_int) pe_int) pa_nil))) (pe_c C__law_dip hr (by first | decide | omega) (pa_cons (pv 0) (pa_cons pe_int pa_nil))) (fun _ _ => rfl)) pa_nil))))))
 (pss_cons (ps_if (pt_cmpR (op_eqU hu64) (pe_c C__law_dip hr (by first | decide | omega) (pa_cons (pv 0) (pa_cons pe_int pa_nil))) pe_int (nomark _))
 (pss_one (ps_set (i := 2) sc__law_pair.nd rfl (Or.inl rfl) (pe_un un_neg (pv 2))))
 pss_nil)
 (pss_cons (ps_set (i := 4) sc__law_pair.nd rfl (Or.inl rfl) (pe_c C__law_common hr (by first | decide | omega) (pa_cons (pv 2) (pa_cons (pv 3) pa_nil))))
 (pss_one (ps_ret (pe_tup (pa_cons (pe_op op_divB (pv 2) (pv 4)) (pa_cons (pe_op op_divB (pv 3) (pv 4)) pa_nil)))))))))), fun μ ds post exc hl hP => ?_⟩
  obtain ⟨a, c, rfl, W0, hc, hp⟩ := hP
  have q9 := cp10 (n := 9) (by decide) (by decide)
  walk_at "d0"
  refine gs_seq (gs_at (fun μ' ρ' => ∃ x : Int, 0 ≤ x ∧ x < 6 ∧ Well a (c + 1) μ' ∧ (∀ b, b ≠ a → μ' b = μ b) ∧ ρ' = [some (.at a), some (.int x), none, none, none]) ?_ ?_)
  · walk_at "dx"
    exact ⟨a, c, 6, rfl, W0, by omega, by decide, by decide, fun μ1 x hx0 hx1 W1 B1 => by
      walk_at "dx"
      exact ⟨x, hx0, hx1, W1, B1, rfl⟩⟩
  rintro μ1 ρ1 ⟨x, hx0, hx1, W1, B1, rfl⟩
  refine gs_seq (gs_at (fun μ' ρ' => ∃ y : Int, 0 ≤ y ∧ y < 1000000000 ∧ Well a (c + 2) μ' ∧ (∀ b, b ≠ a → μ' b = μ b) ∧ ρ' = [some (.at a), some (.int x), some (.int y), none, none]) ?_ ?_)
  · walk_at "dx"
    refine ifD (fun h2 => ?_) (fun h2 => ?_)
    · walk_at "dx"
      exact ⟨x, hx0, by omega, W1.mono (by omega), B1, rfl⟩
    · walk_at "dx"
      refine evx_lst ?_
      have c2 : CDivB x 2 := ⟨by decide, by decide⟩
      walk_at "dx"
      rw [p10_9]
      have hf : x.fdiv 2 = 1 ∨ x.fdiv 2 = 2 := by
        rw [Int.fdiv_eq_ediv_of_nonneg _ (by decide)]; omega
      obtain ⟨m, hm, hm0, hm1, hat⟩ : ∃ m : Int, atI [D.int 9, .int 99, .int (1000000000 - 1)] (x.fdiv 2) = some (.int m) ∧ 0 < m ∧ m ≤ 999999999 ∧ True := by
        rcases hf with e | e
        · exact ⟨99, by rw [e]; rfl, by decide, by decide, trivial⟩
        · exact ⟨1000000000 - 1, by rw [e]; rfl, by decide, by decide, trivial⟩
      refine opx_ix (x := .lst _) rfl hm ?_
      walk_at "dx"
      exact ⟨a, _, m, rfl, W1, by omega, hm0, small_lt (by omega) (by omega), fun μ2 y hy0 hy1 W2 B2 => by
        walk_at "dx"
        exact ⟨_, by omega, by omega, W2.mono (by omega), fun b hb => (B2 b hb).trans (B1 b hb), rfl⟩⟩
  rintro μ2 ρ2 ⟨y, hy0, hy1, W2, B2, rfl⟩
  refine gs_seq (gs_at (fun μ' ρ' => ∃ z : Int, 1 ≤ z ∧ z < 1000000000 ∧ Well a (c + 5) μ' ∧ (∀ b, b ≠ a → μ' b = μ b) ∧ ρ' = [some (.at a), some (.int x), some (.int y), some (.int z), none]) ?_ ?_)
  · walk_at "dx"
    refine ifD (fun hx => ?_) (fun hx => ?_)
    · walk_at "dz"
      exact ⟨1, by omega, by omega, W2.mono (by omega), B2, rfl⟩
    walk_at "dx"
    refine ⟨a, _, 3, rfl, W2, by omega, by decide, by decide, fun μ4 t ht0 ht1 W4 B4 => ?_⟩
    have B5 : ∀ b, b ≠ a → μ4 b = μ b := fun b hb => (B4 b hb).trans (B2 b hb)
    walk_at "dx"
    refine ifD (fun ht => ?_) (fun ht => ?_)
    · walk_at "dz"
      exact ⟨1, by omega, by omega, W4.mono (by omega), B5, rfl⟩
    walk_at "dx"
    refine evx_lst ?_
    walk_at "dx"
    rw [p10_9]
    refine ⟨a, _, 2, rfl, W4, by omega, by decide, by decide, fun μ5 u hu0 hu1 W5 B6 => ?_⟩
    obtain ⟨m, hm, hm0, hm1⟩ : ∃ m : Int, atI [D.int 9, .int (1000000000 - 1)] u = some (.int m) ∧ 0 < m ∧ m ≤ 999999999 := by
      have : u = 0 ∨ u = 1 := by omega
      rcases this with rfl | rfl
      · exact ⟨9, rfl, by decide, by decide⟩
      · exact ⟨1000000000 - 1, rfl, by decide, by decide⟩
    refine opx_ix (x := .lst _) rfl hm ?_
    walk_at "dx"
    exact ⟨a, _, m, rfl, W5, by omega, hm0, small_lt (by omega) (by omega), fun μ6 y hy0 hy1 W6 B7 => by
      walk_at "dx"
      exact ⟨_, by omega, by omega, W6.mono (by omega), fun b hb => (B7 b hb).trans ((B6 b hb).trans (B5 b hb)), rfl⟩⟩
  rintro μ3 ρ3 ⟨z, hz0, hz1, W3, B3, rfl⟩
  refine gs_seq (gs_at (fun μ' ρ' => ∃ y : Int, y.natAbs < 1000000000 ∧ Well a (c + 6) μ' ∧ (∀ b, b ≠ a → μ' b = μ b) ∧ ρ' = [some (.at a), some (.int x), some (.int y), some (.int z), none]) ?_ ?_)
  · walk_at "dx"
    refine ⟨a, _, 3, rfl, W3, by omega, by decide, by decide, fun μ4 t ht0 ht1 W4 B4 => ?_⟩
    walk_at "dx"
    refine ifD (fun h2 => ?_) (fun h2 => ?_)
    · walk_at "dx"
      exact ⟨_, by omega, W4.mono (by omega), fun b hb => (B4 b hb).trans (B3 b hb), rfl⟩
    · walk_at "dx"
      exact ⟨_, by omega, W4.mono (by omega), fun b hb => (B4 b hb).trans (B3 b hb), rfl⟩
  rintro μ4 ρ4 ⟨v, hv, W4, B4, rfl⟩
  walk_at "dx"
  refine ⟨v, z, rfl, by omega, ?_⟩
  have hg0 : 0 < Nat.gcd v.natAbs z.natAbs := Nat.gcd_pos_of_pos_right _ (by omega)
  have hg1 : Nat.gcd v.natAbs z.natAbs ≤ z.natAbs := Nat.gcd_le_right _ (by omega)
  have hlow := low_quot (a := v) (b := z) (s := ((Nat.gcd v.natAbs z.natAbs : Nat) : Int)) (by omega) (by rw [if_neg (by omega)])
  generalize hgg : Nat.gcd v.natAbs z.natAbs = gg at hg0 hg1 hlow
  have c1 : CDivB v (gg : Int) := ⟨by omega, Nat.lt_of_lt_of_le (show _ < 2 ^ 64 by omega) (Nat.pow_le_pow_right (by decide) (by decide))⟩
  have c2 : CDivB z (gg : Int) := ⟨by omega, Nat.lt_of_lt_of_le (show _ < 2 ^ 64 by omega) (Nat.pow_le_pow_right (by decide) (by decide))⟩
  walk_at "dx"
  have hnine : Nine ((v : Rat) / (z : Rat)) := by
    unfold numQ numD at hlow
    injection hlow with h0
    injection h0 with h1 h2
    injection h2 with h2 _
    injection h1 with h1
    injection h2 with h2
    have g1 : (0 : Int) ≤ (gg : Int) := by omega
    have b1 := natAbs_fdiv_le v gg
    have b2 := natAbs_fdiv_le z gg
    rw [h1] at b1
    rw [h2] at b2
    exact ⟨by omega, by omega⟩
  have e : D.tup [.int (v.fdiv gg), .int (z.fdiv gg)] = numQ ((v : Rat) / (z : Rat)) := hlow
  rw [e]
  exact hp _ _ hnine W4 B4
end
def pw (n : Nat) : Nat := 2 ^ n
theorem pw_succ (n : Nat) : pw (n + 1) = 2 * pw n := by unfold pw; rw [Nat.pow_succ]; omega
theorem pw_pos (n : Nat) : 1 ≤ pw n := Nat.one_le_two_pow
def P_tree : Nat → PD
  | 0 => fun _ _ _ _ => False
  | n + 1 => fun μ ds post _ => ∃ (a rm : Addr) (c r : Int), ds = [.at a, .at rm, .int ((n + 1 : Nat) : Int)] ∧ Well a c μ ∧ μ rm = some (.lst [.int r]) ∧ rm ≠ a ∧ c + 12 * pw (n + 1) ≤ 900000 ∧
    ∀ μ' p r', Pat.Good p → p.dep ≤ n → p.words.length + 5 ≤ 30 * pw (n + 1) → μ' rm = some (.lst [.int r']) → Well a (c + 12 * pw (n + 1) - 3) μ' → (∀ b, b ≠ a → b ≠ rm → μ' b = μ b) → post μ' (patD p)
section
variable {P : Program} {w : World} {K : PySem.W.Frag} {mg : Str → Option Value} {base : Heap}
theorem c_tree (h : Std K mg "_law_tree" s__law_tree) (n_int : mg "int" = none) (C__law_dip : Cal P w K mg base CX0 1 "_law_dip" s__law_dip ["_law_well_here", "_law_many"] (spD K 2 P_wdraw)) (C__law_pair : Cal P w K mg base CX0 2 "_law_pair" s__law_pair ["_law_well_here"] (spD K 1 P_lpair)) (C__law_leaf : Cal P w K mg base CX0 2 "_law_leaf" s__law_leaf ["_law_well_here"] (spD K 1 P_leaf)) : ∀ n, Cal P w K mg base CX0 (n+3) "_law_tree" s__law_tree ["_law_well_here", "_law_room", "_law_deep"] (spD K 3 (P_tree n))
  | 0 => (cal_false (n := 3) h (fun _ _ _ _ _ _ us hl => match us, hl with | [_, _, _], _ => rfl)).mono (by omega)
  | n + 1 => by
    have C__law_tree := c_tree h n_int C__law_dip C__law_pair C__law_leaf n
    refine cal0 h sc__law_tree (fun _ _ _ _ _ _ us hl => match us, hl with | [_, _, _], _ => rfl) fun f cdv A outer s H E hr => ⟨_,
      have hu64 := hr.units; (pss_cons (ps_asg (pe_op op_sub (pe_ix ix_seq (pv 1) pe_int (fun _ _ => rfl)) pe_int) (pg_sub (pv 1) pe_int set_list))
 (pss_cons (ps_set (i := 3) sc__law_tree.nd rfl (Or.inl rfl) (pe_c C__law_dip hr (by first | decide | omega) (pa_cons (pv 0) (pa_cons pe_int pa_nil))))
 (pss_cons (ps_if (PW.pt (pw_and (pt_cmpR op_gt (pv 2) pe_int (nomark _)) (pw_and (pt_cmpR op_ge (pe_ix ix_seq (pv 1) pe_int (fun _ _ => rfl)) pe_int (nomark _)) (pw_and1 (pt_cmpR op_lt (pv 3) pe_int (nomark _))))))
 (pss_cons (ps_asg (pe_op op_sub (pe_ix ix_seq (pv 1) pe_int (fun _ _ => rfl)) pe_int) (pg_sub (pv 1) pe_int set_list))
 (pss_cons (ps_set (i := 4) sc__law_tree.nd rfl (Or.inl rfl) (pe_c C__law_tree hr (by first | decide | omega) (pa_cons (pv 0) (pa_cons (pv 1) (pa_cons (pe_op op_sub (pv 2) pe_int) pa_nil)))))
 (pss_cons (ps_asg (pe_op op_addU (pe_ix ix_seq (pv 1) pe_int (fun _ _ => rfl)) pe_int) (pg_sub (pv 1) pe_int set_list))
 (pss_one (ps_ret (pe_tup (pa_cons (pe_ix ix_seq (pe_lst (pa_cons pe_str (pa_cons pe_str pa_nil))) (pe_op op_modN (pe_callTy call_int1 (by rfl) n_int (by decide +kernel) (pa_cons (pv 3) pa_nil)) pe_int) (fun _ _ => rfl)) (pa_cons (pv 4) (pa_cons (pe_c C__law_tree hr (by first | decide | omega) (pa_cons (pv 0) (pa_cons (pv 1) (pa_cons (pe_op op_sub (pv 2) pe_int) pa_nil)))) pa_nil)))))))))
 pss_nil)
 (pss_cons (ps_if (PW.pt (pw_and (pt_cmpR op_gt (pv 2) pe_int (nomark _)) (pw_and (pt_cmpR op_ge (pe_ix ix_seq (pv 1) pe_int (fun _ _ => rfl)) pe_int (nomark _)) (pw_and1 (pt_cmpR op_lt (pv 3) pe_int (nomark _))))))
 (pss_one (ps_ret (pe_tup (pa_cons pe_str (pa_cons (pe_c C__law_tree hr (by first | decide | omega) (pa_cons (pv 0) (pa_cons (pv 1) (pa_cons (pe_op op_sub (pv 2) pe_int) pa_nil)))) pa_nil)))))
 pss_nil)
 (pss_cons (ps_if (PW.pt (pw_and (pt_cmpR op_gt (pv 2) pe_int (nomark _)) (pw_and (pt_cmpR op_ge (pe_ix ix_seq (pv 1) pe_int (fun _ _ => rfl)) pe_int (nomark _)) (pw_and1 (pt_cmpR (op_eqU hu64) (pv 3) pe_int (nomark _))))))
 (pss_cons (ps_asg (pe_op op_sub (pe_ix ix_seq (pv 1) pe_int (fun _ _ => rfl)) pe_int) (pg_sub (pv 1) pe_int set_list))
 (pss_one (ps_ret (pe_tup (pa_cons pe_str (pa_cons (pe_c C__law_pair hr (by first | decide | omega) (pa_cons (pv 0) pa_nil)) (pa_cons (pe_c C__law_tree hr (by first | decide | omega) (pa_cons (pv 0) (pa_cons (pv 1) (pa_cons (pe_op op_sub (pv 2) pe_int) pa_nil)))) pa_nil)))))))
 pss_nil)
 (pss_one (ps_ret (pe_c C__law_leaf hr (by first | decide | omega) (pa_cons (pv 0) pa_nil))))))))), fun μ ds post exc hl hP => ?_⟩
    obtain ⟨a, rm, c, r, rfl, W0, hrm, hne, hc, hp⟩ := hP
    have hw := pw_pos n
    have hw1 := pw_succ n
    have S := well_src a
    walk_at "d0"
    refine gs_seq (gs_at (fun μ' ρ' => μ' = mput μ rm (.lst [.int (r - 1)]) ∧ ρ' = [some (.at a), some (.at rm), some (.int ((n + 1 : Nat) : Int)), none, none]) ?_ ?_)
    · walk_at "dx"
      refine tgx_subA (a := rm) (k := 0) (j := 0) hrm rfl ?_ (fun Ψ q => by walk_at "dx"; exact q) (fun Ψ q => by walk_at "dx"; exact q)
      exact ⟨rfl, rfl⟩
    rintro μ1 ρ1 ⟨e1, rfl⟩
    have W1 : Well a c μ1 := by rw [e1]; exact S.put W0 hne hne
    have hrm1 : μ1 rm = some (.lst [.int (r - 1)]) := by rw [e1]; exact mput_same
    have B1 : ∀ b, b ≠ a → b ≠ rm → μ1 b = μ b := fun b _ hb => by rw [e1, mput_ne hb]
    clear e1 W0 hrm
    generalize r - 1 = r1 at hrm1
    refine gs_seq (gs_at (fun μ' ρ' => ∃ x : Int, 0 ≤ x ∧ x < 9 ∧ Well a (c + 1) μ' ∧ (∀ b, b ≠ a → μ' b = μ1 b) ∧ ρ' = [some (.at a), some (.at rm), some (.int ((n + 1 : Nat) : Int)), some (.int x), none]) ?_ ?_)
    · walk_at "dx"
      exact ⟨a, c, 9, rfl, W1, by omega, by decide, by decide, fun μ2 x hx0 hx1 W2 B2 => by
        walk_at "dx"
        exact ⟨x, hx0, hx1, W2, B2, rfl⟩⟩
    rintro μ2 ρ2 ⟨x, hx0, hx1, W2, B2, rfl⟩
    have hrm2 : μ2 rm = some (.lst [.int r1]) := by rw [B2 rm hne]; exact hrm1
    have B3 : ∀ b, b ≠ a → b ≠ rm → μ2 b = μ b := fun b h1 h2 => (B2 b h1).trans (B1 b h1 h2)
    clear W1 hrm1 B1 B2 μ1
    refine gs_seq (gs_ifB (fun b => b = true → 1 ≤ n) ?_ (fun hb => ?_) (fun _ => ?_))
    · walk_at "dx"
      refine ifD (fun h1 => ?_) (fun _ => ⟨rfl, fun z => nomatch z⟩)
      walk_at "dx"
      refine ifD (fun h2 => ?_) (fun _ => ⟨rfl, fun z => nomatch z⟩)
      walk_at "dx"
      exact fun _ => by omega
    · have hn := hb rfl
      obtain ⟨m, rfl⟩ : ∃ m, n = m + 1 := ⟨n - 1, by omega⟩
      refine gs_seq (gs_at (fun μ' ρ' => μ' = mput μ2 rm (.lst [.int (r1 - 1)]) ∧ ρ' = [some (.at a), some (.at rm), some (.int ((m + 1 + 1 : Nat) : Int)), some (.int x), none]) ?_ ?_)
      · walk_at "dx"
        refine tgx_subA (a := rm) (k := 0) (j := 0) hrm2 rfl ?_ (fun Ψ q => by walk_at "dx"; exact q) (fun Ψ q => by walk_at "dx"; exact q)
        exact ⟨rfl, rfl⟩
      rintro μ3 ρ3 ⟨e1, rfl⟩
      have W3 : Well a (c + 1) μ3 := by rw [e1]; exact S.put W2 hne hne
      have hrm3 : μ3 rm = some (.lst [.int (r1 - 1)]) := by rw [e1]; exact mput_same
      have B4 : ∀ b, b ≠ a → b ≠ rm → μ3 b = μ b := fun b h1 hb => by rw [e1, mput_ne hb]; exact B3 b h1 hb
      clear e1 W2 hrm2 B3 μ2
      have hws := pw_succ (m + 1)
      have hm1 : ((m + 1 + 1 : Nat) : Int) - 1 = ((m + 1 : Nat) : Int) := by omega
      refine gs_seq (gs_at (fun μ' ρ' => ∃ (p : Pat) (r' : Int), p.Good ∧ p.dep ≤ m ∧ p.words.length + 5 ≤ 30 * pw (m + 1) ∧ μ' rm = some (.lst [.int r']) ∧ Well a (c + 1 + 12 * pw (m + 1) - 3) μ' ∧ (∀ b, b ≠ a → b ≠ rm → μ' b = μ b) ∧ ρ' = [some (.at a), some (.at rm), some (.int ((m + 1 + 1 : Nat) : Int)), some (.int x), some (patD p)]) ?_ ?_)
      · walk_at "dx"
        rw [hm1]
        exact ⟨a, rm, _, _, rfl, W3, hrm3, hne, by omega, fun μ4 p r' hg hd hl h4 W4 B5 => by
          walk_at "dx"
          exact ⟨p, r', hg, hd, hl, h4, W4, fun b h1 h2 => (B5 b h1 h2).trans (B4 b h1 h2), rfl⟩⟩
      rintro μ4 ρ4 ⟨p, r', hg, hd, hl, h4, W4, B5, rfl⟩
      refine gs_seq (gs_at (fun μ' ρ' => μ' = mput μ4 rm (.lst [.int (r' + 1)]) ∧ ρ' = [some (.at a), some (.at rm), some (.int ((m + 1 + 1 : Nat) : Int)), some (.int x), some (patD p)]) ?_ ?_)
      · walk_at "dx"
        refine tgx_subA (a := rm) (k := 0) (j := 0) h4 rfl ?_ (fun Ψ q => by walk_at "dx"; exact q) (fun Ψ q => by walk_at "dx"; exact q)
        exact ⟨rfl, rfl⟩
      rintro μ5 ρ5 ⟨e1, rfl⟩
      have W5 : Well a (c + 1 + 12 * pw (m + 1) - 3) μ5 := by rw [e1]; exact S.put W4 hne hne
      have hrm5 : μ5 rm = some (.lst [.int (r' + 1)]) := by rw [e1]; exact mput_same
      have B6 : ∀ b, b ≠ a → b ≠ rm → μ5 b = μ b := fun b h1 hb => by rw [e1, mput_ne hb]; exact B5 b h1 hb
      clear e1 W4 h4 B5 μ4 W3 hrm3 B4 μ3
      have hf : x.fmod 2 = 0 ∨ x.fmod 2 = 1 := by rw [Int.fmod_eq_emod_of_nonneg _ (by decide)]; omega
      obtain ⟨o, ho⟩ : ∃ o : Bool, atI [D.str "then", .str "or"] (x.fmod 2) = some (.str (if o then "or" else "then")) := by
        rcases hf with e | e
        · exact ⟨false, by rw [e]; rfl⟩
        · exact ⟨true, by rw [e]; rfl⟩
      walk_at "dx"
      refine evx_lst ?_
      walk_at "dx"
      rw [hm1]
      refine ⟨a, rm, _, _, rfl, W5, hrm5, hne, by omega, fun μ6 q r2 hg2 hd2 hl2 h6 W6 B7 => ?_⟩
      walk_at "dx"
      refine hp μ6 (.both o p q) r2 ⟨hg, hg2⟩ (by unfold Pat.dep; omega) ?_ h6 (W6.mono (by omega)) fun b h1 h2 => (B7 b h1 h2).trans (B6 b h1 h2)
      rw [words_both]
      simp only [List.length_cons, List.length_append, List.length_nil]
      have : (if o then [32, 43, 32] else [32] : List Nat).length ≤ 3 := by cases o <;> decide
      omega
    walk_at "dn"
    refine gs_ifB (fun b => b = true → 1 ≤ n) ?_ (fun hb => ?_) (fun _ => ?_)
    · walk_at "dx"
      refine ifD (fun h1 => ?_) (fun _ => ⟨rfl, fun z => nomatch z⟩)
      walk_at "dx"
      refine ifD (fun h2 => ?_) (fun _ => ⟨rfl, fun z => nomatch z⟩)
      walk_at "dx"
      exact fun _ => by omega
    · have hn := hb rfl
      obtain ⟨m, rfl⟩ : ∃ m, n = m + 1 := ⟨n - 1, by omega⟩
      have hws := pw_succ (m + 1)
      have hm1 : ((m + 1 + 1 : Nat) : Int) - 1 = ((m + 1 : Nat) : Int) := by omega
      walk_at "dx"
      rw [hm1]
      refine ⟨a, rm, _, _, rfl, W2, hrm2, hne, by omega, fun μ6 q r2 hg2 hd2 hl2 h6 W6 B7 => ?_⟩
      walk_at "dx"
      refine hp μ6 (.many q) r2 hg2 (by unfold Pat.dep; omega) ?_ h6 (W6.mono (by omega)) fun b h1 h2 => (B7 b h1 h2).trans (B3 b h1 h2)
      show (q.words ++ [42]).length + 5 ≤ _
      simp only [List.length_cons, List.length_append, List.length_nil]
      omega
    walk_at "dn"
    refine gs_ifB (fun b => b = true → 1 ≤ n) ?_ (fun hb => ?_) (fun _ => ?_)
    · walk_at "dx"
      refine ifD (fun h1 => ?_) (fun _ => ⟨rfl, fun z => nomatch z⟩)
      walk_at "dx"
      refine ifD (fun h2 => ?_) (fun _ => ⟨rfl, fun z => nomatch z⟩)
      walk_at "dx"
      exact fun _ => by omega
    · have hn := hb rfl
      obtain ⟨m, rfl⟩ : ∃ m, n = m + 1 := ⟨n - 1, by omega⟩
      refine gs_seq (gs_at (fun μ' ρ' => μ' = mput μ2 rm (.lst [.int (r1 - 1)]) ∧ ρ' = [some (.at a), some (.at rm), some (.int ((m + 1 + 1 : Nat) : Int)), some (.int x), none]) ?_ ?_)
      · walk_at "dx"
        refine tgx_subA (a := rm) (k := 0) (j := 0) hrm2 rfl ?_ (fun Ψ q => by walk_at "dx"; exact q) (fun Ψ q => by walk_at "dx"; exact q)
        exact ⟨rfl, rfl⟩
      rintro μ3 ρ3 ⟨e1, rfl⟩
      have W3 : Well a (c + 1) μ3 := by rw [e1]; exact S.put W2 hne hne
      have hrm3 : μ3 rm = some (.lst [.int (r1 - 1)]) := by rw [e1]; exact mput_same
      have B4 : ∀ b, b ≠ a → b ≠ rm → μ3 b = μ b := fun b h1 hb => by rw [e1, mput_ne hb]; exact B3 b h1 hb
      clear e1 W2 hrm2 B3 μ2
      have hws := pw_succ (m + 1)
      have hm1 : ((m + 1 + 1 : Nat) : Int) - 1 = ((m + 1 : Nat) : Int) := by omega
      walk_at "dx"
      refine ⟨a, _, rfl, W3, by omega, fun μ4 qq h9 W4 B5 => ?_⟩
      walk_at "dx"
      rw [hm1]
      refine ⟨a, rm, _, _, rfl, W4, (B5 rm hne).trans hrm3, hne, by omega, fun μ6 q r2 hg2 hd2 hl2 h6 W6 B7 => ?_⟩
      walk_at "dx"
      refine hp μ6 (.weigh qq q) r2 ⟨h9, hg2⟩ (by unfold Pat.dep; omega) ?_ h6 (W6.mono (by omega)) fun b h1 h2 => (B7 b h1 h2).trans ((B5 b h1).trans (B4 b h1 h2))
      have := qL_len h9
      have := pw_pos m
      rw [words_weigh]
      simp only [List.length_cons, List.length_append, List.length_nil]
      omega
    walk_at "dx"
    exact ⟨a, _, rfl, W2, by omega, fun μ6 p hg hd hl W6 B7 => hp μ6 p r1 hg (by omega) (by omega) ((B7 rm hne).trans hrm2) (W6.mono (by omega)) fun b h1 h2 => (B7 b h1).trans (B3 b h1 h2)⟩
end
def P_chain : PD := fun μ ds post _ => ∃ (a : Addr) (c : Int), ds = [.at a] ∧ Well a c μ ∧ c ≤ 800000 ∧ ∀ μ' p, Pat.Good p → p.dep ≤ 19 → p.words.length ≤ 900 → Well a (c + 400) μ' → (∀ b, b ≠ a → μ' b = μ b) → post μ' (patD p)
def P_okW (k : Int) : PD := fun μ ds post _ => ∃ (a : Addr) (c : Int), ds = [.at a] ∧ Well a c μ ∧ c ≤ 700000 ∧ ∀ μ', Well a (c + k) μ' → post μ' (.bl true)
section
variable {P : Program} {w : World} {K : PySem.W.Frag} {mg : Str → Option Value} {base : Heap}
theorem c_chain (h : Std K mg "_law_chain" s__law_chain) (n_range : mg "range" = none) (C__law_dip : Cal P w K mg base CX0 1 "_law_dip" s__law_dip ["_law_well_here", "_law_many"] (spD K 2 P_wdraw)) (C__law_pair : Cal P w K mg base CX0 2 "_law_pair" s__law_pair ["_law_well_here"] (spD K 1 P_lpair)) (C__law_leaf : Cal P w K mg base CX0 2 "_law_leaf" s__law_leaf ["_law_well_here"] (spD K 1 P_leaf)) : Cal P w K mg base CX0 3 "_law_chain" s__law_chain ["_law_well_here"] (spD K 1 P_chain) := by
  refine cal0 h sc__law_chain (fun _ _ _ _ _ _ us hl => match us, hl with | [_], _ => rfl) fun f cdv A outer s H E hr => ⟨_,
    have hu64 := hr.units; (pss_cons (ps_set (i := 1) sc__law_chain.nd rfl (Or.inl rfl) (pe_c C__law_leaf hr (by first | decide | omega) (pa_cons (pv 0) pa_nil)))
 (pss_cons (ps_for PassesOwn.never rfl (pi_range1 rfl n_range (pa_cons (pe_c C__law_dip hr (by first | decide | omega) (pa_cons (pv 0) (pa_cons pe_int pa_nil))) pa_nil)) (pg_name (i := 2) sc__law_chain.nd rfl (Or.inl rfl))
 (pss_cons (ps_set (i := 3) sc__law_chain.nd rfl (Or.inl rfl) (pe_c C__law_dip hr (by first | decide | omega) (pa_cons (pv 0) (pa_cons pe_int pa_nil))))
 (pss_one (ps_if (pt_cmpR op_lt (pv 3) pe_int (nomark _))
 (pss_one (ps_set (i := 1) sc__law_chain.nd rfl (Or.inl rfl) (pe_tup (pa_cons pe_str (pa_cons (pv 1) pa_nil)))))
 (pss_one (ps_if (pt_cmpR (op_eqU hu64) (pv 3) pe_int (nomark _))
 (pss_one (ps_set (i := 1) sc__law_chain.nd rfl (Or.inl rfl) (pe_tup (pa_cons pe_str (pa_cons (pe_c C__law_pair hr (by first | decide | omega) (pa_cons (pv 0) pa_nil)) (pa_cons (pv 1) pa_nil))))))
 (pss_one (ps_if (pt_cmpR op_in_seq (pv 3) (pe_tup (pa_cons pe_int (pa_cons pe_int pa_nil))) rfl)
 (pss_one (ps_set (i := 1) sc__law_chain.nd rfl (Or.inl rfl) (pe_tup (pa_cons (pe_ix ix_seq (pe_lst (pa_cons pe_str (pa_cons pe_str pa_nil))) (pe_op op_sub (pv 3) pe_int) (fun _ _ => rfl)) (pa_cons (pv 1) (pa_cons (pe_c C__law_leaf hr (by first | decide | omega) (pa_cons (pv 0) pa_nil)) pa_nil))))))
 (pss_one (ps_set (i := 1) sc__law_chain.nd rfl (Or.inl rfl) (pe_tup (pa_cons (pe_ix ix_seq (pe_lst (pa_cons pe_str (pa_cons pe_str pa_nil))) (pe_op op_sub (pv 3) pe_int) (fun _ _ => rfl)) (pa_cons (pe_c C__law_leaf hr (by first | decide | omega) (pa_cons (pv 0) pa_nil)) (pa_cons (pv 1) pa_nil))))))))))))))
 (pss_one (ps_ret (pv 1))))), fun μ ds post exc hl hP => ?_⟩
  obtain ⟨a, c, rfl, W0, hc, hp⟩ := hP
  walk_at "d0"
  walk_at "dx"
  refine ⟨a, c, rfl, W0, by omega, fun μ1 p hg hd hl W1 B1 => ?_⟩
  walk_at "dx"
  refine gs_for (itx_range1 ?_)
  walk_at "dx"
  refine ⟨a, _, 20, rfl, W1, by omega, by decide, by decide, fun μ2 k hk0 hk1 W2 B2 => ?_⟩
  walk_at "dx"
  refine ⟨⟨by omega, by omega⟩, ?_⟩
  refine ⟨fun i μ' ρ' => ∃ (p : Pat) (u2 u3 : Option D), ρ' = [some (.at a), some (patD p), u2, u3] ∧ p.Good ∧ p.dep ≤ i ∧ p.words.length ≤ 1 + 30 * i ∧ Well a (c + 3 + 10 * i) μ' ∧ ∀ b, b ≠ a → μ' b = μ b,
    ⟨p, _, _, rfl, hg, by omega, by omega, W2.mono (by omega), fun b hb => (B2 b hb).trans (B1 b hb)⟩, fun _ _ _ _ _ => True.intro, ?_, ?_⟩
  · rintro i d μ3 ρ3 hd ⟨p, u2, u3, rfl, hg, hd3, hl3, W3, B3⟩
    obtain ⟨hi, rfl⟩ := rangeD_get hd
    have hi2 : i < 19 := by omega
    walk_at "dx"
    refine ⟨a, _, 7, rfl, W3, by omega, by decide, by decide, fun μ4 x hx0 hx1 W4 B4 => ?_⟩
    have B5 : ∀ b, b ≠ a → μ4 b = μ b := fun b hb => (B4 b hb).trans (B3 b hb)
    clear B3 B4 W3
    walk_at "dx"
    refine ifD (fun h2 => ?_) (fun h2 => ?_)
    · walk_at "dx"
      exact ⟨.many p, _, _, rfl, hg, by unfold Pat.dep; omega, by show (p.words ++ [42]).length ≤ _; simp only [List.length_cons, List.length_append, List.length_nil]; omega, W4.mono (by omega), B5⟩
    walk_at "dx"
    refine ifD (fun h3 => ?_) (fun h3 => ?_)
    · walk_at "dx"
      refine ⟨a, _, rfl, W4, by omega, fun μ6 qq h9 W6 B6 => ?_⟩
      walk_at "dx"
      have := qL_len h9
      exact ⟨.weigh qq p, _, _, rfl, ⟨h9, hg⟩, by unfold Pat.dep; omega, by rw [words_weigh]; simp only [List.length_cons, List.length_append, List.length_nil]; omega, W6.mono (by omega), fun b hb => (B6 b hb).trans (B5 b hb)⟩
    walk_at "dx"
    refine opx_inTI (zs := [3, 4]) ?_
    walk_at "dx"
    have kind : ∀ y : Int, 0 ≤ y → y < 2 → ∃ o : Bool, atI [D.str "then", .str "or"] y = some (.str (if o then "or" else "then")) := fun y h0 h1 => by
      have : y = 0 ∨ y = 1 := by omega
      rcases this with rfl | rfl
      · exact ⟨false, rfl⟩
      · exact ⟨true, rfl⟩
    have lo : ∀ (o : Bool) (p q : Pat), (Pat.both o p q).words.length ≤ p.words.length + q.words.length + 5 := fun o p q => by
      have : (if o then [32, 43, 32] else [32] : List Nat).length ≤ 3 := by cases o <;> decide
      rw [words_both]
      simp only [List.length_cons, List.length_append, List.length_nil]
      omega
    have sp : ([3, 4] : List Int).any (fun y => eqV (.int y) (.int x)) = decide (x = 3 ∨ x = 4) := by
      show ((3 : Int) == x || ((4 : Int) == x || false)) = _
      rw [Bool.or_false]
      by_cases h3 : x = 3
      · subst h3; rfl
      · by_cases h4 : x = 4
        · subst h4; rfl
        · rw [decide_eq_false (by omega), Bool.or_eq_false_iff]
          exact ⟨beq_eq_false_iff_ne.mpr (Ne.symm h3), beq_eq_false_iff_ne.mpr (Ne.symm h4)⟩
    rw [sp]
    refine ifD (fun h4 => ?_) (fun h4 => ?_)
    · obtain ⟨o, ho⟩ := kind (x - 3) (by omega) (by omega)
      walk_at "dx"
      refine evx_lst ?_
      walk_at "dx"
      refine ⟨a, _, rfl, W4, by omega, fun μ6 q hg2 hd2 hl2 W6 B6 => ?_⟩
      walk_at "dx"
      have := lo o p q
      exact ⟨.both o p q, _, _, rfl, ⟨hg, hg2⟩, by unfold Pat.dep; omega, by omega, W6.mono (by omega), fun b hb => (B6 b hb).trans (B5 b hb)⟩
    · obtain ⟨o, ho⟩ := kind (x - 5) (by omega) (by omega)
      walk_at "dx"
      refine evx_lst ?_
      walk_at "dx"
      refine ⟨a, _, rfl, W4, by omega, fun μ6 q hg2 hd2 hl2 W6 B6 => ?_⟩
      walk_at "dx"
      have := lo o q p
      exact ⟨.both o q p, _, _, rfl, ⟨hg2, hg⟩, by unfold Pat.dep; omega, by omega, W6.mono (by omega), fun b hb => (B6 b hb).trans (B5 b hb)⟩
  · rintro μ3 ρ3 ⟨p, u2, u3, rfl, hg, hd3, hl3, W3, B3⟩
    rw [rangeD_len] at hd3 hl3 W3
    walk_at "dx"
    exact hp _ p hg (by omega) (by omega) (W3.mono (by omega)) B3
end
def P_trees : PD := fun μ ds post exc => P_tree 12 μ ds post exc ∨ P_tree 5 μ ds post exc
section
variable {P : Program} {w : World} {K : PySem.W.Frag} {mg : Str → Option Value} {base : Heap}
theorem c_nright (h : Std K mg "_law_numbers_right" s__law_numbers_right) (C__law_pair : Cal P w K mg base CX0 2 "_law_pair" s__law_pair ["_law_well_here"] (spD K 1 P_lpair)) (C__law_said : Cal P w K mg base CX0 1 "_law_said" s__law_said ["_law_pair_here"] (spD K 1 P_sn)) (C_show_number : Cal P w K mg base CX0 1 "show_number" s_show_number ["number"] (spD K 1 P_sn)) (C_read_number : Cal P w K mg base CX0 3 "read_number" s_read_number ["text"] (spD K 1 P_number)) (C__law_same : Cal P w K mg base CX0 26 "_law_same" s__law_same ["_law_told", "_law_due"] (spD K 2 (P_same 26))) : Cal P w K mg base CX0 27 "_law_numbers_right" s__law_numbers_right ["_law_well_here"] (spD K 1 (P_okW 6)) := by
  refine cal0 h sc__law_numbers_right (fun _ _ _ _ _ _ us hl => match us, hl with | [_], _ => rfl) fun f cdv A outer s H E hr => ⟨_,
    have hu64 := hr.units; (pss_cons (ps_set (i := 1) sc__law_numbers_right.nd rfl (Or.inl rfl) (pe_c C__law_pair hr (by first | decide | omega) (pa_cons (pv 0) pa_nil)))
 (pss_cons (ps_set (i := 2) sc__law_numbers_right.nd rfl (Or.inl rfl) (pe_c C__law_said hr (by first | decide | omega) (pa_cons (pv 1) pa_nil)))
 (pss_cons (ps_if (PW.pt (pw_or (pt_not (pt_val (pe_c C__law_same hr (by first | decide | omega) (pa_cons (pe_c C_show_number hr (by first | decide | omega) (pa_cons (pv 1) pa_nil)) (pa_cons (pv 2) pa_nil))))) (pw_or1 (pt_not (pt_val (pe_c C__law_same hr (by first | decide | omega) (pa_cons (pe_ck (n := 0) (m := 1) (pm := [0]) (ks := ["number"]) C_show_number hr (by decide) (by decide) (fun _ _ _ _ _ _ us ws h1 h2 => match us, ws, h1, h2 with | [], [_], _, _ => rfl) (pk_cons (pv 1) pk_nil)) (pa_cons (pv 2) pa_nil))))))))
 (pss_one (ps_ret pe_bl))
 pss_nil)
 (pss_one (ps_ret (pe_and (pe_c C__law_same hr (by first | decide | omega) (pa_cons (pe_c C_read_number hr (by first | decide | omega) (pa_cons (pv 2) pa_nil)) (pa_cons (pv 1) pa_nil))) (pe_one (pe_c C__law_same hr (by first | decide | omega) (pa_cons (pe_ck (n := 0) (m := 1) (pm := [0]) (ks := ["text"]) C_read_number hr (by decide) (by decide) (fun _ _ _ _ _ _ us ws h1 h2 => match us, ws, h1, h2 with | [], [_], _, _ => rfl) (pk_cons (pv 2) pk_nil)) (pa_cons (pv 1) pa_nil)))))))))), fun μ ds post exc hl hP => ?_⟩
  obtain ⟨a, c, rfl, W0, hc, hp⟩ := hP
  walk_at "d0"
  walk_at "dx"
  refine ⟨a, c, rfl, W0, by omega, fun μ1 q h9 W1 B1 => ?_⟩
  walk_at "dx"
  refine ⟨q, rfl, h9, ?_⟩
  walk_at "dx"
  refine ⟨q, rfl, h9, ?_⟩
  walk_at "dx"
  refine ⟨_, rfl, (sm_flat _).2 _, ?_⟩
  walk_at "dz"
  refine ⟨q, rfl, h9, ?_⟩
  walk_at "dx"
  refine ⟨_, rfl, (sm_flat _).2 _, ?_⟩
  walk_at "dz"
  refine ⟨q, rfl, h9, ?_⟩
  walk_at "dx"
  refine ⟨_, rfl, sm_le (sm_num 0 q) (by decide), ?_⟩
  walk_at "dz"
  refine ⟨q, rfl, h9, ?_⟩
  walk_at "dx"
  refine ⟨_, rfl, sm_le (sm_num 0 q) (by decide), ?_⟩
  exact hp _ W1
theorem c_pright {A : Addr} (h : Std K mg "_law_patterns_right" s__law_patterns_right) (C__law_dip : Cal P w K mg base CX0 1 "_law_dip" s__law_dip ["_law_well_here", "_law_many"] (spD K 2 P_wdraw)) (C__law_tree : Cal P w K mg base CX0 15 "_law_tree" s__law_tree ["_law_well_here", "_law_room", "_law_deep"] (spD K 3 P_trees)) (C__law_chain : Cal P w K mg base CX0 3 "_law_chain" s__law_chain ["_law_well_here"] (spD K 1 P_chain)) (C__law_words : Cal P w K mg base CX0 24 "_law_words" s__law_words ["_law_tree_here"] (spD K 1 (P_show 22))) (C_show_pattern : Cal P w K mg base CX0 24 "show_pattern" s_show_pattern ["pattern"] (spD K 1 (P_show 22))) (C_read_pattern : Cal P w K mg base CX0 75 "read_pattern" s_read_pattern ["text"] (spD K 1 (P_readp A))) (C__law_same : Cal P w K mg base CX0 26 "_law_same" s__law_same ["_law_told", "_law_due"] (spD K 2 (P_same 26))) : Cal P w K mg base CX0 76 "_law_patterns_right" s__law_patterns_right ["_law_well_here"] (spD K 1 (P_okW 50000)) := by
  refine cal0 h sc__law_patterns_right (fun _ _ _ _ _ _ us hl => match us, hl with | [_], _ => rfl) fun f cdv A outer s H E hr => ⟨_,
    have hu64 := hr.units; (pss_cons (ps_set (i := 1) sc__law_patterns_right.nd rfl (Or.inl rfl) (pe_c C__law_tree hr (by first | decide | omega) (pa_cons (pv 0) (pa_cons (pe_lst (pa_cons pe_int pa_nil)) (pa_cons pe_int pa_nil)))))
 (pss_cons (ps_set (i := 2) sc__law_patterns_right.nd rfl (Or.inl rfl) (pe_c C__law_words hr (by first | decide | omega) (pa_cons (pv 1) pa_nil)))
 (pss_cons (ps_if (PW.pt (pw_or (pt_not (pt_val (pe_c C__law_same hr (by first | decide | omega) (pa_cons (pe_c C_show_pattern hr (by first | decide | omega) (pa_cons (pv 1) pa_nil)) (pa_cons (pv 2) pa_nil))))) (pw_or1 (pt_not (pt_val (pe_c C__law_same hr (by first | decide | omega) (pa_cons (pe_ck (n := 0) (m := 1) (pm := [0]) (ks := ["pattern"]) C_show_pattern hr (by decide) (by decide) (fun _ _ _ _ _ _ us ws h1 h2 => match us, ws, h1, h2 with | [], [_], _, _ => rfl) (pk_cons (pv 1) pk_nil)) (pa_cons (pv 2) pa_nil))))))))
 (pss_one (ps_ret pe_bl))
 pss_nil)
 (pss_cons (ps_if (pt_not (pt_val (pe_c C__law_same hr (by first | decide | omega) (pa_cons (pe_c C_read_pattern hr (by first | decide | omega) (pa_cons (pv 2) pa_nil)) (pa_cons (pv 1) pa_nil)))))
 (pss_one (ps_ret pe_bl))
 pss_nil)
 (pss_cons (ps_set (i := 3) sc__law_patterns_right.nd rfl (Or.inl rfl) (pe_ifExp (pt_cmpR op_gt (pe_c C__law_dip hr (by first | decide | omega) (pa_cons (pv 0) (pa_cons pe_int pa_nil))) pe_int (nomark _)) (pe_c C__law_chain hr (by first | decide | omega) (pa_cons (pv 0) pa_nil)) (pe_c C__law_tree hr (by first | decide | omega) (pa_cons (pv 0) (pa_cons (pe_lst (pa_cons pe_int pa_nil)) (pa_cons pe_int pa_nil))))))
 (pss_cons (ps_set (i := 4) sc__law_patterns_right.nd rfl (Or.inl rfl) (pe_ck (n := 0) (m := 1) (pm := [0]) (ks := ["text"]) C_read_pattern hr (by decide) (by decide) (fun _ _ _ _ _ _ us ws h1 h2 => match us, ws, h1, h2 with | [], [_], _, _ => rfl) (pk_cons (pe_c C__law_words hr (by first | decide | omega) (pa_cons (pv 3) pa_nil)) pk_nil)))
 (pss_one (ps_ret (pe_and (pe_c C__law_same hr (by first | decide | omega) (pa_cons (pv 4) (pa_cons (pv 3) pa_nil))) (pe_one (pe_c C__law_same hr (by first | decide | omega) (pa_cons (pe_c C_show_pattern hr (by first | decide | omega) (pa_cons (pv 4) pa_nil)) (pa_cons (pe_c C__law_words hr (by first | decide | omega) (pa_cons (pv 3) pa_nil)) pa_nil))))))))))))), fun μ ds post exc hl hP => ?_⟩
  obtain ⟨a, c, rfl, W0, hc, hp⟩ := hP
  have S := well_src a
  have p5 : pw (4 + 1) = 32 := by decide
  have p12 : pw (11 + 1) = 4096 := by decide
  walk_at "d0"
  walk_at "dx"
  refine evx_lstM ?_
  walk_at "dx"
  intro rm hrm
  have hne := (S.na W0 hrm).1
  walk_at "dx"
  refine .inr ⟨a, rm, c, 10, rfl, S.put W0 hne hne, mput_same, hne, by rw [p5]; omega, fun μ1 p r1 hg hd0 hl hrm1 W1 B1 => ?_⟩
  have hd : p.dep ≤ 4 := hd0
  clear hd0
  rw [p5] at hl W1
  walk_at "dx"
  refine ⟨p, rfl, hg, (by first | omega | (show _ ≤ 21; omega) | (show _ ≤ 25; omega)), (by first | omega | (show _ ≤ 21; omega) | (show _ ≤ 25; omega)), ?_⟩
  walk_at "dx"
  refine ⟨p, rfl, hg, (by first | omega | (show _ ≤ 21; omega) | (show _ ≤ 25; omega)), (by first | omega | (show _ ≤ 21; omega) | (show _ ≤ 25; omega)), ?_⟩
  walk_at "dx"
  refine ⟨_, rfl, (sm_flat _).2 _, ?_⟩
  walk_at "dz"
  refine ⟨p, rfl, hg, (by first | omega | (show _ ≤ 21; omega) | (show _ ≤ 25; omega)), (by first | omega | (show _ ≤ 21; omega) | (show _ ≤ 25; omega)), ?_⟩
  walk_at "dx"
  refine ⟨_, rfl, (sm_flat _).2 _, ?_⟩
  walk_at "dz"
  refine ⟨p, rfl, hg, (by first | omega | (show _ ≤ 21; omega) | (show _ ≤ 25; omega)), (by first | omega | (show _ ≤ 21; omega) | (show _ ≤ 25; omega)), ?_⟩
  walk_at "dx"
  refine ⟨_, rfl, sm_le (sm_pat p) (by first | omega | (show _ ≤ 21; omega) | (show _ ≤ 25; omega)), ?_⟩
  walk_at "dz"
  refine ⟨a, _, 3, rfl, W1, by omega, by decide, by decide, fun μ2 x hx0 hx1 W2 B2 => ?_⟩
  walk_at "dx"
  refine ifD (fun h0 => ?_) (fun h0 => ?_)
  · walk_at "dx"
    refine ⟨a, _, rfl, W2, by omega, fun μ4 q hg2 hd2 hl2 W4 B4 => ?_⟩
    walk_at "dx"
    refine ⟨q, rfl, hg2, (by first | omega | (show _ ≤ 21; omega) | (show _ ≤ 25; omega)), (by first | omega | (show _ ≤ 21; omega) | (show _ ≤ 25; omega)), ?_⟩
    walk_at "dx"
    refine ⟨q, rfl, hg2, (by first | omega | (show _ ≤ 21; omega) | (show _ ≤ 25; omega)), (by first | omega | (show _ ≤ 21; omega) | (show _ ≤ 25; omega)), ?_⟩
    walk_at "dx"
    refine ⟨_, rfl, sm_le (sm_pat q) (by first | omega | (show _ ≤ 21; omega) | (show _ ≤ 25; omega)), ?_⟩
    walk_at "dz"
    refine ⟨q, rfl, hg2, (by first | omega | (show _ ≤ 21; omega) | (show _ ≤ 25; omega)), (by first | omega | (show _ ≤ 21; omega) | (show _ ≤ 25; omega)), ?_⟩
    walk_at "dx"
    refine ⟨q, rfl, hg2, (by first | omega | (show _ ≤ 21; omega) | (show _ ≤ 25; omega)), (by first | omega | (show _ ≤ 21; omega) | (show _ ≤ 25; omega)), ?_⟩
    walk_at "dx"
    refine ⟨_, rfl, (sm_flat _).2 _, ?_⟩
    exact hp _ (W4.mono (by omega))
  · walk_at "dx"
    refine evx_lstM ?_
    walk_at "dx"
    intro rm2 hrm2
    have hne2 := (S.na W2 hrm2).1
    walk_at "dx"
    refine .inl ⟨a, rm2, _, 60, rfl, S.put W2 hne2 hne2, mput_same, hne2, by rw [p12]; omega, fun μ4 q r2 hg2 hd20 hl2 hrm3 W4 B4 => ?_⟩
    have hd2 : q.dep ≤ 11 := hd20
    clear hd20
    rw [p12] at hl2 W4
    walk_at "dx"
    refine ⟨q, rfl, hg2, (by first | omega | (show _ ≤ 21; omega) | (show _ ≤ 25; omega)), (by first | omega | (show _ ≤ 21; omega) | (show _ ≤ 25; omega)), ?_⟩
    walk_at "dx"
    refine ⟨q, rfl, hg2, (by first | omega | (show _ ≤ 21; omega) | (show _ ≤ 25; omega)), (by first | omega | (show _ ≤ 21; omega) | (show _ ≤ 25; omega)), ?_⟩
    walk_at "dx"
    refine ⟨_, rfl, sm_le (sm_pat q) (by first | omega | (show _ ≤ 21; omega) | (show _ ≤ 25; omega)), ?_⟩
    walk_at "dz"
    refine ⟨q, rfl, hg2, (by first | omega | (show _ ≤ 21; omega) | (show _ ≤ 25; omega)), (by first | omega | (show _ ≤ 21; omega) | (show _ ≤ 25; omega)), ?_⟩
    walk_at "dx"
    refine ⟨q, rfl, hg2, (by first | omega | (show _ ≤ 21; omega) | (show _ ≤ 25; omega)), (by first | omega | (show _ ≤ 21; omega) | (show _ ≤ 25; omega)), ?_⟩
    walk_at "dx"
    refine ⟨_, rfl, (sm_flat _).2 _, ?_⟩
    exact hp _ (W4.mono (by omega))
end
def P_law : PD := fun μ ds post _ => ∃ ns : List Int, ds = [.frz (ns.map D.int)] ∧ ns.length ≤ 63 ∧ (∀ n ∈ ns, n.natAbs < 2 ^ 1048576) ∧ ∀ μ', post μ' (.bl true)
section
variable {P : Program} {w : World} {K : PySem.W.Frag} {mg : Str → Option Value} {base : Heap}
theorem c_law (h : Std K mg "law" s_law) (n_range : mg "range" = none) (n_len : mg "len" = none) (n_max : mg "max" = none) (n_min : mg "min" = none) (C__law_well : Cal P w K mg base CX0 1 "_law_well" s__law_well ["_law_script", "_law_place"] (spD K 2 P_well)) (C__law_numbers_right : Cal P w K mg base CX0 27 "_law_numbers_right" s__law_numbers_right ["_law_well_here"] (spD K 1 (P_okW 6))) (C__law_patterns_right : Cal P w K mg base CX0 76 "_law_patterns_right" s__law_patterns_right ["_law_well_here"] (spD K 1 (P_okW 50000))) : Cal P w K mg base CX0 77 "law" s_law ["_law_script"] (spD K 1 P_law) := by
  refine cal0 h sc_law (fun _ _ _ _ _ _ us hl => match us, hl with | [_], _ => rfl) fun f cdv A outer s H E hr => ⟨_,
    have hu64 := hr.units; (pss_cons (ps_for PassesOwn.never rfl (pi_range1 rfl n_range (pa_cons (pe_callB (call_max2 rfl) (by rfl) n_max (by decide +kernel) (pa_cons pe_int (pa_cons (pe_callB (call_min2 rfl) (by rfl) n_min (by decide +kernel) (pa_cons pe_int (pa_cons (pe_callB call_len (by rfl) n_len (by decide +kernel) (pa_cons (pv 0) pa_nil)) pa_nil))) pa_nil))) pa_nil)) (pg_name (i := 1) sc_law.nd rfl (Or.inl rfl))
 (pss_cons (ps_set (i := 2) sc_law.nd rfl (Or.inl rfl) (pe_c C__law_well hr (by first | decide | omega) (pa_cons (pv 0) (pa_cons (pv 1) pa_nil))))
 (pss_one (ps_for PassesOwn.never rfl (pi_range1 rfl n_range (pa_cons pe_int pa_nil)) (pg_name (i := 3) sc_law.nd rfl (Or.inl rfl))
 (pss_one (ps_if (PW.pt (pw_or (pt_not (pt_val (pe_c C__law_numbers_right hr (by first | decide | omega) (pa_cons (pv 2) pa_nil)))) (pw_or1 (pt_not (pt_val (pe_c C__law_patterns_right hr (by first | decide | omega) (pa_cons (pv 2) pa_nil)))))))
 (pss_one (ps_ret pe_bl))
 pss_nil))))))
 (pss_one (ps_ret pe_bl))), fun μ ds post exc hl hP => ?_⟩
  obtain ⟨ns, rfl, hn63, hbits, hp⟩ := hP
  walk_at "d0"
  walk_at "dx"
  refine gs_for (itx_range1 ?_)
  walk_at "dx"
  rw [List.length_map]
  have hb : (2 : Int) ≤ (if (if (ns.length : Int) < 8 then (ns.length : Int) else 8) > 2 then (if (ns.length : Int) < 8 then (ns.length : Int) else 8) else 2) ∧ (if (if (ns.length : Int) < 8 then (ns.length : Int) else 8) > 2 then (if (ns.length : Int) < 8 then (ns.length : Int) else 8) else 2) ≤ 8 := by
    split <;> split <;> omega
  generalize (if (if (ns.length : Int) < 8 then (ns.length : Int) else 8) > 2 then (if (ns.length : Int) < 8 then (ns.length : Int) else 8) else 2) = N at hb ⊢
  refine ⟨⟨by omega, by omega⟩, ?_⟩
  refine ⟨fun i μ' ρ' => ∃ (u1 u2 u3 : Option D), ρ' = [some (.frz (ns.map D.int)), u1, u2, u3], ⟨_, _, _, rfl⟩, fun _ _ _ _ _ => True.intro, ?_, ?_⟩
  · rintro i d μ1 ρ1 hd ⟨u1, u2, u3, rfl⟩
    obtain ⟨hi, rfl⟩ := rangeD_get hd
    rw [Int.zero_add]
    walk_at "dx"
    refine ⟨ns, i, rfl, hn63, by omega, hbits, fun a μ2 _ W2 _ => ?_⟩
    walk_at "dx"
    refine gs_for (itx_range1 ?_)
    walk_at "dx"
    refine ⟨⟨by omega, by omega⟩, ?_⟩
    refine ⟨fun t μ' ρ' => ∃ u3 : Option D, ρ' = [some (.frz (ns.map D.int)), some (.int (i : Int)), some (.at a), u3] ∧ Well a (50006 * t) μ', ⟨_, rfl, W2.mono (by omega)⟩, fun _ _ _ _ _ => True.intro, ?_, ?_⟩
    · rintro t d μ3 ρ3 hd ⟨u3, rfl, W3⟩
      obtain ⟨ht, rfl⟩ := rangeD_get hd
      have ht3 : t < 3 := by omega
      walk_at "dx"
      refine ⟨a, _, rfl, W3, by omega, fun μ4 W4 => ?_⟩
      walk_at "dz"
      refine ⟨a, _, rfl, W4, by omega, fun μ5 W5 => ?_⟩
      walk_at "dz"
      exact W5.mono (by rw [Int.natCast_add]; omega)
    · rintro μ3 ρ3 ⟨u3, rfl, W3⟩
      walk_at "dx"
      exact ⟨_, _, _, rfl⟩
  rintro μ1 ρ1 ⟨u1, u2, u3, rfl⟩
  walk_at "dx"
  exact hp _
end
theorem cal_or {P : Program} {w : World} {K : PySem.W.Frag} {mg : Str → Option Value} {base : Heap} {CX : CXT} {k : Nat} {x : Str} {st : Stmt} {ps : List Str} {n : Nat} {P1 P2 : PD} (c1 : Cal P w K mg base CX k x st ps (spD K n P1)) (c2 : Cal P w K mg base CX k x st ps (spD K n P2)) :
    Cal P w K mg base CX k x st ps (spD K n fun μ ds post exc => P1 μ ds post exc ∨ P2 μ ds post exc) := by
  obtain ⟨f1, fd1, m1, F1, G1, b1⟩ := c1.ex
  obtain ⟨f2, fd2, m2, F2, G2, b2⟩ := c2.ex
  obtain rfl : f1 = f2 := by
    have := m1.symm.trans m2
    cases this
    rfl
  obtain rfl : fd1 = fd2 := by
    obtain ⟨_, _, _, _, _, _, _, _, _, e1, q1, _⟩ := F1.ex
    obtain ⟨_, _, _, _, _, _, _, _, _, e2, q2, _⟩ := F2.ex
    have := q1.symm.trans q2
    cases this
    rfl
  have either : ∀ {vs H Q E}, spD K n (fun μ ds post exc => P1 μ ds post exc ∨ P2 μ ds post exc) vs H Q E → spD K n P1 vs H Q E ∨ spD K n P2 vs H Q E := fun h => by
    obtain ⟨μ, ds, post, exc, m, d, hl, hp, r⟩ := h
    rcases hp with hp | hp
    · exact .inl ⟨μ, ds, post, exc, m, d, hl, hp, r⟩
    · exact .inr ⟨μ, ds, post, exc, m, d, hl, hp, r⟩
  refine ⟨f1, fd1, m1, F1, ⟨fun vs H Q E h => ?_, fun A outer s H args us vs Q E hr e b v h => ?_⟩, b1⟩
  · rcases either h with h | h
    · exact G1.len _ _ _ _ h
    · exact G2.len _ _ _ _ h
  · rcases either h with h | h
    · exact G1.run A outer s H args us vs Q E hr e b v h
    · exact G2.run A outer s H args us vs Q E hr e b v h
theorem law_end : ∀ ns : List Int, ns.length ≤ 63 → (∀ n ∈ ns, n.natAbs < 2 ^ 1048576) → P_law (fun _ => none) [.frz (ns.map D.int)] (fun _ d => d = .bl true) excN := fun ns hl hb => ⟨ns, rfl, hl, hb, fun _ => rfl⟩
theorem all_mk {P : Program} {w : World} {K : PySem.W.Frag} {h : Heap} {mg : Str → Option Value} {fa : Addr} (X : K.In h) (G : h.Ns mainGlobals mg) (hfa : mg "law" = some (.ref fa))
  {f_is_number : Addr} {od_is_number an_is_number : Option Addr} {sl_is_number : Array (Option Value)} {oc_is_number kV_is_number dc_is_number pm_is_number cd_is_number ct_is_number : Value}
  {f_whole_of : Addr} {od_whole_of an_whole_of : Option Addr} {sl_whole_of : Array (Option Value)} {oc_whole_of kV_whole_of dc_whole_of pm_whole_of cd_whole_of ct_whole_of : Value}
  {f_number_of : Addr} {od_number_of an_number_of : Option Addr} {sl_number_of : Array (Option Value)} {oc_number_of kV_number_of dc_number_of pm_number_of cd_number_of ct_number_of : Value}
  {f_read_number : Addr} {od_read_number an_read_number : Option Addr} {sl_read_number : Array (Option Value)} {oc_read_number kV_read_number dc_read_number pm_read_number cd_read_number ct_read_number : Value}
  {f_weighed_at : Addr} {od_weighed_at an_weighed_at : Option Addr} {sl_weighed_at : Array (Option Value)} {oc_weighed_at kV_weighed_at dc_weighed_at pm_weighed_at cd_weighed_at ct_weighed_at : Value}
  {f_pair_at : Addr} {od_pair_at an_pair_at : Option Addr} {sl_pair_at : Array (Option Value)} {oc_pair_at kV_pair_at dc_pair_at pm_pair_at cd_pair_at ct_pair_at : Value}
  {f_part_at : Addr} {od_part_at an_part_at : Option Addr} {sl_part_at : Array (Option Value)} {oc_part_at kV_part_at dc_part_at pm_part_at cd_part_at ct_part_at : Value}
  {f_pattern_at : Addr} {od_pattern_at an_pattern_at : Option Addr} {sl_pattern_at : Array (Option Value)} {oc_pattern_at kV_pattern_at dc_pattern_at pm_pattern_at cd_pattern_at ct_pattern_at : Value}
  {f_read_pattern : Addr} {od_read_pattern an_read_pattern : Option Addr} {sl_read_pattern : Array (Option Value)} {oc_read_pattern kV_read_pattern dc_read_pattern pm_read_pattern cd_read_pattern ct_read_pattern : Value}
  {f_show_number : Addr} {od_show_number an_show_number : Option Addr} {sl_show_number : Array (Option Value)} {oc_show_number kV_show_number dc_show_number pm_show_number cd_show_number ct_show_number : Value}
  {f_show_pattern : Addr} {od_show_pattern an_show_pattern : Option Addr} {sl_show_pattern : Array (Option Value)} {oc_show_pattern kV_show_pattern dc_show_pattern pm_show_pattern cd_show_pattern ct_show_pattern : Value}
  {f__law_well : Addr} {od__law_well an__law_well : Option Addr} {sl__law_well : Array (Option Value)} {oc__law_well kV__law_well dc__law_well pm__law_well cd__law_well ct__law_well : Value}
  {f__law_dip : Addr} {od__law_dip an__law_dip : Option Addr} {sl__law_dip : Array (Option Value)} {oc__law_dip kV__law_dip dc__law_dip pm__law_dip cd__law_dip ct__law_dip : Value}
  {f__law_common : Addr} {od__law_common an__law_common : Option Addr} {sl__law_common : Array (Option Value)} {oc__law_common kV__law_common dc__law_common pm__law_common cd__law_common ct__law_common : Value}
  {f__law_pair : Addr} {od__law_pair an__law_pair : Option Addr} {sl__law_pair : Array (Option Value)} {oc__law_pair kV__law_pair dc__law_pair pm__law_pair cd__law_pair ct__law_pair : Value}
  {f__law_said : Addr} {od__law_said an__law_said : Option Addr} {sl__law_said : Array (Option Value)} {oc__law_said kV__law_said dc__law_said pm__law_said cd__law_said ct__law_said : Value}
  {f__law_leaf : Addr} {od__law_leaf an__law_leaf : Option Addr} {sl__law_leaf : Array (Option Value)} {oc__law_leaf kV__law_leaf dc__law_leaf pm__law_leaf cd__law_leaf ct__law_leaf : Value}
  {f__law_tree : Addr} {od__law_tree an__law_tree : Option Addr} {sl__law_tree : Array (Option Value)} {oc__law_tree kV__law_tree dc__law_tree pm__law_tree cd__law_tree ct__law_tree : Value}
  {f__law_words : Addr} {od__law_words an__law_words : Option Addr} {sl__law_words : Array (Option Value)} {oc__law_words kV__law_words dc__law_words pm__law_words cd__law_words ct__law_words : Value}
  {f__law_chain : Addr} {od__law_chain an__law_chain : Option Addr} {sl__law_chain : Array (Option Value)} {oc__law_chain kV__law_chain dc__law_chain pm__law_chain cd__law_chain ct__law_chain : Value}
  {f__law_same : Addr} {od__law_same an__law_same : Option Addr} {sl__law_same : Array (Option Value)} {oc__law_same kV__law_same dc__law_same pm__law_same cd__law_same ct__law_same : Value}
  {f__law_numbers_right : Addr} {od__law_numbers_right an__law_numbers_right : Option Addr} {sl__law_numbers_right : Array (Option Value)} {oc__law_numbers_right kV__law_numbers_right dc__law_numbers_right pm__law_numbers_right cd__law_numbers_right ct__law_numbers_right : Value}
  {f__law_patterns_right : Addr} {od__law_patterns_right an__law_patterns_right : Option Addr} {sl__law_patterns_right : Array (Option Value)} {oc__law_patterns_right kV__law_patterns_right dc__law_patterns_right pm__law_patterns_right cd__law_patterns_right ct__law_patterns_right : Value}
  {f_law : Addr} {od_law an_law : Option Addr} {sl_law : Array (Option Value)} {oc_law kV_law dc_law pm_law cd_law ct_law : Value}
  {tLE tDI tMD : Tok} {fI : Addr} {odI anI : Option Addr} {slI : Array (Option Value)} {ocI kVI dcI pmI cdI ctI : Value}
  {A_WorthError : Addr} {nm_WorthError qn_WorthError : Str} {N_WorthError : Addr} {bs_WorthError bm_WorthError : List Value} {sn_WorthError : List Str} {sub_WorthError : List Value} {ab_WorthError : Bool} {col_WorthError : Option Bool} {dd_WorthError : Option Addr} {m0_WorthError m1_WorthError m2_WorthError m3_WorthError m5_WorthError : Option Value}
  {A_Unreadable : Addr} {nm_Unreadable qn_Unreadable : Str} {N_Unreadable : Addr} {bs_Unreadable bm_Unreadable : List Value} {sn_Unreadable : List Str} {sub_Unreadable : List Value} {ab_Unreadable : Bool} {col_Unreadable : Option Bool} {dd_Unreadable : Option Addr} {m0_Unreadable m1_Unreadable m2_Unreadable m3_Unreadable m5_Unreadable : Option Value}
  (a_is_number : PySem.W.nsIn K mainGlobals "is_number" = some (some (.ref f_is_number)))
  (l_is_number : K.lookup f_is_number = some ⟨oc_is_number, od_is_number, .func (PySem.W.fnOf "is_number" "is_number" (defArgs s_is_number) (defBody s_is_number) (defScope s_is_number) .none kV_is_number dc_is_number pm_is_number an_is_number cd_is_number ct_is_number), sl_is_number⟩)
  (q_is_number : PySem.W.codeIn K cd_is_number "is_number" = true)
  (k_is_number : PySem.W.keepIn K (.ref f_is_number) = true)
  (a_whole_of : PySem.W.nsIn K mainGlobals "whole_of" = some (some (.ref f_whole_of)))
  (l_whole_of : K.lookup f_whole_of = some ⟨oc_whole_of, od_whole_of, .func (PySem.W.fnOf "whole_of" "whole_of" (defArgs s_whole_of) (defBody s_whole_of) (defScope s_whole_of) .none kV_whole_of dc_whole_of pm_whole_of an_whole_of cd_whole_of ct_whole_of), sl_whole_of⟩)
  (q_whole_of : PySem.W.codeIn K cd_whole_of "whole_of" = true)
  (k_whole_of : PySem.W.keepIn K (.ref f_whole_of) = true)
  (a_number_of : PySem.W.nsIn K mainGlobals "number_of" = some (some (.ref f_number_of)))
  (l_number_of : K.lookup f_number_of = some ⟨oc_number_of, od_number_of, .func (PySem.W.fnOf "number_of" "number_of" (defArgs s_number_of) (defBody s_number_of) (defScope s_number_of) .none kV_number_of dc_number_of pm_number_of an_number_of cd_number_of ct_number_of), sl_number_of⟩)
  (q_number_of : PySem.W.codeIn K cd_number_of "number_of" = true)
  (k_number_of : PySem.W.keepIn K (.ref f_number_of) = true)
  (a_read_number : PySem.W.nsIn K mainGlobals "read_number" = some (some (.ref f_read_number)))
  (l_read_number : K.lookup f_read_number = some ⟨oc_read_number, od_read_number, .func (PySem.W.fnOf "read_number" "read_number" (defArgs s_read_number) (defBody s_read_number) (defScope s_read_number) .none kV_read_number dc_read_number pm_read_number an_read_number cd_read_number ct_read_number), sl_read_number⟩)
  (q_read_number : PySem.W.codeIn K cd_read_number "read_number" = true)
  (k_read_number : PySem.W.keepIn K (.ref f_read_number) = true)
  (a_weighed_at : PySem.W.nsIn K mainGlobals "weighed_at" = some (some (.ref f_weighed_at)))
  (l_weighed_at : K.lookup f_weighed_at = some ⟨oc_weighed_at, od_weighed_at, .func (PySem.W.fnOf "weighed_at" "weighed_at" (defArgs s_weighed_at) (defBody s_weighed_at) (defScope s_weighed_at) .none kV_weighed_at dc_weighed_at pm_weighed_at an_weighed_at cd_weighed_at ct_weighed_at), sl_weighed_at⟩)
  (q_weighed_at : PySem.W.codeIn K cd_weighed_at "weighed_at" = true)
  (k_weighed_at : PySem.W.keepIn K (.ref f_weighed_at) = true)
  (a_pair_at : PySem.W.nsIn K mainGlobals "pair_at" = some (some (.ref f_pair_at)))
  (l_pair_at : K.lookup f_pair_at = some ⟨oc_pair_at, od_pair_at, .func (PySem.W.fnOf "pair_at" "pair_at" (defArgs s_pair_at) (defBody s_pair_at) (defScope s_pair_at) .none kV_pair_at dc_pair_at pm_pair_at an_pair_at cd_pair_at ct_pair_at), sl_pair_at⟩)
  (q_pair_at : PySem.W.codeIn K cd_pair_at "pair_at" = true)
  (k_pair_at : PySem.W.keepIn K (.ref f_pair_at) = true)
  (a_part_at : PySem.W.nsIn K mainGlobals "part_at" = some (some (.ref f_part_at)))
  (l_part_at : K.lookup f_part_at = some ⟨oc_part_at, od_part_at, .func (PySem.W.fnOf "part_at" "part_at" (defArgs s_part_at) (defBody s_part_at) (defScope s_part_at) .none kV_part_at dc_part_at pm_part_at an_part_at cd_part_at ct_part_at), sl_part_at⟩)
  (q_part_at : PySem.W.codeIn K cd_part_at "part_at" = true)
  (k_part_at : PySem.W.keepIn K (.ref f_part_at) = true)
  (a_pattern_at : PySem.W.nsIn K mainGlobals "pattern_at" = some (some (.ref f_pattern_at)))
  (l_pattern_at : K.lookup f_pattern_at = some ⟨oc_pattern_at, od_pattern_at, .func (PySem.W.fnOf "pattern_at" "pattern_at" (defArgs s_pattern_at) (defBody s_pattern_at) (defScope s_pattern_at) .none kV_pattern_at dc_pattern_at pm_pattern_at an_pattern_at cd_pattern_at ct_pattern_at), sl_pattern_at⟩)
  (q_pattern_at : PySem.W.codeIn K cd_pattern_at "pattern_at" = true)
  (k_pattern_at : PySem.W.keepIn K (.ref f_pattern_at) = true)
  (a_read_pattern : PySem.W.nsIn K mainGlobals "read_pattern" = some (some (.ref f_read_pattern)))
  (l_read_pattern : K.lookup f_read_pattern = some ⟨oc_read_pattern, od_read_pattern, .func (PySem.W.fnOf "read_pattern" "read_pattern" (defArgs s_read_pattern) (defBody s_read_pattern) (defScope s_read_pattern) .none kV_read_pattern dc_read_pattern pm_read_pattern an_read_pattern cd_read_pattern ct_read_pattern), sl_read_pattern⟩)
  (q_read_pattern : PySem.W.codeIn K cd_read_pattern "read_pattern" = true)
  (k_read_pattern : PySem.W.keepIn K (.ref f_read_pattern) = true)
  (a_show_number : PySem.W.nsIn K mainGlobals "show_number" = some (some (.ref f_show_number)))
  (l_show_number : K.lookup f_show_number = some ⟨oc_show_number, od_show_number, .func (PySem.W.fnOf "show_number" "show_number" (defArgs s_show_number) (defBody s_show_number) (defScope s_show_number) .none kV_show_number dc_show_number pm_show_number an_show_number cd_show_number ct_show_number), sl_show_number⟩)
  (q_show_number : PySem.W.codeIn K cd_show_number "show_number" = true)
  (k_show_number : PySem.W.keepIn K (.ref f_show_number) = true)
  (a_show_pattern : PySem.W.nsIn K mainGlobals "show_pattern" = some (some (.ref f_show_pattern)))
  (l_show_pattern : K.lookup f_show_pattern = some ⟨oc_show_pattern, od_show_pattern, .func (PySem.W.fnOf "show_pattern" "show_pattern" (defArgs s_show_pattern) (defBody s_show_pattern) (defScope s_show_pattern) .none kV_show_pattern dc_show_pattern pm_show_pattern an_show_pattern cd_show_pattern ct_show_pattern), sl_show_pattern⟩)
  (q_show_pattern : PySem.W.codeIn K cd_show_pattern "show_pattern" = true)
  (k_show_pattern : PySem.W.keepIn K (.ref f_show_pattern) = true)
  (a__law_well : PySem.W.nsIn K mainGlobals "_law_well" = some (some (.ref f__law_well)))
  (l__law_well : K.lookup f__law_well = some ⟨oc__law_well, od__law_well, .func (PySem.W.fnOf "_law_well" "_law_well" (defArgs s__law_well) (defBody s__law_well) (defScope s__law_well) .none kV__law_well dc__law_well pm__law_well an__law_well cd__law_well ct__law_well), sl__law_well⟩)
  (q__law_well : PySem.W.codeIn K cd__law_well "_law_well" = true)
  (k__law_well : PySem.W.keepIn K (.ref f__law_well) = true)
  (a__law_dip : PySem.W.nsIn K mainGlobals "_law_dip" = some (some (.ref f__law_dip)))
  (l__law_dip : K.lookup f__law_dip = some ⟨oc__law_dip, od__law_dip, .func (PySem.W.fnOf "_law_dip" "_law_dip" (defArgs s__law_dip) (defBody s__law_dip) (defScope s__law_dip) .none kV__law_dip dc__law_dip pm__law_dip an__law_dip cd__law_dip ct__law_dip), sl__law_dip⟩)
  (q__law_dip : PySem.W.codeIn K cd__law_dip "_law_dip" = true)
  (k__law_dip : PySem.W.keepIn K (.ref f__law_dip) = true)
  (a__law_common : PySem.W.nsIn K mainGlobals "_law_common" = some (some (.ref f__law_common)))
  (l__law_common : K.lookup f__law_common = some ⟨oc__law_common, od__law_common, .func (PySem.W.fnOf "_law_common" "_law_common" (defArgs s__law_common) (defBody s__law_common) (defScope s__law_common) .none kV__law_common dc__law_common pm__law_common an__law_common cd__law_common ct__law_common), sl__law_common⟩)
  (q__law_common : PySem.W.codeIn K cd__law_common "_law_common" = true)
  (k__law_common : PySem.W.keepIn K (.ref f__law_common) = true)
  (a__law_pair : PySem.W.nsIn K mainGlobals "_law_pair" = some (some (.ref f__law_pair)))
  (l__law_pair : K.lookup f__law_pair = some ⟨oc__law_pair, od__law_pair, .func (PySem.W.fnOf "_law_pair" "_law_pair" (defArgs s__law_pair) (defBody s__law_pair) (defScope s__law_pair) .none kV__law_pair dc__law_pair pm__law_pair an__law_pair cd__law_pair ct__law_pair), sl__law_pair⟩)
  (q__law_pair : PySem.W.codeIn K cd__law_pair "_law_pair" = true)
  (k__law_pair : PySem.W.keepIn K (.ref f__law_pair) = true)
  (a__law_said : PySem.W.nsIn K mainGlobals "_law_said" = some (some (.ref f__law_said)))
  (l__law_said : K.lookup f__law_said = some ⟨oc__law_said, od__law_said, .func (PySem.W.fnOf "_law_said" "_law_said" (defArgs s__law_said) (defBody s__law_said) (defScope s__law_said) .none kV__law_said dc__law_said pm__law_said an__law_said cd__law_said ct__law_said), sl__law_said⟩)
  (q__law_said : PySem.W.codeIn K cd__law_said "_law_said" = true)
  (k__law_said : PySem.W.keepIn K (.ref f__law_said) = true)
  (a__law_leaf : PySem.W.nsIn K mainGlobals "_law_leaf" = some (some (.ref f__law_leaf)))
  (l__law_leaf : K.lookup f__law_leaf = some ⟨oc__law_leaf, od__law_leaf, .func (PySem.W.fnOf "_law_leaf" "_law_leaf" (defArgs s__law_leaf) (defBody s__law_leaf) (defScope s__law_leaf) .none kV__law_leaf dc__law_leaf pm__law_leaf an__law_leaf cd__law_leaf ct__law_leaf), sl__law_leaf⟩)
  (q__law_leaf : PySem.W.codeIn K cd__law_leaf "_law_leaf" = true)
  (k__law_leaf : PySem.W.keepIn K (.ref f__law_leaf) = true)
  (a__law_tree : PySem.W.nsIn K mainGlobals "_law_tree" = some (some (.ref f__law_tree)))
  (l__law_tree : K.lookup f__law_tree = some ⟨oc__law_tree, od__law_tree, .func (PySem.W.fnOf "_law_tree" "_law_tree" (defArgs s__law_tree) (defBody s__law_tree) (defScope s__law_tree) .none kV__law_tree dc__law_tree pm__law_tree an__law_tree cd__law_tree ct__law_tree), sl__law_tree⟩)
  (q__law_tree : PySem.W.codeIn K cd__law_tree "_law_tree" = true)
  (k__law_tree : PySem.W.keepIn K (.ref f__law_tree) = true)
  (a__law_words : PySem.W.nsIn K mainGlobals "_law_words" = some (some (.ref f__law_words)))
  (l__law_words : K.lookup f__law_words = some ⟨oc__law_words, od__law_words, .func (PySem.W.fnOf "_law_words" "_law_words" (defArgs s__law_words) (defBody s__law_words) (defScope s__law_words) .none kV__law_words dc__law_words pm__law_words an__law_words cd__law_words ct__law_words), sl__law_words⟩)
  (q__law_words : PySem.W.codeIn K cd__law_words "_law_words" = true)
  (k__law_words : PySem.W.keepIn K (.ref f__law_words) = true)
  (a__law_chain : PySem.W.nsIn K mainGlobals "_law_chain" = some (some (.ref f__law_chain)))
  (l__law_chain : K.lookup f__law_chain = some ⟨oc__law_chain, od__law_chain, .func (PySem.W.fnOf "_law_chain" "_law_chain" (defArgs s__law_chain) (defBody s__law_chain) (defScope s__law_chain) .none kV__law_chain dc__law_chain pm__law_chain an__law_chain cd__law_chain ct__law_chain), sl__law_chain⟩)
  (q__law_chain : PySem.W.codeIn K cd__law_chain "_law_chain" = true)
  (k__law_chain : PySem.W.keepIn K (.ref f__law_chain) = true)
  (a__law_same : PySem.W.nsIn K mainGlobals "_law_same" = some (some (.ref f__law_same)))
  (l__law_same : K.lookup f__law_same = some ⟨oc__law_same, od__law_same, .func (PySem.W.fnOf "_law_same" "_law_same" (defArgs s__law_same) (defBody s__law_same) (defScope s__law_same) .none kV__law_same dc__law_same pm__law_same an__law_same cd__law_same ct__law_same), sl__law_same⟩)
  (q__law_same : PySem.W.codeIn K cd__law_same "_law_same" = true)
  (k__law_same : PySem.W.keepIn K (.ref f__law_same) = true)
  (a__law_numbers_right : PySem.W.nsIn K mainGlobals "_law_numbers_right" = some (some (.ref f__law_numbers_right)))
  (l__law_numbers_right : K.lookup f__law_numbers_right = some ⟨oc__law_numbers_right, od__law_numbers_right, .func (PySem.W.fnOf "_law_numbers_right" "_law_numbers_right" (defArgs s__law_numbers_right) (defBody s__law_numbers_right) (defScope s__law_numbers_right) .none kV__law_numbers_right dc__law_numbers_right pm__law_numbers_right an__law_numbers_right cd__law_numbers_right ct__law_numbers_right), sl__law_numbers_right⟩)
  (q__law_numbers_right : PySem.W.codeIn K cd__law_numbers_right "_law_numbers_right" = true)
  (k__law_numbers_right : PySem.W.keepIn K (.ref f__law_numbers_right) = true)
  (a__law_patterns_right : PySem.W.nsIn K mainGlobals "_law_patterns_right" = some (some (.ref f__law_patterns_right)))
  (l__law_patterns_right : K.lookup f__law_patterns_right = some ⟨oc__law_patterns_right, od__law_patterns_right, .func (PySem.W.fnOf "_law_patterns_right" "_law_patterns_right" (defArgs s__law_patterns_right) (defBody s__law_patterns_right) (defScope s__law_patterns_right) .none kV__law_patterns_right dc__law_patterns_right pm__law_patterns_right an__law_patterns_right cd__law_patterns_right ct__law_patterns_right), sl__law_patterns_right⟩)
  (q__law_patterns_right : PySem.W.codeIn K cd__law_patterns_right "_law_patterns_right" = true)
  (k__law_patterns_right : PySem.W.keepIn K (.ref f__law_patterns_right) = true)
  (a_law : PySem.W.nsIn K mainGlobals "law" = some (some (.ref f_law)))
  (l_law : K.lookup f_law = some ⟨oc_law, od_law, .func (PySem.W.fnOf "law" "law" (defArgs s_law) (defBody s_law) (defScope s_law) .none kV_law dc_law pm_law an_law cd_law ct_law), sl_law⟩)
  (q_law : PySem.W.codeIn K cd_law "law" = true)
  (k_law : PySem.W.keepIn K (.ref f_law) = true)
  (z_int : PySem.W.nsIn K mainGlobals "int" = some none)
  (z_isinstance : PySem.W.nsIn K mainGlobals "isinstance" = some none)
  (z_list : PySem.W.nsIn K mainGlobals "list" = some none)
  (z_tuple : PySem.W.nsIn K mainGlobals "tuple" = some none)
  (z_len : PySem.W.nsIn K mainGlobals "len" = some none)
  (z_str : PySem.W.nsIn K mainGlobals "str" = some none)
  (z_bool : PySem.W.nsIn K mainGlobals "bool" = some none)
  (z_range : PySem.W.nsIn K mainGlobals "range" = some none)
  (z_ValueError : PySem.W.nsIn K mainGlobals "ValueError" = some none)
  (z_abs : PySem.W.nsIn K mainGlobals "abs" = some none)
  (z_max : PySem.W.nsIn K mainGlobals "max" = some none)
  (z_min : PySem.W.nsIn K mainGlobals "min" = some none)
  (z_all : PySem.W.nsIn K mainGlobals "all" = some none)
  (z_gcd : PySem.W.nsIn K mainGlobals "gcd" = some (some (.builtin "math.gcd")))
  (z_LETTERS : PySem.W.nsIn K mainGlobals "LETTERS" = some (some (.str "abcdefghijklmnopqrstuvwxyz" tLE)))
  (z_DIGITS : PySem.W.nsIn K mainGlobals "DIGITS" = some (some (.str "0123456789" tDI)))
  (z_MOST_DIGITS : PySem.W.nsIn K mainGlobals "MOST_DIGITS" = some (some (.int 9 tMD)))
  (aC_WorthError : PySem.W.nsIn K mainGlobals "WorthError" = some (some (.ref A_WorthError)))
  (xC_WorthError : K.lookup A_WorthError = some (excClassObj nm_WorthError qn_WorthError A_WorthError N_WorthError bs_WorthError bm_WorthError true sn_WorthError sub_WorthError ab_WorthError col_WorthError dd_WorthError m0_WorthError m1_WorthError m2_WorthError m3_WorthError m5_WorthError "ValueError.__new__"))
  (rC_WorthError : PySem.HandSPX.refsVE bm_WorthError = true)
  (sa_WorthError : PySem.W.findIn K (.ref A_WorthError) "__setattr__" = some (some (.builtin "object.__setattr__")))
  (eC_WorthError : PySem.W.subIn K (.ref A_WorthError) (.type "BaseException") = some true)
  (tC_WorthError : PySem.W.typeIn K (.ref A_WorthError) = some (.type "type"))
  (kC_WorthError : PySem.W.keepIn K (.ref A_WorthError) = true)
  (nv_WorthError : PySem.W.findIn K (.ref A_WorthError) "value" = some none)
  (ga_WorthError : PySem.W.findIn K (.ref A_WorthError) "__getattribute__" = some (some (.builtin "BaseException.__getattribute__")))
  (gg_WorthError : PySem.W.findIn K (.ref A_WorthError) "__getattr__" = some none)
  (hd_WorthError : PySem.W.hasDictIn K A_WorthError = true)
  (ha_WorthError : PySem.W.findIn K (.ref A_WorthError) "__class__" = some (some (.builtin "object.__class__")))
  (hm_WorthError : PySem.W.mroIn K A_WorthError (.type "object") = some true)
  (iI_WorthError : PySem.W.findIn K (.ref A_WorthError) "__init__" = some (some (.ref fI)))
  (aC_Unreadable : PySem.W.nsIn K mainGlobals "Unreadable" = some (some (.ref A_Unreadable)))
  (xC_Unreadable : K.lookup A_Unreadable = some (excClassObj nm_Unreadable qn_Unreadable A_Unreadable N_Unreadable bs_Unreadable bm_Unreadable true sn_Unreadable sub_Unreadable ab_Unreadable col_Unreadable dd_Unreadable m0_Unreadable m1_Unreadable m2_Unreadable m3_Unreadable m5_Unreadable "ValueError.__new__"))
  (rC_Unreadable : PySem.HandSPX.refsVE bm_Unreadable = true)
  (sa_Unreadable : PySem.W.findIn K (.ref A_Unreadable) "__setattr__" = some (some (.builtin "object.__setattr__")))
  (eC_Unreadable : PySem.W.subIn K (.ref A_Unreadable) (.type "BaseException") = some true)
  (tC_Unreadable : PySem.W.typeIn K (.ref A_Unreadable) = some (.type "type"))
  (kC_Unreadable : PySem.W.keepIn K (.ref A_Unreadable) = true)
  (nv_Unreadable : PySem.W.findIn K (.ref A_Unreadable) "value" = some none)
  (ga_Unreadable : PySem.W.findIn K (.ref A_Unreadable) "__getattribute__" = some (some (.builtin "BaseException.__getattribute__")))
  (gg_Unreadable : PySem.W.findIn K (.ref A_Unreadable) "__getattr__" = some none)
  (hd_Unreadable : PySem.W.hasDictIn K A_Unreadable = true)
  (ha_Unreadable : PySem.W.findIn K (.ref A_Unreadable) "__class__" = some (some (.builtin "object.__class__")))
  (hm_Unreadable : PySem.W.mroIn K A_Unreadable (.type "object") = some true)
  (iI_Unreadable : PySem.W.findIn K (.ref A_Unreadable) "__init__" = some (some (.ref fI)))
  (hn : PySem.W.specialIn K (.builtin "object.__class__") "__get__" = some (some (.builtin "getset_descriptor.__get__")))
  (ht : PySem.W.takesIn K (.builtin "object.__class__") = some true)
  (tI : PySem.W.typeIn K (.ref fI) = some (.type "function"))
  (lI : K.lookup fI = some ⟨ocI, odI, .func (PySem.W.fnOf "__init__" "WorthError.__init__" (defArgs s_WorthError___init__) (defBody s_WorthError___init__) (defScope s_WorthError___init__) .none kVI dcI pmI anI cdI ctI), slI⟩)
  (cI : PySem.W.codeIn K cdI "WorthError.__init__" = true)
  (kI : PySem.W.keepIn K (.ref fI) = true)
  (vV : PySem.W.findCls K (.type "ValueError") (.type "type") "__init__" = some (.val (.builtin "ValueError.__init__"))) :
  ∃ fd : FuncData, (∀ (s : Shared) (u : Value), BindsTo s fd ⟨[u], []⟩ [("_law_script", u)]) ∧ ∀ base : Heap, K.In base → base.Ns mainGlobals mg → FnOk P w K mg base CX0 77 fa fd ["_law_script"] (spD K 1 P_law) := by
  have S_is_number : Std K mg "is_number" s_is_number := ⟨_, _, PySem.W.mg_of X G a_is_number, fun_mk (st := s_is_number) l_is_number q_is_number k_is_number⟩
  have S_whole_of : Std K mg "whole_of" s_whole_of := ⟨_, _, PySem.W.mg_of X G a_whole_of, fun_mk (st := s_whole_of) l_whole_of q_whole_of k_whole_of⟩
  have S_number_of : Std K mg "number_of" s_number_of := ⟨_, _, PySem.W.mg_of X G a_number_of, fun_mk (st := s_number_of) l_number_of q_number_of k_number_of⟩
  have S_read_number : Std K mg "read_number" s_read_number := ⟨_, _, PySem.W.mg_of X G a_read_number, fun_mk (st := s_read_number) l_read_number q_read_number k_read_number⟩
  have S_weighed_at : Std K mg "weighed_at" s_weighed_at := ⟨_, _, PySem.W.mg_of X G a_weighed_at, fun_mk (st := s_weighed_at) l_weighed_at q_weighed_at k_weighed_at⟩
  have S_pair_at : Std K mg "pair_at" s_pair_at := ⟨_, _, PySem.W.mg_of X G a_pair_at, fun_mk (st := s_pair_at) l_pair_at q_pair_at k_pair_at⟩
  have S_part_at : Std K mg "part_at" s_part_at := ⟨_, _, PySem.W.mg_of X G a_part_at, fun_mk (st := s_part_at) l_part_at q_part_at k_part_at⟩
  have S_pattern_at : Std K mg "pattern_at" s_pattern_at := ⟨_, _, PySem.W.mg_of X G a_pattern_at, fun_mk (st := s_pattern_at) l_pattern_at q_pattern_at k_pattern_at⟩
  have S_read_pattern : Std K mg "read_pattern" s_read_pattern := ⟨_, _, PySem.W.mg_of X G a_read_pattern, fun_mk (st := s_read_pattern) l_read_pattern q_read_pattern k_read_pattern⟩
  have S_show_number : Std K mg "show_number" s_show_number := ⟨_, _, PySem.W.mg_of X G a_show_number, fun_mk (st := s_show_number) l_show_number q_show_number k_show_number⟩
  have S_show_pattern : Std K mg "show_pattern" s_show_pattern := ⟨_, _, PySem.W.mg_of X G a_show_pattern, fun_mk (st := s_show_pattern) l_show_pattern q_show_pattern k_show_pattern⟩
  have S__law_well : Std K mg "_law_well" s__law_well := ⟨_, _, PySem.W.mg_of X G a__law_well, fun_mk (st := s__law_well) l__law_well q__law_well k__law_well⟩
  have S__law_dip : Std K mg "_law_dip" s__law_dip := ⟨_, _, PySem.W.mg_of X G a__law_dip, fun_mk (st := s__law_dip) l__law_dip q__law_dip k__law_dip⟩
  have S__law_common : Std K mg "_law_common" s__law_common := ⟨_, _, PySem.W.mg_of X G a__law_common, fun_mk (st := s__law_common) l__law_common q__law_common k__law_common⟩
  have S__law_pair : Std K mg "_law_pair" s__law_pair := ⟨_, _, PySem.W.mg_of X G a__law_pair, fun_mk (st := s__law_pair) l__law_pair q__law_pair k__law_pair⟩
  have S__law_said : Std K mg "_law_said" s__law_said := ⟨_, _, PySem.W.mg_of X G a__law_said, fun_mk (st := s__law_said) l__law_said q__law_said k__law_said⟩
  have S__law_leaf : Std K mg "_law_leaf" s__law_leaf := ⟨_, _, PySem.W.mg_of X G a__law_leaf, fun_mk (st := s__law_leaf) l__law_leaf q__law_leaf k__law_leaf⟩
  have S__law_tree : Std K mg "_law_tree" s__law_tree := ⟨_, _, PySem.W.mg_of X G a__law_tree, fun_mk (st := s__law_tree) l__law_tree q__law_tree k__law_tree⟩
  have S__law_words : Std K mg "_law_words" s__law_words := ⟨_, _, PySem.W.mg_of X G a__law_words, fun_mk (st := s__law_words) l__law_words q__law_words k__law_words⟩
  have S__law_chain : Std K mg "_law_chain" s__law_chain := ⟨_, _, PySem.W.mg_of X G a__law_chain, fun_mk (st := s__law_chain) l__law_chain q__law_chain k__law_chain⟩
  have S__law_same : Std K mg "_law_same" s__law_same := ⟨_, _, PySem.W.mg_of X G a__law_same, fun_mk (st := s__law_same) l__law_same q__law_same k__law_same⟩
  have S__law_numbers_right : Std K mg "_law_numbers_right" s__law_numbers_right := ⟨_, _, PySem.W.mg_of X G a__law_numbers_right, fun_mk (st := s__law_numbers_right) l__law_numbers_right q__law_numbers_right k__law_numbers_right⟩
  have S__law_patterns_right : Std K mg "_law_patterns_right" s__law_patterns_right := ⟨_, _, PySem.W.mg_of X G a__law_patterns_right, fun_mk (st := s__law_patterns_right) l__law_patterns_right q__law_patterns_right k__law_patterns_right⟩
  have S_law : Std K mg "law" s_law := ⟨_, _, PySem.W.mg_of X G a_law, fun_mk (st := s_law) l_law q_law k_law⟩
  have n_int : mg "int" = none := PySem.W.mg_none_of X G z_int
  have n_isinstance : mg "isinstance" = none := PySem.W.mg_none_of X G z_isinstance
  have n_list : mg "list" = none := PySem.W.mg_none_of X G z_list
  have n_tuple : mg "tuple" = none := PySem.W.mg_none_of X G z_tuple
  have n_len : mg "len" = none := PySem.W.mg_none_of X G z_len
  have n_str : mg "str" = none := PySem.W.mg_none_of X G z_str
  have n_bool : mg "bool" = none := PySem.W.mg_none_of X G z_bool
  have n_range : mg "range" = none := PySem.W.mg_none_of X G z_range
  have n_ValueError : mg "ValueError" = none := PySem.W.mg_none_of X G z_ValueError
  have n_abs : mg "abs" = none := PySem.W.mg_none_of X G z_abs
  have n_max : mg "max" = none := PySem.W.mg_none_of X G z_max
  have n_min : mg "min" = none := PySem.W.mg_none_of X G z_min
  have n_all : mg "all" = none := PySem.W.mg_none_of X G z_all
  have m_gcd : mg "gcd" = some (.builtin "math.gcd") := PySem.W.mg_of X G z_gcd
  have m_LETTERS : mg "LETTERS" = some (.str "abcdefghijklmnopqrstuvwxyz" tLE) := PySem.W.mg_of X G z_LETTERS
  have m_DIGITS : mg "DIGITS" = some (.str "0123456789" tDI) := PySem.W.mg_of X G z_DIGITS
  have m_MOST_DIGITS : mg "MOST_DIGITS" = some (.int 9 tMD) := PySem.W.mg_of X G z_MOST_DIGITS
  have X_WorthError : ExcD K mg "WorthError" A_WorthError fI := ⟨PySem.W.mg_of X G aC_WorthError, ⟨⟨⟨_, _, _, _, _, _, _, _, _, _, _, _, _, _, _, xC_WorthError, rC_WorthError⟩, sa_WorthError, eC_WorthError, tC_WorthError, kC_WorthError⟩, nv_WorthError, ga_WorthError, gg_WorthError, hd_WorthError, ha_WorthError, hm_WorthError⟩, iI_WorthError⟩
  have X_Unreadable : ExcD K mg "Unreadable" A_Unreadable fI := ⟨PySem.W.mg_of X G aC_Unreadable, ⟨⟨⟨_, _, _, _, _, _, _, _, _, _, _, _, _, _, _, xC_Unreadable, rC_Unreadable⟩, sa_Unreadable, eC_Unreadable, tC_Unreadable, kC_Unreadable⟩, nv_Unreadable, ga_Unreadable, gg_Unreadable, hd_Unreadable, ha_Unreadable, hm_Unreadable⟩, iI_Unreadable⟩
  have Gc : ClsG K := ⟨hn, ht⟩
  have FI := fun_mk (st := s_WorthError___init__) lI cI kI
  have e := hfa.symm.trans (PySem.W.mg_of X G a_law)
  cases e
  have Fl := fun_mk (st := s_law) l_law q_law k_law
  refine ⟨_, fun s u => .of_eq rfl, fun base _ _ => cal_at (x := "law") (st := s_law) ?_ hfa Fl⟩
  have G_init : IniD P w K mg base fI := ⟨_, tI, ini_ok FI sc_WorthError___init__ (fun cdv A outer s H E => pss_cons (ps_expr (pe_veinit (by rfl) n_ValueError vV (pa_cons (pv 0) (pa_cons (pv 1) pa_nil)))) (pss_one (ps_ost (pv 0) (pv 1)))), FI.binds (ps := ["self", "value"]) fun _ _ _ _ _ _ us hl => match us, hl with | [_, _], _ => rfl⟩
  have C_is_number := c_is_number (P := P) (w := w) (base := base) S_is_number m_gcd
  have C_show_number := c_show_number (P := P) (w := w) (mg := mg) (base := base) S_show_number
  have C_said := c_said (P := P) (w := w) (base := base) S__law_said n_str
  have C_whole := c_whole (P := P) (w := w) (base := base) S_whole_of n_len n_all n_int m_DIGITS m_MOST_DIGITS
  have C_number := c_number S_number_of C_whole C_is_number
  have C_readX := c_read_number S_read_number X_Unreadable G_init C_number
  have C_read := C_readX.to0 (P0 := P_number) (fun _ _ _ _ z => z)
  have C_show := c_show S_show_pattern C_show_number 22
  have C_words := c_words S__law_words C_said 22
  have C_pattern := c_pattern S_pattern_at S_part_at S_pair_at S_weighed_at n_len m_LETTERS C_number 24
  have C_readpX := c_read_pattern S_read_pattern n_len X_Unreadable G_init C_pattern
  have C_readp := C_readpX.to0 (P0 := P_readp A_Unreadable) (fun _ _ _ _ z => z)
  have C_same := c_same (P := P) (w := w) (base := base) S__law_same n_isinstance n_list n_tuple n_len n_range n_str n_bool n_int 26
  have C_well := c_well (P := P) (w := w) (base := base) S__law_well n_int n_len n_max n_abs
  have C_dip := c_dip (P := P) (w := w) (base := base) S__law_dip n_int
  have C_common := c_common (P := P) (w := w) (base := base) S__law_common n_abs n_int
  have C_leaf := c_leaf S__law_leaf C_dip
  have C_pair := c_lpair S__law_pair C_dip C_common
  have C_tree := cal_or (c_tree S__law_tree n_int C_dip C_pair C_leaf 12) ((c_tree S__law_tree n_int C_dip C_pair C_leaf 5).mono (by decide))
  have C_chain := c_chain S__law_chain n_range C_dip C_pair C_leaf
  have C_nr := c_nright S__law_numbers_right C_pair C_said C_show_number C_read C_same
  have C_pr := c_pright S__law_patterns_right C_dip C_tree C_chain C_words C_show C_readp C_same
  exact c_law S_law n_range n_len n_max n_min C_well C_nr C_pr
end DL
open PySem PySem.W PyProof.Rows
set_option maxRecDepth 100000 in
set_option maxHeartbeats 0 in
theorem PySem.Challenge.cw_textworths_k85_whole_patterns_there_and_holds : PySem.Challenge.rw_textworths_k85_whole_patterns_there_and.Holds := by
  w_on; o_law; k_head; (case hw => w_witness2)
  k_fill
  refine L2.walk_ofB (n := 63) (k := 77) (x := "_law_script") (CX := fun _ => L2.CX0) (sp := fun w => DL.spD _ 1 DL.P_law) rfl (by decide) rfl ⟨rfl, by decide, by decide⟩ (fun w h Y => PySem.W.kIn_of Y) ?F (fun w H a ns hl hb hO hs => DL.sp_start (DL.law_end) H a ns hl hb hO hs) (fun _ _ _ _ _ z => z)
  case F =>
    intro w mg fa h KX G hmg
    refine' DL.all_mk KX G hmg ?a_is_number ?l_is_number ?q_is_number ?k_is_number ?a_whole_of ?l_whole_of ?q_whole_of ?k_whole_of ?a_number_of ?l_number_of ?q_number_of ?k_number_of ?a_read_number ?l_read_number ?q_read_number ?k_read_number ?a_weighed_at ?l_weighed_at ?q_weighed_at ?k_weighed_at ?a_pair_at ?l_pair_at ?q_pair_at ?k_pair_at ?a_part_at ?l_part_at ?q_part_at ?k_part_at ?a_pattern_at ?l_pattern_at ?q_pattern_at ?k_pattern_at ?a_read_pattern ?l_read_pattern ?q_read_pattern ?k_read_pattern ?a_show_number ?l_show_number ?q_show_number ?k_show_number ?a_show_pattern ?l_show_pattern ?q_show_pattern ?k_show_pattern ?a__law_well ?l__law_well ?q__law_well ?k__law_well ?a__law_dip ?l__law_dip ?q__law_dip ?k__law_dip ?a__law_common ?l__law_common ?q__law_common ?k__law_common ?a__law_pair ?l__law_pair ?q__law_pair ?k__law_pair ?a__law_said ?l__law_said ?q__law_said ?k__law_said ?a__law_leaf ?l__law_leaf ?q__law_leaf ?k__law_leaf ?a__law_tree ?l__law_tree ?q__law_tree ?k__law_tree ?a__law_words ?l__law_words ?q__law_words ?k__law_words ?a__law_chain ?l__law_chain ?q__law_chain ?k__law_chain ?a__law_same ?l__law_same ?q__law_same ?k__law_same ?a__law_numbers_right ?l__law_numbers_right ?q__law_numbers_right ?k__law_numbers_right ?a__law_patterns_right ?l__law_patterns_right ?q__law_patterns_right ?k__law_patterns_right ?a_law ?l_law ?q_law ?k_law ?z_int ?z_isinstance ?z_list ?z_tuple ?z_len ?z_str ?z_bool ?z_range ?z_ValueError ?z_abs ?z_max ?z_min ?z_all ?z_gcd ?z_LETTERS ?z_DIGITS ?z_MOST_DIGITS ?aC_WorthError ?xC_WorthError ?rC_WorthError ?sa_WorthError ?eC_WorthError ?tC_WorthError ?kC_WorthError ?nv_WorthError ?ga_WorthError ?gg_WorthError ?hd_WorthError ?ha_WorthError ?hm_WorthError ?iI_WorthError ?aC_Unreadable ?xC_Unreadable ?rC_Unreadable ?sa_Unreadable ?eC_Unreadable ?tC_Unreadable ?kC_Unreadable ?nv_Unreadable ?ga_Unreadable ?gg_Unreadable ?hd_Unreadable ?ha_Unreadable ?hm_Unreadable ?iI_Unreadable ?hn ?ht ?tI ?lI ?cI ?kI ?vV
    (case a_is_number => k_is)
    (case l_is_number => k_is)
    (case q_is_number => k_is)
    (case k_is_number => k_is)
    (case a_whole_of => k_is)
    (case l_whole_of => k_is)
    (case q_whole_of => k_is)
    (case k_whole_of => k_is)
    (case a_number_of => k_is)
    (case l_number_of => k_is)
    (case q_number_of => k_is)
    (case k_number_of => k_is)
    (case a_read_number => k_is)
    (case l_read_number => k_is)
    (case q_read_number => k_is)
    (case k_read_number => k_is)
    (case a_weighed_at => k_is)
    (case l_weighed_at => k_is)
    (case q_weighed_at => k_is)
    (case k_weighed_at => k_is)
    (case a_pair_at => k_is)
    (case l_pair_at => k_is)
    (case q_pair_at => k_is)
    (case k_pair_at => k_is)
    (case a_part_at => k_is)
    (case l_part_at => k_is)
    (case q_part_at => k_is)
    (case k_part_at => k_is)
    (case a_pattern_at => k_is)
    (case l_pattern_at => k_is)
    (case q_pattern_at => k_is)
    (case k_pattern_at => k_is)
    (case a_read_pattern => k_is)
    (case l_read_pattern => k_is)
    (case q_read_pattern => k_is)
    (case k_read_pattern => k_is)
    (case a_show_number => k_is)
    (case l_show_number => k_is)
    (case q_show_number => k_is)
    (case k_show_number => k_is)
    (case a_show_pattern => k_is)
    (case l_show_pattern => k_is)
    (case q_show_pattern => k_is)
    (case k_show_pattern => k_is)
    (case a__law_well => k_is)
    (case l__law_well => k_is)
    (case q__law_well => k_is)
    (case k__law_well => k_is)
    (case a__law_dip => k_is)
    (case l__law_dip => k_is)
    (case q__law_dip => k_is)
    (case k__law_dip => k_is)
    (case a__law_common => k_is)
    (case l__law_common => k_is)
    (case q__law_common => k_is)
    (case k__law_common => k_is)
    (case a__law_pair => k_is)
    (case l__law_pair => k_is)
    (case q__law_pair => k_is)
    (case k__law_pair => k_is)
    (case a__law_said => k_is)
    (case l__law_said => k_is)
    (case q__law_said => k_is)
    (case k__law_said => k_is)
    (case a__law_leaf => k_is)
    (case l__law_leaf => k_is)
    (case q__law_leaf => k_is)
    (case k__law_leaf => k_is)
    (case a__law_tree => k_is)
    (case l__law_tree => k_is)
    (case q__law_tree => k_is)
    (case k__law_tree => k_is)
    (case a__law_words => k_is)
    (case l__law_words => k_is)
    (case q__law_words => k_is)
    (case k__law_words => k_is)
    (case a__law_chain => k_is)
    (case l__law_chain => k_is)
    (case q__law_chain => k_is)
    (case k__law_chain => k_is)
    (case a__law_same => k_is)
    (case l__law_same => k_is)
    (case q__law_same => k_is)
    (case k__law_same => k_is)
    (case a__law_numbers_right => k_is)
    (case l__law_numbers_right => k_is)
    (case q__law_numbers_right => k_is)
    (case k__law_numbers_right => k_is)
    (case a__law_patterns_right => k_is)
    (case l__law_patterns_right => k_is)
    (case q__law_patterns_right => k_is)
    (case k__law_patterns_right => k_is)
    (case a_law => k_is)
    (case l_law => k_is)
    (case q_law => k_is)
    (case k_law => k_is)
    (case z_int => k_is)
    (case z_isinstance => k_is)
    (case z_list => k_is)
    (case z_tuple => k_is)
    (case z_len => k_is)
    (case z_str => k_is)
    (case z_bool => k_is)
    (case z_range => k_is)
    (case z_ValueError => k_is)
    (case z_abs => k_is)
    (case z_max => k_is)
    (case z_min => k_is)
    (case z_all => k_is)
    (case z_gcd => k_is)
    (case z_LETTERS => k_is)
    (case z_DIGITS => k_is)
    (case z_MOST_DIGITS => k_is)
    (case aC_WorthError => k_is)
    (case xC_WorthError => k_is)
    (case rC_WorthError => decide +kernel)
    (case sa_WorthError => k_is)
    (case eC_WorthError => k_is)
    (case tC_WorthError => k_is)
    (case kC_WorthError => k_is)
    (case nv_WorthError => k_is)
    (case ga_WorthError => k_is)
    (case gg_WorthError => k_is)
    (case hd_WorthError => k_is)
    (case ha_WorthError => k_is)
    (case hm_WorthError => k_is)
    (case iI_WorthError => k_is)
    (case aC_Unreadable => k_is)
    (case xC_Unreadable => k_is)
    (case rC_Unreadable => decide +kernel)
    (case sa_Unreadable => k_is)
    (case eC_Unreadable => k_is)
    (case tC_Unreadable => k_is)
    (case kC_Unreadable => k_is)
    (case nv_Unreadable => k_is)
    (case ga_Unreadable => k_is)
    (case gg_Unreadable => k_is)
    (case hd_Unreadable => k_is)
    (case ha_Unreadable => k_is)
    (case hm_Unreadable => k_is)
    (case iI_Unreadable => k_is)
    (case hn => k_is)
    (case ht => k_is)
    (case tI => k_is)
    (case lI => k_is)
    (case cI => k_is)
    (case kI => k_is)
    (case vV => k_is)
