import PyProof.Rows.All
import Wide.All
import OpenK.AllK
import Wide.FinOn
import HandS.ForMost
import HandS.IsInst
import HandS.TupAny
import HandS.Style
import HandS.Zip
import HandS.Deep
import HandS.Wide
import PyProof.ReprLen
import PyProof.ReprRoads
import PySem.Challenge.RW_hoarseheath_k01_plans_or_not
set_option Elab.async false
set_option linter.all false
set_option autoImplicit false
set_option maxRecDepth 100000
set_option maxHeartbeats 4000000
namespace Mm
open PySem L2
abbrev Dt := PyData
abbrev Frg := PySem.W.Frag
def kD : Key → Dt | .inl i => .int i | .inr s => .str s
mutual
def Rep (H : Hp) : Dt → V → Prop
  | .none, v => v = .non
  | .bool b, v => v = .bl b
  | .int i, v => v = .int i
  | .str x, v => v = .str x
  | .list ds, v => ∃ a xs, v = .ref a ∧ H a = some (.lst xs) ∧ RepAll H ds xs
  | .tuple ds, v => ∃ a xs, v = .ref a ∧ H a = some (.tup xs) ∧ RepAll H ds xs
  | .dict kvs, v => ∃ a xs, v = .ref a ∧ H a = some (.dK xs) ∧ RepKv H kvs xs
def RepAll (H : Hp) : List Dt → List V → Prop
  | [], xs => xs = []
  | d :: ds, xs => ∃ v vs, xs = v :: vs ∧ Rep H d v ∧ RepAll H ds vs
def RepKv (H : Hp) : List (Dt × Dt) → List (Key × V) → Prop
  | [], xs => xs = []
  | (k, d) :: ds, xs => ∃ q v vs, xs = (q, v) :: vs ∧ k = kD q ∧ Rep H d v ∧ RepKv H ds vs
end
mutual
theorem rep_mono {H H' : Hp} (e : Same H H') : ∀ (d : Dt) (v : V), Rep H d v → Rep H' d v
  | .none, _, h => h
  | .bool _, _, h => h
  | .int _, _, h => h
  | .str _, _, h => h
  | .list ds, _, h => by
    obtain ⟨a, xs, rfl, h1, h2⟩ := h
    exact ⟨a, xs, rfl, e _ _ h1, repAll_mono e ds xs h2⟩
  | .tuple ds, _, h => by
    obtain ⟨a, xs, rfl, h1, h2⟩ := h
    exact ⟨a, xs, rfl, e _ _ h1, repAll_mono e ds xs h2⟩
  | .dict kvs, _, h => by
    obtain ⟨a, xs, rfl, h1, h2⟩ := h
    exact ⟨a, xs, rfl, e _ _ h1, repKv_mono e kvs xs h2⟩
theorem repAll_mono {H H' : Hp} (e : Same H H') : ∀ (ds : List Dt) (vs : List V), RepAll H ds vs → RepAll H' ds vs
  | [], _, h => h
  | d :: ds, _, h => by
    obtain ⟨v, vs, rfl, h1, h2⟩ := h
    exact ⟨v, vs, rfl, rep_mono e d v h1, repAll_mono e ds vs h2⟩
theorem repKv_mono {H H' : Hp} (e : Same H H') : ∀ (ds : List (Dt × Dt)) (vs : List (Key × V)), RepKv H ds vs → RepKv H' ds vs
  | [], _, h => h
  | (k, d) :: ds, _, h => by
    obtain ⟨q, v, vs, rfl, h0, h1, h2⟩ := h
    exact ⟨q, v, vs, rfl, h0, rep_mono e d v h1, repKv_mono e ds vs h2⟩
end
theorem repAll_len {H : Hp} : ∀ {ds : List Dt} {vs : List V}, RepAll H ds vs → ds.length = vs.length
  | [], _, h => by cases h; rfl
  | d :: ds, _, h => by
    obtain ⟨v, vs, rfl, _, h2⟩ := h
    simp [repAll_len h2]
theorem repAll_get {H : Hp} : ∀ {ds : List Dt} {vs : List V}, RepAll H ds vs → ∀ {i : Nat} {d : Dt}, ds[i]? = some d → ∃ v, vs[i]? = some v ∧ Rep H d v
  | [], _, _, i, d, e => by simp at e
  | d :: ds, _, h, i, d', e => by
    obtain ⟨v, vs, rfl, h1, h2⟩ := h
    cases i with
    | zero => simp at e; subst e; exact ⟨v, rfl, h1⟩
    | succ i => simpa using repAll_get h2 (i := i) (d := d') (by simpa using e)
theorem repAll_app {H : Hp} : ∀ {ds es : List Dt} {vs ws : List V}, RepAll H ds vs → RepAll H es ws → RepAll H (ds ++ es) (vs ++ ws)
  | [], _, _, _, h, g => by cases h; exact g
  | d :: ds, _, _, _, h, g => by
    obtain ⟨v, vs, rfl, h1, h2⟩ := h
    exact ⟨v, _, rfl, h1, repAll_app h2 g⟩
theorem repAll_one {H : Hp} {d : Dt} {v : V} (h : Rep H d v) : RepAll H [d] [v] := ⟨v, [], rfl, h, rfl⟩
theorem repAll_take {H : Hp} : ∀ {ds : List Dt} {vs : List V} (n : Nat), RepAll H ds vs → RepAll H (ds.take n) (vs.take n)
  | [], _, n, h => by cases h; simp [RepAll]
  | d :: ds, _, 0, h => by simp [RepAll]
  | d :: ds, _, n + 1, h => by
    obtain ⟨v, vs, rfl, h1, h2⟩ := h
    exact ⟨v, _, rfl, h1, repAll_take n h2⟩
theorem repAll_drop {H : Hp} : ∀ {ds : List Dt} {vs : List V} (n : Nat), RepAll H ds vs → RepAll H (ds.drop n) (vs.drop n)
  | [], _, n, h => by cases h; simp [RepAll]
  | d :: ds, _, 0, h => h
  | d :: ds, _, n + 1, h => by
    obtain ⟨v, vs, rfl, h1, h2⟩ := h
    simpa using repAll_drop n h2
theorem repAll_set {H : Hp} : ∀ {ds : List Dt} {vs : List V} (n : Nat) {d : Dt} {v : V}, RepAll H ds vs → Rep H d v → RepAll H (ds.set n d) (vs.set n v)
  | [], _, n, _, _, h, g => by cases h; simp [RepAll]
  | d :: ds, _, 0, _, _, h, g => by
    obtain ⟨v, vs, rfl, h1, h2⟩ := h
    exact ⟨_, _, rfl, g, h2⟩
  | d :: ds, _, n + 1, _, _, h, g => by
    obtain ⟨v, vs, rfl, h1, h2⟩ := h
    exact ⟨_, _, rfl, h1, repAll_set n h2 g⟩

/-! what a def's slots hold -/
inductive OC where
  | lst (ds : List Dt)
  | dct (kvs : List (Dt × Dt))
inductive Slot where
  | no
  | ro (d : Dt)
  | own (pin : Bool) (c : OC)
  | scr (ns : List Int)
abbrev Ev := List Slot
abbrev Fp := Nat → List Addr
structure Cn where
  P : Fp
  G : Addr → Prop
open Classical in
noncomputable def hid (H : Hp) (A : Fp) (G : Addr → Prop) : Hp := fun a => if (∃ i, a ∈ A i) ∨ G a then none else H a
def OcAt (H F : Hp) (l : Addr) : OC → Prop
  | .lst ds => ∃ vs, H l = some (.lst vs) ∧ RepAll F ds vs
  | .dct kvs => ∃ vs, H l = some (.dK vs) ∧ RepKv F kvs vs
theorem ocAt_mono {H H' F F' : Hp} {l : Addr} {c : OC} (h : OcAt H F l c) (e : H' l = H l) (m : Same F F') : OcAt H' F' l c := by
  cases c with
  | lst ds => obtain ⟨vs, h1, h2⟩ := h; exact ⟨vs, e.trans h1, repAll_mono m _ _ h2⟩
  | dct ds => obtain ⟨vs, h1, h2⟩ := h; exact ⟨vs, e.trans h1, repKv_mono m _ _ h2⟩
theorem ocAt_live {H F : Hp} {l : Addr} {c : OC} (h : OcAt H F l c) : H l ≠ none := by
  cases c with
  | lst ds => obtain ⟨vs, h1, _⟩ := h; rw [h1]; simp
  | dct ds => obtain ⟨vs, h1, _⟩ := h; rw [h1]; simp
theorem hid_sub {H : Hp} {A : Fp} {G : Addr → Prop} : Same (hid H A G) H := fun a o h => by
  unfold hid at h
  split at h
  · cases h
  · exact h
theorem hid_in {H : Hp} {A : Fp} {G : Addr → Prop} {a : Addr} {o : HO} (h : hid H A G a = some o) : (∀ i, a ∉ A i) ∧ ¬ G a := by
  unfold hid at h
  split at h
  · cases h
  · rename_i n
    exact ⟨fun i z => n (.inl ⟨i, z⟩), fun z => n (.inr z)⟩
theorem hid_of {H : Hp} {A : Fp} {G : Addr → Prop} {a : Addr} (h1 : ∀ i, a ∉ A i) (h2 : ¬ G a) : hid H A G a = H a := by
  unfold hid
  rw [if_neg]
  rintro (⟨i, z⟩ | z)
  · exact h1 i z
  · exact h2 z
theorem hid_same {H H' : Hp} {A : Fp} {G : Addr → Prop} (e : Same H H') : Same (hid H A G) (hid H' A G) := fun a o h => by
  obtain ⟨h1, h2⟩ := hid_in h
  rw [hid_of h1 h2]
  exact e _ _ (hid_sub a o h)
/-- fewer hidden -/
theorem hid_less {H : Hp} {A A' : Fp} {G G' : Addr → Prop} (h : ∀ a, ((∃ i, a ∈ A' i) ∨ G' a) → ((∃ i, a ∈ A i) ∨ G a)) : Same (hid H A G) (hid H A' G') := fun a o e => by
  obtain ⟨h1, h2⟩ := hid_in e
  have n : ¬ ((∃ i, a ∈ A' i) ∨ G' a) := fun z => by
    rcases h a z with ⟨i, z⟩ | z
    · exact h1 i z
    · exact h2 z
  rw [hid_of (fun i z => n (.inl ⟨i, z⟩)) (fun z => n (.inr z))]
  exact hid_sub a o e
def Liv (H : Hp) (A : Fp) (G : Addr → Prop) : Prop := ∀ a, ((∃ i, a ∈ A i) ∨ G a) → H a ≠ none
theorem Liv.not {H : Hp} {A : Fp} {G : Addr → Prop} (L : Liv H A G) {p : Addr} (h : H p = none) : (∀ i, p ∉ A i) ∧ ¬ G p :=
  ⟨fun i z => L p (.inl ⟨i, z⟩) h, fun z => L p (.inr z) h⟩
theorem hid_new {H : Hp} {A : Fp} {G : Addr → Prop} {p : Addr} {o : HO} (L : Liv H A G) (h : H p = none) : hid (upd H p o) A G p = some o := by
  obtain ⟨h1, h2⟩ := L.not h
  rw [hid_of h1 h2]
  exact upd_same
theorem same_new {H : Hp} {p : Addr} {o : HO} (h : H p = none) : Same H (upd H p o) := fun b x e => by
  rw [upd_ne (ne_of_none e h)]
  exact e

structure Rp (K : Frg) (H : Hp) (σ : L2.St) (ρ : Ev) (A : Fp) (C : Cn) : Prop where
  len : σ.length = ρ.length
  ro : ∀ (i : Nat) (d : Dt), ρ[i]? = some (Slot.ro d) → ∃ v, σ[i]? = some (some v) ∧ Rep (hid H A C.G) d v
  own : ∀ (i : Nat) (p : Bool) (c : OC), ρ[i]? = some (Slot.own p c) → ∃ l : Addr, A i = [l] ∧ σ[i]? = some (some (V.ref l)) ∧ OcAt H (hid H A C.G) l c ∧ (p = true → C.P i = [l])
  scr : ∀ (i : Nat) (ns : List Int), ρ[i]? = some (Slot.scr ns) → ∃ l : Addr, σ[i]? = some (some (V.ref l)) ∧ SqL K (hid H A C.G) l (ns.map V.int)
  inj : ∀ (i j : Nat) (l : Addr), l ∈ A i → l ∈ A j → i = j
  sep : ∀ (i : Nat) (l : Addr), l ∈ A i → ¬ C.G l
  liv : Liv H A C.G
/-- from one state to another: what is not one's own stays -/
structure Stp (H : Hp) (A : Fp) (H' : Hp) (A' : Fp) (C : Cn) : Prop where
  fr : Same (hid H A C.G) (hid H' A' C.G)
  gs : ∀ l, C.G l → H' l = H l
theorem Stp.refl {H : Hp} {A : Fp} {C : Cn} : Stp H A H A C := ⟨Same.refl _, fun _ _ => rfl⟩
theorem Stp.trans {H H1 H2 : Hp} {A A1 A2 : Fp} {C : Cn} (a : Stp H A H1 A1 C) (b : Stp H1 A1 H2 A2 C) : Stp H A H2 A2 C :=
  ⟨a.fr.trans b.fr, fun l g => (b.gs l g).trans (a.gs l g)⟩
theorem sql_mono {K : Frg} {H H' : Hp} {a : Addr} {xs : List V} (e : Same H H') (h : SqL K H a xs) : SqL K H' a xs := e.seq h
/-- the heap grows -/
theorem Rp.grow {K : Frg} {H H' : Hp} {σ : L2.St} {ρ : Ev} {A : Fp} {C : Cn} (h : Rp K H σ ρ A C) (e : Same H H') : Rp K H' σ ρ A C where
  len := h.len
  ro := fun i d z => by
    obtain ⟨v, h1, h2⟩ := h.ro i d z
    exact ⟨v, h1, rep_mono (hid_same e) _ _ h2⟩
  own := fun i p c z => by
    obtain ⟨l, h1, h2, h3, h4⟩ := h.own i p c z
    refine ⟨l, h1, h2, ocAt_mono h3 ?_ (hid_same e), h4⟩
    cases q : H l with
    | none => exact absurd q (ocAt_live h3)
    | some o => exact e _ _ q
  scr := fun i ns z => by
    obtain ⟨l, h1, h2⟩ := h.scr i ns z
    exact ⟨l, h1, sql_mono (hid_same e) h2⟩
  inj := h.inj
  sep := h.sep
  liv := fun a z => by
    cases q : H a with
    | none => exact absurd q (h.liv a z)
    | some o => rw [e _ _ q]; simp
theorem Stp.grow {H H' : Hp} {A : Fp} {C : Cn} (L : Liv H A C.G) (e : Same H H') : Stp H A H' A C := ⟨hid_same e, fun l g => by
  cases q : H l with
  | none => exact absurd q (L l (.inr g))
  | some o => exact e _ _ q⟩

/-! readings by functions of the slots -/
abbrev F1 := Ev → Option (Dt × Ev)
abbrev FB := Ev → Option (Bool × Ev)
abbrev FL := Ev → Option (List Dt × Ev)
inductive Out where
  | nx (ρ : Ev)
  | rt (d : Dt) (ρ : Ev)
  | rn (ds : List Dt) (ρ : Ev)
  | bk (ρ : Ev)
  | ct (ρ : Ev)
abbrev FS := Ev → Option Out
def tF (K : Frg) (f : F1) : TE := fun σ H Q => ∃ τ A C ρ d ρ', Rp K H (σ ++ τ) ρ A C ∧ f ρ = some (d, ρ') ∧
  ∀ v H' A', Stp H A H' A' C → Rp K H' (σ ++ τ) ρ' A' C → Rep (hid H' A' C.G) d v → Q v H'
def tT (K : Frg) (f : FB) : TT := fun σ H Q => ∃ τ A C ρ d ρ', Rp K H (σ ++ τ) ρ A C ∧ f ρ = some (d, ρ') ∧
  ∀ H' A', Stp H A H' A' C → Rp K H' (σ ++ τ) ρ' A' C → Q d H'
/-- a list that is new: nobody else holds it -/
def rem (H : Hp) (l : Addr) : Hp := fun a => if a = l then none else H a
theorem rem_same {H : Hp} {l : Addr} : Same (rem H l) H := fun a o h => by
  unfold rem at h
  split at h
  · cases h
  · exact h
theorem rem_at {H : Hp} {l : Addr} : rem H l l = none := by unfold rem; rw [if_pos rfl]
theorem rem_ne {H : Hp} {a l : Addr} (h : a ≠ l) : rem H l a = H a := by unfold rem; rw [if_neg h]
theorem rem_upd {H : Hp} {l : Addr} {o : HO} (h : H l = none) : rem (upd H l o) l = H := by
  funext a
  by_cases e : a = l
  · subst e; rw [rem_at, h]
  · rw [rem_ne e, upd_ne e]
def tN (K : Frg) (f : FL) : TE := fun σ H Q => ∃ τ A C ρ ds ρ', Rp K H (σ ++ τ) ρ A C ∧ f ρ = some (ds, ρ') ∧
  ∀ l vs H' A', Stp H A (rem H' l) A' C → Rp K (rem H' l) (σ ++ τ) ρ' A' C → H' l = some (.lst vs) → RepAll (hid (rem H' l) A' C.G) ds vs → Q (.ref l) H'
def fFrz (f : FL) : F1 := fun ρ => (f ρ).map fun p => (.list p.1, p.2)

section
variable {X : Cx} {e a b : Expr} {pos : Pos}
theorem pe_weak {t t' : TE} (h : PE X e t) (w : ∀ σ H Q, σ.length = X.N.length → t' σ H Q → t σ H Q) : PE X e t' :=
  ⟨fun pins s σ H Q I q => h.run pins s σ H Q I (w σ H Q I.len q)⟩
theorem pt_weak {t t' : TT} (h : PT X e t) (w : ∀ σ H Q, σ.length = X.N.length → t' σ H Q → t σ H Q) : PT X e t' :=
  ⟨fun pins s σ H Q I q => h.run pins s σ H Q I (w σ H Q I.len q)⟩
theorem pw_weak {t t' : TT} (h : PW X e t) (w : ∀ σ H Q, σ.length = X.N.length → t' σ H Q → t σ H Q) : PW X e t' :=
  ⟨fun wh pins s σ H Q I q => h.run wh pins s σ H Q I (w σ H Q I.len q)⟩
theorem ps_weak {st : Stmt} {t t' : TS} (h : PS X st t) (w : ∀ D σ H, σ.length = X.N.length → t' D σ H → t D σ H) : PS X st t' :=
  ⟨fun pins s σ H D I q => h.run pins s σ H D I (w D σ H I.len q)⟩
theorem pss_weak {st : List Stmt} {t t' : TS} (h : PSs X st t) (w : ∀ D σ H, σ.length = X.N.length → t' D σ H → t D σ H) : PSs X st t' :=
  ⟨fun pins s σ H D I q => h.run pins s σ H D I (w D σ H I.len q)⟩

/-- a new list told to others -/
theorem x_frz {f : FL} (h : PE X e (tN X.K f)) : PE X e (tF X.K (fFrz f)) := by
  refine pe_weak h fun σ H Q _ q => ?_
  obtain ⟨τ, A, C, ρ, d, ρ', R, ef, k⟩ := q
  unfold fFrz at ef
  cases hf : f ρ with
  | none => rw [hf] at ef; cases ef
  | some p =>
    obtain ⟨ds, ρ1⟩ := p
    rw [hf] at ef
    cases ef
    refine ⟨τ, A, C, ρ, ds, ρ1, R, hf, fun l vs H' A' st R' hl hv => ?_⟩
    have g := Stp.grow (C := C) R'.liv (rem_same (H := H') (l := l))
    have hn := R'.liv.not (rem_at (H := H') (l := l))
    refine k _ _ A' (st.trans g) (R'.grow rem_same) ⟨l, vs, rfl, ?_, repAll_mono g.fr _ _ hv⟩
    rw [hid_of hn.1 hn.2]
    exact hl

def fVar (i : Nat) : F1 := fun ρ => match ρ[i]? with
  | some (.ro d) => some (d, ρ)
  | some (.own false (.lst ds)) => some (.list ds, ρ.set i (.ro (.list ds)))
  | some (.own false (.dct kvs)) => some (.dict kvs, ρ.set i (.ro (.dict kvs)))
  | _ => none
def fC (d : Dt) : F1 := fun ρ => some (d, ρ)
def updA (A : Fp) (i : Nat) (L : List Addr) : Fp := fun j => if j = i then L else A j
theorem updA_at {A : Fp} {i : Nat} {L : List Addr} : updA A i L i = L := by unfold updA; rw [if_pos rfl]
theorem updA_ne {A : Fp} {i j : Nat} {L : List Addr} (h : j ≠ i) : updA A i L j = A j := by unfold updA; rw [if_neg h]
theorem updA_less {A : Fp} {G : Addr → Prop} {i : Nat} : ∀ a, ((∃ j, a ∈ updA A i [] j) ∨ G a) → ((∃ j, a ∈ A j) ∨ G a) := by
  rintro a (⟨j, z⟩ | z)
  · by_cases e : j = i
    · subst e; rw [updA_at] at z; cases z
    · rw [updA_ne e] at z; exact .inl ⟨j, z⟩
  · exact .inr z
theorem set_get {α : Type} {l : List α} {i j : Nat} {x y : α} (h : (l.set i x)[j]? = some y) : (j = i ∧ x = y) ∨ (j ≠ i ∧ l[j]? = some y) := by
  by_cases e : i = j
  · subst e
    rw [List.getElem?_set_self'] at h
    cases q : l[i]? with
    | none => rw [q] at h; cases h
    | some z => rw [q] at h; exact .inl ⟨rfl, Option.some.inj h⟩
  · rw [List.getElem?_set_ne e] at h
    exact .inr ⟨fun z => e z.symm, h⟩
/-- slot i now holds something to read -/
theorem Rp.setRo {K : Frg} {H : Hp} {σ : L2.St} {ρ : Ev} {A : Fp} {C : Cn} {i : Nat} {d : Dt} {v : V} (h : Rp K H σ ρ A C) (hv : Rep (hid H (updA A i []) C.G) d v) : Rp K H (σ.set i (some v)) (ρ.set i (.ro d)) (updA A i []) C where
  len := by simp [h.len]
  ro := fun j d' z => by
    rcases set_get z with ⟨rfl, e⟩ | ⟨ne, z⟩
    · cases e
      have hi : j < σ.length := by
        rw [h.len]
        by_cases q : j < ρ.length
        · exact q
        · rw [List.getElem?_eq_none (by simp; omega)] at z; cases z
      exact ⟨v, by simp [hi], hv⟩
    · obtain ⟨w, h1, h2⟩ := h.ro j d' z
      exact ⟨w, by rw [List.getElem?_set_ne (Ne.symm ne)]; exact h1, rep_mono (hid_less updA_less) _ _ h2⟩
  own := fun j p c z => by
    rcases set_get z with ⟨rfl, e⟩ | ⟨ne, z⟩
    · cases e
    · obtain ⟨l, h1, h2, h3, h4⟩ := h.own j p c z
      exact ⟨l, by rw [updA_ne ne]; exact h1, by rw [List.getElem?_set_ne (Ne.symm ne)]; exact h2, ocAt_mono h3 rfl (hid_less updA_less), h4⟩
  scr := fun j ns z => by
    rcases set_get z with ⟨rfl, e⟩ | ⟨ne, z⟩
    · cases e
    · obtain ⟨l, h1, h2⟩ := h.scr j ns z
      exact ⟨l, by rw [List.getElem?_set_ne (Ne.symm ne)]; exact h1, sql_mono (hid_less updA_less) h2⟩
  inj := fun j k l z w => by
    by_cases e1 : j = i
    · subst e1; rw [updA_at] at z; cases z
    · by_cases e2 : k = i
      · subst e2; rw [updA_at] at w; cases w
      · rw [updA_ne e1] at z; rw [updA_ne e2] at w; exact h.inj _ _ l z w
  sep := fun j l z => by
    by_cases e1 : j = i
    · subst e1; rw [updA_at] at z; cases z
    · rw [updA_ne e1] at z; exact h.sep j l z
  liv := fun a z => h.liv a (updA_less a z)
theorem Stp.drop {H : Hp} {A : Fp} {C : Cn} {i : Nat} : Stp H A H (updA A i []) C := ⟨hid_less updA_less, fun _ _ => rfl⟩
theorem set_self {α : Type} {l : List α} {i : Nat} {x : α} (h : l[i]? = some x) : l.set i x = l := by
  apply List.ext_getElem?
  intro j
  by_cases e : i = j
  · subst e
    rw [List.getElem?_set_self', h]
    rfl
  · rw [List.getElem?_set_ne e]
theorem x_var (i : Nat) {x : Str} (hN : X.N[i]? = some x := by rfl) (hv : Vis X.env.scope x := by first | exact Or.inl rfl | exact Or.inr (Or.inl rfl) | exact Or.inr (Or.inr rfl)) (hd : (x == ("__debug__" : Str)) = false := by decide)
    (hcd : (x == ("__classdict__" : Str)) = false := by decide) : PE X (.Name x pos) (tF X.K (fVar i)) := by
  have hl : i < X.N.length := by
    obtain ⟨h, _⟩ := List.getElem?_eq_some_iff.mp hN
    exact h
  refine pe_weak (pe_var hN hv hd hcd) fun σ H Q ls q => ?_
  obtain ⟨τ, A, C, ρ, d, ρ', R, ef, k⟩ := q
  have back : ∀ {v : V}, (σ ++ τ)[i]? = some (some v) → σ[i]? = some (some v) := fun {v} h => by
    rw [List.getElem?_append_left (by omega)] at h
    exact h
  unfold fVar at ef
  split at ef
  · rename_i d0 h0
    cases ef
    obtain ⟨v, h1, h2⟩ := R.ro i _ h0
    exact ⟨v, back h1, k v H A Stp.refl R h2⟩
  · rename_i ds h0
    cases ef
    obtain ⟨l, h1, h2, ⟨vs, h3, h4⟩, h5⟩ := R.own i _ _ h0
    have hr : Rep (hid H (updA A i []) C.G) (.list ds) (.ref l) := by
      refine ⟨l, vs, rfl, ?_, repAll_mono (hid_less updA_less) _ _ h4⟩
      rw [hid_of]
      · exact h3
      · intro j z
        by_cases e : j = i
        · subst e; rw [updA_at] at z; cases z
        · rw [updA_ne e] at z; exact e (R.inj j i l z (by rw [h1]; simp))
      · exact R.sep i l (by rw [h1]; simp)
    have R2 := R.setRo (i := i) hr
    rw [set_self h2] at R2
    exact ⟨_, back h2, k _ H _ Stp.drop R2 hr⟩
  · rename_i ds h0
    cases ef
    obtain ⟨l, h1, h2, ⟨vs, h3, h4⟩, h5⟩ := R.own i _ _ h0
    have hr : Rep (hid H (updA A i []) C.G) (.dict ds) (.ref l) := by
      refine ⟨l, vs, rfl, ?_, repKv_mono (hid_less updA_less) _ _ h4⟩
      rw [hid_of]
      · exact h3
      · intro j z
        by_cases e : j = i
        · subst e; rw [updA_at] at z; cases z
        · rw [updA_ne e] at z; exact e (R.inj j i l z (by rw [h1]; simp))
      · exact R.sep i l (by rw [h1]; simp)
    have R2 := R.setRo (i := i) hr
    rw [set_self h2] at R2
    exact ⟨_, back h2, k _ H _ Stp.drop R2 hr⟩
  · cases ef
theorem x_c {v : V} {d : Dt} (h : PE X e (tC v)) (hd : ∀ H, Rep H d v) : PE X e (tF X.K (fC d)) := by
  refine pe_weak h fun σ H Q _ q => ?_
  obtain ⟨τ, A, C, ρ, d', ρ', R, ef, k⟩ := q
  cases ef
  exact k v H A Stp.refl R (hd _)
theorem x_int {i : Int} {j} : PE X (.Constant (.int i) j pos) (tF X.K (fC (.int i))) := x_c pe_int fun _ => rfl
theorem x_str {i : Str} {j} : PE X (.Constant (.str i) j pos) (tF X.K (fC (.str i))) := x_c pe_str fun _ => rfl
theorem x_bl {i : Bool} {j} : PE X (.Constant (.bool i) j pos) (tF X.K (fC (.bool i))) := x_c pe_bl fun _ => rfl
theorem x_non {j} : PE X (.Constant .none j pos) (tF X.K (fC .none)) := x_c pe_non fun _ => rfl
/-- a module's own constant -/
theorem x_glob {v : V} {d : Dt} (h : PE X e (tC v)) (hd : ∀ H, Rep H d v) : PE X e (tF X.K (fC d)) := x_c h hd

/-! operators on data -/
def rD (op : Dt → Dt → Option Dt) : R2 := fun x y H Q => ∃ A G d e' z, Liv H A G ∧ Rep (hid H A G) d x ∧ Rep (hid H A G) e' y ∧ op d e' = some z ∧ ∀ v H', Same H H' → Rep (hid H' A G) z v → Q v H'
def fBin (op : Dt → Dt → Option Dt) (fa fb : F1) : F1 := fun ρ => do
  let (x, ρ1) ← fa ρ
  let (y, ρ2) ← fb ρ1
  let z ← op x y
  pure (z, ρ2)
theorem bind_some {α β : Type} {o : Option α} {f : α → Option β} {b : β} (h : (o >>= f) = some b) : ∃ x, o = some x ∧ f x = some b := by
  cases o with
  | none => cases h
  | some x => exact ⟨x, rfl, h⟩
theorem bin_weak {op : Dt → Dt → Option Dt} {fa fb : F1} {K : Frg} {σ : L2.St} {H : Hp} {Q : VK} (q : tF K (fBin op fa fb) σ H Q) : tOp (rD op) (tF K fa) (tF K fb) σ H Q := by
  obtain ⟨τ, A, C, ρ, d', ρ', R, ef, k⟩ := q
  obtain ⟨⟨x, ρ1⟩, e1, ef⟩ := bind_some ef
  obtain ⟨⟨y, ρ2⟩, e2, ef⟩ := bind_some ef
  obtain ⟨z, e3, ef⟩ := bind_some ef
  cases ef
  refine ⟨τ, A, C, ρ, x, ρ1, R, e1, fun v H1 A1 s1 R1 hx => ?_⟩
  refine ⟨τ, A1, C, ρ1, y, _, R1, e2, fun u H2 A2 s2 R2 hy => ?_⟩
  exact ⟨A2, C.G, x, y, _, R2.liv, rep_mono s2.fr _ _ hx, hy, e3, fun w H3 sm hz => k w H3 A2 ((s1.trans s2).trans (Stp.grow R2.liv sm)) (R2.grow sm) hz⟩
theorem x_op {op : Operator} {f : Dt → Dt → Option Dt} {fa fb : F1} (ho : OpR X (binaryOp op) (rD f)) (ha : PE X a (tF X.K fa)) (hb : PE X b (tF X.K fb)) : PE X (.BinOp a op b pos) (tF X.K (fBin f fa fb)) :=
  pe_weak (pe_op ho ha hb) fun _ _ _ _ q => bin_weak q
theorem x_cmp {op : CmpOp} {f : Dt → Dt → Option Dt} {fa fb : F1} (ho : OpR X (compareOp op) (rD f)) (ha : PE X a (tF X.K fa)) (hb : PE X b (tF X.K fb)) (hm : behindInMarks op b = false) : PE X (.Compare a [op] [b] pos) (tF X.K (fBin f fa fb)) :=
  pe_weak (pe_cmpR ho ha hb hm) fun _ _ _ _ q => bin_weak q
theorem x_ix {f : Dt → Dt → Option Dt} {fa fb : F1} (ho : IxR X (rD f)) (ha : PE X a (tF X.K fa)) (hb : PE X b (tF X.K fb)) (hs : PlainIx b := by exact fun _ _ => rfl) : PE X (.Subscript a b pos) (tF X.K (fBin f fa fb)) :=
  pe_weak (pe_ix ho ha hb hs) fun _ _ _ _ q => bin_weak q
def fTest (f : F1) : FB := fun ρ => match f ρ with
  | some (.bool b, ρ') => some (b, ρ')
  | _ => none
theorem test_weak {f : F1} {K : Frg} {σ : L2.St} {H : Hp} {Q : Bool → Hp → Prop} (q : tT K (fTest f) σ H Q) : tTest (tF K f) σ H Q := by
  obtain ⟨τ, A, C, ρ, d', ρ', R, ef, k⟩ := q
  unfold fTest at ef
  split at ef
  · rename_i b ρ1 h1
    cases ef
    exact ⟨τ, A, C, ρ, _, _, R, h1, fun v H' A' s' R' hv => ⟨_, hv, k H' A' s' R'⟩⟩
  · cases ef
theorem xt_cmp {op : CmpOp} {f : Dt → Dt → Option Dt} {fa fb : F1} (ho : OpR X (compareOp op) (rD f)) (ha : PE X a (tF X.K fa)) (hb : PE X b (tF X.K fb)) (hm : behindInMarks op b = false) : PT X (.Compare a [op] [b] pos) (tT X.K (fTest (fBin f fa fb))) :=
  pt_weak (pt_cmpR ho ha hb hm) fun _ _ _ _ q => by
    obtain h := test_weak q
    obtain ⟨τ, A, C, ρ, d', ρ', R, ef, k⟩ := h
    exact bin_weak ⟨τ, A, C, ρ, d', ρ', R, ef, k⟩
theorem xt_val {f : F1} (h : PE X e (tF X.K f)) (he : ∀ whole, isTrue e X.env whole = (do let v ← whole; standAt e.pos; holding [v] (truthy v)) := by intro _; rfl) : PT X e (tT X.K (fTest f)) :=
  pt_weak (pt_val h he) fun _ _ _ _ q => test_weak q
/-- a op b op' c -/
def fChain (f f' : Dt → Dt → Option Dt) (fa fb fc : F1) : F1 := fun ρ => do
  let (x, ρ1) ← fa ρ
  let (y, ρ2) ← fb ρ1
  match ← f x y with
  | .bool true =>
    let (w, ρ3) ← fc ρ2
    let z ← f' y w
    pure (z, ρ3)
  | .bool false => pure (.bool false, ρ2)
  | _ => none
theorem chain_weak {f f' : Dt → Dt → Option Dt} {fa fb fc : F1} {K : Frg} {σ : L2.St} {H : Hp} {Q : VK} (q : tF K (fChain f f' fa fb fc) σ H Q) : tChain (rD f) (rD f') (tF K fa) (tF K fb) (tF K fc) σ H Q := by
  obtain ⟨τ, A, C, ρ, d', ρ', R, ef, k⟩ := q
  obtain ⟨⟨x, ρ1⟩, e1, ef⟩ := bind_some ef
  obtain ⟨⟨y, ρ2⟩, e2, ef⟩ := bind_some ef
  obtain ⟨z, e3, ef⟩ := bind_some ef
  refine ⟨τ, A, C, ρ, x, ρ1, R, e1, fun v H1 A1 s1 R1 hx => ?_⟩
  refine ⟨τ, A1, C, ρ1, y, ρ2, R1, e2, fun u H2 A2 s2 R2 hy => ?_⟩
  refine ⟨A2, C.G, x, y, z, R2.liv, rep_mono s2.fr _ _ hx, hy, e3, fun w H3 sm hz => ?_⟩
  have s3 := Stp.grow (C := C) R2.liv sm
  have R3 := R2.grow sm
  split at ef
  · refine ⟨true, hz, ?_⟩
    rw [if_pos rfl]
    obtain ⟨⟨w2, ρ3⟩, e4, ef⟩ := bind_some ef
    obtain ⟨z2, e5, ef⟩ := bind_some ef
    cases ef
    refine ⟨τ, A2, C, ρ2, w2, _, R3, e4, fun u4 H4 A4 s4 R4 h4 => ?_⟩
    exact ⟨A4, C.G, y, w2, _, R4.liv, rep_mono (s3.trans s4).fr _ _ hy, h4, e5, fun w5 H5 sm5 h5 => k w5 H5 A4 ((((s1.trans s2).trans s3).trans s4).trans (Stp.grow R4.liv sm5)) (R4.grow sm5) h5⟩
  · refine ⟨false, hz, ?_⟩
    rw [if_neg Bool.false_ne_true]
    cases ef
    exact k _ H3 A2 ((s1.trans s2).trans s3) R3 rfl
  · cases ef
theorem x_chain {op op' : CmpOp} {f f' : Dt → Dt → Option Dt} {c : Expr} {fa fb fc : F1} (ho : OpR X (compareOp op) (rD f)) (ho' : OpR X (compareOp op') (rD f')) (ha : PE X a (tF X.K fa)) (hb : PE X b (tF X.K fb)) (hc : PE X c (tF X.K fc))
    (hm : lastMarks [op, op'] [b, c] = false := by with_unfolding_all rfl) : PE X (.Compare a [op, op'] [b, c] pos) (tF X.K (fChain f f' fa fb fc)) :=
  pe_weak (pe_chain ho ho' ha hb hc hm) fun _ _ _ _ q => chain_weak q
theorem xt_chain {op op' : CmpOp} {f f' : Dt → Dt → Option Dt} {c : Expr} {fa fb fc : F1} (ho : OpR X (compareOp op) (rD f)) (ho' : OpR X (compareOp op') (rD f')) (ha : PE X a (tF X.K fa)) (hb : PE X b (tF X.K fb)) (hc : PE X c (tF X.K fc))
    (hm : lastMarks [op, op'] [b, c] = false := by with_unfolding_all rfl) : PT X (.Compare a [op, op'] [b, c] pos) (tT X.K (fTest (fChain f f' fa fb fc))) :=
  pt_weak (pt_chain ho ho' ha hb hc hm) fun _ _ _ _ q => by
    obtain ⟨τ, A, C, ρ, d', ρ', R, ef, k⟩ := test_weak q
    exact chain_weak ⟨τ, A, C, ρ, d', ρ', R, ef, k⟩
/-! and, or, not -/
def gAnd (f g : FB) : FB := fun ρ => do
  let (b, ρ1) ← f ρ
  if b = true then g ρ1 else pure (false, ρ1)
def gOr (f g : FB) : FB := fun ρ => do
  let (b, ρ1) ← f ρ
  if b = true then pure (true, ρ1) else g ρ1
def gNot (f : FB) : FB := fun ρ => do
  let (b, ρ1) ← f ρ
  pure (!b, ρ1)
def fAnd (f g : F1) : F1 := fun ρ => do
  let (b, ρ1) ← fTest f ρ
  if b = true then g ρ1 else pure (.bool false, ρ1)
def fOr (f g : F1) : F1 := fun ρ => do
  let (b, ρ1) ← fTest f ρ
  if b = true then pure (.bool true, ρ1) else g ρ1
def fNot (f : F1) : F1 := fun ρ => do
  let (b, ρ1) ← fTest f ρ
  pure (.bool (!b), ρ1)
variable {rest : List Expr}
theorem xw_and1 {f : FB} (h : PT X a (tT X.K f)) : PW X (.BoolOp .And [a] pos) (tT X.K f) := pw_and1 h
theorem xw_or1 {f : FB} (h : PT X a (tT X.K f)) : PW X (.BoolOp .Or [a] pos) (tT X.K f) := pw_or1 h
theorem xw_and {f g : FB} (ha : PT X a (tT X.K f)) (hb : PW X (.BoolOp .And (b :: rest) pos) (tT X.K g)) : PW X (.BoolOp .And (a :: b :: rest) pos) (tT X.K (gAnd f g)) :=
  pw_weak (pw_and ha hb) fun σ H Q _ q => by
    obtain ⟨τ, A, C, ρ, d', ρ', R, ef, k⟩ := q
    obtain ⟨⟨x, ρ1⟩, e1, ef⟩ := bind_some ef
    refine ⟨τ, A, C, ρ, x, ρ1, R, e1, fun H1 A1 s1 R1 => ?_⟩
    cases x with
    | true => exact ⟨τ, A1, C, ρ1, d', ρ', R1, ef, fun H2 A2 s2 R2 => k H2 A2 (s1.trans s2) R2⟩
    | false => cases ef; exact k H1 A1 s1 R1
theorem xw_or {f g : FB} (ha : PT X a (tT X.K f)) (hb : PW X (.BoolOp .Or (b :: rest) pos) (tT X.K g)) : PW X (.BoolOp .Or (a :: b :: rest) pos) (tT X.K (gOr f g)) :=
  pw_weak (pw_or ha hb) fun σ H Q _ q => by
    obtain ⟨τ, A, C, ρ, d', ρ', R, ef, k⟩ := q
    obtain ⟨⟨x, ρ1⟩, e1, ef⟩ := bind_some ef
    refine ⟨τ, A, C, ρ, x, ρ1, R, e1, fun H1 A1 s1 R1 => ?_⟩
    cases x with
    | false => exact ⟨τ, A1, C, ρ1, d', ρ', R1, ef, fun H2 A2 s2 R2 => k H2 A2 (s1.trans s2) R2⟩
    | true => cases ef; exact k H1 A1 s1 R1
theorem xt_not {f : FB} (ha : PT X a (tT X.K f)) : PT X (.UnaryOp .Not a pos) (tT X.K (gNot f)) :=
  pt_weak (pt_not ha) fun σ H Q _ q => by
    obtain ⟨τ, A, C, ρ, d', ρ', R, ef, k⟩ := q
    obtain ⟨⟨x, ρ1⟩, e1, ef⟩ := bind_some ef
    cases ef
    exact ⟨τ, A, C, ρ, x, _, R, e1, fun H1 A1 s1 R1 => k H1 A1 s1 R1⟩
theorem test_parts {f : F1} {ρ ρ1 : Ev} {b : Bool} (h : fTest f ρ = some (b, ρ1)) : f ρ = some (.bool b, ρ1) := by
  unfold fTest at h
  split at h
  · rename_i q; cases h; exact q
  · cases h
theorem x_one {op} {f : F1} (h : PE X a (tF X.K f)) : PE X (.BoolOp op [a] pos) (tF X.K f) := pe_one h
theorem x_and {f g : F1} (ha : PE X a (tF X.K f)) (hb : PE X (.BoolOp .And (b :: rest) pos) (tF X.K g)) : PE X (.BoolOp .And (a :: b :: rest) pos) (tF X.K (fAnd f g)) :=
  pe_weak (pe_and ha hb) fun σ H Q _ q => by
    obtain ⟨τ, A, C, ρ, d', ρ', R, ef, k⟩ := q
    obtain ⟨⟨x, ρ1⟩, e1, ef⟩ := bind_some ef
    refine ⟨τ, A, C, ρ, _, ρ1, R, test_parts e1, fun v H1 A1 s1 R1 hv => ⟨x, hv, ?_⟩⟩
    cases x with
    | true => exact ⟨τ, A1, C, ρ1, d', ρ', R1, ef, fun v2 H2 A2 s2 R2 => k v2 H2 A2 (s1.trans s2) R2⟩
    | false => cases ef; exact k _ H1 A1 s1 R1 rfl
theorem x_or {f g : F1} (ha : PE X a (tF X.K f)) (hb : PE X (.BoolOp .Or (b :: rest) pos) (tF X.K g)) : PE X (.BoolOp .Or (a :: b :: rest) pos) (tF X.K (fOr f g)) :=
  pe_weak (pe_or ha hb) fun σ H Q _ q => by
    obtain ⟨τ, A, C, ρ, d', ρ', R, ef, k⟩ := q
    obtain ⟨⟨x, ρ1⟩, e1, ef⟩ := bind_some ef
    refine ⟨τ, A, C, ρ, _, ρ1, R, test_parts e1, fun v H1 A1 s1 R1 hv => ⟨x, hv, ?_⟩⟩
    cases x with
    | false => exact ⟨τ, A1, C, ρ1, d', ρ', R1, ef, fun v2 H2 A2 s2 R2 => k v2 H2 A2 (s1.trans s2) R2⟩
    | true => cases ef; exact k _ H1 A1 s1 R1 rfl
theorem x_not {f : F1} (ha : PE X a (tF X.K f)) : PE X (.UnaryOp .Not a pos) (tF X.K (fNot f)) :=
  pe_weak (pe_not ha) fun σ H Q _ q => by
    obtain ⟨τ, A, C, ρ, d', ρ', R, ef, k⟩ := q
    obtain ⟨⟨x, ρ1⟩, e1, ef⟩ := bind_some ef
    cases ef
    exact ⟨τ, A, C, ρ, _, _, R, test_parts e1, fun v H1 A1 s1 R1 hv => ⟨x, hv, k _ H1 A1 s1 R1 rfl⟩⟩
def fIf (t : FB) (f g : F1) : F1 := fun ρ => do
  let (b, ρ1) ← t ρ
  if b = true then f ρ1 else g ρ1
theorem x_if {c : Expr} {t : FB} {f g : F1} (hc : PT X c (tT X.K t)) (ha : PE X a (tF X.K f)) (hb : PE X b (tF X.K g)) : PE X (.IfExp c a b pos) (tF X.K (fIf t f g)) :=
  pe_weak (pe_ifExp hc ha hb) fun σ H Q _ q => by
    obtain ⟨τ, A, C, ρ, d', ρ', R, ef, k⟩ := q
    obtain ⟨⟨x, ρ1⟩, e1, ef⟩ := bind_some ef
    refine ⟨τ, A, C, ρ, x, ρ1, R, e1, fun H1 A1 s1 R1 => ?_⟩
    cases x with
    | true => exact ⟨τ, A1, C, ρ1, d', ρ', R1, ef, fun v2 H2 A2 s2 R2 => k v2 H2 A2 (s1.trans s2) R2⟩
    | false => exact ⟨τ, A1, C, ρ1, d', ρ', R1, ef, fun v2 H2 A2 s2 R2 => k v2 H2 A2 (s1.trans s2) R2⟩
/-! one value -/
def rU1 (f : Dt → Option Dt) : V → Hp → VK → Prop := fun x H Q => ∃ A G d z, Liv H A G ∧ Rep (hid H A G) d x ∧ f d = some z ∧ ∀ v H', Same H H' → Rep (hid H' A G) z v → Q v H'
def fUn (f : Dt → Option Dt) (fa : F1) : F1 := fun ρ => do
  let (x, ρ1) ← fa ρ
  let z ← f x
  pure (z, ρ1)
theorem un_weak {f : Dt → Option Dt} {fa : F1} {K : Frg} {σ : L2.St} {H : Hp} {Q : VK} (q : tF K (fUn f fa) σ H Q) : tF K fa σ H fun x H1 => rU1 f x H1 Q := by
  obtain ⟨τ, A, C, ρ, d', ρ', R, ef, k⟩ := q
  obtain ⟨⟨x, ρ1⟩, e1, ef⟩ := bind_some ef
  obtain ⟨z, e3, ef⟩ := bind_some ef
  cases ef
  refine ⟨τ, A, C, ρ, x, _, R, e1, fun v H1 A1 s1 R1 hx => ?_⟩
  exact ⟨A1, C.G, x, _, R1.liv, hx, e3, fun w H3 sm hz => k w H3 A1 (s1.trans (Stp.grow R1.liv sm)) (R1.grow sm) hz⟩
theorem x_un {op : UnaryOp} {f : Dt → Option Dt} {fa : F1} (ho : UnR X (unaryOp op) (rU1 f)) (ha : PE X a (tF X.K fa)) : PE X (.UnaryOp op a pos) (tF X.K (fUn f fa)) :=
  pe_weak (pe_un ho ha) fun _ _ _ _ q => un_weak q
end
end Mm

namespace Mm
open PySem L2
inductive Arg where
  | val (d : Dt)
  | slot (i : Nat)
abbrev FA := Ev → Option (List Arg × Ev)
def ArgAt (F : Hp) (σ : L2.St) : Arg → V → Prop
  | .val d, v => Rep F d v
  | .slot i, v => σ[i]? = some (some v)
def ArgsAt (F : Hp) (σ : L2.St) : List Arg → List V → Prop
  | [], vs => vs = []
  | a :: as, vs => ∃ v ws, vs = v :: ws ∧ ArgAt F σ a v ∧ ArgsAt F σ as ws
def tA (K : Frg) (f : FA) : TA := fun σ H Q => ∃ τ A C ρ as ρ', Rp K H (σ ++ τ) ρ A C ∧ f ρ = some (as, ρ') ∧
  ∀ vs τx H' A', Stp H A H' A' C → Rp K H' (σ ++ τ ++ τx) ρ' A' C → ArgsAt (hid H' A' C.G) (σ ++ τ ++ τx) as vs → Q vs H'
theorem argAt_mono {F F' : Hp} {σ τ : L2.St} {a : Arg} {v : V} (h : ArgAt F σ a v) (m : Same F F') : ArgAt F' (σ ++ τ) a v := by
  cases a with
  | val d => exact rep_mono m _ _ h
  | slot i =>
    have h : σ[i]? = some (some v) := h
    show (σ ++ τ)[i]? = some (some v)
    obtain ⟨hi, _⟩ := List.getElem?_eq_some_iff.mp h
    rw [List.getElem?_append_left hi]
    exact h
def fANil : FA := fun ρ => some ([], ρ)
def fACons (f : F1) (g : FA) : FA := fun ρ => do
  let (d, ρ1) ← f ρ
  let (as, ρ2) ← g ρ1
  pure (.val d :: as, ρ2)
def isVal : Option Slot → Bool
  | some (.own _ _) => true
  | some (.scr _) => true
  | some (.ro _) => true
  | _ => false
def fASlot (i : Nat) (g : FA) : FA := fun ρ => do
  let (as, ρ2) ← g ρ
  if isVal ρ[i]? = true then pure (.slot i :: as, ρ2) else none
def fAN (f : FL) (g : FA) : FA := fun ρ => do
  let (ds, ρ1) ← f ρ
  let (as, ρ2) ← g (ρ1 ++ [.own false (.lst ds)])
  pure (.slot ρ1.length :: as, ρ2)
theorem get_snoc {α : Type} {l : List α} {x y : α} {j : Nat} (h : (l ++ [x])[j]? = some y) : l[j]? = some y ∨ (j = l.length ∧ x = y) := by
  by_cases e : j < l.length
  · rw [List.getElem?_append_left e] at h
    exact .inl h
  · rw [List.getElem?_append_right (by omega)] at h
    have : j - l.length = 0 := by
      by_cases q : j - l.length = 0
      · exact q
      · rw [List.getElem?_eq_none (by simp; omega)] at h; cases h
    rw [this] at h
    exact .inr ⟨by omega, by simpa using h⟩
theorem get_left {α : Type} {l r : List α} {x : α} {j : Nat} (h : l[j]? = some x) : (l ++ r)[j]? = some x := by
  obtain ⟨hi, _⟩ := List.getElem?_eq_some_iff.mp h
  rw [List.getElem?_append_left hi]
  exact h
/-- a new list is put behind the slots -/
theorem Rp.push {K : Frg} {H : Hp} {σ : L2.St} {ρ : Ev} {A : Fp} {C : Cn} {l : Addr} {vs : List V} {ds : List Dt} (R : Rp K (rem H l) σ ρ A C) (hl : H l = some (.lst vs)) (hv : RepAll (hid (rem H l) A C.G) ds vs) :
    Rp K H (σ ++ [some (.ref l)]) (ρ ++ [.own false (.lst ds)]) (updA A ρ.length [l]) C ∧ Stp (rem H l) A H (updA A ρ.length [l]) C := by
  have hn := R.liv.not (rem_at (H := H) (l := l))
  have sm : Same (hid (rem H l) A C.G) (hid H (updA A ρ.length [l]) C.G) := fun a o h => by
    obtain ⟨h1, h2⟩ := hid_in h
    have h3 := hid_sub a o h
    have ne : a ≠ l := fun e => by subst e; rw [rem_at] at h3; cases h3
    rw [hid_of _ h2]
    · rw [rem_ne ne] at h3; exact h3
    · intro i z
      by_cases e : i = ρ.length
      · subst e; rw [updA_at] at z; exact ne (List.mem_singleton.mp z)
      · rw [updA_ne e] at z; exact h1 i z
  have lt : ∀ {i : Nat} {s : Slot}, ρ[i]? = some s → i ≠ ρ.length := fun {i s} h => by
    obtain ⟨hi, _⟩ := List.getElem?_eq_some_iff.mp h
    omega
  refine ⟨⟨by simp [R.len], fun i d z => ?_, fun i p c z => ?_, fun i ns z => ?_, fun i j a z w => ?_, fun i a z => ?_, fun a z => ?_⟩, sm, fun a g => ?_⟩
  · rcases get_snoc z with z | ⟨_, e⟩
    · obtain ⟨v, h1, h2⟩ := R.ro i d z
      exact ⟨v, get_left h1, rep_mono sm _ _ h2⟩
    · cases e
  · rcases get_snoc z with z | ⟨rfl, e⟩
    · obtain ⟨a, h1, h2, h3, h4⟩ := R.own i p c z
      have ne : a ≠ l := fun e => hn.1 i (by rw [h1, e]; simp)
      exact ⟨a, by rw [updA_ne (lt z)]; exact h1, get_left h2, ocAt_mono h3 (rem_ne ne).symm sm, h4⟩
    · cases e
      refine ⟨l, updA_at, by rw [← R.len]; simp, ⟨vs, hl, repAll_mono sm _ _ hv⟩, fun q => nomatch q⟩
  · rcases get_snoc z with z | ⟨_, e⟩
    · obtain ⟨a, h1, h2⟩ := R.scr i ns z
      exact ⟨a, get_left h1, sql_mono sm h2⟩
    · cases e
  · by_cases e1 : i = ρ.length
    · by_cases e2 : j = ρ.length
      · omega
      · subst e1; rw [updA_at] at z; rw [updA_ne e2] at w
        rw [List.mem_singleton.mp z] at w
        exact absurd w (hn.1 j)
    · rw [updA_ne e1] at z
      by_cases e2 : j = ρ.length
      · subst e2; rw [updA_at] at w
        rw [List.mem_singleton.mp w] at z
        exact absurd z (hn.1 i)
      · rw [updA_ne e2] at w; exact R.inj i j a z w
  · by_cases e1 : i = ρ.length
    · subst e1; rw [updA_at] at z; rw [List.mem_singleton.mp z]; exact hn.2
    · rw [updA_ne e1] at z; exact R.sep i a z
  · rcases z with ⟨i, z⟩ | z
    · by_cases e1 : i = ρ.length
      · subst e1; rw [updA_at] at z; rw [List.mem_singleton.mp z, hl]; simp
      · rw [updA_ne e1] at z
        have := R.liv a (.inl ⟨i, z⟩)
        rw [rem_ne (fun e => hn.1 i (by rw [← e]; exact z))] at this
        exact this
    · have := R.liv a (.inr z)
      rw [rem_ne (fun e => hn.2 (by rw [← e]; exact z))] at this
      exact this
  · exact (rem_ne (fun e => hn.2 (by rw [← e]; exact g))).symm
/-- the slots behind are dropped -/
def cutA (A : Fp) (n : Nat) : Fp := fun i => if i < n then A i else []
theorem cutA_mem {A : Fp} {n i : Nat} {a : Addr} (h : a ∈ cutA A n i) : i < n ∧ a ∈ A i := by
  unfold cutA at h
  split at h
  · exact ⟨by assumption, h⟩
  · cases h
theorem cutA_less {A : Fp} {G : Addr → Prop} {n : Nat} : ∀ a, ((∃ j, a ∈ cutA A n j) ∨ G a) → ((∃ j, a ∈ A j) ∨ G a) := by
  rintro a (⟨j, z⟩ | z)
  · exact .inl ⟨j, (cutA_mem z).2⟩
  · exact .inr z
theorem Rp.cut {K : Frg} {H : Hp} {σ τ : L2.St} {ρ : Ev} {A : Fp} {C : Cn} (R : Rp K H (σ ++ τ) ρ A C) : Rp K H σ (ρ.take σ.length) (cutA A σ.length) C ∧ Stp H A H (cutA A σ.length) C := by
  have sm : Same (hid H A C.G) (hid H (cutA A σ.length) C.G) := hid_less cutA_less
  have lq := R.len
  rw [List.length_append] at lq
  have dn : ∀ {i : Nat} {s : Slot}, (ρ.take σ.length)[i]? = some s → i < σ.length ∧ ρ[i]? = some s := fun {i s} h => by
    rw [List.getElem?_take] at h
    split at h
    · exact ⟨by assumption, h⟩
    · cases h
  have bk : ∀ {i : Nat} {v : Option V}, i < σ.length → (σ ++ τ)[i]? = some v → σ[i]? = some v := fun {i v} h e => by
    rw [List.getElem?_append_left h] at e
    exact e
  refine ⟨⟨by simp; omega, fun i d z => ?_, fun i p c z => ?_, fun i ns z => ?_, fun i j a z w => R.inj i j a (cutA_mem z).2 (cutA_mem w).2, fun i a z => R.sep i a (cutA_mem z).2, fun a z => R.liv a (cutA_less a z)⟩, sm, fun _ _ => rfl⟩
  · obtain ⟨hi, z⟩ := dn z
    obtain ⟨v, h1, h2⟩ := R.ro i d z
    exact ⟨v, bk hi h1, rep_mono sm _ _ h2⟩
  · obtain ⟨hi, z⟩ := dn z
    obtain ⟨a, h1, h2, h3, h4⟩ := R.own i p c z
    exact ⟨a, by unfold cutA; rw [if_pos hi]; exact h1, bk hi h2, ocAt_mono h3 rfl sm, h4⟩
  · obtain ⟨hi, z⟩ := dn z
    obtain ⟨a, h1, h2⟩ := R.scr i ns z
    exact ⟨a, bk hi h1, sql_mono sm h2⟩
section
variable {X : Cx} {e : Expr} {es : List Expr} {pos : Pos}
theorem pa_weak {t t' : TA} (h : PA X es t) (w : ∀ σ H Q, σ.length = X.N.length → t' σ H Q → t σ H Q) : PA X es t' :=
  ⟨fun pos pins s σ H Q I q => h.run pos pins s σ H Q I (w σ H Q I.len q)⟩
theorem xa_nil : PA X [] (tA X.K fANil) := pa_weak pa_nil fun σ H Q _ q => by
  obtain ⟨τ, A, C, ρ, as, ρ', R, ef, k⟩ := q
  cases ef
  exact k [] [] H A Stp.refl (by rw [List.append_nil]; exact R) rfl
theorem xa_cons {f : F1} {g : FA} (ha : PE X e (tF X.K f)) (hr : PA X es (tA X.K g)) (hs : starEach (e :: es) X.env = (false, eval e X.env) :: starEach es X.env := by rfl) : PA X (e :: es) (tA X.K (fACons f g)) :=
  pa_weak (pa_cons ha hr hs) fun σ H Q _ q => by
    obtain ⟨τ, A, C, ρ, as, ρ', R, ef, k⟩ := q
    obtain ⟨⟨x, ρ1⟩, e1, ef⟩ := bind_some ef
    obtain ⟨⟨xs, ρ2⟩, e2, ef⟩ := bind_some ef
    cases ef
    refine ⟨τ, A, C, ρ, x, ρ1, R, e1, fun v H1 A1 s1 R1 hx => ?_⟩
    refine ⟨τ, A1, C, ρ1, xs, _, R1, e2, fun vs τx H2 A2 s2 R2 hy => ?_⟩
    exact k _ τx H2 A2 (s1.trans s2) R2 ⟨v, vs, rfl, rep_mono s2.fr _ _ hx, hy⟩
theorem xa_slot (i : Nat) {x : Str} {pos : Pos} {g : FA} (hr : PA X es (tA X.K g)) (hN : X.N[i]? = some x := by rfl) (hv : Vis X.env.scope x := by first | exact Or.inl rfl | exact Or.inr (Or.inl rfl) | exact Or.inr (Or.inr rfl)) (hd : (x == ("__debug__" : Str)) = false := by decide)
    (hcd : (x == ("__classdict__" : Str)) = false := by decide) (hs : starEach (.Name x pos :: es) X.env = (false, eval (.Name x pos) X.env) :: starEach es X.env := by rfl) : PA X (.Name x pos :: es) (tA X.K (fASlot i g)) := by
  have hl : i < X.N.length := by
    obtain ⟨h, _⟩ := List.getElem?_eq_some_iff.mp hN
    exact h
  refine pa_weak (pa_cons (pe_var hN hv hd hcd) hr hs) fun σ H Q ls q => ?_
  obtain ⟨τ, A, C, ρ, as, ρ', R, ef, k⟩ := q
  obtain ⟨⟨xs, ρ2⟩, e2, ef⟩ := bind_some ef
  dsimp only at ef
  split at ef
  · rename_i hb
    cases ef
    have hσ : ∃ v, (σ ++ τ)[i]? = some (some v) := by
      unfold isVal at hb
      split at hb
      · rename_i p c z; obtain ⟨l, _, h2, _⟩ := R.own i p c z; exact ⟨_, h2⟩
      · rename_i ns z; obtain ⟨l, h2, _⟩ := R.scr i ns z; exact ⟨_, h2⟩
      · rename_i d z; obtain ⟨l, h2, _⟩ := R.ro i d z; exact ⟨_, h2⟩
      · cases hb
    obtain ⟨v, hσ⟩ := hσ
    have h0 : σ[i]? = some (some v) := by
      rw [List.getElem?_append_left (by omega)] at hσ
      exact hσ
    refine ⟨v, h0, τ, A, C, ρ, xs, _, R, e2, fun vs τx H2 A2 s2 R2 hy => ?_⟩
    exact k _ τx H2 A2 s2 R2 ⟨v, vs, rfl, get_left hσ, hy⟩
  · cases ef
theorem xa_new {f : FL} {g : FA} (ha : PE X e (tN X.K f)) (hr : PA X es (tA X.K g)) (hs : starEach (e :: es) X.env = (false, eval e X.env) :: starEach es X.env := by rfl) : PA X (e :: es) (tA X.K (fAN f g)) :=
  pa_weak (pa_cons ha hr hs) fun σ H Q _ q => by
    obtain ⟨τ, A, C, ρ, as, ρ', R, ef, k⟩ := q
    obtain ⟨⟨x, ρ1⟩, e1, ef⟩ := bind_some ef
    obtain ⟨⟨xs, ρ2⟩, e2, ef⟩ := bind_some ef
    cases ef
    refine ⟨τ, A, C, ρ, x, ρ1, R, e1, fun l vs H1 A1 s1 R1 h1 h2 => ?_⟩
    obtain ⟨R2, s2⟩ := R1.push h1 h2
    rw [List.append_assoc] at R2
    refine ⟨τ ++ [some (.ref l)], _, C, _, xs, _, R2, e2, fun vs τx H2 A2 s3 R3 hy => ?_⟩
    have eq : σ ++ (τ ++ [some (V.ref l)]) ++ τx = σ ++ τ ++ ([some (V.ref l)] ++ τx) := by simp
    rw [eq] at R3 hy
    refine k _ ([some (.ref l)] ++ τx) H2 A2 ((s1.trans s2).trans s3) R3 ⟨_, vs, rfl, ?_, hy⟩
    show (σ ++ τ ++ ([some (V.ref l)] ++ τx))[ρ1.length]? = some (some (V.ref l))
    rw [← R1.len, List.getElem?_append_right (by omega)]
    simp
theorem sz_of {n : Nat} (h : n ≤ 100000) : n ≤ sizeLine := Nat.le_trans h (by decide)
/-! displays -/
def valsOf : List Arg → Option (List Dt)
  | [] => some []
  | .val d :: as => (valsOf as).map (d :: ·)
  | .slot _ :: _ => none
theorem vals_rep {F : Hp} {σ : L2.St} : ∀ {as : List Arg} {vs : List V} {ds : List Dt}, ArgsAt F σ as vs → valsOf as = some ds → RepAll F ds vs
  | [], _, _, h, e => by cases e; exact h
  | .val d :: as, _, ds, h, e => by
    obtain ⟨v, ws, rfl, h1, h2⟩ := h
    unfold valsOf at e
    cases q : valsOf as with
    | none => rw [q] at e; cases e
    | some es =>
      rw [q] at e
      cases e
      exact ⟨v, ws, rfl, h1, vals_rep h2 q⟩
  | .slot _ :: _, _, _, _, e => by cases e
def fDisp (g : FA) : FL := fun ρ => do
  let (as, ρ1) ← g ρ
  let ds ← valsOf as
  if ds.length ≤ 100000 then pure (ds, ρ1.take ρ.length) else none
def fTup (g : FA) : F1 := fun ρ => do
  let (ds, ρ1) ← fDisp g ρ
  pure (.tuple ds, ρ1)
theorem app_nil_take {K : Frg} {H : Hp} {σ τ τx : L2.St} {ρ : Ev} {A : Fp} {C : Cn} {n : Nat} (R : Rp K H (σ ++ τ ++ τx) ρ A C) (hn : n = (σ ++ τ).length) : Rp K H (σ ++ τ) (ρ.take n) (cutA A (σ ++ τ).length) C ∧ Stp H A H (cutA A (σ ++ τ).length) C := by
  rw [hn]
  exact R.cut
theorem x_list {g : FA} (h : PA X es (tA X.K g)) : PE X (.List es pos) (tN X.K (fDisp g)) := pe_weak (pe_lst h) fun σ H Q _ q => by
  obtain ⟨τ, A, C, ρ, as, ρ', R, ef, k⟩ := q
  obtain ⟨⟨xs, ρ2⟩, e2, ef⟩ := bind_some ef
  obtain ⟨ds, e3, ef⟩ := bind_some ef
  split at ef
  · rename_i hz
    cases ef
    refine ⟨τ, A, C, ρ, xs, ρ2, R, e2, fun vs τx H2 A2 s2 R2 hy => ?_⟩
    have hr := vals_rep hy e3
    have hl := repAll_len hr
    obtain ⟨R3, s3⟩ := app_nil_take R2 R.len.symm
    refine ⟨sz_of (by omega), fun p hp => ?_⟩
    refine k p vs _ (cutA A2 (σ ++ τ).length) ?_ ?_ upd_same ?_
    · rw [rem_upd hp]; exact s2.trans s3
    · rw [rem_upd hp]; exact R3
    · rw [rem_upd hp]; exact repAll_mono s3.fr _ _ hr
  · cases ef
theorem x_tup {g : FA} {k0} (h : PA X es (tA X.K g)) : PE X (.Tuple es k0 pos) (tF X.K (fTup g)) := pe_weak (pe_tup h) fun σ H Q _ q => by
  obtain ⟨τ, A, C, ρ, as, ρ', R, ef, k⟩ := q
  obtain ⟨⟨ds, ρ3⟩, ef0, ef⟩ := bind_some ef
  cases ef
  obtain ⟨⟨xs, ρ2⟩, e2, ef⟩ := bind_some ef0
  obtain ⟨ds', e3, ef⟩ := bind_some ef
  split at ef
  · rename_i hz
    cases ef
    refine ⟨τ, A, C, ρ, xs, ρ2, R, e2, fun vs τx H2 A2 s2 R2 hy => ?_⟩
    have hr := vals_rep hy e3
    have hl := repAll_len hr
    obtain ⟨R3, s3⟩ := app_nil_take R2 R.len.symm
    refine ⟨sz_of (by omega), fun p hp => ?_⟩
    have s4 := Stp.grow (C := C) R3.liv (same_new (o := HO.tup vs) hp)
    refine k (.ref p) _ (cutA A2 (σ ++ τ).length) ((s2.trans s3).trans s4) (R3.grow (same_new hp)) ⟨p, vs, rfl, hid_new R3.liv hp, repAll_mono (s3.trans s4).fr _ _ hr⟩
  · cases ef
/-! calls of defs -/
abbrev FM := Ev → Option (Dt × Ev)
def slotIn : Option Slot → Option Slot
  | some (.own _ c) => some (.own true c)
  | some (.scr ns) => some (.scr ns)
  | some (.ro d) => some (.ro d)
  | _ => none
def argSlot (ρ : Ev) : Arg → Option Slot
  | .val d => some (.ro d)
  | .slot i => slotIn ρ[i]?
def argSlots (ρ : Ev) : List Arg → Option Ev
  | [] => some []
  | a :: as => do
    let s ← argSlot ρ a
    let r ← argSlots ρ as
    pure (s :: r)
def ownIx (ρ : Ev) : List Arg → List Nat
  | [] => []
  | .val _ :: as => ownIx ρ as
  | .slot i :: as => match ρ[i]? with
    | some (.own _ _) => i :: ownIx ρ as
    | _ => ownIx ρ as
def backs : List Arg → Ev → Ev → Option Ev
  | [], _, ρ => some ρ
  | .val _ :: as, _ :: ss, ρ => backs as ss ρ
  | .slot i :: as, s :: ss, ρ => match ρ[i]? with
    | some (.own p _) => match s with
      | .own true c => backs as ss (ρ.set i (.own p c))
      | _ => none
    | _ => backs as ss ρ
  | _, _, _ => none
def fCall (m : FM) (fa : FA) : F1 := fun ρ => do
  let (as, ρ1) ← fa ρ
  if (ownIx ρ1 as).Nodup then do
    let ρ0 ← argSlots ρ1 as
    let (d, ρ2) ← m ρ0
    let ρ3 ← backs as ρ2 ρ1
    pure (d, ρ3.take ρ.length)
  else none
/-- the promise of a def whose mirror is m -/
def spM (K : Frg) (m : FM) : Sp := fun vs H Q _ => ∃ (ρ : Ev) (A : Fp) (C : Cn) (d : Dt) (ρ' : Ev), Rp K H (vs.map some) ρ A C ∧ C.P = A ∧ (∀ (i : Nat) (p : Bool) (c : OC), ρ[i]? = some (Slot.own p c) → p = true) ∧ (∀ (i : Nat) (l : Addr), l ∈ A i → ∃ (p : Bool) (c : OC), ρ[i]? = some (Slot.own p c)) ∧ m ρ = some (d, ρ') ∧
  ∀ v H', Same (hid H A C.G) (hid H' A C.G) → (∀ l, C.G l → H' l = H l) → (∀ (i : Nat) (c : OC), ρ'[i]? = some (Slot.own true c) → ∃ l : Addr, A i = [l] ∧ OcAt H' (hid H' A C.G) l c) → Rep (hid H' A C.G) d v → Q v H'
theorem argsAt_get {F : Hp} {σ : L2.St} : ∀ {as : List Arg} {vs : List V}, ArgsAt F σ as vs → ∀ {i : Nat} {a : Arg}, as[i]? = some a → ∃ v, vs[i]? = some v ∧ ArgAt F σ a v
  | [], _, _, i, a, e => by simp at e
  | a :: as, _, h, i, a', e => by
    obtain ⟨v, ws, rfl, h1, h2⟩ := h
    cases i with
    | zero => simp at e; subst e; exact ⟨v, rfl, h1⟩
    | succ i => simpa using argsAt_get h2 (i := i) (a := a') (by simpa using e)
theorem argsAt_len {F : Hp} {σ : L2.St} : ∀ {as : List Arg} {vs : List V}, ArgsAt F σ as vs → as.length = vs.length
  | [], _, h => by cases h; rfl
  | a :: as, _, h => by
    obtain ⟨v, ws, rfl, _, h2⟩ := h
    simp [argsAt_len h2]
theorem argSlots_get {ρ : Ev} : ∀ {as : List Arg} {r : Ev}, argSlots ρ as = some r → ∀ {i : Nat} {s : Slot}, r[i]? = some s → ∃ a, as[i]? = some a ∧ argSlot ρ a = some s
  | [], r, h, i, s, e => by cases h; simp at e
  | a :: as, r, h, i, s, e => by
    obtain ⟨s0, h0, h⟩ := bind_some h
    obtain ⟨r0, h1, h⟩ := bind_some h
    cases h
    cases i with
    | zero => simp at e; subst e; exact ⟨a, rfl, h0⟩
    | succ i => simpa using argSlots_get h1 (i := i) (s := s) (by simpa using e)
theorem argSlots_len {ρ : Ev} : ∀ {as : List Arg} {r : Ev}, argSlots ρ as = some r → r.length = as.length
  | [], r, h => by cases h; rfl
  | a :: as, r, h => by
    obtain ⟨s0, h0, h⟩ := bind_some h
    obtain ⟨r0, h1, h⟩ := bind_some h
    cases h
    simp [argSlots_len h1]
theorem ownIx_mem {ρ : Ev} {i : Nat} : ∀ {as : List Arg}, i ∈ ownIx ρ as → ∃ k : Nat, as[k]? = some (Arg.slot i) ∧ ∃ (p : Bool) (c : OC), ρ[i]? = some (Slot.own p c)
  | [], h => by cases h
  | .val _ :: as, h => by
    obtain ⟨k, h1, h2⟩ := ownIx_mem (as := as) h
    exact ⟨k + 1, by simpa using h1, h2⟩
  | .slot j :: as, h => by
    unfold ownIx at h
    split at h
    · rename_i p c z
      rcases List.mem_cons.mp h with e | h
      · subst e; exact ⟨0, rfl, p, c, z⟩
      · obtain ⟨k, h1, h2⟩ := ownIx_mem (as := as) h
        exact ⟨k + 1, by simpa using h1, h2⟩
    · obtain ⟨k, h1, h2⟩ := ownIx_mem (as := as) h
      exact ⟨k + 1, by simpa using h1, h2⟩
theorem mem_ownIx {ρ : Ev} {i : Nat} {p : Bool} {c : OC} (z : ρ[i]? = some (Slot.own p c)) : ∀ {as : List Arg} {k : Nat}, as[k]? = some (.slot i) → i ∈ ownIx ρ as
  | [], k, h => by simp at h
  | a :: as, 0, h => by
    simp at h; subst h
    unfold ownIx; rw [z]; simp
  | .val _ :: as, k + 1, h => mem_ownIx z (as := as) (k := k) (by simpa using h)
  | .slot j :: as, k + 1, h => by
    have q := mem_ownIx z (as := as) (k := k) (by simpa using h)
    unfold ownIx
    split
    · exact List.mem_cons_of_mem _ q
    · exact q
theorem ownIx_inj {ρ : Ev} {i : Nat} {p : Bool} {c : OC} (z : ρ[i]? = some (Slot.own p c)) : ∀ {as : List Arg} {j k : Nat}, (ownIx ρ as).Nodup → as[j]? = some (.slot i) → as[k]? = some (.slot i) → j = k
  | [], j, k, _, h, _ => by simp at h
  | a :: as, 0, 0, _, _, _ => rfl
  | a :: as, 0, k + 1, nd, h, h' => by
    simp at h; subst h
    unfold ownIx at nd; rw [z] at nd
    exact absurd (mem_ownIx z (as := as) (k := k) (by simpa using h')) (List.nodup_cons.mp nd).1
  | a :: as, j + 1, 0, nd, h, h' => by
    simp at h'; subst h'
    unfold ownIx at nd; rw [z] at nd
    exact absurd (mem_ownIx z (as := as) (k := j) (by simpa using h)) (List.nodup_cons.mp nd).1
  | a :: as, j + 1, k + 1, nd, h, h' => by
    have nd' : (ownIx ρ as).Nodup := by
      cases a with
      | val d => exact nd
      | slot m =>
        unfold ownIx at nd
        split at nd
        · exact (List.nodup_cons.mp nd).2
        · exact nd
    rw [ownIx_inj (as := as) (j := j) (k := k) z nd' (by simpa using h) (by simpa using h')]
/-- what stands in a slot behind a call -/
def Backed (as : List Arg) (ss ρ ρ' : Ev) : Prop := ρ'.length = ρ.length ∧ ∀ (i : Nat) (s : Slot), ρ'[i]? = some s →
    (ρ[i]? = some s ∧ ((∃ p c, s = Slot.own p c) → ∀ k : Nat, as[k]? ≠ some (Arg.slot i))) ∨ (ρ[i]? = some s ∧ (∀ p c, s ≠ Slot.own p c)) ∨ ∃ (k : Nat) (p : Bool) (c c0 : OC), as[k]? = some (Arg.slot i) ∧ ss[k]? = some (Slot.own true c) ∧ s = Slot.own p c ∧ ρ[i]? = some (Slot.own p c0)
theorem backs_get : ∀ {as : List Arg} {ss ρ ρ' : Ev}, backs as ss ρ = some ρ' → Backed as ss ρ ρ'
  | [], ss, ρ, ρ', h => by
    cases h
    exact ⟨rfl, fun i s e => .inl ⟨e, fun _ k z => by simp at z⟩⟩
  | .val d :: as, [], ρ, ρ', h => by cases h
  | .val d :: as, _ :: ss, ρ, ρ', h => by
    obtain ⟨h1, h2⟩ := backs_get (as := as) (ss := ss) h
    refine ⟨h1, fun i s e => ?_⟩
    rcases h2 i s e with ⟨a, b⟩ | ⟨a, b⟩ | ⟨k, p, c, c0, a, b, c1, d1⟩
    · refine .inl ⟨a, fun w k z => ?_⟩
      cases k with
      | zero => simp at z
      | succ k => exact b w k (by simpa using z)
    · exact .inr (.inl ⟨a, b⟩)
    · exact .inr (.inr ⟨k + 1, p, c, c0, by simpa using a, by simpa using b, c1, d1⟩)
  | .slot j :: as, [], ρ, ρ', h => by cases h
  | .slot j :: as, s0 :: ss, ρ, ρ', h => by
    have other : (∀ p c, ρ[j]? ≠ some (Slot.own p c)) → backs as ss ρ = some ρ' → Backed (.slot j :: as) (s0 :: ss) ρ ρ' := fun z0 h => by
      obtain ⟨h1, h2⟩ := backs_get (as := as) (ss := ss) h
      refine And.intro h1 fun i s e => ?_
      rcases h2 i s e with ⟨a, b⟩ | ⟨a, b⟩ | ⟨k, p, c, c0', a, b, c1, d1⟩
      · refine .inl ⟨a, fun w k z => ?_⟩
        cases k with
        | zero =>
          simp at z
          subst z
          obtain ⟨p, c, rfl⟩ := w
          exact z0 p c a
        | succ k => exact b w k (by simpa using z)
      · exact .inr (.inl ⟨a, b⟩)
      · exact .inr (.inr ⟨k + 1, p, c, c0', by simpa using a, by simpa using b, c1, d1⟩)
    cases z0 : ρ[j]? with
    | none =>
      simp only [backs, z0] at h
      exact other (fun p c q => by rw [z0] at q; cases q) h
    | some s1 =>
      cases s1 with
      | own p0 c0 =>
        simp only [backs, z0] at h
        cases s0 with
        | own q0 c' =>
          cases q0 with
          | true =>
            have h : backs as ss (ρ.set j (.own p0 c')) = some ρ' := h
            obtain ⟨h1, h2⟩ := backs_get (as := as) (ss := ss) h
            refine ⟨by rw [h1]; simp, fun i s e => ?_⟩
            rcases h2 i s e with ⟨a, b⟩ | ⟨a, b⟩ | ⟨k, p, c, c0', a, b, c1, d1⟩
            · rcases set_get a with ⟨rfl, e'⟩ | ⟨ne, a⟩
              · exact .inr (.inr ⟨0, _, _, _, rfl, rfl, e'.symm, z0⟩)
              · refine .inl ⟨a, fun w k z => ?_⟩
                cases k with
                | zero => simp at z; exact ne z.symm
                | succ k => exact b w k (by simpa using z)
            · rcases set_get a with ⟨rfl, e'⟩ | ⟨ne, a⟩
              · exact absurd e'.symm (b _ _)
              · exact .inr (.inl ⟨a, b⟩)
            · refine .inr (.inr ?_)
              rcases set_get d1 with ⟨rfl, e'⟩ | ⟨ne, d1⟩
              · cases e'
                exact ⟨k + 1, _, c, c0, by simpa using a, by simpa using b, c1, z0⟩
              · exact ⟨k + 1, p, c, c0', by simpa using a, by simpa using b, c1, d1⟩
          | false => cases h
        | no => cases h
        | ro d => cases h
        | scr ns => cases h
      | no =>
        simp only [backs, z0] at h
        exact other (fun p c q => by rw [z0] at q; cases q) h
      | ro d =>
        simp only [backs, z0] at h
        exact other (fun p c q => by rw [z0] at q; cases q) h
      | scr ns =>
        simp only [backs, z0] at h
        exact other (fun p c q => by rw [z0] at q; cases q) h
/-- the callee's own, what it must leave -/
def calS (A : Fp) : Option Slot → Nat → List Addr
  | some (.own _ _), i => A i
  | _, _ => []
def calX (ρ : Ev) (A : Fp) : Option Arg → List Addr
  | some (.slot i) => calS A ρ[i]? i
  | _ => []
def calA (as : List Arg) (ρ : Ev) (A : Fp) : Fp := fun k => calX ρ A as[k]?
def calG (G : Addr → Prop) (as : List Arg) (ρ : Ev) (A : Fp) : Addr → Prop := fun l => G l ∨ ((∃ i, l ∈ A i) ∧ ∀ k, l ∉ calA as ρ A k)
theorem calA_mem {as : List Arg} {ρ : Ev} {A : Fp} {k : Nat} {l : Addr} (h : l ∈ calA as ρ A k) : ∃ (i : Nat) (p : Bool) (c : OC), as[k]? = some (Arg.slot i) ∧ ρ[i]? = some (Slot.own p c) ∧ l ∈ A i := by
  unfold calA at h
  cases e : as[k]? with
  | none => rw [e] at h; cases h
  | some a =>
    rw [e] at h
    cases a with
    | val d => cases h
    | slot i =>
      have h : l ∈ calS A ρ[i]? i := h
      cases z : ρ[i]? with
      | none => rw [z] at h; cases h
      | some s =>
        rw [z] at h
        cases s with
        | own p c => exact ⟨i, p, c, rfl, z, h⟩
        | no => cases h
        | ro d => cases h
        | scr ns => cases h
theorem calA_of {as : List Arg} {ρ : Ev} {A : Fp} {k i : Nat} {p : Bool} {c : OC} (h1 : as[k]? = some (Arg.slot i)) (h2 : ρ[i]? = some (Slot.own p c)) : calA as ρ A k = A i := by
  unfold calA
  rw [h1]
  show calS A ρ[i]? i = A i
  rw [h2]
  rfl
theorem cal_hid {as : List Arg} {ρ : Ev} {A : Fp} {G : Addr → Prop} (H : Hp) : hid H (calA as ρ A) (calG G as ρ A) = hid H A G := by
  have iff : ∀ a, ((∃ i, a ∈ calA as ρ A i) ∨ calG G as ρ A a) ↔ ((∃ i, a ∈ A i) ∨ G a) := fun a => by
    constructor
    · rintro (⟨k, z⟩ | (z | ⟨z, _⟩))
      · obtain ⟨i, _, _, _, _, z⟩ := calA_mem z
        exact .inl ⟨i, z⟩
      · exact .inr z
      · exact .inl z
    · rintro (z | z)
      · by_cases q : ∃ k, a ∈ calA as ρ A k
        · exact .inl q
        · exact .inr (.inr ⟨z, fun k w => q ⟨k, w⟩⟩)
      · exact .inr (.inl z)
  funext a
  unfold hid
  by_cases q : (∃ i, a ∈ A i) ∨ G a
  · rw [if_pos q, if_pos ((iff a).mpr q)]
  · rw [if_neg q, if_neg (fun z => q ((iff a).mp z))]
theorem cal_in {K : Frg} {C : Cn} {as : List Arg} {ρ1 ρ0 : Ev} {vs : List V} {S : L2.St} {H : Hp} {A : Fp} (R1 : Rp K H S ρ1 A C) (hv : ArgsAt (hid H A C.G) S as vs) (nd : (ownIx ρ1 as).Nodup) (e2 : argSlots ρ1 as = some ρ0) :
    Rp K H (vs.map some) ρ0 (calA as ρ1 A) ⟨calA as ρ1 A, calG C.G as ρ1 A⟩ ∧ (∀ (i : Nat) (p : Bool) (c : OC), ρ0[i]? = some (Slot.own p c) → p = true) ∧ (∀ (i : Nat) (l : Addr), l ∈ calA as ρ1 A i → ∃ (p : Bool) (c : OC), ρ0[i]? = some (Slot.own p c)) := by
  have slotAt : ∀ {k : Nat} {s : Slot}, ρ0[k]? = some s → ∃ (a : Arg) (v : V), as[k]? = some a ∧ argSlot ρ1 a = some s ∧ vs[k]? = some v ∧ ArgAt (hid H A C.G) S a v := fun {k s} h => by
    obtain ⟨a, h1, h2⟩ := argSlots_get e2 h
    obtain ⟨v, h3, h4⟩ := argsAt_get hv h1
    exact ⟨a, v, h1, h2, h3, h4⟩
  have vmap : ∀ {k : Nat} {v : V}, vs[k]? = some v → (vs.map some)[k]? = some (some v) := fun {k v} h => by rw [List.getElem?_map, h]; rfl
  refine ⟨⟨by rw [List.length_map, argSlots_len e2, argsAt_len hv], fun i d z => ?_, fun i p c z => ?_, fun i ns z => ?_, fun i j l z w => ?_, fun i l z => ?_, fun a z => ?_⟩, fun i p c z => ?_, fun i l z => ?_⟩
  · obtain ⟨a, v, h1, h2, h3, h4⟩ := slotAt z
    refine ⟨v, vmap h3, ?_⟩
    show Rep (hid H (calA as ρ1 A) (calG C.G as ρ1 A)) d v
    rw [cal_hid]
    cases a with
    | val d' => cases h2; exact h4
    | slot j =>
      have h2 : slotIn ρ1[j]? = some _ := h2
      unfold slotIn at h2
      split at h2
      · cases h2
      · cases h2
      · rename_i d' zz
        cases h2
        obtain ⟨v', h5, h6⟩ := R1.ro j _ zz
        have h4 : S[j]? = some (some v) := h4
        rw [h4] at h5; cases h5; exact h6
      · cases h2
  · obtain ⟨a, v, h1, h2, h3, h4⟩ := slotAt z
    cases a with
    | val d' => cases h2
    | slot j =>
      have h2 : slotIn ρ1[j]? = some _ := h2
      unfold slotIn at h2
      split at h2
      · rename_i p' c' zz
        cases h2
        obtain ⟨l, h5, h6, h7, h8⟩ := R1.own j _ _ zz
        have h4 : S[j]? = some (some v) := h4
        rw [h4] at h6; cases h6
        refine ⟨l, by rw [calA_of h1 zz]; exact h5, vmap h3, ?_, fun _ => by show calA as ρ1 A i = [l]; rw [calA_of h1 zz]; exact h5⟩
        show OcAt H (hid H (calA as ρ1 A) (calG C.G as ρ1 A)) l _
        rw [cal_hid]; exact h7
      · cases h2
      · cases h2
      · cases h2
  · obtain ⟨a, v, h1, h2, h3, h4⟩ := slotAt z
    cases a with
    | val d' => cases h2
    | slot j =>
      have h2 : slotIn ρ1[j]? = some _ := h2
      unfold slotIn at h2
      split at h2
      · cases h2
      · rename_i ns' zz
        cases h2
        obtain ⟨l, h5, h6⟩ := R1.scr j _ zz
        have h4 : S[j]? = some (some v) := h4
        rw [h4] at h5; cases h5
        refine ⟨l, vmap h3, ?_⟩
        show SqL K (hid H (calA as ρ1 A) (calG C.G as ρ1 A)) l _
        rw [cal_hid]; exact h6
      · cases h2
      · cases h2
  · obtain ⟨i', p, c, h1, h2, h3⟩ := calA_mem z
    obtain ⟨j', p', c', g1, g2, g3⟩ := calA_mem w
    have e := R1.inj i' j' l h3 g3
    subst e
    exact ownIx_inj h2 nd h1 g1
  · obtain ⟨i', p, c, h1, h2, h3⟩ := calA_mem z
    rintro (g | ⟨_, g⟩)
    · exact R1.sep i' l h3 g
    · exact g i z
  · rcases z with ⟨i, z⟩ | (z | ⟨⟨i, z⟩, _⟩)
    · obtain ⟨i', p, c, h1, h2, h3⟩ := calA_mem z
      exact R1.liv a (.inl ⟨i', h3⟩)
    · exact R1.liv a (.inr z)
    · exact R1.liv a (.inl ⟨i, z⟩)
  · obtain ⟨a, v, h1, h2, h3, h4⟩ := slotAt z
    cases a with
    | val d' => cases h2
    | slot j =>
      have h2 : slotIn ρ1[j]? = some _ := h2
      unfold slotIn at h2
      split at h2 <;> first | (cases h2; rfl) | cases h2
  · obtain ⟨j, p, c, h1, h2, h3⟩ := calA_mem z
    have hk : i < ρ0.length := by
      rw [argSlots_len e2]
      exact (List.getElem?_eq_some_iff.mp h1).1
    obtain ⟨a, q1, q2⟩ := argSlots_get e2 (List.getElem?_eq_getElem hk)
    rw [h1] at q1
    cases q1
    have q2 : slotIn ρ1[j]? = some ρ0[i] := q2
    rw [h2] at q2
    exact ⟨true, c, by rw [List.getElem?_eq_getElem hk]; exact q2.symm⟩
theorem cal_out {K : Frg} {C : Cn} {as : List Arg} {ρ1 ρ2 ρ3 : Ev} {S : L2.St} {H H' : Hp} {A : Fp} (R1 : Rp K H S ρ1 A C) (e4 : backs as ρ2 ρ1 = some ρ3) (sm : Same (hid H A C.G) (hid H' A C.G)) (gs : ∀ l, calG C.G as ρ1 A l → H' l = H l)
    (io : ∀ (i : Nat) (c : OC), ρ2[i]? = some (Slot.own true c) → ∃ l : Addr, calA as ρ1 A i = [l] ∧ OcAt H' (hid H' A C.G) l c) : Rp K H' S ρ3 A C := by
  obtain ⟨hlen, hget⟩ := backs_get e4
  have kept : ∀ {i : Nat} {l : Addr}, l ∈ A i → (∀ k, l ∉ calA as ρ1 A k) → H' l = H l := fun {i l} h1 h2 => gs l (.inr ⟨⟨i, h1⟩, h2⟩)
  refine ⟨by rw [hlen]; exact R1.len, fun i d z => ?_, fun i p c z => ?_, fun i ns z => ?_, R1.inj, R1.sep, fun a z => ?_⟩
  · rcases hget i _ z with ⟨z, _⟩ | ⟨z, _⟩ | ⟨k, p, c, c0, _, _, z, _⟩
    · obtain ⟨w, h1, h2⟩ := R1.ro i d z
      exact ⟨w, h1, rep_mono sm _ _ h2⟩
    · obtain ⟨w, h1, h2⟩ := R1.ro i d z
      exact ⟨w, h1, rep_mono sm _ _ h2⟩
    · cases z
  · rcases hget i _ z with ⟨z, hk⟩ | ⟨z, hk⟩ | ⟨k, p', c', c0, h1, h2, z, h3⟩
    · obtain ⟨l, h1, h2, h3, h4⟩ := R1.own i p c z
      refine ⟨l, h1, h2, ocAt_mono h3 (kept (i := i) (by rw [h1]; simp) fun k w => ?_) sm, h4⟩
      obtain ⟨i', p', c', g1, g2, g3⟩ := calA_mem w
      have e := R1.inj i' i l g3 (by rw [h1]; simp)
      subst e
      exact hk ⟨p, c, rfl⟩ k g1
    · exact absurd rfl (hk p c)
    · cases z
      obtain ⟨l, h5, h6, h7, h8⟩ := R1.own i p c0 h3
      obtain ⟨l', g1, g2⟩ := io k c h2
      rw [calA_of h1 h3, h5] at g1
      have e : l = l' := by simpa using g1
      subst e
      exact ⟨l, h5, h6, g2, h8⟩
  · rcases hget i _ z with ⟨z, _⟩ | ⟨z, _⟩ | ⟨k, p, c, c0, _, _, z, _⟩
    · obtain ⟨w, h1, h2⟩ := R1.scr i ns z
      exact ⟨w, h1, sql_mono sm h2⟩
    · obtain ⟨w, h1, h2⟩ := R1.scr i ns z
      exact ⟨w, h1, sql_mono sm h2⟩
    · cases z
  · rcases z with ⟨i, z⟩ | z
    · by_cases hk : ∃ k, a ∈ calA as ρ1 A k
      · obtain ⟨k, hk⟩ := hk
        obtain ⟨i', p, c, g1, g2, g3⟩ := calA_mem hk
        obtain ⟨hi', _⟩ := List.getElem?_eq_some_iff.mp g2
        have e3' : ρ3[i']? = some ρ3[i'] := List.getElem?_eq_getElem (by rw [hlen]; exact hi')
        rcases hget i' _ e3' with ⟨z1, z2⟩ | ⟨z1, z2⟩ | ⟨k', p', c', c0, y1, y2, y3, y4⟩
        · rw [g2] at z1
          exact absurd g1 (z2 ⟨p, c, (Option.some.inj z1).symm⟩ k)
        · rw [g2] at z1
          exact absurd (Option.some.inj z1).symm (z2 p c)
        · obtain ⟨l', w1, w2⟩ := io k' c' y2
          rw [calA_of y1 g2] at w1
          rw [w1] at g3
          rw [List.mem_singleton.mp g3]
          exact ocAt_live w2
      · rw [kept z (fun k w => hk ⟨k, w⟩)]
        exact R1.liv a (.inl ⟨i, z⟩)
    · rw [gs a (.inl z)]
      exact R1.liv a (.inr z)
theorem call_weak {K : Frg} {m : FM} {fa : FA} {σ : L2.St} {H : Hp} {Q : VK} {E : XK} (q : tF K (fCall m fa) σ H Q) : tCall (spM K m) [] E (tA K fa) σ H Q := by
  obtain ⟨τ, A, C, ρ, d, ρ', R, ef, k⟩ := q
  obtain ⟨⟨as, ρ1⟩, e1, ef⟩ := bind_some ef
  dsimp only at ef
  split at ef
  · rename_i nd
    obtain ⟨ρ0, e2, ef⟩ := bind_some ef
    obtain ⟨⟨d0, ρ2⟩, e3, ef⟩ := bind_some ef
    obtain ⟨ρ3, e4, ef⟩ := bind_some ef
    cases ef
    refine ⟨τ, A, C, ρ, as, ρ1, R, e1, fun vs τx H1 A1 s1 R1 hv => ?_⟩
    show spM K m (vs ++ []) H1 Q E
    rw [List.append_nil]
    obtain ⟨R0, hp, ho⟩ := cal_in R1 hv nd e2
    refine ⟨ρ0, _, ⟨_, _⟩, d0, ρ2, R0, rfl, hp, ho, e3, fun v H' sm gs io hr => ?_⟩
    dsimp only at sm gs io hr
    rw [cal_hid, cal_hid] at sm
    rw [cal_hid] at hr
    have R3 := cal_out R1 e4 sm gs (fun i c z => by
      obtain ⟨l, h1, h2⟩ := io i c z
      rw [cal_hid] at h2
      exact ⟨l, h1, h2⟩)
    have s2 : Stp H1 A1 H' A1 C := ⟨sm, fun l g => gs l (.inl g)⟩
    obtain ⟨R4, s4⟩ := app_nil_take R3 R.len.symm
    exact k v H' _ ((s1.trans s2).trans s4) R4 (rep_mono s4.fr _ _ hr)
  · cases ef
/-- defs that hand back a new list -/
abbrev FN := Ev → Option (List Dt × Ev)
def fCallN (m : FN) (fa : FA) : FL := fun ρ => do
  let (as, ρ1) ← fa ρ
  if (ownIx ρ1 as).Nodup then do
    let ρ0 ← argSlots ρ1 as
    let (d, ρ2) ← m ρ0
    let ρ3 ← backs as ρ2 ρ1
    pure (d, ρ3.take ρ.length)
  else none
def spN (K : Frg) (m : FN) : Sp := fun vs H Q _ => ∃ (ρ : Ev) (A : Fp) (C : Cn) (d : List Dt) (ρ' : Ev), Rp K H (vs.map some) ρ A C ∧ C.P = A ∧ (∀ (i : Nat) (p : Bool) (c : OC), ρ[i]? = some (Slot.own p c) → p = true) ∧ (∀ (i : Nat) (l : Addr), l ∈ A i → ∃ (p : Bool) (c : OC), ρ[i]? = some (Slot.own p c)) ∧ m ρ = some (d, ρ') ∧
  ∀ l ws H', Same (hid H A C.G) (hid (rem H' l) A C.G) → (∀ a, C.G a → rem H' l a = H a) → (∀ (i : Nat) (c : OC), ρ'[i]? = some (Slot.own true c) → ∃ a : Addr, A i = [a] ∧ OcAt (rem H' l) (hid (rem H' l) A C.G) a c) → H' l = some (.lst ws) → RepAll (hid (rem H' l) A C.G) d ws → Q (.ref l) H'
theorem callN_weak {K : Frg} {m : FN} {fa : FA} {σ : L2.St} {H : Hp} {Q : VK} {E : XK} (q : tN K (fCallN m fa) σ H Q) : tCall (spN K m) [] E (tA K fa) σ H Q := by
  obtain ⟨τ, A, C, ρ, d, ρ', R, ef, k⟩ := q
  obtain ⟨⟨as, ρ1⟩, e1, ef⟩ := bind_some ef
  dsimp only at ef
  split at ef
  · rename_i nd
    obtain ⟨ρ0, e2, ef⟩ := bind_some ef
    obtain ⟨⟨d0, ρ2⟩, e3, ef⟩ := bind_some ef
    obtain ⟨ρ3, e4, ef⟩ := bind_some ef
    cases ef
    refine ⟨τ, A, C, ρ, as, ρ1, R, e1, fun vs τx H1 A1 s1 R1 hv => ?_⟩
    show spN K m (vs ++ []) H1 Q E
    rw [List.append_nil]
    obtain ⟨R0, hp, ho⟩ := cal_in R1 hv nd e2
    refine ⟨ρ0, _, ⟨_, _⟩, d0, ρ2, R0, rfl, hp, ho, e3, fun l ws H' sm gs io hl hr => ?_⟩
    dsimp only at sm gs io hr
    rw [cal_hid, cal_hid] at sm
    rw [cal_hid] at hr
    have R3 := cal_out R1 e4 sm gs (fun i c z => by
      obtain ⟨l, h1, h2⟩ := io i c z
      rw [cal_hid] at h2
      exact ⟨l, h1, h2⟩)
    have s2 : Stp H1 A1 (rem H' l) A1 C := ⟨sm, fun l g => gs l (.inl g)⟩
    obtain ⟨R4, s4⟩ := app_nil_take R3 R.len.symm
    exact k l ws H' _ ((s1.trans s2).trans s4) R4 hl (repAll_mono s4.fr _ _ hr)
  · cases ef
end
end Mm

namespace Mm
open PySem L2
def Cont (K : Frg) (C : Cn) (H : Hp) (A : Fp) (D : Ends) : Out → Prop
  | .nx ρ' => ∀ σ' H' A', Stp H A H' A' C → Rp K H' σ' ρ' A' C → D.nx σ' H'
  | .rt d ρ' => ∀ v σ' H' A', Stp H A H' A' C → Rp K H' σ' ρ' A' C → Rep (hid H' A' C.G) d v → D.rt v H'
  | .rn ds ρ' => ∀ l vs σ' H' A', Stp H A (rem H' l) A' C → Rp K (rem H' l) σ' ρ' A' C → H' l = some (.lst vs) → RepAll (hid (rem H' l) A' C.G) ds vs → D.rt (.ref l) H'
  | .bk ρ' => ∀ σ' H' A', Stp H A H' A' C → Rp K H' σ' ρ' A' C → D.bk σ' H'
  | .ct ρ' => ∀ σ' H' A', Stp H A H' A' C → Rp K H' σ' ρ' A' C → D.ct σ' H'
def tS (K : Frg) (g : FS) : TS := fun D σ H => ∃ A C ρ o, Rp K H σ ρ A C ∧ g ρ = some o ∧ Cont K C H A D o
theorem Cont.step {K : Frg} {C : Cn} {H H1 : Hp} {A A1 : Fp} {D : Ends} {o : Out} (h : Cont K C H A D o) (s : Stp H A H1 A1 C) : Cont K C H1 A1 D o := by
  cases o with
  | nx ρ => exact fun σ' H' A' s' R => h σ' H' A' (s.trans s') R
  | rt d ρ => exact fun v σ' H' A' s' R => h v σ' H' A' (s.trans s') R
  | rn d ρ => exact fun l vs σ' H' A' s' R => h l vs σ' H' A' (s.trans s') R
  | bk ρ => exact fun σ' H' A' s' R => h σ' H' A' (s.trans s') R
  | ct ρ => exact fun σ' H' A' s' R => h σ' H' A' (s.trans s') R
def gNx : FS := fun ρ => some (.nx ρ)
def gSeq (g h : FS) : FS := fun ρ => do
  match ← g ρ with
  | .nx ρ1 => h ρ1
  | o => some o
/-- no slots behind -/
theorem Rp.nil {K : Frg} {H : Hp} {σ : L2.St} {ρ : Ev} {A : Fp} {C : Cn} (R : Rp K H σ ρ A C) : Rp K H (σ ++ []) ρ A C := by rw [List.append_nil]; exact R
theorem Rp.unil {K : Frg} {H : Hp} {σ : L2.St} {ρ : Ev} {A : Fp} {C : Cn} (R : Rp K H (σ ++ []) ρ A C) : Rp K H σ ρ A C := by rw [List.append_nil] at R; exact R
section
variable {X : Cx} {st : Stmt} {rest : List Stmt} {e : Expr} {pos : Pos}
theorem xs_nil : PSs X [] (tS X.K gNx) := pss_weak pss_nil fun D σ H _ q => by
  obtain ⟨A, C, ρ, o, R, ef, k⟩ := q
  cases ef
  exact k σ H A Stp.refl R
theorem xs_pass : PS X (.Pass pos) (tS X.K gNx) := ps_weak ps_pass fun D σ H _ q => by
  obtain ⟨A, C, ρ, o, R, ef, k⟩ := q
  cases ef
  exact k σ H A Stp.refl R
theorem seq_weak {K : Frg} {g h : FS} {D : Ends} {σ : L2.St} {H : Hp} (q : tS K (gSeq g h) D σ H) : tSeq (tS K g) (tS K h) D σ H := by
  obtain ⟨A, C, ρ, o, R, ef, k⟩ := q
  obtain ⟨o1, e1, ef⟩ := bind_some ef
  refine ⟨A, C, ρ, o1, R, e1, ?_⟩
  cases o1 with
  | nx ρ1 => exact fun σ' H' A' s R1 => ⟨A', C, ρ1, o, R1, ef, k.step s⟩
  | rt d ρ1 => cases ef; exact k
  | rn d ρ1 => cases ef; exact k
  | bk ρ1 => cases ef; exact k
  | ct ρ1 => cases ef; exact k
theorem xs_cons {g h : FS} (h1 : PS X st (tS X.K g)) (h2 : PSs X rest (tS X.K h)) : PSs X (st :: rest) (tS X.K (gSeq g h)) := pss_weak (pss_cons h1 h2) fun D σ H _ q => seq_weak q
theorem xs_one {g : FS} (h1 : PS X st (tS X.K g)) : PSs X [st] (tS X.K g) := pss_one h1
def gBk : FS := fun ρ => some (.bk ρ)
def gCt : FS := fun ρ => some (.ct ρ)
theorem xs_break : PS X (.Break pos) (tS X.K gBk) := ps_weak ps_break fun D σ H _ q => by
  obtain ⟨A, C, ρ, o, R, ef, k⟩ := q
  cases ef
  exact k σ H A Stp.refl R
theorem xs_cont : PS X (.Continue pos) (tS X.K gCt) := ps_weak ps_continue fun D σ H _ q => by
  obtain ⟨A, C, ρ, o, R, ef, k⟩ := q
  cases ef
  exact k σ H A Stp.refl R
def gBot : FS := fun _ => none
theorem xs_never : PS X st (tS X.K gBot) := ps_weak ps_never fun D σ H _ q => by
  obtain ⟨A, C, ρ, o, R, ef, k⟩ := q
  cases ef
def gExpr (f : F1) : FS := fun ρ => do
  let (_, ρ1) ← f ρ
  some (.nx ρ1)
theorem xs_expr {f : F1} (h : PE X e (tF X.K f)) (hs : swapsWith e none pos.line X.env = pure false := by rfl) : PS X (.Expr e pos) (tS X.K (gExpr f)) := ps_weak (ps_expr h hs) fun D σ H _ q => by
  obtain ⟨A, C, ρ, o, R, ef, k⟩ := q
  obtain ⟨⟨d, ρ1⟩, e1, ef⟩ := bind_some ef
  cases ef
  exact ⟨[], A, C, ρ, d, ρ1, R.nil, e1, fun v H' A' s R' _ => k σ H' A' s R'.unil⟩
def gRet (f : F1) : FS := fun ρ => do
  let (d, ρ1) ← f ρ
  some (.rt d ρ1)
theorem xs_ret {f : F1} (h : PE X e (tF X.K f)) : PS X (.Return (some e) pos) (tS X.K (gRet f)) := ps_weak (ps_ret h) fun D σ H _ q => by
  obtain ⟨A, C, ρ, o, R, ef, k⟩ := q
  obtain ⟨⟨d, ρ1⟩, e1, ef⟩ := bind_some ef
  cases ef
  exact ⟨[], A, C, ρ, d, ρ1, R.nil, e1, fun v H' A' s R' hv => k v σ H' A' s R'.unil hv⟩
def gRetL (f : FL) : FS := fun ρ => do
  let (d, ρ1) ← f ρ
  some (.rn d ρ1)
theorem xs_retL {f : FL} (h : PE X e (tN X.K f)) : PS X (.Return (some e) pos) (tS X.K (gRetL f)) := ps_weak (ps_ret h) fun D σ H _ q => by
  obtain ⟨A, C, ρ, o, R, ef, k⟩ := q
  obtain ⟨⟨d, ρ1⟩, e1, ef⟩ := bind_some ef
  cases ef
  exact ⟨[], A, C, ρ, d, ρ1, R.nil, e1, fun l vs H' A' s R' hl hv => k l vs σ H' A' s R'.unil hl hv⟩
def gRetN : FS := fun ρ => some (.rt .none ρ)
theorem xs_retN : PS X (.Return none pos) (tS X.K gRetN) := ps_weak ps_retN fun D σ H _ q => by
  obtain ⟨A, C, ρ, o, R, ef, k⟩ := q
  cases ef
  exact k _ σ H A Stp.refl R rfl
def gIf (t : FB) (g h : FS) : FS := fun ρ => do
  let (b, ρ1) ← t ρ
  if b = true then g ρ1 else h ρ1
theorem xs_if {c : Expr} {a b : List Stmt} {t : FB} {g h : FS} (hc : PT X c (tT X.K t)) (ha : PSs X a (tS X.K g)) (hb : PSs X b (tS X.K h)) : PS X (.If c a b pos) (tS X.K (gIf t g h)) :=
  ps_weak (ps_if hc ha hb) fun D σ H _ q => by
    obtain ⟨A, C, ρ, o, R, ef, k⟩ := q
    obtain ⟨⟨d, ρ1⟩, e1, ef⟩ := bind_some ef
    refine ⟨[], A, C, ρ, d, ρ1, R.nil, e1, fun H' A' s R' => ?_⟩
    cases d with
    | true => exact ⟨A', C, ρ1, o, R'.unil, ef, k.step s⟩
    | false => exact ⟨A', C, ρ1, o, R'.unil, ef, k.step s⟩

/-! targets -/
def free (ρ : Ev) (i : Nat) : Bool := match ρ[i]? with
  | some (.own true _) => false
  | none => false
  | _ => true
abbrev FT := Dt → Ev → Option Ev
def tG (K : Frg) (js : List Nat) (fb : FT) : TG := fun v σ H Q => ∃ τ A C ρ d ρ', Rp K H (σ ++ τ) ρ A C ∧ Rep (hid H A C.G) d v ∧ fb d ρ = some ρ' ∧
  ∀ σ' H' A', σ'.length = σ.length → (∀ i, i ∉ js → σ'[i]? = σ[i]?) → Stp H A H' A' C → Rp K H' (σ' ++ τ) ρ' A' C → Q σ' H'
def tGs (K : Frg) (js : List Nat) (fb : List Dt → Ev → Option Ev) : TGs := fun vs σ H Q => ∃ τ A C ρ ds ρ', Rp K H (σ ++ τ) ρ A C ∧ RepAll (hid H A C.G) ds vs ∧ fb ds ρ = some ρ' ∧
  ∀ σ' H' A', σ'.length = σ.length → (∀ i, i ∉ js → σ'[i]? = σ[i]?) → Stp H A H' A' C → Rp K H' (σ' ++ τ) ρ' A' C → Q σ' H'
theorem pg_weak {tg : Expr} {t t' : TG} (h : PG X tg t) (w : ∀ v σ H Q, σ.length = X.N.length → t' v σ H Q → t v σ H Q) : PG X tg t' :=
  ⟨fun pins s σ H v u Q I r q => h.run pins s σ H v u Q I r (w v σ H Q I.len q)⟩
theorem pgs_weak {tg : List Expr} {t t' : TGs} (h : PGs X tg t) (w : ∀ v σ H Q, σ.length = X.N.length → t' v σ H Q → t v σ H Q) : PGs X tg t' :=
  ⟨fun pins s σ H v u Q I r q => h.run pins s σ H v u Q I r (w v σ H Q I.len q)⟩
def bName (i : Nat) : FT := fun d ρ => if free ρ i = true then some (ρ.set i (.ro d)) else none
theorem xg_name {i : Nat} {x : Str} (hN : X.N.Nodup) (hi : X.N[i]? = some x := by rfl) (hx : Loc X.env.scope x := by first | exact .inl rfl | exact .inr rfl) (hf : X.fn x = true ∨ X.env.scope.names.lookup x = some .local := by first | exact .inl rfl | exact .inr rfl) : PG X (.Name x pos) (tG X.K [i] (bName i)) := by
  have hl : i < X.N.length := by
    obtain ⟨h, _⟩ := List.getElem?_eq_some_iff.mp hi
    exact h
  refine pg_weak (pg_name hN hi hx hf) fun v σ H Q ls q => ?_
  obtain ⟨τ, A, C, ρ, d, ρ', R, hv, ef, k⟩ := q
  unfold bName at ef
  split at ef
  · cases ef
    have R2 := R.setRo (i := i) (rep_mono (hid_less updA_less) _ _ hv)
    rw [List.set_append_left _ _ (by omega)] at R2
    exact k _ H _ (by simp) (fun j hj => by rw [List.getElem?_set_ne (fun e => hj (by simp [e]))]) Stp.drop R2
  · cases ef
def bNil : List Dt → Ev → Option Ev := fun ds ρ => match ds with
  | [] => some ρ
  | _ => none
def bCons (f : FT) (g : List Dt → Ev → Option Ev) : List Dt → Ev → Option Ev := fun ds ρ => match ds with
  | d :: r => do
    let ρ1 ← f d ρ
    g r ρ1
  | _ => none
theorem xgs_nil : PGs X [] (tGs X.K [] bNil) := pgs_weak pgs_nil fun v σ H Q ls q => by
  obtain ⟨τ, A, C, ρ, ds, ρ', R, hv, ef, k⟩ := q
  unfold bNil at ef
  split at ef
  · cases ef
    exact ⟨hv, k σ H A rfl (fun _ _ => rfl) Stp.refl R⟩
  · cases ef
theorem xgs_cons {es : List Expr} {js ks : List Nat} {f : FT} {g : List Dt → Ev → Option Ev} (h1 : PG X e (tG X.K js f)) (h2 : PGs X es (tGs X.K ks g))
    (hs : (assignEach (e :: es) X.env).map (·.2) = assign e X.env :: (assignEach es X.env).map (·.2) := by rfl) : PGs X (e :: es) (tGs X.K (js ++ ks) (bCons f g)) :=
  pgs_weak (pgs_cons h1 h2 hs) fun v σ H Q ls q => by
    obtain ⟨τ, A, C, ρ, ds, ρ', R, hv, ef, k⟩ := q
    cases ds with
    | nil => cases ef
    | cons d r =>
      obtain ⟨v, vs, rfl, g1, g2⟩ := hv
      obtain ⟨ρ1, e1, ef⟩ := bind_some (show (f d ρ >>= fun ρ1 => g r ρ1) = some ρ' from ef)
      refine ⟨v, vs, rfl, τ, A, C, ρ, d, ρ1, R, g1, e1, fun σ1 H1 A1 l1 o1 s1 R1 => ?_⟩
      refine ⟨τ, A1, C, ρ1, r, ρ', R1, repAll_mono s1.fr _ _ g2, ef, fun σ2 H2 A2 l2 o2 s2 R2 => ?_⟩
      exact k σ2 H2 A2 (l2.trans l1) (fun i hi => (o2 i fun z => hi (by simp [z])).trans (o1 i fun z => hi (by simp [z]))) (s1.trans s2) R2
def bTup (n : Nat) (g : List Dt → Ev → Option Ev) : FT := fun d ρ => match d with
  | .tuple ds => if ds.length = n then g ds ρ else none
  | _ => none
theorem xg_tup {es : List Expr} {k0 : Nat} {js : List Nat} {g : List Dt → Ev → Option Ev} {n : Nat} (hc : X.calm = true) (h : PGs X es (tGs X.K js g))
    (hn : (assignEach es X.env).length = n := by rfl) (hst : (assignEach es X.env).findIdx? (·.1) = none := by rfl) : PG X (.Tuple es k0 pos) (tG X.K js (bTup n g)) :=
  pg_weak (pg_tup hc h hn hst) fun v σ H Q ls q => by
    obtain ⟨τ, A, C, ρ, d, ρ', R, hv, ef, k⟩ := q
    unfold bTup at ef
    split at ef
    · rename_i ds
      split at ef
      · rename_i hl
        obtain ⟨a, xs, rfl, h1, h2⟩ := hv
        exact ⟨a, xs, rfl, .inl (.inl (hid_sub _ _ h1)), by rw [← repAll_len h2]; exact hl, τ, A, C, ρ, ds, ρ', R, h2, ef, k⟩
      · cases ef
    · cases ef
def gAsg (f : F1) (fb : FT) : FS := fun ρ => do
  let (d, ρ1) ← f ρ
  let ρ2 ← fb d ρ1
  some (.nx ρ2)
theorem asg_weak {K : Frg} {f : F1} {js : List Nat} {fb : FT} {D : Ends} {σ : L2.St} {H : Hp} (q : tS K (gAsg f fb) D σ H) : tAsg (tF K f) (tG K js fb) D σ H := by
  obtain ⟨A, C, ρ, o, R, ef, k⟩ := q
  obtain ⟨⟨d, ρ1⟩, e1, ef⟩ := bind_some ef
  obtain ⟨ρ2, e2, ef⟩ := bind_some ef
  cases ef
  refine ⟨[], A, C, ρ, d, ρ1, R.nil, e1, fun v H' A' s R' hv => ?_⟩
  exact ⟨[], A', C, ρ1, d, ρ2, R', hv, e2, fun σ2 H2 A2 _ _ s2 R2 => k σ2 H2 A2 (s.trans s2) R2.unil⟩
theorem xs_asg {tg : Expr} {f : F1} {js : List Nat} {fb : FT} (he : PE X e (tF X.K f)) (hg : PG X tg (tG X.K js fb)) (hs : swapsWithSole [tg] e pos.line X.env = pure false := by rfl) (hw : swappedStores [tg] e X.env = pure none := by rfl)
    (h1 : (assignEach [tg] X.env).map (·.2) = [assign tg X.env] := by rfl) : PS X (.Assign [tg] e pos) (tS X.K (gAsg f fb)) :=
  ps_weak (ps_asg he hg hs hw h1) fun D σ H _ q => asg_weak q
theorem xs_set {i : Nat} {x : Str} {pos' : Pos} {f : F1} (hN : X.N.Nodup) (he : PE X e (tF X.K f)) (hi : X.N[i]? = some x := by rfl) (hx : Loc X.env.scope x := by first | exact .inl rfl | exact .inr rfl) (hs : swapsWith e (some (.Name x pos')) pos.line X.env = pure false := by rfl) (hf : X.fn x = true ∨ X.env.scope.names.lookup x = some .local := by first | exact .inl rfl | exact .inr rfl) :
    PS X (.Assign [.Name x pos'] e pos) (tS X.K (gAsg f (bName i))) := by
  have hl : i < X.N.length := by
    obtain ⟨h, _⟩ := List.getElem?_eq_some_iff.mp hi
    exact h
  refine ps_weak (ps_set hN hi hx he hs hf) fun D σ H ls q => ?_
  obtain ⟨A, C, ρ, o, R, ef, k⟩ := q
  obtain ⟨⟨d, ρ1⟩, e1, ef⟩ := bind_some ef
  obtain ⟨ρ2, e2, ef⟩ := bind_some ef
  cases ef
  refine ⟨[], A, C, ρ, d, ρ1, R.nil, e1, fun v H' A' s R' hv => ?_⟩
  unfold bName at e2
  split at e2
  · cases e2
    have R2 := R'.unil.setRo (i := i) (rep_mono (hid_less updA_less) _ _ hv)
    exact k _ H' _ (s.trans Stp.drop) R2
  · cases e2
/-- slot i takes what stands at slot k, one's own -/
theorem Rp.move {K : Frg} {H : Hp} {σ : L2.St} {ρ : Ev} {A : Fp} {C : Cn} {i k : Nat} {c : OC} {l : Addr} (R : Rp K H σ ρ A C) (hk : ρ[k]? = some (.own false c)) (hl : σ[k]? = some (some (.ref l))) (ne : i ≠ k) (hi : free ρ i = true) :
    Rp K H (σ.set i (some (.ref l))) ((ρ.set k .no).set i (.own false c)) (updA (updA A k []) i [l]) C ∧ Stp H A H (updA (updA A k []) i [l]) C := by
  obtain ⟨l', h1, h2, h3, _⟩ := R.own k _ _ hk
  rw [hl] at h2
  cases h2
  have less : ∀ a, ((∃ j, a ∈ updA (updA A k []) i [l] j) ∨ C.G a) → ((∃ j, a ∈ A j) ∨ C.G a) := by
    rintro a (⟨j, z⟩ | z)
    · by_cases e : j = i
      · subst e; rw [updA_at] at z; rw [List.mem_singleton.mp z]; exact .inl ⟨k, by rw [h1]; simp⟩
      · rw [updA_ne e] at z
        by_cases e2 : j = k
        · subst e2; rw [updA_at] at z; cases z
        · rw [updA_ne e2] at z; exact .inl ⟨j, z⟩
    · exact .inr z
  have sm : Same (hid H A C.G) (hid H (updA (updA A k []) i [l]) C.G) := hid_less less
  have hiσ : i < σ.length := by
    rw [R.len]
    unfold free at hi
    by_cases q : i < ρ.length
    · exact q
    · rw [List.getElem?_eq_none (by omega)] at hi; cases hi
  have get : ∀ {j : Nat} {s : Slot}, ((ρ.set k .no).set i (.own false c))[j]? = some s → (j = i ∧ s = .own false c) ∨ (j ≠ i ∧ j = k ∧ s = .no) ∨ (j ≠ i ∧ j ≠ k ∧ ρ[j]? = some s) := fun {j s} z => by
    rcases set_get z with ⟨rfl, e⟩ | ⟨n, z⟩
    · exact .inl ⟨rfl, e.symm⟩
    · rcases set_get z with ⟨rfl, e⟩ | ⟨n2, z⟩
      · exact .inr (.inl ⟨n, rfl, e.symm⟩)
      · exact .inr (.inr ⟨n, n2, z⟩)
  refine ⟨⟨by simp [R.len], fun j d z => ?_, fun j p c' z => ?_, fun j ns z => ?_, fun j m a z w => ?_, fun j a z => ?_, fun a z => R.liv a (less a z)⟩, sm, fun _ _ => rfl⟩
  · rcases get z with ⟨_, e⟩ | ⟨_, _, e⟩ | ⟨n1, n2, z⟩
    · cases e
    · cases e
    · obtain ⟨v, g1, g2⟩ := R.ro j d z
      exact ⟨v, by rw [List.getElem?_set_ne (Ne.symm n1)]; exact g1, rep_mono sm _ _ g2⟩
  · rcases get z with ⟨rfl, e⟩ | ⟨_, _, e⟩ | ⟨n1, n2, z⟩
    · cases e
      exact ⟨l, updA_at, by simp [hiσ], ocAt_mono h3 rfl sm, fun q => nomatch q⟩
    · cases e
    · obtain ⟨a, g1, g2, g3, g4⟩ := R.own j p c' z
      exact ⟨a, by rw [updA_ne n1, updA_ne n2]; exact g1, by rw [List.getElem?_set_ne (Ne.symm n1)]; exact g2, ocAt_mono g3 rfl sm, g4⟩
  · rcases get z with ⟨_, e⟩ | ⟨_, _, e⟩ | ⟨n1, n2, z⟩
    · cases e
    · cases e
    · obtain ⟨a, g1, g2⟩ := R.scr j ns z
      exact ⟨a, by rw [List.getElem?_set_ne (Ne.symm n1)]; exact g1, sql_mono sm g2⟩
  · have src : ∀ {j : Nat} {a : Addr}, a ∈ updA (updA A k []) i [l] j → (j = i ∧ a = l) ∨ (j ≠ i ∧ j ≠ k ∧ a ∈ A j) := fun {j a} z => by
      by_cases e : j = i
      · subst e; rw [updA_at] at z; exact .inl ⟨rfl, List.mem_singleton.mp z⟩
      · rw [updA_ne e] at z
        by_cases e2 : j = k
        · subst e2; rw [updA_at] at z; cases z
        · rw [updA_ne e2] at z; exact .inr ⟨e, e2, z⟩
    rcases src z with ⟨e1, e2⟩ | ⟨n1, n2, z'⟩
    · rcases src w with ⟨e3, _⟩ | ⟨m1, m2, w'⟩
      · exact e1.trans e3.symm
      · exact absurd (R.inj m k a w' (by rw [h1, e2]; simp)) m2
    · rcases src w with ⟨e3, e4⟩ | ⟨m1, m2, w'⟩
      · exact absurd (R.inj j k a z' (by rw [h1, e4]; simp)) n2
      · exact R.inj j m a z' w'
  · rcases less a (.inl ⟨j, z⟩) with ⟨m, q⟩ | q
    · exact R.sep m a q
    · by_cases e : j = i
      · subst e; rw [updA_at] at z; rw [List.mem_singleton.mp z]; exact R.sep k l (by rw [h1]; simp)
      · rw [updA_ne e] at z
        by_cases e2 : j = k
        · subst e2; rw [updA_at] at z; cases z
        · rw [updA_ne e2] at z; exact R.sep j a z
def gSetN (i : Nat) (f : FL) : FS := fun ρ => do
  let (ds, ρ1) ← f ρ
  if free ρ1 i = true then some (.nx (ρ1.set i (.own false (.lst ds)))) else none
theorem free_left {ρ r : Ev} {i : Nat} (h : free ρ i = true) : free (ρ ++ r) i = true := by
  unfold free at h ⊢
  by_cases q : i < ρ.length
  · rw [List.getElem?_append_left q]; exact h
  · rw [List.getElem?_eq_none (by omega)] at h; cases h
theorem free_lt {ρ : Ev} {i : Nat} (h : free ρ i = true) : i < ρ.length := by
  unfold free at h
  by_cases q : i < ρ.length
  · exact q
  · rw [List.getElem?_eq_none (by omega)] at h; cases h
/-- a new list comes to slot i -/
theorem Rp.setOwn {K : Frg} {H : Hp} {σ : L2.St} {ρ : Ev} {A : Fp} {C : Cn} {l : Addr} {vs : List V} {ds : List Dt} {i : Nat} (R : Rp K (rem H l) σ ρ A C) (hl : H l = some (.lst vs)) (hv : RepAll (hid (rem H l) A C.G) ds vs) (hi : free ρ i = true) :
    ∃ A', Rp K H (σ.set i (some (.ref l))) (ρ.set i (.own false (.lst ds))) A' C ∧ Stp (rem H l) A H A' C := by
  obtain ⟨R1, s1⟩ := R.push hl hv
  have lt := free_lt hi
  have hk : (ρ ++ [Slot.own false (.lst ds)])[ρ.length]? = some (.own false (.lst ds)) := by simp
  have hs : (σ ++ [some (V.ref l)])[ρ.length]? = some (some (.ref l)) := by rw [← R.len]; simp
  obtain ⟨R2, s2⟩ := R1.move hk hs (by omega) (free_left hi)
  rw [List.set_append_left _ _ (by rw [R.len]; exact lt)] at R2
  obtain ⟨R3, s3⟩ := R2.cut
  have e : (((ρ ++ [Slot.own false (.lst ds)]).set ρ.length .no).set i (.own false (.lst ds))).take (σ.set i (some (V.ref l))).length = ρ.set i (.own false (.lst ds)) := by
    rw [List.length_set, R.len]
    apply List.ext_getElem?
    intro j
    rw [List.getElem?_take]
    by_cases hj : j < ρ.length
    · rw [if_pos hj]
      by_cases ej : i = j
      · subst ej; rw [List.getElem?_set_self (by simp; omega), List.getElem?_set_self lt]
      · rw [List.getElem?_set_ne ej, List.getElem?_set_ne ej, List.getElem?_set_ne (by omega), List.getElem?_append_left hj]
    · rw [if_neg hj, List.getElem?_eq_none (by simp; omega)]
  rw [e] at R3
  exact ⟨_, R3, (s1.trans s2).trans s3⟩
theorem setN_weak {K : Frg} {f : FL} {i : Nat} {D : Ends} {σ : L2.St} {H : Hp} (q : tS K (gSetN i f) D σ H) : tAsg (tN K f) (gName i) D σ H := by
  obtain ⟨A, C, ρ, o, R, ef, k⟩ := q
  obtain ⟨⟨ds, ρ1⟩, e1, ef⟩ := bind_some ef
  dsimp only at ef
  split at ef
  · rename_i hf
    cases ef
    refine ⟨[], A, C, ρ, ds, ρ1, R.nil, e1, fun l vs H' A' s R' hl hv => ?_⟩
    obtain ⟨A2, R2, s2⟩ := R'.unil.setOwn hl hv hf
    exact k _ H' A2 (s.trans s2) R2
  · cases ef
theorem xs_setN {i : Nat} {x : Str} {pos' : Pos} {f : FL} (hN : X.N.Nodup) (he : PE X e (tN X.K f)) (hi : X.N[i]? = some x := by rfl) (hx : Loc X.env.scope x := by first | exact .inl rfl | exact .inr rfl) (hs : swapsWith e (some (.Name x pos')) pos.line X.env = pure false := by rfl) (hf : X.fn x = true ∨ X.env.scope.names.lookup x = some .local := by first | exact .inl rfl | exact .inr rfl) :
    PS X (.Assign [.Name x pos'] e pos) (tS X.K (gSetN i f)) := ps_weak (ps_set hN hi hx he hs hf) fun D σ H ls q => setN_weak q
/-! several names at once: x, y = a, b -/
def putSlot (ρ : Ev) (i k : Nat) : Option Slot → Option Ev
  | some (.own false c) => if free ρ i = true ∧ i ≠ k then some ((ρ.set k .no).set i (.own false c)) else none
  | _ => none
def putArg (ρ : Ev) (i : Nat) : Arg → Option Ev
  | .val d => if free ρ i = true then some (ρ.set i (.ro d)) else none
  | .slot k => putSlot ρ i k ρ[k]?
def putArgs : List Nat → List Arg → Ev → Option Ev
  | [], [], ρ => some ρ
  | i :: is, a :: as, ρ => do
    let ρ1 ← putArg ρ i a
    putArgs is as ρ1
  | _, _, _ => none
/-- names that take values in turn; S the slots with those behind -/
def setMany : L2.St → List Nat → List V → L2.St
  | σ, i :: is, v :: vs => setMany (σ.set i (some v)) is vs
  | σ, _, _ => σ
def slotArgs : List Arg → List Nat
  | [] => []
  | .val _ :: as => slotArgs as
  | .slot k :: as => k :: slotArgs as
theorem put_all {K : Frg} {C : Cn} {H : Hp} : ∀ (is : List Nat) (as : List Arg) (vs : List V) (S : L2.St) (ρ ρ' : Ev) (A : Fp), Rp K H S ρ A C → (∀ i ∈ is, ∀ k ∈ slotArgs as, i ≠ k) → ArgsAt (hid H A C.G) S as vs → putArgs is as ρ = some ρ' →
    ∃ A', Rp K H (setMany S is vs) ρ' A' C ∧ Stp H A H A' C
  | [], [], vs, S, ρ, ρ', A, R, _, h, e => by
    cases e
    cases h
    exact ⟨A, R, Stp.refl⟩
  | i :: is, [], vs, S, ρ, ρ', A, R, _, h, e => by cases e
  | [], a :: as, vs, S, ρ, ρ', A, R, _, h, e => by cases e
  | i :: is, a :: as, vs, S, ρ, ρ', A, R, dj, h, e => by
    obtain ⟨v, ws, rfl, h1, h2⟩ := h
    obtain ⟨ρ1, e1, e2⟩ := bind_some (show (putArg ρ i a >>= fun ρ1 => putArgs is as ρ1) = some ρ' from e)
    have argmono : ∀ {as : List Arg} {vs : List V} {A1 : Fp} , (∀ k ∈ slotArgs as, i ≠ k) → Same (hid H A C.G) (hid H A1 C.G) → ArgsAt (hid H A C.G) S as vs → ArgsAt (hid H A1 C.G) (S.set i (some v)) as vs := by
      intro as
      induction as with
      | nil => intro vs A1 _ _ h; exact h
      | cons b bs ih =>
        intro vs A1 dj m h
        obtain ⟨w, us, rfl, g1, g2⟩ := h
        cases b with
        | val d => exact ⟨w, us, rfl, rep_mono m _ _ g1, ih (fun k hk => dj k hk) m g2⟩
        | slot k =>
          refine ⟨w, us, rfl, ?_, ih (fun k' hk => dj k' (List.mem_cons_of_mem _ hk)) m g2⟩
          have g1 : S[k]? = some (some w) := g1
          show (S.set i (some v))[k]? = some (some w)
          rw [List.getElem?_set_ne (dj k (List.mem_cons_self ..))]
          exact g1
    cases a with
    | val d =>
      have e1 : (if free ρ i = true then some (ρ.set i (.ro d)) else none) = some ρ1 := e1
      split at e1
      · cases e1
        have R1 := R.setRo (i := i) (rep_mono (hid_less updA_less) _ _ h1)
        obtain ⟨A', R2, s2⟩ := put_all is as ws _ _ ρ' _ R1 (fun j hj k hk => dj j (List.mem_cons_of_mem _ hj) k hk) (argmono (fun k hk => dj i (List.mem_cons_self ..) k hk) (hid_less updA_less) h2) e2
        exact ⟨A', R2, Stp.drop.trans s2⟩
      · cases e1
    | slot k =>
      have e1 : putSlot ρ i k ρ[k]? = some ρ1 := e1
      unfold putSlot at e1
      split at e1
      · rename_i c hc
        split at e1
        · rename_i hf
          cases e1
          have h1 : S[k]? = some (some v) := h1
          obtain ⟨l, g1, g2, g3, g4⟩ := R.own k _ _ hc
          rw [h1] at g2
          cases g2
          obtain ⟨R1, s1⟩ := R.move hc h1 hf.2 hf.1
          obtain ⟨A', R2, s2⟩ := put_all is as ws _ _ ρ' _ R1 (fun j hj k' hk => dj j (List.mem_cons_of_mem _ hj) k' (List.mem_cons_of_mem _ hk)) (argmono (fun k' hk => dj i (List.mem_cons_self ..) k' (List.mem_cons_of_mem _ hk)) s1.fr h2) e2
          exact ⟨A', R2, s1.trans s2⟩
        · cases e1
      · cases e1
def gPar (is : List Nat) (fa : FA) : FS := fun ρ => do
  let (as, ρ1) ← fa ρ
  let ρ2 ← putArgs is as ρ1
  if (is.all fun i => decide (i < ρ.length)) && ((slotArgs as).all fun k => decide (ρ.length ≤ k)) then some (.nx (ρ2.take ρ.length)) else none
theorem setMany_left : ∀ (is : List Nat) (vs : List V) (σ τ : L2.St), (∀ i ∈ is, i < σ.length) → setMany (σ ++ τ) is vs = setMany σ is vs ++ τ
  | [], vs, σ, τ, _ => by cases vs <;> rfl
  | i :: is, [], σ, τ, _ => rfl
  | i :: is, v :: vs, σ, τ, h => by
    show setMany ((σ ++ τ).set i (some v)) is vs = setMany (σ.set i (some v)) is vs ++ τ
    rw [List.set_append_left _ _ (h i (List.mem_cons_self ..))]
    exact setMany_left is vs _ τ (fun j hj => by rw [List.length_set]; exact h j (List.mem_cons_of_mem _ hj))
theorem setMany_len : ∀ (is : List Nat) (vs : List V) (σ : L2.St), (setMany σ is vs).length = σ.length
  | [], vs, σ => by cases vs <;> rfl
  | i :: is, [], σ => rfl
  | i :: is, v :: vs, σ => by
    show (setMany (σ.set i (some v)) is vs).length = _
    rw [setMany_len is vs, List.length_set]
theorem par_weak {K : Frg} {is : List Nat} {fa : FA} {D : Ends} {σ : L2.St} {H : Hp} (q : tS K (gPar is fa) D σ H) : tA K fa σ H fun vs H1 => vs.length = is.length ∧ D.nx (setMany σ is vs) H1 := by
  obtain ⟨A, C, ρ, o, R, ef, k⟩ := q
  obtain ⟨⟨as, ρ1⟩, e1, ef⟩ := bind_some ef
  obtain ⟨ρ2, e2, ef⟩ := bind_some ef
  split at ef
  · rename_i hc
    cases ef
    rw [Bool.and_eq_true, List.all_eq_true, List.all_eq_true] at hc
    obtain ⟨hc1, hc2⟩ := hc
    have c1 : ∀ i ∈ is, i < σ.length := fun i hi => by have := of_decide_eq_true (hc1 i hi); rw [R.len]; exact this
    have c2 : ∀ k ∈ slotArgs as, σ.length ≤ k := fun i hi => by have := of_decide_eq_true (hc2 i hi); rw [R.len]; exact this
    refine ⟨[], A, C, ρ, as, ρ1, R.nil, e1, fun vs τx H' A' s R' hv => ?_⟩
    rw [List.append_nil] at R' hv
    obtain ⟨A2, R2, s2⟩ := put_all is as vs _ ρ1 ρ2 A' R' (fun i hi k hk => by have := c1 i hi; have := c2 k hk; omega) hv e2
    rw [setMany_left is vs σ τx c1] at R2
    obtain ⟨R3, s3⟩ := R2.cut
    rw [setMany_len, R.len] at R3
    rw [setMany_len, R.len] at s3
    have lens : ∀ (is : List Nat) (as : List Arg) (ρ ρ' : Ev), putArgs is as ρ = some ρ' → is.length = as.length := by
      intro is
      induction is with
      | nil => intro as ρ ρ' h; cases as with | nil => rfl | cons _ _ => cases h
      | cons i is ih =>
        intro as ρ ρ' h
        cases as with
        | nil => cases h
        | cons a as =>
          obtain ⟨ρ1, _, h2⟩ := bind_some (show (putArg ρ i a >>= fun ρ1 => putArgs is as ρ1) = some ρ' from h)
          simp [ih as ρ1 ρ' h2]
    refine ⟨by rw [← argsAt_len hv]; exact (lens is as ρ1 ρ2 e2).symm, k _ H' _ ((s.trans s2).trans s3) R3⟩
  · cases ef
theorem xs_par {i j : Nat} {x y : Str} {a b : Expr} {fa : FA} {px py pt : Pos} {kt k2 pt2} (hc : X.calm = true) (hN : X.N.Nodup) (ha : PA X [a, b] (tA X.K fa)) (hi : X.N[i]? = some x := by rfl) (hj : X.N[j]? = some y := by rfl) (hij : i ≠ j := by decide)
    (hx : X.env.scope.names.lookup x = some .local := by rfl) (hy : X.env.scope.names.lookup y = some .local := by rfl)
    (hw : swappedStores [.Tuple [.Name x px, .Name y py] kt pt] (.Tuple [a, b] k2 pt2) X.env = pure (some [x, y]) := by rfl)
    (hs : swapsWithSole [.Tuple [.Name x px, .Name y py] kt pt] (.Tuple [a, b] k2 pt2) pos.line X.env = pure false := by rfl) :
    PS X (.Assign [.Tuple [.Name x px, .Name y py] kt pt] (.Tuple [a, b] k2 pt2) pos) (tS X.K (gPar [i, j] fa)) := ps_weak (ps_par hc hN hi hj hij hx hy ha hw hs) fun D σ H _ q => by
  obtain ⟨τ, A, C, ρ, as, ρ', R, ef, k⟩ := par_weak q
  refine ⟨τ, A, C, ρ, as, ρ', R, ef, fun vs τx H' A' s R' hv => ?_⟩
  obtain ⟨hl, h⟩ := k vs τx H' A' s R' hv
  match vs, hl, h with
  | [v, w], _, h => exact ⟨v, w, rfl, h⟩
theorem xs_par3 {i j l : Nat} {x y z : Str} {a b c : Expr} {fa : FA} {px py pz pt : Pos} {kt k2 pt2} (hc : X.calm = true) (hN : X.N.Nodup) (ha : PA X [a, b, c] (tA X.K fa)) (hi : X.N[i]? = some x := by rfl) (hj : X.N[j]? = some y := by rfl) (hl : X.N[l]? = some z := by rfl) (hij : i ≠ j := by decide) (hil : i ≠ l := by decide) (hjl : j ≠ l := by decide)
    (hx : X.env.scope.names.lookup x = some .local := by rfl) (hy : X.env.scope.names.lookup y = some .local := by rfl) (hz : X.env.scope.names.lookup z = some .local := by rfl)
    (hw : swappedStores [.Tuple [.Name x px, .Name y py, .Name z pz] kt pt] (.Tuple [a, b, c] k2 pt2) X.env = pure (some [x, y, z]) := by rfl)
    (hs : swapsWithSole [.Tuple [.Name x px, .Name y py, .Name z pz] kt pt] (.Tuple [a, b, c] k2 pt2) pos.line X.env = pure false := by rfl) :
    PS X (.Assign [.Tuple [.Name x px, .Name y py, .Name z pz] kt pt] (.Tuple [a, b, c] k2 pt2) pos) (tS X.K (gPar [i, j, l] fa)) := ps_weak (ps_par3 hc hN hi hj hl hij hil hjl hx hy hz ha hw hs) fun D σ H _ q => by
  obtain ⟨τ, A, C, ρ, as, ρ', R, ef, k⟩ := par_weak q
  refine ⟨τ, A, C, ρ, as, ρ', R, ef, fun vs τx H' A' s R' hv => ?_⟩
  obtain ⟨hl, h⟩ := k vs τx H' A' s R' hv
  match vs, hl, h with
  | [u, v, w], _, h => exact ⟨u, v, w, rfl, h⟩
end
end Mm

namespace Mm
open PySem L2 PySem.Spec PyProof.Rows
/-! what a loop walks -/
structure Yields (J : It) (F : Hp) (ds : List Dt) : Prop where
  go : ∀ i, i < ds.length → ∀ H, Same F H → J.go i H
  yld : ∀ i d, ds[i]? = some d → ∀ H, Same F H → ∀ x H', J.yld i H x H' → (H' = H ∧ Rep F d x) ∨ (∃ T xs es, x = .ref T ∧ H T = none ∧ H' = upd H T (.tup xs) ∧ d = .tuple es ∧ RepAll F es xs)
  stop : ∀ i, ds.length ≤ i → ∀ H, Same F H → J.stop i H
theorem Yields.mono {J : It} {F F' : Hp} {ds : List Dt} (Y : Yields J F ds) (e : Same F F') : Yields J F' ds where
  go := fun i hi H s => Y.go i hi H (e.trans s)
  yld := fun i d hd H s x H' y => by
    rcases Y.yld i d hd H (e.trans s) x H' y with ⟨h1, h2⟩ | ⟨T, xs, es, h1, h2, h3, h4, h5⟩
    · exact .inl ⟨h1, rep_mono e _ _ h2⟩
    · exact .inr ⟨T, xs, es, h1, h2, h3, h4, repAll_mono e _ _ h5⟩
  stop := fun i hi H s => Y.stop i hi H (e.trans s)
def tI (K : Frg) (f : FL) : TI := fun σ H R => ∃ τ A C ρ ds ρ', Rp K H (σ ++ τ) ρ A C ∧ f ρ = some (ds, ρ') ∧
  ∀ J H' A', Stp H A H' A' C → Rp K H' (σ ++ τ) ρ' A' C → Yields J (hid H' A' C.G) ds → R J H'
theorem pi_weak {X : Cx} {tg it : Expr} {t t' : TI} (h : PI X tg it t) (w : ∀ σ H R, σ.length = X.N.length → t' σ H R → t σ H R) : PI X tg it t' :=
  ⟨fun pins s σ H R I q => h.run pins s σ H R I (w σ H R I.len q)⟩
/-- the item comes into the heap -/
theorem yld_in {J : It} {F : Hp} {ds : List Dt} (Y : Yields J F ds) {K : Frg} {C : Cn} {H : Hp} {A : Fp} {σ : L2.St} {ρ : Ev} (R : Rp K H σ ρ A C) (sf : Same F (hid H A C.G)) {i : Nat} {d : Dt} (hd : ds[i]? = some d) {x : V} {H' : Hp} (y : J.yld i H x H') :
    Rp K H' σ ρ A C ∧ Stp H A H' A C ∧ Rep (hid H' A C.G) d x := by
  rcases Y.yld i d hd H (sf.trans hid_sub) x H' y with ⟨h1, h2⟩ | ⟨T, xs, es, h1, h2, h3, h4, h5⟩
  · subst h1
    exact ⟨R, Stp.refl, rep_mono sf _ _ h2⟩
  · subst h3 h1 h4
    have sm := same_new (o := HO.tup xs) h2
    have g := Stp.grow (C := C) R.liv sm
    exact ⟨R.grow sm, g, T, xs, rfl, hid_new R.liv h2, repAll_mono (sf.trans g.fr) _ _ h5⟩
def loopL (fb : FT) (g : FS) : List Dt → Ev → Option Out
  | [], ρ => some (.nx ρ)
  | d :: ds, ρ => do
    let ρ1 ← fb d ρ
    match ← g ρ1 with
    | .nx ρ2 => loopL fb g ds ρ2
    | .ct ρ2 => loopL fb g ds ρ2
    | .bk ρ2 => some (.nx ρ2)
    | .rt v ρ2 => some (.rt v ρ2)
    | .rn v ρ2 => some (.rn v ρ2)
def gFor (fi : FL) (fb : FT) (g : FS) : FS := fun ρ => do
  let (ds, ρ1) ← fi ρ
  loopL fb g ds ρ1
section
variable {X : Cx} {e tg iter : Expr} {body : List Stmt} {pos : Pos}
theorem for_weak {K : Frg} {fi : FL} {js : List Nat} {fb : FT} {g : FS} {D : Ends} {σ : L2.St} {H : Hp} (q : tS K (gFor fi fb g) D σ H) : tFor (tI K fi) (tG K js fb) (tS K g) D σ H := by
  obtain ⟨A, C, ρ, o, R, ef, k⟩ := q
  obtain ⟨⟨ds, ρ1⟩, e1, ef⟩ := bind_some ef
  refine ⟨[], A, C, ρ, ds, ρ1, R.nil, e1, fun J H1 A1 s1 R1 Y => ?_⟩
  let W : Nat → Nat → L2.St → Hp → Prop := fun i m σ' H' => m = ds.length - i ∧ i ≤ ds.length ∧ ∃ A' ρ', Stp H1 A1 H' A' C ∧ Rp K H' σ' ρ' A' C ∧ loopL fb g (ds.drop i) ρ' = some o
  refine ⟨W, ⟨ds.length, rfl, Nat.zero_le _, A1, ρ1, Stp.refl, R1.unil, ef⟩, ?_⟩
  rintro i m σ2 H2 ⟨rfl, hi, A2, ρ2, s2, R2, e2⟩
  have sf : Same (hid H1 A1 C.G) (hid H2 A2 C.G) := s2.fr
  by_cases hlt : i < ds.length
  · refine .inr ⟨Y.go i hlt H2 (sf.trans hid_sub), fun σ3 H3 => ∃ A3 ρ3, Stp H1 A1 H3 A3 C ∧ Rp K H3 σ3 ρ3 A3 C ∧ loopL fb g (ds.drop (i + 1)) ρ3 = some o, fun σ3 H3 h3 => ⟨ds.length - (i + 1), by omega, rfl, hlt, h3⟩, fun x H3 y => ?_⟩
    have hd : ds[i]? = some ds[i] := List.getElem?_eq_getElem hlt
    obtain ⟨R3, s3, r3⟩ := yld_in Y R2 sf hd y
    have ed : ds.drop i = ds[i] :: ds.drop (i + 1) := List.drop_eq_getElem_cons hlt
    rw [ed] at e2
    obtain ⟨ρ3, e3, e4⟩ := bind_some (show (fb ds[i] ρ2 >>= fun ρ1 => g ρ1 >>= fun o1 => match o1 with
      | .nx ρ2 => loopL fb g (ds.drop (i + 1)) ρ2
      | .ct ρ2 => loopL fb g (ds.drop (i + 1)) ρ2
      | .bk ρ2 => some (.nx ρ2)
      | .rt v ρ2 => some (.rt v ρ2)
      | .rn v ρ2 => some (.rn v ρ2)) = some o from e2)
    obtain ⟨o1, e5, e6⟩ := bind_some e4
    refine ⟨[], A2, C, ρ2, ds[i], ρ3, R3.nil, r3, e3, fun σ4 H4 A4 _ _ s4 R4 => ?_⟩
    have st : Stp H1 A1 H4 A4 C := (s2.trans s3).trans s4
    refine ⟨A4, C, ρ3, o1, R4.unil, e5, ?_⟩
    cases o1 with
    | nx ρ5 => exact fun σ5 H5 A5 s5 R5 => ⟨A5, ρ5, st.trans s5, R5, e6⟩
    | ct ρ5 => exact fun σ5 H5 A5 s5 R5 => ⟨A5, ρ5, st.trans s5, R5, e6⟩
    | bk ρ5 =>
      cases e6
      exact fun σ5 H5 A5 s5 R5 => k σ5 H5 A5 ((s1.trans st).trans s5) R5
    | rt v ρ5 =>
      cases e6
      exact fun v σ5 H5 A5 s5 R5 hv => k v σ5 H5 A5 ((s1.trans st).trans s5) R5 hv
    | rn v ρ5 =>
      cases e6
      exact fun l vs σ5 H5 A5 s5 R5 hl hv => k l vs σ5 H5 A5 ((s1.trans st).trans s5) R5 hl hv
  · have e : i = ds.length := by omega
    subst e
    refine .inl ⟨Y.stop _ (Nat.le_refl _) H2 (sf.trans hid_sub), ?_⟩
    rw [List.drop_length] at e2
    cases e2
    exact k σ2 H2 A2 (s1.trans s2) R2
theorem xs_for {fi : FL} {js : List Nat} {fb : FT} {g : FS} (hp : PassesOwn (model X.prog X.w) X.A X.env X.xe) (hc : X.calm = true) (hi : PI X tg iter (tI X.K fi)) (hg : PG X tg (tG X.K js fb)) (hb : PSs X body (tS X.K g))
    (hs : ∀ x, foldedSetIterable iter X.env x = pure x := by intro _; rfl) : PS X (.For tg iter body [] pos) (tS X.K (gFor fi fb g)) :=
  ps_weak (ps_for hp hc hi hg hb hs) fun D σ H _ q => for_weak q
/-! while -/
def whileF (t : FB) (g : FS) : Nat → Ev → Option Out
  | 0, _ => none
  | n + 1, ρ => do
    let (b, ρ1) ← t ρ
    if b = true then do
      match ← g ρ1 with
      | .nx ρ2 => whileF t g n ρ2
      | .ct ρ2 => whileF t g n ρ2
      | .bk ρ2 => some (.nx ρ2)
      | .rt v ρ2 => some (.rt v ρ2)
      | .rn v ρ2 => some (.rn v ρ2)
    else some (.nx ρ1)
def bigN : Nat := 1000000000000
def gWhile (t : FB) (g : FS) : FS := whileF t g bigN
theorem while_weak {K : Frg} {t : FB} {g : FS} {D : Ends} {σ : L2.St} {H : Hp} (q : tS K (gWhile t g) D σ H) : tWhile (tT K t) (tS K g) D σ H := by
  obtain ⟨A, C, ρ, o, R, ef, k⟩ := q
  let W : Nat → L2.St → Hp → Prop := fun m σ' H' => ∃ A' ρ', Stp H A H' A' C ∧ Rp K H' σ' ρ' A' C ∧ whileF t g m ρ' = some o
  refine ⟨W, ⟨bigN, A, ρ, Stp.refl, R, ef⟩, ?_⟩
  rintro m σ2 H2 ⟨A2, ρ2, s2, R2, e2⟩
  cases m with
  | zero => cases e2
  | succ m =>
    obtain ⟨⟨b, ρ3⟩, e3, e4⟩ := bind_some (show (t ρ2 >>= fun p => if p.1 = true then (g p.2 >>= fun o1 => match o1 with
      | .nx ρ2 => whileF t g m ρ2
      | .ct ρ2 => whileF t g m ρ2
      | .bk ρ2 => some (.nx ρ2)
      | .rt v ρ2 => some (.rt v ρ2)
      | .rn v ρ2 => some (.rn v ρ2)) else some (.nx p.2)) = some o from e2)
    refine ⟨[], A2, C, ρ2, b, ρ3, R2.nil, e3, fun H3 A3 s3 R3 => ?_⟩
    have st : Stp H A H3 A3 C := s2.trans s3
    cases b with
    | true =>
      refine iteT ?_
      dsimp only at e4
      rw [if_pos rfl] at e4
      refine ⟨fun σ4 H4 => ∃ A4 ρ4, Stp H A H4 A4 C ∧ Rp K H4 σ4 ρ4 A4 C ∧ whileF t g m ρ4 = some o, fun σ4 H4 h4 => ⟨m, Nat.lt_succ_self _, h4⟩, ?_⟩
      obtain ⟨o1, e5, e6⟩ := bind_some e4
      refine ⟨A3, C, ρ3, o1, R3.unil, e5, ?_⟩
      cases o1 with
      | nx ρ5 => exact fun σ5 H5 A5 s5 R5 => ⟨A5, ρ5, st.trans s5, R5, e6⟩
      | ct ρ5 => exact fun σ5 H5 A5 s5 R5 => ⟨A5, ρ5, st.trans s5, R5, e6⟩
      | bk ρ5 =>
        cases e6
        exact fun σ5 H5 A5 s5 R5 => k σ5 H5 A5 (st.trans s5) R5
      | rt v ρ5 =>
        cases e6
        exact fun v σ5 H5 A5 s5 R5 hv => k v σ5 H5 A5 (st.trans s5) R5 hv
      | rn v ρ5 =>
        cases e6
        exact fun l vs σ5 H5 A5 s5 R5 hl hv => k l vs σ5 H5 A5 (st.trans s5) R5 hl hv
    | false =>
      refine iteF ?_
      dsimp only at e4
      rw [if_neg Bool.false_ne_true] at e4
      cases e4
      exact k σ2 H3 A3 st R3.unil
theorem xs_while {c : Expr} {t : FB} {g : FS} (hp : PassesOwn (model X.prog X.w) X.A X.env X.xe) (hc : PT X c (tT X.K t)) (hb : PSs X body (tS X.K g)) : PS X (.While c body [] pos) (tS X.K (gWhile t g)) :=
  ps_weak (ps_while hp hc hb) fun D σ H _ q => while_weak q
theorem whileF_mono {t : FB} {g : FS} : ∀ (n m : Nat) (ρ : Ev) (o : Out), n ≤ m → whileF t g n ρ = some o → whileF t g m ρ = some o
  | 0, m, ρ, o, _, h => by cases h
  | n + 1, 0, ρ, o, hm, h => by omega
  | n + 1, m + 1, ρ, o, hm, h => by
    obtain ⟨⟨b, ρ1⟩, e1, e2⟩ := bind_some (show (t ρ >>= fun p => if p.1 = true then (g p.2 >>= fun o1 => match o1 with
      | .nx ρ2 => whileF t g n ρ2
      | .ct ρ2 => whileF t g n ρ2
      | .bk ρ2 => some (.nx ρ2)
      | .rt v ρ2 => some (.rt v ρ2)
      | .rn v ρ2 => some (.rn v ρ2)) else some (.nx p.2)) = some o from h)
    show (t ρ >>= fun p => if p.1 = true then (g p.2 >>= fun o1 => match o1 with
      | .nx ρ2 => whileF t g m ρ2
      | .ct ρ2 => whileF t g m ρ2
      | .bk ρ2 => some (.nx ρ2)
      | .rt v ρ2 => some (.rt v ρ2)
      | .rn v ρ2 => some (.rn v ρ2)) else some (.nx p.2)) = some o
    rw [e1]
    show (if b = true then _ else _) = _
    dsimp only at e2
    split at e2
    · rename_i hb
      rw [if_pos hb]
      obtain ⟨o1, e3, e4⟩ := bind_some e2
      show (g ρ1 >>= _) = _
      rw [e3]
      cases o1 with
      | nx ρ2 => exact whileF_mono n m ρ2 o (by omega) e4
      | ct ρ2 => exact whileF_mono n m ρ2 o (by omega) e4
      | bk ρ2 => exact e4
      | rt v ρ2 => exact e4
      | rn v ρ2 => exact e4
    · rename_i hb
      rw [if_neg hb]
      exact e2
end
/-! a def by its mirror -/
def keptS : Slot → Slot → Bool
  | .own true _, .own true _ => true
  | .own true _, _ => false
  | _, _ => true
def kept : Ev → Ev → Bool
  | [], _ => true
  | s :: r, s' :: r' => keptS s s' && kept r r'
  | _ :: _, [] => false
theorem kept_get : ∀ {ρ ρ' : Ev}, kept ρ ρ' = true → ∀ {i : Nat} {c : OC}, ρ[i]? = some (.own true c) → ∃ c', ρ'[i]? = some (.own true c')
  | [], _, _, i, c, e => by simp at e
  | s :: r, [], h, _, _, _ => by cases h
  | s :: r, s' :: r', h, i, c, e => by
    have h : (keptS s s' && kept r r') = true := h
    rw [Bool.and_eq_true] at h
    cases i with
    | zero =>
      simp at e
      subst e
      cases s' with
      | own p c' =>
        cases p with
        | true => exact ⟨c', rfl⟩
        | false => exact Bool.noConfusion (show false = true from h.1)
      | no => exact Bool.noConfusion (show false = true from h.1)
      | ro d => exact Bool.noConfusion (show false = true from h.1)
      | scr ns => exact Bool.noConfusion (show false = true from h.1)
    | succ i => simpa using kept_get h.2 (i := i) (c := c) (by simpa using e)
def fin (ρ : Ev) : Option Out → Option (Dt × Ev)
  | some (.nx ρ') => if kept ρ ρ' = true then some (.none, ρ') else none
  | some (.rt d ρ') => if kept ρ ρ' = true then some (d, ρ') else none
  | some (.rn d ρ') => if kept ρ ρ' = true then some (.list d, ρ') else none
  | _ => none
def finN (ρ : Ev) : Option Out → Option (List Dt × Ev)
  | some (.rn d ρ') => if kept ρ ρ' = true then some (d, ρ') else none
  | _ => none
def mOfN (np n : Nat) (g : FS) : FN := fun ρ => if ρ.length = np then finN ρ (g (ρ ++ List.replicate (n - np) .no)) else none
def mOf (np n : Nat) (g : FS) : FM := fun ρ => if ρ.length = np then fin ρ (g (ρ ++ List.replicate (n - np) .no)) else none
theorem Rp.entry {K : Frg} {H : Hp} {vs : List V} {ρ : Ev} {A : Fp} {C : Cn} {n : Nat} (R : Rp K H (vs.map some) ρ A C) : Rp K H (vs.map some ++ List.replicate n none) (ρ ++ List.replicate n .no) A C := by
  have dn : ∀ {i : Nat} {s : Slot}, (ρ ++ List.replicate n Slot.no)[i]? = some s → s ≠ .no → ρ[i]? = some s := fun {i s} h ns => by
    by_cases q : i < ρ.length
    · rw [List.getElem?_append_left q] at h; exact h
    · rw [List.getElem?_append_right (by omega), List.getElem?_replicate] at h
      split at h
      · exact absurd (Option.some.inj h).symm ns
      · cases h
  refine ⟨by have := R.len; rw [List.length_map] at this; simp [this], fun i d z => ?_, fun i p c z => ?_, fun i ns z => ?_, R.inj, R.sep, R.liv⟩
  · obtain ⟨v, h1, h2⟩ := R.ro i d (dn z (fun e => nomatch e))
    exact ⟨v, get_left h1, h2⟩
  · obtain ⟨v, h1, h2, h3⟩ := R.own i p c (dn z (fun e => nomatch e))
    exact ⟨v, h1, get_left h2, h3⟩
  · obtain ⟨v, h1, h2⟩ := R.scr i ns (dn z (fun e => nomatch e))
    exact ⟨v, get_left h1, h2⟩
theorem ends_weak {K : Frg} {ρ ρ1 : Ev} {A A' : Fp} {C : Cn} {H H' : Hp} {σ' : L2.St} (hP : C.P = A) (hpin : ∀ (i : Nat) (p : Bool) (c : OC), ρ[i]? = some (Slot.own p c) → p = true) (hown : ∀ (i : Nat) (l : Addr), l ∈ A i → ∃ (p : Bool) (c : OC), ρ[i]? = some (Slot.own p c))
    (kp : kept ρ ρ1 = true) (s : Stp H A H' A' C) (R' : Rp K H' σ' ρ1 A' C) : Same (hid H' A' C.G) (hid H' A C.G) ∧ (∀ (i : Nat) (c : OC), ρ1[i]? = some (Slot.own true c) → ∃ l : Addr, A i = [l] ∧ OcAt H' (hid H' A C.G) l c) := by
  have less : Same (hid H' A' C.G) (hid H' A C.G) := fun a o h => by
    obtain ⟨h1, h2⟩ := hid_in h
    have h3 := hid_sub a o h
    rw [hid_of _ h2]
    · exact h3
    · intro i z
      obtain ⟨p, c, q1⟩ := hown i a z
      have e := hpin i p c q1
      subst e
      obtain ⟨c', q2⟩ := kept_get kp q1
      obtain ⟨l', w1, w2, w3, w4⟩ := R'.own i _ _ q2
      have w5 := w4 rfl
      rw [hP] at w5
      rw [w5] at z
      exact h1 i (by rw [w1]; exact z)
  refine ⟨less, fun i c z => ?_⟩
  obtain ⟨l', w1, w2, w3, w4⟩ := R'.own i _ _ z
  have w5 := w4 rfl
  rw [hP] at w5
  exact ⟨l', w5, ocAt_mono w3 rfl less⟩
theorem body_weak {K : Frg} {g : FS} {N ps : List Str} {vs : List V} {H : Hp} {Q : VK} {E : XK} (hp : ps.length ≤ N.length) (q : spM K (mOf ps.length N.length g) vs H Q E) : tS K g { nx := fun _ H' => Q .non H', rt := Q } (L2.start N vs) H := by
  obtain ⟨ρ, A, C, d, ρ', R, hP, hpin, hown, em, k⟩ := q
  unfold mOf at em
  split at em
  · rename_i hl
    have hv : vs.length = ps.length := by have := R.len; rw [List.length_map] at this; omega
    have R1 := R.entry (n := N.length - ps.length)
    have es : L2.start N vs = vs.map some ++ List.replicate (N.length - ps.length) none := by unfold L2.start; rw [hv]
    rw [← es] at R1
    cases eg : g (ρ ++ List.replicate (N.length - ps.length) .no) with
    | none => rw [eg] at em; cases em
    | some o =>
      rw [eg] at em
      refine ⟨A, C, _, o, R1, eg, ?_⟩
      cases o with
      | nx ρ1 =>
        have em : (if kept ρ ρ1 = true then some (PyData.none, ρ1) else none) = some (d, ρ') := em
        split at em
        · rename_i hk
          cases em
          exact fun σ' H' A' s R' => by
            obtain ⟨less, io⟩ := ends_weak hP hpin hown hk s R'
            exact k .non H' (s.fr.trans less) s.gs io rfl
        · cases em
      | rt d1 ρ1 =>
        have em : (if kept ρ ρ1 = true then some (d1, ρ1) else none) = some (d, ρ') := em
        split at em
        · rename_i hk
          cases em
          exact fun v σ' H' A' s R' hr => by
            obtain ⟨less, io⟩ := ends_weak hP hpin hown hk s R'
            exact k v H' (s.fr.trans less) s.gs io (rep_mono less _ _ hr)
        · cases em
      | rn d1 ρ1 =>
        have em : (if kept ρ ρ1 = true then some (PyData.list d1, ρ1) else none) = some (d, ρ') := em
        split at em
        · rename_i hk
          cases em
          exact fun l ws σ' H' A' s R' hl hr => by
            have g2 := Stp.grow (C := C) R'.liv (rem_same (H := H') (l := l))
            have hn := R'.liv.not (rem_at (H := H') (l := l))
            obtain ⟨less, io⟩ := ends_weak hP hpin hown hk (s.trans g2) (R'.grow rem_same)
            refine k (.ref l) H' ((s.trans g2).fr.trans less) (s.trans g2).gs io (rep_mono less _ _ ⟨l, ws, rfl, ?_, repAll_mono g2.fr _ _ hr⟩)
            rw [hid_of hn.1 hn.2]
            exact hl
        · cases em
      | bk ρ1 => cases em
      | ct ρ1 => cases em
  · cases em
theorem bodyN_weak {K : Frg} {g : FS} {N ps : List Str} {vs : List V} {H : Hp} {Q : VK} {E : XK} (hp : ps.length ≤ N.length) (q : spN K (mOfN ps.length N.length g) vs H Q E) : tS K g { nx := fun _ H' => Q .non H', rt := Q } (L2.start N vs) H := by
  obtain ⟨ρ, A, C, d, ρ', R, hP, hpin, hown, em, k⟩ := q
  unfold mOfN at em
  split at em
  · rename_i hl
    have hv : vs.length = ps.length := by have := R.len; rw [List.length_map] at this; omega
    have R1 := R.entry (n := N.length - ps.length)
    have es : L2.start N vs = vs.map some ++ List.replicate (N.length - ps.length) none := by unfold L2.start; rw [hv]
    rw [← es] at R1
    cases eg : g (ρ ++ List.replicate (N.length - ps.length) .no) with
    | none => rw [eg] at em; cases em
    | some o =>
      rw [eg] at em
      refine ⟨A, C, _, o, R1, eg, ?_⟩
      cases o with
      | rn d1 ρ1 =>
        have em : (if kept ρ ρ1 = true then some (d1, ρ1) else none) = some (d, ρ') := em
        split at em
        · rename_i hk
          cases em
          exact fun l ws σ' H' A' s R' hl hr => by
            obtain ⟨less, io⟩ := ends_weak hP hpin hown hk s R'
            exact k l ws H' (s.fr.trans less) s.gs io hl (repAll_mono less _ _ hr)
        · cases em
      | nx ρ1 => cases em
      | rt d1 ρ1 => cases em
      | bk ρ1 => cases em
      | ct ρ1 => cases em
  · cases em
/-- THE RULE of a def -/
theorem ok_fn {P : Program} {w : World} {K : PySem.W.Frag} {mg : Str → Option Value} {base : Heap} {x qual : Str} {st : Stmt} {f : Addr} {fd : FuncData} {N ps : List Str} {k : Nat} {g : FS} (F : Fun K x qual st f fd) (S : FnScope N ps (defScope st)) (hp : ps.length ≤ N.length)
    (hb : ∀ (cdv : Value) (A : Around) (outer : List Env) (s : Shared) (H : Hp) (E : XK), Room k (A.deeper (envOfC qual (defScope st) s.heap.objs.size f cdv)) →
      PSs (cxOf CX0 P w K mg base N qual (defScope st) f cdv A outer s H E).nox (defBody st) (tS K g)) : FnOk P w K mg base CX0 (k + 1) f fd ps (spM K (mOf ps.length N.length g)) := by
  refine F.ok S (fun vs H Q E h => ?_) (fun cdv A outer s H vs Q E hr h => ⟨_, hb cdv A outer s H E hr, body_weak hp h⟩)
  obtain ⟨ρ, A, C, d, ρ', R, _, _, _, em, _⟩ := h
  unfold mOf at em
  split at em
  · rename_i hl
    have := R.len
    rw [List.length_map] at this
    omega
  · cases em
theorem ok_fnN {P : Program} {w : World} {K : PySem.W.Frag} {mg : Str → Option Value} {base : Heap} {x qual : Str} {st : Stmt} {f : Addr} {fd : FuncData} {N ps : List Str} {k : Nat} {g : FS} (F : Fun K x qual st f fd) (S : FnScope N ps (defScope st)) (hp : ps.length ≤ N.length)
    (hb : ∀ (cdv : Value) (A : Around) (outer : List Env) (s : Shared) (H : Hp) (E : XK), Room k (A.deeper (envOfC qual (defScope st) s.heap.objs.size f cdv)) →
      PSs (cxOf CX0 P w K mg base N qual (defScope st) f cdv A outer s H E).nox (defBody st) (tS K g)) : FnOk P w K mg base CX0 (k + 1) f fd ps (spN K (mOfN ps.length N.length g)) := by
  refine F.ok S (fun vs H Q E h => ?_) (fun cdv A outer s H vs Q E hr h => ⟨_, hb cdv A outer s H E hr, bodyN_weak hp h⟩)
  obtain ⟨ρ, A, C, d, ρ', R, _, _, _, em, _⟩ := h
  unfold mOfN at em
  split at em
  · rename_i hl
    have := R.len
    rw [List.length_map] at this
    omega
  · cases em
/-- .. with the numbers of parameters and slots told -/
theorem ok_fn2 {P : Program} {w : World} {K : PySem.W.Frag} {mg : Str → Option Value} {base : Heap} {x qual : Str} {st : Stmt} {f : Addr} {fd : FuncData} {N ps : List Str} {k np n : Nat} {g : FS} (F : Fun K x qual st f fd) (S : FnScope N ps (defScope st)) (h1 : ps.length = np) (h2 : N.length = n) (hp : np ≤ n)
    (hb : ∀ (cdv : Value) (A : Around) (outer : List Env) (s : Shared) (H : Hp) (E : XK), Room k (A.deeper (envOfC qual (defScope st) s.heap.objs.size f cdv)) →
      PSs (cxOf CX0 P w K mg base N qual (defScope st) f cdv A outer s H E).nox (defBody st) (tS K g)) : FnOk P w K mg base CX0 (k + 1) f fd ps (spM K (mOf np n g)) := by
  subst h1 h2
  exact ok_fn F S hp hb
theorem ok_fnN2 {P : Program} {w : World} {K : PySem.W.Frag} {mg : Str → Option Value} {base : Heap} {x qual : Str} {st : Stmt} {f : Addr} {fd : FuncData} {N ps : List Str} {k np n : Nat} {g : FS} (F : Fun K x qual st f fd) (S : FnScope N ps (defScope st)) (h1 : ps.length = np) (h2 : N.length = n) (hp : np ≤ n)
    (hb : ∀ (cdv : Value) (A : Around) (outer : List Env) (s : Shared) (H : Hp) (E : XK), Room k (A.deeper (envOfC qual (defScope st) s.heap.objs.size f cdv)) →
      PSs (cxOf CX0 P w K mg base N qual (defScope st) f cdv A outer s H E).nox (defBody st) (tS K g)) : FnOk P w K mg base CX0 (k + 1) f fd ps (spN K (mOfN np n g)) := by
  subst h1 h2
  exact ok_fnN F S hp hb
end Mm

namespace Mm
open PySem L2 PySem.Spec PyProof.Rows
/-! comprehensions -/
def wipeE : Ev → List Nat → Ev
  | ρ, [] => ρ
  | ρ, v :: vs => (wipeE ρ vs).set v .no
theorem wipeE_len (ρ : Ev) : ∀ vs : List Nat, (wipeE ρ vs).length = ρ.length
  | [] => rfl
  | v :: vs => by unfold wipeE; rw [List.length_set, wipeE_len ρ vs]
theorem wipeE_get {ρ : Ev} {i : Nat} : ∀ {vs : List Nat} {s : Slot}, (wipeE ρ vs)[i]? = some s → s ≠ .no → ρ[i]? = some s ∧ i ∉ vs
  | [], s, h, _ => ⟨h, by simp⟩
  | v :: vs, s, h, ns => by
    rcases set_get (show ((wipeE ρ vs).set v .no)[i]? = some s from h) with ⟨rfl, e⟩ | ⟨ne, h⟩
    · exact absurd e.symm ns
    · obtain ⟨h1, h2⟩ := wipeE_get h ns
      exact ⟨h1, by simp only [List.mem_cons, not_or]; exact ⟨ne, h2⟩⟩
theorem wipeE_out {ρ : Ev} {i : Nat} : ∀ {vs : List Nat}, i ∉ vs → (wipeE ρ vs)[i]? = ρ[i]?
  | [], _ => rfl
  | v :: vs, h => by
    simp only [List.mem_cons, not_or] at h
    show ((wipeE ρ vs).set v .no)[i]? = _
    rw [List.getElem?_set_ne (Ne.symm h.1)]
    exact wipeE_out h.2
theorem wipe_out {σ : L2.St} {i : Nat} : ∀ {vs : List Nat}, i ∉ vs → (wipe σ vs)[i]? = σ[i]?
  | [], _ => rfl
  | v :: vs, h => by
    simp only [List.mem_cons, not_or] at h
    show ((wipe σ vs).set v none)[i]? = _
    rw [List.getElem?_set_ne (Ne.symm h.1)]
    exact wipe_out h.2
theorem wipe_in {σ : L2.St} {i : Nat} : ∀ {vs : List Nat}, i ∈ vs → i < σ.length → (wipe σ vs)[i]? = some none
  | [], h, _ => by cases h
  | v :: vs, h, hi => by
    show ((wipe σ vs).set v none)[i]? = _
    by_cases e : v = i
    · subst e
      rw [List.getElem?_set_self (by rw [wipe_length]; exact hi)]
    · rw [List.getElem?_set_ne e]
      refine wipe_in ?_ hi
      rcases List.mem_cons.mp h with e' | h
      · exact absurd e'.symm e
      · exact h
theorem wipe_same {σ σ' : L2.St} {vs js : List Nat} (hl : σ'.length = (wipe σ vs).length) (h : ∀ i, i ∉ js → σ'[i]? = (wipe σ vs)[i]?) (hj : ∀ j ∈ js, j ∈ vs) : wipe σ' vs = wipe σ vs := by
  rw [wipe_length] at hl
  apply List.ext_getElem?
  intro i
  by_cases hi : i ∈ vs
  · by_cases hb : i < σ.length
    · rw [wipe_in hi hb, wipe_in hi (by omega)]
    · rw [List.getElem?_eq_none (by rw [wipe_length]; omega), List.getElem?_eq_none (by rw [wipe_length]; omega)]
  · rw [wipe_out hi]
    exact h i fun z => hi (hj i z)
theorem get_app {σ τ σ' : L2.St} {i : Nat} {x : Option V} (h : (σ ++ τ)[i]? = some x) (hl : σ'.length = σ.length) (he : i < σ.length → σ'[i]? = σ[i]?) : (σ' ++ τ)[i]? = some x := by
  by_cases q : i < σ.length
  · rw [List.getElem?_append_left q] at h
    rw [List.getElem?_append_left (by omega), he q]
    exact h
  · rw [List.getElem?_append_right (by omega)] at h
    rw [List.getElem?_append_right (by omega), hl]
    exact h
theorem Rp.wipe {K : Frg} {H : Hp} {σ τ : L2.St} {ρ : Ev} {A : Fp} {C : Cn} (vs : List Nat) (R : Rp K H (σ ++ τ) ρ A C) : Rp K H (L2.wipe σ vs ++ τ) (wipeE ρ vs) A C where
  len := by rw [List.length_append, wipe_length, wipeE_len, ← R.len, List.length_append]
  ro := fun i d z => by
    obtain ⟨z, hi⟩ := wipeE_get z (fun e => nomatch e)
    obtain ⟨v, h1, h2⟩ := R.ro i d z
    exact ⟨v, get_app h1 (wipe_length _ _) fun _ => wipe_out hi, h2⟩
  own := fun i p c z => by
    obtain ⟨z, hi⟩ := wipeE_get z (fun e => nomatch e)
    obtain ⟨l, h1, h2, h3⟩ := R.own i p c z
    exact ⟨l, h1, get_app h2 (wipe_length _ _) fun _ => wipe_out hi, h3⟩
  scr := fun i ns z => by
    obtain ⟨z, hi⟩ := wipeE_get z (fun e => nomatch e)
    obtain ⟨l, h1, h2⟩ := R.scr i ns z
    exact ⟨l, get_app h1 (wipe_length _ _) fun _ => wipe_out hi, h2⟩
  inj := R.inj
  sep := R.sep
  liv := R.liv
def restE : List Nat → Ev → Ev → Option Ev
  | [], _, ρ => some ρ
  | v :: vs, ρ0, ρ => match ρ0[v]? with
    | some (.own _ _) => none
    | some s => (restE vs ρ0 ρ).map (·.set v s)
    | none => none
theorem restE_get : ∀ {vs : List Nat} {ρ0 ρ ρ' : Ev}, restE vs ρ0 ρ = some ρ' → ρ'.length = ρ.length ∧ ∀ (i : Nat) (s : Slot), ρ'[i]? = some s → (i ∈ vs ∧ ρ0[i]? = some s ∧ ∀ p c, s ≠ .own p c) ∨ (i ∉ vs ∧ ρ[i]? = some s)
  | [], ρ0, ρ, ρ', h => by
    cases h
    exact ⟨rfl, fun i s e => .inr ⟨by simp, e⟩⟩
  | v :: vs, ρ0, ρ, ρ', h => by
    cases z : ρ0[v]? with
    | none => simp only [restE, z] at h; cases h
    | some s0 =>
      have key : (∀ p c, s0 ≠ .own p c) → (restE vs ρ0 ρ).map (·.set v s0) = some ρ' → ρ'.length = ρ.length ∧ ∀ (i : Nat) (s : Slot), ρ'[i]? = some s → (i ∈ v :: vs ∧ ρ0[i]? = some s ∧ ∀ p c, s ≠ .own p c) ∨ (i ∉ v :: vs ∧ ρ[i]? = some s) := fun hn h => by
        cases q : restE vs ρ0 ρ with
        | none => rw [q] at h; cases h
        | some ρ1 =>
          rw [q] at h
          cases h
          obtain ⟨h1, h2⟩ := restE_get q
          refine ⟨by rw [List.length_set]; exact h1, fun i s e => ?_⟩
          rcases set_get e with ⟨rfl, e'⟩ | ⟨ne, e⟩
          · subst e'
            exact .inl ⟨List.mem_cons_self .., z, hn⟩
          · rcases h2 i s e with ⟨g1, g2⟩ | ⟨g1, g2⟩
            · exact .inl ⟨List.mem_cons_of_mem _ g1, g2⟩
            · exact .inr ⟨by simp only [List.mem_cons, not_or]; exact ⟨ne, g1⟩, g2⟩
      cases s0 with
      | own p c => simp only [restE, z] at h; cases h
      | no => simp only [restE, z] at h; exact key (fun _ _ e => nomatch e) h
      | ro d => simp only [restE, z] at h; exact key (fun _ _ e => nomatch e) h
      | scr ns => simp only [restE, z] at h; exact key (fun _ _ e => nomatch e) h
theorem Rp.rest {K : Frg} {H0 H : Hp} {σ τ : L2.St} {ρ0 ρ ρ' : Ev} {A0 A : Fp} {C : Cn} {vs : List Nat} (R0 : Rp K H0 (σ ++ τ) ρ0 A0 C) (s : Stp H0 A0 H A C) (R : Rp K H (L2.wipe σ vs ++ τ) (wipeE ρ vs) A C) (h : restE vs ρ0 ρ = some ρ') : Rp K H (σ ++ τ) ρ' A C := by
  obtain ⟨hl, hg⟩ := restE_get h
  have up : ∀ {i : Nat} {x : Option V}, i ∉ vs → (L2.wipe σ vs ++ τ)[i]? = some x → (σ ++ τ)[i]? = some x := fun {i x} hi e => get_app e (wipe_length _ _).symm fun _ => (wipe_out hi).symm
  have ll := R.len
  rw [wipeE_len, List.length_append, wipe_length] at ll
  refine ⟨by rw [hl, List.length_append]; exact ll, fun i d z => ?_, fun i p c z => ?_, fun i ns z => ?_, R.inj, R.sep, R.liv⟩
  · rcases hg i _ z with ⟨_, z, _⟩ | ⟨hi, z⟩
    · obtain ⟨v, h1, h2⟩ := R0.ro i d z
      exact ⟨v, h1, rep_mono s.fr _ _ h2⟩
    · obtain ⟨v, h1, h2⟩ := R.ro i d (by rw [wipeE_out hi]; exact z)
      exact ⟨v, up hi h1, h2⟩
  · rcases hg i _ z with ⟨_, z, hn⟩ | ⟨hi, z⟩
    · exact absurd rfl (hn p c)
    · obtain ⟨l, h1, h2, h3⟩ := R.own i p c (by rw [wipeE_out hi]; exact z)
      exact ⟨l, h1, up hi h2, h3⟩
  · rcases hg i _ z with ⟨_, z, _⟩ | ⟨hi, z⟩
    · obtain ⟨v, h1, h2⟩ := R0.scr i ns z
      exact ⟨v, h1, sql_mono s.fr h2⟩
    · obtain ⟨v, h1, h2⟩ := R.scr i ns (by rw [wipeE_out hi]; exact z)
      exact ⟨v, up hi h1, h2⟩
/-- D set aside -/
def addG (C : Cn) (D : Addr) : Cn := ⟨C.P, fun a => C.G a ∨ a = D⟩
theorem hid_aside {H : Hp} {A : Fp} {C : Cn} {D : Addr} : hid H A (addG C D).G = hid (rem H D) A C.G := by
  funext a
  unfold hid
  by_cases q : (∃ i, a ∈ A i) ∨ C.G a
  · rw [if_pos q, if_pos]
    rcases q with q | q
    · exact .inl q
    · exact .inr (.inl q)
  · rw [if_neg q]
    by_cases e : a = D
    · rw [if_pos (.inr (.inr e)), e, rem_at]
    · rw [if_neg, rem_ne e]
      rintro (z | z | z)
      · exact q (.inl z)
      · exact q (.inr z)
      · exact e z
theorem Rp.aside {K : Frg} {H : Hp} {σ : L2.St} {ρ : Ev} {A : Fp} {C : Cn} {D : Addr} (R : Rp K (rem H D) σ ρ A C) (hD : H D ≠ none) : Rp K H σ ρ A (addG C D) where
  len := R.len
  ro := fun i d z => by rw [hid_aside]; exact R.ro i d z
  own := fun i p c z => by
    obtain ⟨l, h1, h2, h3, h4⟩ := R.own i p c z
    refine ⟨l, h1, h2, ?_, h4⟩
    rw [hid_aside]
    refine ocAt_mono h3 (rem_ne fun e => ?_).symm (Same.refl _)
    exact (R.liv.not (rem_at (H := H) (l := D))).1 i (by rw [h1, e]; simp)
  scr := fun i ns z => by rw [hid_aside]; exact R.scr i ns z
  inj := R.inj
  sep := fun i l z g => by
    rcases g with g | g
    · exact R.sep i l z g
    · exact (R.liv.not (rem_at (H := H) (l := D))).1 i (by rw [← g]; exact z)
  liv := fun a z => by
    have n := R.liv.not (rem_at (H := H) (l := D))
    rcases z with ⟨i, z⟩ | z | z
    · have := R.liv a (.inl ⟨i, z⟩)
      rw [rem_ne (fun e => n.1 i (by rw [← e]; exact z))] at this
      exact this
    · have := R.liv a (.inr z)
      rw [rem_ne (fun e => n.2 (by rw [← e]; exact z))] at this
      exact this
    · rw [z]; exact hD
theorem Rp.unaside {K : Frg} {H : Hp} {σ : L2.St} {ρ : Ev} {A : Fp} {C : Cn} {D : Addr} (R : Rp K H σ ρ A (addG C D)) (hn : ¬ C.G D) : Rp K (rem H D) σ ρ A C where
  len := R.len
  ro := fun i d z => by have := R.ro i d z; rw [hid_aside] at this; exact this
  own := fun i p c z => by
    obtain ⟨l, h1, h2, h3, h4⟩ := R.own i p c z
    rw [hid_aside] at h3
    refine ⟨l, h1, h2, ocAt_mono h3 (rem_ne fun e => ?_) (Same.refl _), h4⟩
    exact R.sep i l (by rw [h1]; simp) (.inr e)
  scr := fun i ns z => by have := R.scr i ns z; rw [hid_aside] at this; exact this
  inj := R.inj
  sep := fun i l z g => R.sep i l z (.inl g)
  liv := fun a z => by
    have ne : a ≠ D := fun e => by
      rcases z with ⟨i, z⟩ | z
      · exact R.sep i a z (.inr e)
      · exact hn (by rw [← e]; exact z)
    rw [rem_ne ne]
    exact R.liv a (z.imp id Or.inl)
/-- what is set aside changes -/
theorem Rp.updG {K : Frg} {H : Hp} {σ : L2.St} {ρ : Ev} {A : Fp} {C : Cn} {D : Addr} {o : HO} (R : Rp K H σ ρ A (addG C D)) : Rp K (upd H D o) σ ρ A (addG C D) ∧ hid (upd H D o) A (addG C D).G = hid H A (addG C D).G := by
  have e : hid (upd H D o) A (addG C D).G = hid H A (addG C D).G := by
    funext a
    unfold hid
    by_cases q : (∃ i, a ∈ A i) ∨ (addG C D).G a
    · rw [if_pos q, if_pos q]
    · rw [if_neg q, if_neg q, upd_ne fun z => q (.inr (.inr z))]
  refine ⟨⟨R.len, fun i d z => by rw [e]; exact R.ro i d z, fun i p c z => ?_, fun i ns z => by rw [e]; exact R.scr i ns z, R.inj, R.sep, fun a z => ?_⟩, e⟩
  · obtain ⟨l, h1, h2, h3, h4⟩ := R.own i p c z
    refine ⟨l, h1, h2, ?_, h4⟩
    rw [e]
    exact ocAt_mono h3 (upd_ne fun q => R.sep i l (by rw [h1]; simp) (.inr q)) (Same.refl _)
  · by_cases q : a = D
    · rw [q, upd_same]; simp
    · rw [upd_ne q]; exact R.liv a z
def lcF (vs : List Nat) (fb : FT) (ft : FB) (fe : F1) : List Dt → Ev → Option (List Dt × Ev)
  | [], ρ => some ([], ρ)
  | d :: ds, ρ => do
    let ρ1 ← fb d (wipeE ρ vs)
    let (b, ρ2) ← ft ρ1
    if b = true then do
      let (x, ρ3) ← fe ρ2
      let (xs, ρ4) ← lcF vs fb ft fe ds ρ3
      some (x :: xs, ρ4)
    else lcF vs fb ft fe ds ρ2
def fLc (vs : List Nat) (fi : FL) (fb : FT) (ft : FB) (fe : F1) : FL := fun ρ => do
  let (ds, ρ1) ← fi ρ
  let (xs, ρ2) ← lcF vs fb ft fe ds ρ1
  let ρ3 ← restE vs ρ1 ρ2
  if ds.length ≤ 100000 then some (xs, ρ3) else none
def fYes : FB := fun ρ => some (true, ρ)
theorem lcF_cons {vs : List Nat} {fb : FT} {ft : FB} {fe : F1} {d : Dt} {ds : List Dt} {ρ : Ev} {r : List Dt × Ev} (h : lcF vs fb ft fe (d :: ds) ρ = some r) : ∃ ρ1 b ρ2, fb d (wipeE ρ vs) = some ρ1 ∧ ft ρ1 = some (b, ρ2) ∧
    ((b = true ∧ ∃ x ρ3 xs ρ4, fe ρ2 = some (x, ρ3) ∧ lcF vs fb ft fe ds ρ3 = some (xs, ρ4) ∧ r = (x :: xs, ρ4)) ∨ (b = false ∧ lcF vs fb ft fe ds ρ2 = some r)) := by
  obtain ⟨ρ1, e1, h⟩ := bind_some (show (fb d (wipeE ρ vs) >>= _) = some r from h)
  obtain ⟨⟨b, ρ2⟩, e2, h⟩ := bind_some h
  refine ⟨ρ1, b, ρ2, e1, e2, ?_⟩
  cases b with
  | true =>
    dsimp only at h
    rw [if_pos rfl] at h
    obtain ⟨⟨x, ρ3⟩, e3, h⟩ := bind_some h
    obtain ⟨⟨xs, ρ4⟩, e4, h⟩ := bind_some h
    cases h
    exact .inl ⟨rfl, x, ρ3, xs, ρ4, e3, e4, rfl⟩
  | false =>
    dsimp only at h
    rw [if_neg Bool.false_ne_true] at h
    exact .inr ⟨rfl, h⟩
theorem lc_weak {K : Frg} {vs js : List Nat} {fi : FL} {fb : FT} {ft : FB} {fe : F1} {σ : L2.St} {H : Hp} {Q : VK} (hjs : ∀ j ∈ js, j ∈ vs) (q : tN K (fLc vs fi fb ft fe) σ H Q) : tLc (tI K fi) (tG K js fb) (tT K ft) (tF K fe) vs σ H Q := by
  obtain ⟨τ, A, C, ρ, xs, ρ', R, ef, k⟩ := q
  obtain ⟨⟨ds, ρ1⟩, e1, ef⟩ := bind_some ef
  obtain ⟨⟨xs0, ρ2⟩, e2, ef⟩ := bind_some ef
  obtain ⟨ρ3, e3, ef⟩ := bind_some ef
  split at ef
  · rename_i hz
    cases ef
    refine ⟨τ, A, C, ρ, ds, ρ1, R, e1, fun J H1 A1 s1 R1 Y D hD => ?_⟩
    have nG : ¬ C.G D := (R1.liv.not hD).2
    let W : Nat → Nat → Hp → Prop := fun i m H' => m = ds.length - i ∧ i ≤ ds.length ∧ ∃ A' ρi acc accV rest, (∀ l, C.G l → H' l = H1 l) ∧ Rp K H' (L2.wipe σ vs ++ τ) (wipeE ρi vs) A' (addG C D) ∧
      H' D = some (.lst accV) ∧ RepAll (hid H' A' (addG C D).G) acc accV ∧ Same (hid H1 A1 C.G) (hid H' A' (addG C D).G) ∧ acc.length ≤ i ∧ lcF vs fb ft fe (ds.drop i) ρi = some (rest, ρ2) ∧ acc ++ rest = xs
    have r0 : rem (upd H1 D (.lst [])) D = H1 := rem_upd hD
    refine ⟨W, ⟨ds.length, rfl, Nat.zero_le _, A1, ρ1, [], [], xs, fun l g => upd_ne (fun e => nG (by rw [← e]; exact g)), (Rp.wipe vs ((Rp.aside (H := upd H1 D (.lst [])) (by rw [r0]; exact R1) (by rw [upd_same]; simp)))), upd_same, rfl, by rw [hid_aside, r0]; exact Same.refl _, Nat.zero_le _, e2, rfl⟩, ?_⟩
    rintro i m H2 ⟨rfl, hi, A2, ρi, acc, accV, rest, gs2, R2, hD2, hacc, sf, hlen, e5, e6⟩
    by_cases hlt : i < ds.length
    · refine .inr ⟨Y.go i hlt H2 (sf.trans hid_sub), W (i + 1) (ds.length - (i + 1)), fun H' h' => ⟨_, by omega, h'⟩, fun x H3 y => ?_⟩
      have hd : ds[i]? = some ds[i] := List.getElem?_eq_getElem hlt
      obtain ⟨R3, s3, r3⟩ := yld_in (C := addG C D) Y R2 sf hd y
      rw [List.drop_eq_getElem_cons hlt] at e5
      obtain ⟨ρa, b, ρb, ea, eb, hb⟩ := lcF_cons e5
      refine ⟨τ, A2, addG C D, wipeE ρi vs, ds[i], ρa, R3, r3, ea, fun σ4 H4 A4 hl4 ho4 s4 R4 => ?_⟩
      have ew : L2.wipe σ4 vs = L2.wipe σ vs := wipe_same hl4 ho4 hjs
      refine ⟨ew, τ, A4, addG C D, ρa, b, ρb, R4, eb, fun H5 A5 s5 R5 => ?_⟩
      have s25 := (s3.trans s4).trans s5
      cases b with
      | true =>
        refine iteT ?_
        rcases hb with ⟨_, x1, ρc, xs1, ρd, ec, ed, er⟩ | ⟨e, _⟩
        · cases er
          refine ⟨τ, A5, addG C D, ρb, x1, ρc, R5, ec, fun v H6 A6 s6 R6 hv => ?_⟩
          have s26 := s25.trans s6
          have hl2 := repAll_len hacc
          refine ⟨accV, (s26.gs D (.inr rfl)).trans hD2, Nat.lt_of_le_of_lt (by omega : accV.length ≤ 100000) (by decide), rfl, hlt, A6, ρc, acc ++ [x1], accV ++ [v], xs1, ?_⟩
          have R7 := Rp.wipe vs R6
          rw [ew] at R7
          obtain ⟨R8, eh⟩ := R7.updG (o := .lst (accV ++ [v]))
          rw [eh]
          refine ⟨fun l g => ?_, R8, upd_same, repAll_app (repAll_mono s26.fr _ _ hacc) (repAll_one hv), sf.trans s26.fr, by simp; omega, ed, by rw [List.append_assoc]; exact e6⟩
          rw [upd_ne (fun e => nG (by rw [← e]; exact g))]
          exact (s26.gs l (.inl g)).trans (gs2 l g)
        · cases e
      | false =>
        refine iteF ?_
        rcases hb with ⟨e, _⟩ | ⟨_, eb2⟩
        · cases e
        · have R7 := Rp.wipe vs R5
          rw [ew] at R7
          exact ⟨rfl, hlt, A5, ρb, acc, accV, rest, fun l g => (s25.gs l (.inl g)).trans (gs2 l g), R7, (s25.gs D (.inr rfl)).trans hD2, repAll_mono s25.fr _ _ hacc, sf.trans s25.fr, by omega, eb2, e6⟩
    · have e : i = ds.length := by omega
      subst e
      rw [List.drop_length] at e5
      cases e5
      rw [List.append_nil] at e6
      subst e6
      refine .inl ⟨Y.stop _ (Nat.le_refl _) H2 (sf.trans hid_sub), ?_⟩
      have R3 := R2.unaside nG
      rw [hid_aside] at hacc sf
      have s4 : Stp H1 A1 (rem H2 D) A2 C := ⟨sf, fun l g => (rem_ne fun e => nG (by rw [← e]; exact g)).trans (gs2 l g)⟩
      exact k D accV H2 A2 (s1.trans s4) (Rp.rest R1 s4 R3 e3) hD2 hacc
  · cases ef
section
variable {X : Cx} {elt tg iter : Expr} {ifs : List Expr} {scope : Scope} {own : List (Str × Nat)} {pos : Pos}
theorem pts_weak {es : List Expr} {t t' : TT} (h : PTs X es t) (w : ∀ σ H Q, σ.length = X.N.length → t' σ H Q → t σ H Q) : PTs X es t' :=
  ⟨fun pins s σ H Q I q => h.run pins s σ H Q I (w σ H Q I.len q)⟩
theorem xts_nil : PTs X [] (tT X.K fYes) := pts_weak pts_nil fun σ H Q _ q => by
  obtain ⟨τ, A, C, ρ, b, ρ', R, ef, k⟩ := q
  cases ef
  exact k H A Stp.refl R
theorem xts_one {c : Expr} {f : FB} (h : PT X c (tT X.K f)) : PTs X [c] (tT X.K f) := pts_one h
theorem x_lc {js : List Nat} {fi : FL} {fb : FT} {ft : FB} {fe : F1} (hc : X.calm = true) (hN : X.N.Nodup) (hi : PI X tg iter (tI X.K fi)) (ok : BlkOk X.N X.env.scope scope own)
    (hg : ∀ (s : Shared) (H : Hp) (C : Addr) (cl : List (Str × Addr)) (fp : List Addr), PG (X.blk s H scope (compEnvC scope cl C X.env) fp) tg (tG X.K js fb)) (ht : ∀ (s : Shared) (H : Hp) (C : Addr) (cl : List (Str × Addr)) (fp : List Addr), PTs (X.blk s H scope (compEnvC scope cl C X.env) fp) ifs (tT X.K ft))
    (he : ∀ (s : Shared) (H : Hp) (C : Addr) (cl : List (Str × Addr)) (fp : List Addr), PE (X.blk s H scope (compEnvC scope cl C X.env) fp) elt (tF X.K fe)) (hjs : ∀ j ∈ js, j ∈ own.map (·.2) := by decide) (hs : ∀ x, foldedSetIterable iter X.env x = pure x := by intro _; rfl) :
    PE X (.ListComp elt [⟨tg, iter, ifs, 0⟩] scope pos) (tN X.K (fLc (own.map (·.2)) fi fb ft fe)) := pe_weak (pe_lc hc hN hi ok hg ht he hs) fun σ H Q _ q => lc_weak hjs q
theorem xs_setLc {js : List Nat} {fi : FL} {fb : FT} {ft : FB} {fe : F1} {i : Nat} {y : Str} {py spos : Pos} (hc : X.calm = true) (hN : X.N.Nodup) (hi : PI X tg iter (tI X.K fi)) (ok : BlkOk X.N X.env.scope scope own)
    (hg : ∀ (s : Shared) (H : Hp) (C : Addr) (cl : List (Str × Addr)) (fp : List Addr), PG (X.blk s H scope (compEnvC scope cl C X.env) fp) tg (tG X.K js fb)) (ht : ∀ (s : Shared) (H : Hp) (C : Addr) (cl : List (Str × Addr)) (fp : List Addr), PTs (X.blk s H scope (compEnvC scope cl C X.env) fp) ifs (tT X.K ft))
    (he : ∀ (s : Shared) (H : Hp) (C : Addr) (cl : List (Str × Addr)) (fp : List Addr), PE (X.blk s H scope (compEnvC scope cl C X.env) fp) elt (tF X.K fe)) (hy : X.N[i]? = some y := by rfl) (hyl : X.env.scope.names.lookup y = some .local := by rfl)
    (hsw : swapsWith (.ListComp elt [⟨tg, iter, ifs, 0⟩] scope pos) (some (.Name y py)) spos.line X.env = pure true := by exact sw_true rfl rfl rfl (by decide +kernel)) (hjs : ∀ j ∈ js, j ∈ own.map (·.2) := by decide) (hs : ∀ x, foldedSetIterable iter X.env x = pure x := by intro _; rfl) :
    PS X (.Assign [.Name y py] (.ListComp elt [⟨tg, iter, ifs, 0⟩] scope pos) spos) (tS X.K (gSetN i (fLc (own.map (·.2)) fi fb ft fe))) :=
  ps_weak (ps_setLc hc hN hy hyl hsw hi ok hg ht he hs) fun D σ H _ q => by
    obtain ⟨τ, A, C, ρ, xs, ρ', R, ef, k⟩ := setN_weak q
    exact lc_weak hjs ⟨τ, A, C, ρ, xs, ρ', R, ef, k⟩
end
end Mm

namespace Mm
open PySem L2 PySem.Spec PyProof.Rows
/-! from data to the library's data -/
mutual
theorem rep_dp {K : Frg} {H : Hp} : ∀ (d : Dt) (v : V), d.canLay0 = true → Rep H d v → Dp K H v d
  | .none, _, _, h => by cases h; exact .non
  | .bool b, _, _, h => by cases h; exact .bl b
  | .int i, _, _, h => by cases h; exact .int i
  | .str x, _, _, h => by cases h; exact .str x
  | .list ds, _, hc, h => by
    obtain ⟨a, xs, rfl, h1, h2⟩ := h
    exact .lst (.inl (.inl h1)) (repAll_dp ds xs (by simpa only [PyData.canLay0] using hc) h2)
  | .tuple ds, _, hc, h => by
    obtain ⟨a, xs, rfl, h1, h2⟩ := h
    exact .tup (.inl (.inl h1)) (repAll_dp ds xs (by simpa only [PyData.canLay0] using hc) h2)
  | .dict kvs, _, hc, _ => by simp only [PyData.canLay0] at hc; cases hc
theorem repAll_dp {K : Frg} {H : Hp} : ∀ (ds : List Dt) (vs : List V), PyData.canLayAll0 ds = true → RepAll H ds vs → DpAll K H vs ds
  | [], _, _, h => by cases h; exact .nil
  | d :: ds, _, hc, h => by
    obtain ⟨v, vs, rfl, h1, h2⟩ := h
    simp only [PyData.canLayAll0, Bool.and_eq_true] at hc
    exact .cons (rep_dp d v hc.1 h1) (repAll_dp ds vs hc.2 h2)
end
def okD (d : Dt) : Bool := SeqAt.shaped d
theorem okD_dp {K : Frg} {H : Hp} {A : Fp} {G : Addr → Prop} {d : Dt} {v : V} (h : okD d = true) (r : Rep (hid H A G) d v) : Dp K H v d := by
  have h1 : (d.canLay0 && decide (d.depth ≤ 64)) = true := h
  rw [Bool.and_eq_true] at h1
  exact rep_dp d v h1.1 (rep_mono hid_sub _ _ r)
section
variable {X : Cx}
def dEqO (d e : Dt) : Option Dt := if okD d = true ∧ okD e = true then some (.bool (PyData.eqv d e)) else none
def dEq : Dt → Dt → Option Dt
  | .str x, .str y => some (.bool (decide (x = y)))
  | d, e => dEqO d e
def dNe (d e : Dt) : Option Dt := if okD d = true ∧ okD e = true then some (.bool (!PyData.eqv d e)) else none
theorem o_eq (hu : X.A.units + 64 < cLine) : OpR X (compareOp .Eq) (rD dEq) := by
  intro pins s σ H x y v u Q I rx ry h
  obtain ⟨A, G, d, e, z, L, hd, he, ho, k⟩ := h
  have old : dEqO d e = some z → _ := fun ho => by
    unfold dEqO at ho
    split at ho
    · rename_i hc
      cases ho
      exact op_eqD hu pins s σ H x y v u Q I rx ry ⟨d, e, okD_dp hc.1 hd, okD_dp hc.2 he, hc.1, hc.2, k _ H (Same.refl _) rfl⟩
    · cases ho
  unfold dEq at ho
  split at ho
  · rename_i a b
    cases ho
    cases hd
    cases he
    have hq : (decide (V.str a = V.str b)) = decide (a = b) := decide_eq_decide.mpr ⟨fun q => V.str.inj q, congrArg _⟩
    exact op_eq pins s σ H _ _ v u Q I rx ry ⟨rfl, by rw [hq]; exact k _ H (Same.refl _) rfl⟩
  · exact old ho
theorem o_ne (hu : X.A.units + 64 < cLine) : OpR X (compareOp .NotEq) (rD dNe) := by
  intro pins s σ H x y v u Q I rx ry h
  obtain ⟨A, G, d, e, z, L, hd, he, ho, k⟩ := h
  unfold dNe at ho
  split at ho
  · rename_i hc
    cases ho
    exact op_neD hu pins s σ H x y v u Q I rx ry ⟨d, e, okD_dp hc.1 hd, okD_dp hc.2 he, hc.1, hc.2, k _ H (Same.refl _) rfl⟩
  · cases ho
def strLt (x y : Str) : Bool := decide (x.cps.toList < y.cps.toList)
def dLt : Dt → Dt → Option Dt
  | .int i, .int j => some (.bool (decide (i < j)))
  | .str i, .str j => some (.bool (strLt i j))
  | _, _ => none
def dGt : Dt → Dt → Option Dt
  | .int i, .int j => some (.bool (decide (j < i)))
  | .str i, .str j => some (.bool (strLt j i))
  | _, _ => none
def dLe : Dt → Dt → Option Dt
  | .int i, .int j => some (.bool (decide (i ≤ j)))
  | .str i, .str j => some (.bool (!strLt j i))
  | _, _ => none
def dGe : Dt → Dt → Option Dt
  | .int i, .int j => some (.bool (decide (j ≤ i)))
  | .str i, .str j => some (.bool (!strLt i j))
  | _, _ => none
theorem o_lt : OpR X (compareOp .Lt) (rD dLt) := by
  intro pins s σ H x y v u Q I rx ry h
  obtain ⟨A, G, d, e, z, L, hd, he, ho, k⟩ := h
  unfold dLt at ho
  split at ho
  · cases ho; cases hd; cases he
    exact op_lt pins s σ H _ _ v u Q I rx ry ⟨_, _, rfl, rfl, k _ H (Same.refl _) rfl⟩
  · cases ho; cases hd; cases he
    exact op_lt_str pins s σ H _ _ v u Q I rx ry ⟨_, _, rfl, rfl, k _ H (Same.refl _) rfl⟩
  · cases ho
theorem o_gt : OpR X (compareOp .Gt) (rD dGt) := by
  intro pins s σ H x y v u Q I rx ry h
  obtain ⟨A, G, d, e, z, L, hd, he, ho, k⟩ := h
  unfold dGt at ho
  split at ho
  · cases ho; cases hd; cases he
    exact op_gt pins s σ H _ _ v u Q I rx ry ⟨_, _, rfl, rfl, k _ H (Same.refl _) rfl⟩
  · cases ho; cases hd; cases he
    exact op_gt_str pins s σ H _ _ v u Q I rx ry ⟨_, _, rfl, rfl, k _ H (Same.refl _) rfl⟩
  · cases ho
theorem o_le : OpR X (compareOp .LtE) (rD dLe) := by
  intro pins s σ H x y v u Q I rx ry h
  obtain ⟨A, G, d, e, z, L, hd, he, ho, k⟩ := h
  unfold dLe at ho
  split at ho
  · cases ho; cases hd; cases he
    exact op_le pins s σ H _ _ v u Q I rx ry ⟨_, _, rfl, rfl, k _ H (Same.refl _) rfl⟩
  · cases ho; cases hd; cases he
    exact op_le_str pins s σ H _ _ v u Q I rx ry ⟨_, _, rfl, rfl, k _ H (Same.refl _) rfl⟩
  · cases ho
theorem o_ge : OpR X (compareOp .GtE) (rD dGe) := by
  intro pins s σ H x y v u Q I rx ry h
  obtain ⟨A, G, d, e, z, L, hd, he, ho, k⟩ := h
  unfold dGe at ho
  split at ho
  · cases ho; cases hd; cases he
    exact op_ge pins s σ H _ _ v u Q I rx ry ⟨_, _, rfl, rfl, k _ H (Same.refl _) rfl⟩
  · cases ho; cases hd; cases he
    exact op_ge_str pins s σ H _ _ v u Q I rx ry ⟨_, _, rfl, rfl, k _ H (Same.refl _) rfl⟩
  · cases ho
def isNone : Dt → Bool
  | .none => true
  | _ => false
theorem rep_none {F : Hp} {d : Dt} {v : V} (h : Rep F d v) : decide (v = .non) = isNone d := by
  cases d with
  | none => cases h; rfl
  | bool b => cases h; rfl
  | int b => cases h; rfl
  | str b => cases h; rfl
  | list b => obtain ⟨a, xs, rfl, _⟩ := h; rfl
  | tuple b => obtain ⟨a, xs, rfl, _⟩ := h; rfl
  | dict b => obtain ⟨a, xs, rfl, _⟩ := h; rfl
def dIs (d : Dt) : Dt → Option Dt
  | .none => some (.bool (isNone d))
  | _ => none
def dIsNot (d : Dt) : Dt → Option Dt
  | .none => some (.bool (!isNone d))
  | _ => none
theorem o_is : OpR X (compareOp .Is) (rD dIs) := by
  intro pins s σ H x y v u Q I rx ry h
  obtain ⟨A, G, d, e, z, L, hd, he, ho, k⟩ := h
  unfold dIs at ho
  split at ho
  · cases ho; cases he
    exact op_isN pins s σ H _ _ v u Q I rx ry ⟨rfl, k _ H (Same.refl _) (by rw [rep_none hd]; rfl)⟩
  · cases ho
theorem o_isnot : OpR X (compareOp .IsNot) (rD dIsNot) := by
  intro pins s σ H x y v u Q I rx ry h
  obtain ⟨A, G, d, e, z, L, hd, he, ho, k⟩ := h
  unfold dIsNot at ho
  split at ho
  · cases ho; cases he
    exact op_notN pins s σ H _ _ v u Q I rx ry ⟨rfl, k _ H (Same.refl _) (by rw [rep_none hd]; rfl)⟩
  · cases ho
def inD (d : Dt) : Dt → Option Bool
  | .list ds => if okD d = true ∧ okD (.list ds) = true then some (ds.any fun z => PyData.eqv z d) else none
  | .tuple ds => if okD d = true ∧ okD (.tuple ds) = true then some (ds.any fun z => PyData.eqv z d) else none
  | .str z => match d with
    | .str x => match x.cps.toList with
      | [c] => some (decide (c ∈ z.cps.toList))
      | _ => some (!(Builtin.Str.occurrences z x 0 z.length 1).isEmpty)
    | _ => none
  | _ => none
def dIn (d e : Dt) : Option Dt := (inD d e).map fun b => .bool b
def dNotIn (d e : Dt) : Option Dt := (inD d e).map fun b => .bool (!b)
theorem lay_parts {d : Dt} (h : okD d = true) : d.canLay0 = true ∧ d.depth ≤ 64 := by
  have h1 : (d.canLay0 && decide (d.depth ≤ 64)) = true := h
  rw [Bool.and_eq_true] at h1
  exact ⟨h1.1, of_decide_eq_true h1.2⟩
theorem o_in (hu : X.A.units + 70 < cLine) : OpR X (compareOp .In) (rD dIn) := by
  intro pins s σ H x y v u Q I rx ry h
  obtain ⟨A, G, d, e, z, L, hd, he, ho, k⟩ := h
  unfold dIn at ho
  cases hb : inD d e with
  | none => rw [hb] at ho; cases ho
  | some b =>
    rw [hb] at ho
    cases ho
    unfold inD at hb
    split at hb
    · rename_i ds
      split at hb
      · rename_i hc
        cases hb
        exact op_inD (by omega) pins s σ H x y v u Q I rx ry ⟨d, ds, okD_dp hc.1 hd, okD_dp hc.2 he, hc.1, hc.2, k _ H (Same.refl _) rfl⟩
      · cases hb
    · rename_i ds
      split at hb
      · rename_i hc
        cases hb
        obtain ⟨as, r1⟩ := Dp.reads I d x v (okD_dp hc.1 hd) rx
        obtain ⟨bs, r2⟩ := Dp.reads I (.tuple ds) y u (okD_dp hc.2 he) ry
        have l1 := lay_parts hc.1
        have l2 := (lay_parts hc.2).1
        simp only [PyData.canLay0] at l2
        exact SeqAt.in_tuple_reads r2 r1 l2 l1.1 (by have := l1.2; have : min (PyData.depthAll ds) d.depth ≤ d.depth := Nat.min_le_right _ _; omega) ⟨.bl _, H, I, rfl, k _ H (Same.refl _) rfl⟩
      · cases hb
    · rename_i z'
      split at hb
      · rename_i x'
        cases hd; cases he
        split at hb
        · rename_i c hc
          cases hb
          have ex : x' = ⟨#[c]⟩ := by
            obtain ⟨⟨l⟩⟩ := x'
            have hc : l = [c] := hc
            subst hc
            rfl
          subst ex
          exact op_in_sign pins s σ H _ _ v u Q I rx ry ⟨c, z', rfl, rfl, k _ H (Same.refl _) rfl⟩
        · cases hb
          exact op_in_str pins s σ H _ _ v u Q I rx ry ⟨x', z', rfl, rfl, k _ H (Same.refl _) rfl⟩
      · cases hb
    · cases hb
theorem o_notIn (hu : X.A.units + 70 < cLine) : OpR X (compareOp .NotIn) (rD dNotIn) := by
  intro pins s σ H x y v u Q I rx ry h
  obtain ⟨A, G, d, e, z, L, hd, he, ho, k⟩ := h
  unfold dNotIn at ho
  cases hb : inD d e with
  | none => rw [hb] at ho; cases ho
  | some b =>
    rw [hb] at ho
    cases ho
    unfold inD at hb
    split at hb
    · rename_i ds
      split at hb
      · rename_i hc
        cases hb
        exact op_notInD (by omega) pins s σ H x y v u Q I rx ry ⟨d, ds, okD_dp hc.1 hd, okD_dp hc.2 he, hc.1, hc.2, k _ H (Same.refl _) rfl⟩
      · cases hb
    · rename_i ds
      split at hb
      · rename_i hc
        cases hb
        obtain ⟨as, r1⟩ := Dp.reads I d x v (okD_dp hc.1 hd) rx
        obtain ⟨bs, r2⟩ := Dp.reads I (.tuple ds) y u (okD_dp hc.2 he) ry
        have l1 := lay_parts hc.1
        have l2 := (lay_parts hc.2).1
        simp only [PyData.canLay0] at l2
        exact SeqAt.notIn_tuple_reads r2 r1 l2 l1.1 (by have := l1.2; have : min (PyData.depthAll ds) d.depth ≤ d.depth := Nat.min_le_right _ _; omega) ⟨.bl _, H, I, rfl, k _ H (Same.refl _) rfl⟩
      · cases hb
    · rename_i z'
      split at hb
      · rename_i x'
        cases hd; cases he
        split at hb
        · rename_i c hc
          cases hb
          have ex : x' = ⟨#[c]⟩ := by
            obtain ⟨⟨l⟩⟩ := x'
            have hc : l = [c] := hc
            subst hc
            rfl
          subst ex
          exact op_notIn_sign pins s σ H _ _ v u Q I rx ry ⟨c, z', rfl, rfl, k _ H (Same.refl _) rfl⟩
        · cases hb
          exact op_notIn_str pins s σ H _ _ v u Q I rx ry ⟨x', z', rfl, rfl, k _ H (Same.refl _) rfl⟩
      · cases hb
    · cases hb
/-! arithmetic -/
theorem rep_newL {H : Hp} {A : Fp} {G : Addr → Prop} {p : Addr} {ds : List Dt} {vs : List V} (L : Liv H A G) (hp : H p = none) (h : RepAll (hid H A G) ds vs) : Rep (hid (upd H p (.lst vs)) A G) (.list ds) (.ref p) :=
  ⟨p, vs, rfl, hid_new L hp, repAll_mono (hid_same (same_new hp)) _ _ h⟩
theorem rep_newT {H : Hp} {A : Fp} {G : Addr → Prop} {p : Addr} {ds : List Dt} {vs : List V} (L : Liv H A G) (hp : H p = none) (h : RepAll (hid H A G) ds vs) : Rep (hid (upd H p (.tup vs)) A G) (.tuple ds) (.ref p) :=
  ⟨p, vs, rfl, hid_new L hp, repAll_mono (hid_same (same_new hp)) _ _ h⟩
def lenOk (n : Nat) : Bool := decide (n ≤ 100000)
def dAdd : Dt → Dt → Option Dt
  | .int i, .int j => some (.int (i + j))
  | .str i, .str j => if lenOk (i.length + j.length) = true then some (.str (i ++ j)) else none
  | .list i, .list j => if lenOk (i.length + j.length) = true then some (.list (i ++ j)) else none
  | .tuple i, .tuple j => if lenOk (i.length + j.length) = true then some (.tuple (i ++ j)) else none
  | _, _ => none
theorem lenOk_sz {n : Nat} (h : lenOk n = true) : n ≤ sizeLine := sz_of (of_decide_eq_true h)
theorem o_add : OpR X (binaryOp .Add) (rD dAdd) := by
  intro pins s σ H x y v u Q I rx ry h
  obtain ⟨A, G, d, e, z, L, hd, he, ho, k⟩ := h
  unfold dAdd at ho
  split at ho
  · cases ho; cases hd; cases he
    exact op_add pins s σ H _ _ v u Q I rx ry ⟨_, _, rfl, rfl, k _ H (Same.refl _) rfl⟩
  · split at ho
    · rename_i hz
      cases ho; cases hd; cases he
      exact op_add_str pins s σ H _ _ v u Q I rx ry ⟨_, _, rfl, rfl, lenOk_sz hz, k _ H (Same.refl _) rfl⟩
    · cases ho
  · split at ho
    · rename_i hz
      cases ho
      obtain ⟨a, xs, rfl, h1, h2⟩ := hd
      obtain ⟨b, ys, rfl, h3, h4⟩ := he
      refine op_cat pins s σ H _ _ v u Q I rx ry ⟨a, b, xs, ys, rfl, rfl, hid_sub _ _ h1, hid_sub _ _ h3, by rw [← repAll_len h2, ← repAll_len h4]; exact lenOk_sz hz, fun p hp => ?_⟩
      exact k _ _ (same_new hp) (rep_newL L hp (repAll_app h2 h4))
    · cases ho
  · split at ho
    · rename_i hz
      cases ho
      obtain ⟨a, xs, rfl, h1, h2⟩ := hd
      obtain ⟨b, ys, rfl, h3, h4⟩ := he
      have h5 := repAll_app h2 h4
      refine op_catA pins s σ H _ _ v u Q I rx ry ⟨a, b, xs, ys, rfl, rfl, .inl (.inl (hid_sub _ _ h1)), .inl (.inl (hid_sub _ _ h3)), by rw [← repAll_len h2, ← repAll_len h4]; exact lenOk_sz hz, fun e => ?_, fun _ e => ?_, fun _ _ p hp => ?_⟩
      · subst e
        exact k _ _ (Same.refl _) ⟨b, ys, rfl, h3, h5⟩
      · subst e
        rw [List.append_nil] at h5
        exact k _ _ (Same.refl _) ⟨a, xs, rfl, h1, h5⟩
      · exact k _ _ (same_new hp) (rep_newT L hp h5)
    · cases ho
  · cases ho
def dSub : Dt → Dt → Option Dt
  | .int i, .int j => some (.int (i - j))
  | _, _ => none
theorem o_sub : OpR X (binaryOp .Sub) (rD dSub) := by
  intro pins s σ H x y v u Q I rx ry h
  obtain ⟨A, G, d, e, z, L, hd, he, ho, k⟩ := h
  unfold dSub at ho
  split at ho
  · cases ho; cases hd; cases he
    exact op_sub pins s σ H _ _ v u Q I rx ry ⟨_, _, rfl, rfl, k _ H (Same.refl _) rfl⟩
  · cases ho
def dMul : Dt → Dt → Option Dt
  | .int i, .int j => if (decide (-(2 ^ 64) < i ∧ i < 2 ^ 64) || decide (-(2 ^ 64) < j ∧ j < 2 ^ 64)) = true then some (.int (i * j)) else none
  | .str i, .int j => if 0 ≤ j ∧ j ≤ 1 then some (.str (Txt.mul i j)) else none
  | .list i, .int j => if lenOk i.length = true ∧ 0 ≤ j ∧ j ≤ 100 then some (.list (List.replicate j.toNat i).flatten) else none
  | _, _ => none
theorem rep_repl {F : Hp} {ds : List Dt} {vs : List V} (h : RepAll F ds vs) : ∀ n : Nat, RepAll F (List.replicate n ds).flatten (List.replicate n vs).flatten
  | 0 => rfl
  | n + 1 => by
    rw [List.replicate_succ, List.replicate_succ, List.flatten_cons, List.flatten_cons]
    exact repAll_app h (rep_repl h n)
theorem o_mul : OpR X (binaryOp .Mult) (rD dMul) := by
  intro pins s σ H x y v u Q I rx ry h
  obtain ⟨A, G, d, e, z, L, hd, he, ho, k⟩ := h
  unfold dMul at ho
  split at ho
  · split at ho
    · rename_i hc
      cases ho; cases hd; cases he
      rw [Bool.or_eq_true, decide_eq_true_eq, decide_eq_true_eq] at hc
      exact op_mul pins s σ H _ _ v u Q I rx ry ⟨_, _, rfl, rfl, hc, k _ H (Same.refl _) rfl⟩
    · cases ho
  · split at ho
    · rename_i i j hc
      cases ho; cases hd; cases he
      obtain ⟨t, rfl⟩ := rx
      obtain ⟨t', rfl⟩ := ry
      refine SB.mul ⟨by rw [Bool.or_eq_false_iff]; exact ⟨decide_eq_false (by omega), decide_eq_false (by omega)⟩, fun h1 h2 => ?_, fun h1 h2 => ?_⟩ fun t2 tk => ⟨.str (Txt.mul i j), H, I.tok tk, ⟨_, rfl⟩, k _ H (Same.refl _) rfl⟩
      · have e : j = 1 := by omega
        rw [e] at h2
        simp at h2
      · have e : j = 1 := by omega
        rw [e] at h2
        simp at h2
    · cases ho
  · split at ho
    · rename_i ds j hc
      cases ho; cases he
      obtain ⟨a, xs, rfl, h1, h2⟩ := hd
      have hl := of_decide_eq_true hc.1
      rw [repAll_len h2] at hl
      refine op_rep pins s σ H _ _ v u Q I rx ry ⟨a, j, xs, rfl, rfl, hid_sub _ _ h1, by omega, by omega, ?_, fun p hp => ?_⟩
      · have h3 : xs.length * j.toNat ≤ 100000 * 100 := Nat.mul_le_mul hl (by omega)
        exact Nat.le_trans h3 (by decide)
      · exact k _ _ (same_new hp) (rep_newL L hp (rep_repl h2 _))
    · cases ho
  · cases ho
def dMod : Dt → Dt → Option Dt
  | .int i, .int j => if 0 < j then some (.int (i % j)) else none
  | _, _ => none
theorem o_mod : OpR X (binaryOp .Mod) (rD dMod) := by
  intro pins s σ H x y v u Q I rx ry h
  obtain ⟨A, G, d, e, z, L, hd, he, ho, k⟩ := h
  unfold dMod at ho
  split at ho
  · split at ho
    · rename_i hc
      cases ho; cases hd; cases he
      exact op_mod pins s σ H _ _ v u Q I rx ry ⟨_, _, rfl, rfl, hc, k _ H (Same.refl _) rfl⟩
    · cases ho
  · cases ho
def dDiv : Dt → Dt → Option Dt
  | .int i, .int j => if 0 < j ∧ j < 2 ^ 64 then some (.int (i / j)) else none
  | _, _ => none
theorem o_div : OpR X (binaryOp .FloorDiv) (rD dDiv) := by
  intro pins s σ H x y v u Q I rx ry h
  obtain ⟨A, G, d, e, z, L, hd, he, ho, k⟩ := h
  unfold dDiv at ho
  split at ho
  · split at ho
    · rename_i i j hc
      cases ho; cases hd; cases he
      have h2 : j.natAbs < 2 ^ 64 := by
        have h3 := hc.2
        have h4 : ((2 : Int) ^ 64) = 18446744073709551616 := by decide
        have h5 : (2 : Nat) ^ 64 = 18446744073709551616 := by decide
        rw [h4] at h3
        rw [h5]
        omega
      exact op_fdivW pins s σ H _ _ v u Q I rx ry ⟨i, j, rfl, rfl, wide_div (b := 64) hc.1 h2 (by decide) (by decide), k _ H (Same.refl _) rfl⟩
    · cases ho
  · cases ho
def dPow : Dt → Dt → Option Dt
  | .int i, .int j => if 0 ≤ j ∧ j ≤ 1000 ∧ i.natAbs < 2 ^ 64 then some (.int (i ^ j.toNat)) else none
  | _, _ => none
theorem o_pow : OpR X (binaryOp .Pow) (rD dPow) := by
  intro pins s σ H x y v u Q I rx ry h
  obtain ⟨A, G, d, e, z, L, hd, he, ho, k⟩ := h
  unfold dPow at ho
  split at ho
  · split at ho
    · rename_i hc
      cases ho; cases hd; cases he
      exact op_pow pins s σ H _ _ v u Q I rx ry ⟨_, _, rfl, rfl, ⟨hc.1, by omega, hc.2.2⟩, k _ H (Same.refl _) rfl⟩
    · cases ho
  · cases ho
def dNeg : Dt → Option Dt
  | .int i => some (.int (-i))
  | _ => none
theorem o_neg : UnR X (unaryOp .USub) (rU1 dNeg) := by
  intro pins s σ H x v Q I rx h
  obtain ⟨A, G, d, z, L, hd, ho, k⟩ := h
  unfold dNeg at ho
  split at ho
  · cases ho; cases hd
    exact un_neg pins s σ H _ v Q I rx ⟨_, rfl, k _ H (Same.refl _) rfl⟩
  · cases ho
/-! subscripts -/
def dIx : Dt → Dt → Option Dt
  | .list ds, .int i => atI ds i
  | .tuple ds, .int i => atI ds i
  | .str x, .int i => if lenOk x.length = true then (atI x.cps.toList i).map fun c => .str ⟨#[c]⟩ else none
  | _, _ => none
theorem repAll_at {F : Hp} {ds : List Dt} {vs : List V} (h : RepAll F ds vs) {i : Int} {d : Dt} (e : atI ds i = some d) : ∃ v, atI vs i = some v ∧ Rep F d v := by
  unfold atI at e ⊢
  rw [← repAll_len h]
  cases q : ixN ds.length i with
  | none => rw [q] at e; cases e
  | some j =>
    rw [q] at e
    exact repAll_get h (show ds[j]? = some d from e)
theorem o_ix : IxR X (rD dIx) := by
  intro value slice pins s σ H x y v u Q I rx ry h hs
  obtain ⟨A, G, d, e, z, L, hd, he, ho, k⟩ := h
  unfold dIx at ho
  split at ho
  · cases he
    obtain ⟨a, xs, rfl, h1, h2⟩ := hd
    obtain ⟨w, h3, h4⟩ := repAll_at h2 ho
    exact ix_list value slice pins s σ H _ _ v u Q I rx ry ⟨a, xs, _, w, rfl, rfl, .inl (.inl (hid_sub _ _ h1)), h3, k _ H (Same.refl _) h4⟩ hs
  · cases he
    obtain ⟨a, xs, rfl, h1, h2⟩ := hd
    obtain ⟨w, h3, h4⟩ := repAll_at h2 ho
    exact ix_tup value slice pins s σ H _ _ v u Q I rx ry ⟨a, xs, _, w, rfl, rfl, .inl (.inl (hid_sub _ _ h1)), h3, k _ H (Same.refl _) h4⟩ hs
  · split at ho
    · rename_i x' i' hz
      cases he; cases hd
      cases q : atI x'.cps.toList i' with
      | none => rw [q] at ho; cases ho
      | some c =>
        rw [q] at ho
        cases ho
        exact ix_str value slice pins s σ H _ _ v u Q I rx ry ⟨x', _, c, rfl, rfl, lenOk_sz hz, q, k _ H (Same.refl _) rfl⟩ hs
    · cases ho
  · cases ho
end
end Mm

namespace Mm
open PySem L2 PySem.Spec PyProof.Rows
/-! what is walked -/
def chars (x : Str) : List Dt := x.cps.toList.map fun c => .str ⟨#[c]⟩
def items : Dt → Option (List Dt)
  | .list ds => some ds
  | .tuple ds => some ds
  | .str x => some (chars x)
  | _ => none
def fItems (f : F1) : FL := fun ρ => do
  let (d, ρ1) ← f ρ
  let ds ← items d
  pure (ds, ρ1)
theorem yields_list {K : Frg} {F : Hp} {a : Addr} {xs : List V} {ds : List Dt} (h1 : F a = some (.lst xs)) (h2 : RepAll F ds xs) : Yields (Itl K a) F ds where
  go := fun i hi H s => ⟨xs, xs[i]'(by rw [← repAll_len h2]; exact hi), .inl (.inl (s _ _ h1)), List.getElem?_eq_getElem _⟩
  yld := fun i d hd H s x H' y => by
    obtain ⟨v, h3, h4⟩ := repAll_get h2 hd
    have e := y.2 xs (.inl (.inl (s _ _ h1)))
    rw [h3] at e
    cases e
    exact .inl ⟨y.1, h4⟩
  stop := fun i hi H s => ⟨xs, .inl (.inl (s _ _ h1)), by rw [← repAll_len h2]; exact hi⟩
theorem yields_tup {K : Frg} {F : Hp} {a : Addr} {xs : List V} {ds : List Dt} (h1 : F a = some (.tup xs)) (h2 : RepAll F ds xs) : Yields (Itt K a) F ds where
  go := fun i hi H s => ⟨xs, xs[i]'(by rw [← repAll_len h2]; exact hi), .inl (.inl (s _ _ h1)), List.getElem?_eq_getElem _⟩
  yld := fun i d hd H s x H' y => by
    obtain ⟨v, h3, h4⟩ := repAll_get h2 hd
    have e := y.2 xs (.inl (.inl (s _ _ h1)))
    rw [h3] at e
    cases e
    exact .inl ⟨y.1, h4⟩
  stop := fun i hi H s => ⟨xs, .inl (.inl (s _ _ h1)), by rw [← repAll_len h2]; exact hi⟩
theorem yields_str {F : Hp} {x : Str} : Yields (Its x) F (chars x) where
  go := fun i hi H s => by
    unfold chars at hi
    show i < x.cps.size
    simpa using hi
  yld := fun i d hd H s v H' y => by
    obtain ⟨rfl, c, h1, rfl⟩ := y
    refine .inl ⟨rfl, ?_⟩
    unfold chars at hd
    rw [List.getElem?_map] at hd
    have h2 : x.cps.toList[i]? = some c := by simpa using h1
    rw [h2] at hd
    cases hd
    rfl
  stop := fun i hi H s => by
    unfold chars at hi
    show x.cps.size ≤ i
    simpa using hi
def rangeD (lo : Int) (n : Nat) : List Dt := (List.range n).map fun i => .int (lo + (i : Nat))
theorem yields_rng {F : Hp} {lo : Int} {n : Nat} : Yields (Itr lo n) F (rangeD lo n) where
  go := fun i hi H s => by
    unfold rangeD at hi
    show i < n
    simpa using hi
  yld := fun i d hd H s v H' y => by
    obtain ⟨rfl, rfl⟩ := y
    refine .inl ⟨rfl, ?_⟩
    unfold rangeD at hd
    rw [List.getElem?_map] at hd
    cases q : (List.range n)[i]? with
    | none => rw [q] at hd; cases hd
    | some j =>
      rw [q] at hd
      cases hd
      have e : j = i := by
        obtain ⟨h1, h2⟩ := List.getElem?_eq_some_iff.mp q
        simpa using h2.symm
      subst e
      rfl
  stop := fun i hi H s => by
    unfold rangeD at hi
    show n ≤ i
    simpa using hi
section
variable {X : Cx} {tg e : Expr} {es : List Expr} {pos p : Pos}
theorem xi_items {f : F1} (h : PE X e (tF X.K f)) : PI X tg e (tI X.K (fItems f)) := by
  refine ⟨fun pins s σ H R I q => ?_⟩
  obtain ⟨τ, A, C, ρ, ds, ρ', Rr, ef, k⟩ := q
  obtain ⟨⟨d, ρ1⟩, e1, ef⟩ := bind_some ef
  obtain ⟨ds0, e2, ef⟩ := bind_some ef
  cases ef
  unfold items at e2
  split at e2
  · cases e2
    refine (pi_list h).run pins s σ H R I ⟨τ, A, C, ρ, _, _, Rr, e1, fun v H' A' s' R' hv => ?_⟩
    obtain ⟨a, xs, rfl, h1, h2⟩ := hv
    exact ⟨a, rfl, ⟨xs, .inl (.inl (hid_sub _ _ h1))⟩, k _ H' A' s' R' (yields_list h1 h2)⟩
  · cases e2
    refine (pi_tup h).run pins s σ H R I ⟨τ, A, C, ρ, _, _, Rr, e1, fun v H' A' s' R' hv => ?_⟩
    obtain ⟨a, xs, rfl, h1, h2⟩ := hv
    exact ⟨a, rfl, ⟨xs, .inl (.inl (hid_sub _ _ h1))⟩, k _ H' A' s' R' (yields_tup h1 h2)⟩
  · cases e2
    refine (pi_str h).run pins s σ H R I ⟨τ, A, C, ρ, _, _, Rr, e1, fun v H' A' s' R' hv => ?_⟩
    cases hv
    exact ⟨_, rfl, k _ H' A' s' R' yields_str⟩
  · cases e2
def fRange1 (fa : FA) : FL := fun ρ => do
  let (as, ρ1) ← fa ρ
  match as with
  | [.val (.int n)] => if n < 2 ^ 62 ∧ -(2 ^ 62) ≤ n then pure (rangeD 0 n.toNat, ρ1.take ρ.length) else none
  | _ => none
def fRange2 (fa : FA) : FL := fun ρ => do
  let (as, ρ1) ← fa ρ
  match as with
  | [.val (.int m), .val (.int n)] => if n < 2 ^ 62 ∧ -(2 ^ 62) ≤ n ∧ m < 2 ^ 62 ∧ -(2 ^ 62) ≤ m then pure (rangeD m (n - m).toNat, ρ1.take ρ.length) else none
  | _ => none
theorem xi_range1 {a : Expr} {fa : FA} (hm : X.mg "range" = none) (ha : PA X [a] (tA X.K fa)) (hg : Gl X "range" := by rfl) (hs : starEach [a] X.env = [(false, eval a X.env)] := by rfl) : PI X tg (.Call (.Name "range" p) [a] [] pos) (tI X.K (fRange1 fa)) :=
  pi_weak (pi_range1 hg hm ha hs) fun σ H R _ q => by
    obtain ⟨τ, A, C, ρ, ds, ρ', Rr, ef, k⟩ := q
    obtain ⟨⟨as, ρ1⟩, e1, ef⟩ := bind_some ef
    refine ⟨τ, A, C, ρ, as, ρ1, Rr, e1, fun vs τx H' A' s' R' hv => ?_⟩
    dsimp only at ef
    split at ef
    · rename_i n
      split at ef
      · rename_i hn
        cases ef
        obtain ⟨v, ws, rfl, h1, h2⟩ := hv
        cases h1; cases h2
        obtain ⟨R2, s2⟩ := app_nil_take R' Rr.len.symm
        exact ⟨n, rfl, hn.2, hn.1, k _ H' _ (s'.trans s2) R2 yields_rng⟩
      · cases ef
    · cases ef
theorem xi_range2 {a b : Expr} {fa : FA} (hm : X.mg "range" = none) (ha : PA X [a, b] (tA X.K fa)) (hg : Gl X "range" := by rfl) (hs : starEach [a, b] X.env = [(false, eval a X.env), (false, eval b X.env)] := by rfl) (hs2 : starEach [b] X.env = [(false, eval b X.env)] := by rfl) : PI X tg (.Call (.Name "range" p) [a, b] [] pos) (tI X.K (fRange2 fa)) :=
  pi_weak (pi_range2 hg hm ha hs hs2) fun σ H R _ q => by
    obtain ⟨τ, A, C, ρ, ds, ρ', Rr, ef, k⟩ := q
    obtain ⟨⟨as, ρ1⟩, e1, ef⟩ := bind_some ef
    refine ⟨τ, A, C, ρ, as, ρ1, Rr, e1, fun vs τx H' A' s' R' hv => ?_⟩
    dsimp only at ef
    split at ef
    · rename_i m n
      split at ef
      · rename_i hn
        cases ef
        obtain ⟨v, ws, rfl, h1, v2, ws2, rfl, h2, h3⟩ := hv
        cases h1; cases h2; cases h3
        obtain ⟨R2, s2⟩ := app_nil_take R' Rr.len.symm
        exact ⟨m, n, rfl, ⟨hn.2.2.2, hn.2.2.1, hn.2.1, hn.1⟩, k _ H' _ (s'.trans s2) R2 yields_rng⟩
      · cases ef
    · cases ef
def pairD (a b : Dt) : Dt := .tuple [a, b]
def fZip (fa : FA) : FL := fun ρ => do
  let (as, ρ1) ← fa ρ
  match as with
  | [.val (.list xs), .val (.list ys)] => pure (List.zipWith pairD xs ys, ρ1.take ρ.length)
  | [.val (.tuple xs), .val (.tuple ys)] => pure (List.zipWith pairD xs ys, ρ1.take ρ.length)
  | _ => none
theorem zip_get {xs ys : List Dt} {i : Nat} {d : Dt} (h : (List.zipWith pairD xs ys)[i]? = some d) : ∃ x y, xs[i]? = some x ∧ ys[i]? = some y ∧ d = pairD x y := by
  rw [List.getElem?_zipWith] at h
  cases hx : xs[i]? with
  | none => rw [hx] at h; cases h
  | some x =>
    cases hy : ys[i]? with
    | none => rw [hx, hy] at h; cases h
    | some y =>
      rw [hx, hy] at h
      exact ⟨x, y, rfl, rfl, (Option.some.inj h).symm⟩
theorem yields_zip {K : Frg} {F : Hp} {a b : Addr} {xs ys : List V} {ds es : List Dt} (h1 : F a = some (.lst xs)) (h2 : RepAll F ds xs) (h3 : F b = some (.lst ys)) (h4 : RepAll F es ys) : Yields (Itz K a b) F (List.zipWith pairD ds es) where
  go := fun i hi H s => by
    rw [List.length_zipWith] at hi
    have l1 := repAll_len h2
    have l2 := repAll_len h4
    exact ⟨xs, ys, xs[i]'(by omega), ys[i]'(by omega), .inl (.inl (s _ _ h1)), .inl (.inl (s _ _ h3)), List.getElem?_eq_getElem _, List.getElem?_eq_getElem _⟩
  yld := fun i d hd H s x H' y => by
    obtain ⟨dx, dy, g1, g2, rfl⟩ := zip_get hd
    obtain ⟨T, x1, x2, rfl, hT, rfl, f1, f2⟩ := y
    obtain ⟨v1, q1, r1⟩ := repAll_get h2 g1
    obtain ⟨v2, q2, r2⟩ := repAll_get h4 g2
    have e1 := f1 xs (.inl (.inl (s _ _ h1)))
    have e2 := f2 ys (.inl (.inl (s _ _ h3)))
    rw [q1] at e1; rw [q2] at e2
    cases e1; cases e2
    exact .inr ⟨T, _, _, rfl, hT, rfl, rfl, _, _, rfl, r1, _, _, rfl, r2, rfl⟩
  stop := fun i hi H s => by
    rw [List.length_zipWith] at hi
    have l1 := repAll_len h2
    have l2 := repAll_len h4
    exact ⟨xs, ys, .inl (.inl (s _ _ h1)), .inl (.inl (s _ _ h3)), by omega⟩
theorem yields_zipT {K : Frg} {F : Hp} {a b : Addr} {xs ys : List V} {ds es : List Dt} (h1 : F a = some (.tup xs)) (h2 : RepAll F ds xs) (h3 : F b = some (.tup ys)) (h4 : RepAll F es ys) : Yields (RZ.ItzT K a b) F (List.zipWith pairD ds es) where
  go := fun i hi H s => by
    rw [List.length_zipWith] at hi
    have l1 := repAll_len h2
    have l2 := repAll_len h4
    exact ⟨xs, ys, xs[i]'(by omega), ys[i]'(by omega), .inl (.inl (s _ _ h1)), .inl (.inl (s _ _ h3)), List.getElem?_eq_getElem _, List.getElem?_eq_getElem _⟩
  yld := fun i d hd H s x H' y => by
    obtain ⟨dx, dy, g1, g2, rfl⟩ := zip_get hd
    obtain ⟨T, x1, x2, rfl, hT, rfl, f1, f2⟩ := y
    obtain ⟨v1, q1, r1⟩ := repAll_get h2 g1
    obtain ⟨v2, q2, r2⟩ := repAll_get h4 g2
    have e1 := f1 xs (.inl (.inl (s _ _ h1)))
    have e2 := f2 ys (.inl (.inl (s _ _ h3)))
    rw [q1] at e1; rw [q2] at e2
    cases e1; cases e2
    exact .inr ⟨T, _, _, rfl, hT, rfl, rfl, _, _, rfl, r1, _, _, rfl, r2, rfl⟩
  stop := fun i hi H s => by
    rw [List.length_zipWith] at hi
    have l1 := repAll_len h2
    have l2 := repAll_len h4
    exact ⟨xs, ys, .inl (.inl (s _ _ h1)), .inl (.inl (s _ _ h3)), by omega⟩
theorem xi_zip {a b : Expr} {fa : FA} {elts : List Expr} {kk : Nat} {tpos : Pos} (hm : X.mg "zip" = none) (ha : PA X [a, b] (tA X.K fa)) (hg : Gl X "zip" := by rfl)
    (hs : starEach [a, b] X.env = (false, eval a X.env) :: starEach [b] X.env := by rfl) (hpl : (backTo pos (starEach [b] X.env)).any (·.1) = false := by rfl) : PI X (.Tuple elts kk tpos) (.Call (.Name "zip" p) [a, b] [] pos) (tI X.K (fZip fa)) :=
  pi_weak (RZ.pi_zipA hg hm ha hs hpl) fun σ H R _ q => by
    obtain ⟨τ, A, C, ρ, ds, ρ', Rr, ef, k⟩ := q
    obtain ⟨⟨as, ρ1⟩, e1, ef⟩ := bind_some ef
    refine ⟨τ, A, C, ρ, as, ρ1, Rr, e1, fun vs τx H' A' s' R' hv => ?_⟩
    dsimp only at ef
    split at ef
    · rename_i xs ys
      cases ef
      obtain ⟨v, ws, rfl, h1, v2, ws2, rfl, h2, h3⟩ := hv
      cases h3
      obtain ⟨R2, s2⟩ := app_nil_take R' Rr.len.symm
      obtain ⟨a1, x1, rfl, g1, g2⟩ := h1
      obtain ⟨a2, x2, rfl, g3, g4⟩ := h2
      exact ⟨a1, a2, x1, x2, rfl, .inl ⟨.inl (.inl (hid_sub _ _ g1)), .inl (.inl (hid_sub _ _ g3)), k _ H' _ (s'.trans s2) R2 (yields_zip (s2.fr _ _ g1) (repAll_mono s2.fr _ _ g2) (s2.fr _ _ g3) (repAll_mono s2.fr _ _ g4))⟩⟩
    · rename_i xs ys
      cases ef
      obtain ⟨v, ws, rfl, h1, v2, ws2, rfl, h2, h3⟩ := hv
      cases h3
      obtain ⟨R2, s2⟩ := app_nil_take R' Rr.len.symm
      obtain ⟨a1, x1, rfl, g1, g2⟩ := h1
      obtain ⟨a2, x2, rfl, g3, g4⟩ := h2
      exact ⟨a1, a2, x1, x2, rfl, .inr ⟨.inl (.inl (hid_sub _ _ g1)), .inl (.inl (hid_sub _ _ g3)), k _ H' _ (s'.trans s2) R2 (yields_zipT (s2.fr _ _ g1) (repAll_mono s2.fr _ _ g2) (s2.fr _ _ g3) (repAll_mono s2.fr _ _ g4))⟩⟩
    · cases ef
def enumD : Nat → List Dt → List Dt
  | _, [] => []
  | n, d :: ds => pairD (.int (n : Nat)) d :: enumD (n + 1) ds
theorem enumD_get : ∀ {ds : List Dt} {n i : Nat} {d : Dt}, (enumD n ds)[i]? = some d → ∃ x, ds[i]? = some x ∧ d = pairD (.int ((n + i : Nat) : Int)) x
  | [], n, i, d, h => by simp [enumD] at h
  | x :: ds, n, 0, d, h => by
    simp [enumD] at h
    exact ⟨x, rfl, h.symm⟩
  | x :: ds, n, i + 1, d, h => by
    obtain ⟨y, h1, h2⟩ := enumD_get (ds := ds) (n := n + 1) (i := i) (d := d) (by simpa [enumD] using h)
    exact ⟨y, by simpa using h1, by rw [h2]; congr 2; omega⟩
theorem enumD_len : ∀ (ds : List Dt) (n : Nat), (enumD n ds).length = ds.length
  | [], _ => rfl
  | d :: ds, n => by simp [enumD, enumD_len ds]
theorem yields_enum {K : Frg} {F : Hp} {a : Addr} {xs : List V} {ds : List Dt} (h1 : F a = some (.lst xs)) (h2 : RepAll F ds xs) : Yields (Ite K a) F (enumD 0 ds) where
  go := fun i hi H s => by
    rw [enumD_len] at hi
    exact ⟨xs, xs[i]'(by rw [← repAll_len h2]; exact hi), .inl (.inl (s _ _ h1)), List.getElem?_eq_getElem _⟩
  yld := fun i d hd H s x H' y => by
    obtain ⟨dx, g1, rfl⟩ := enumD_get hd
    obtain ⟨T, x1, rfl, hT, rfl, f1⟩ := y
    obtain ⟨v1, q1, r1⟩ := repAll_get h2 g1
    have e1 := f1 xs (.inl (.inl (s _ _ h1)))
    rw [q1] at e1
    cases e1
    exact .inr ⟨T, _, _, rfl, hT, rfl, rfl, _, _, rfl, by rw [Nat.zero_add]; rfl, _, _, rfl, r1, rfl⟩
  stop := fun i hi H s => by
    rw [enumD_len] at hi
    exact ⟨xs, .inl (.inl (s _ _ h1)), by rw [← repAll_len h2]; exact hi⟩
def fEnum (fa : FA) : FL := fun ρ => do
  let (as, ρ1) ← fa ρ
  match as with
  | [.val (.list xs)] => pure (enumD 0 xs, ρ1.take ρ.length)
  | _ => none
theorem xi_enum {a : Expr} {fa : FA} {elts : List Expr} {kk : Nat} {tpos : Pos} (hm : X.mg "enumerate" = none) (ha : PA X [a] (tA X.K fa)) (hg : Gl X "enumerate" := by rfl) (hs : starEach [a] X.env = [(false, eval a X.env)] := by rfl) :
    PI X (.Tuple elts kk tpos) (.Call (.Name "enumerate" p) [a] [] pos) (tI X.K (fEnum fa)) :=
  pi_weak (pi_enum hg hm ha hs) fun σ H R _ q => by
    obtain ⟨τ, A, C, ρ, ds, ρ', Rr, ef, k⟩ := q
    obtain ⟨⟨as, ρ1⟩, e1, ef⟩ := bind_some ef
    refine ⟨τ, A, C, ρ, as, ρ1, Rr, e1, fun vs τx H' A' s' R' hv => ?_⟩
    dsimp only at ef
    split at ef
    · rename_i xs
      cases ef
      obtain ⟨v, ws, rfl, h1, h3⟩ := hv
      cases h3
      obtain ⟨R2, s2⟩ := app_nil_take R' Rr.len.symm
      obtain ⟨a1, x1, rfl, g1, g2⟩ := h1
      exact ⟨a1, x1, rfl, .inl (.inl (hid_sub _ _ g1)), k _ H' _ (s'.trans s2) R2 (yields_enum (s2.fr _ _ g1) (repAll_mono s2.fr _ _ g2))⟩
    · cases ef
/-! built-in calls by data -/
def rDl (op : List Dt → Option Dt) : List V → Hp → VK → Prop := fun xs H Q => ∃ A G ds z, Liv H A G ∧ RepAll (hid H A G) ds xs ∧ op ds = some z ∧ ∀ v H', Same H H' → Rep (hid H' A G) z v → Q v H'
def fCB (op : List Dt → Option Dt) (fa : FA) : F1 := fun ρ => do
  let (as, ρ1) ← fa ρ
  let ds ← valsOf as
  let z ← op ds
  pure (z, ρ1.take ρ.length)
theorem cb_weak {op : List Dt → Option Dt} {fa : FA} {K : Frg} {σ : L2.St} {H : Hp} {Q : VK} (q : tF K (fCB op fa) σ H Q) : tCB (rDl op) (tA K fa) σ H Q := by
  obtain ⟨τ, A, C, ρ, d, ρ', R, ef, k⟩ := q
  obtain ⟨⟨as, ρ1⟩, e1, ef⟩ := bind_some ef
  obtain ⟨ds, e2, ef⟩ := bind_some ef
  obtain ⟨z, e3, ef⟩ := bind_some ef
  cases ef
  refine ⟨τ, A, C, ρ, as, ρ1, R, e1, fun vs τx H1 A1 s1 R1 hv => ?_⟩
  have hr := vals_rep hv e2
  obtain ⟨R2, s2⟩ := app_nil_take R1 R.len.symm
  exact ⟨_, C.G, ds, _, R2.liv, repAll_mono s2.fr _ _ hr, e3, fun v H' sm hz => k v H' _ ((s1.trans s2).trans (Stp.grow R2.liv sm)) (R2.grow sm) hz⟩
theorem x_cb {x : Str} {id : String} {op : List Dt → Option Dt} {fa : FA} (hc : CallR X (.builtin id) (rDl op)) (hm : X.mg x = none) (ha : PA X (e :: es) (tA X.K fa)) (hv : bootBuiltins x = some (.builtin id) := by decide +kernel) (hg : Gl X x := by rfl) (hn : x ≠ "__name__" := by decide) (hdb : (x == ("__debug__" : Str)) = false := by decide)
    (he : starEach (e :: es) X.env = (false, eval e X.env) :: starEach es X.env := by rfl) (hpl : (backTo pos (starEach es X.env)).any (·.1) = false := by rfl) : PE X (.Call (.Name x p) (e :: es) [] pos) (tF X.K (fCB op fa)) :=
  pe_weak (pe_callB hc hg hm hv ha hn hdb he hpl) fun _ _ _ _ q => cb_weak q
theorem x_ct {x : Str} {T : String} {op : List Dt → Option Dt} {fa : FA} (hc : CallR X (.type T) (rDl op)) (hm : X.mg x = none) (ha : PA X (e :: es) (tA X.K fa)) (hv : bootBuiltins x = some (.type T) := by decide +kernel) (hg : Gl X x := by rfl) (hn : x ≠ "__name__" := by decide) (hdb : (x == ("__debug__" : Str)) = false := by decide)
    (he : starEach (e :: es) X.env = (false, eval e X.env) :: starEach es X.env := by rfl) (hpl : (backTo pos (starEach es X.env)).any (·.1) = false := by rfl) : PE X (.Call (.Name x p) (e :: es) [] pos) (tF X.K (fCB op fa)) :=
  pe_weak (pe_callTy hc hg hm hv ha hn hdb he hpl) fun _ _ _ _ q => cb_weak q
/-- .. that make a new list -/
def rDn (op : List Dt → Option (List Dt)) : List V → Hp → VK → Prop := fun xs H Q => ∃ A G ds zs, Liv H A G ∧ RepAll (hid H A G) ds xs ∧ op ds = some zs ∧ ∀ l vs, H l = none → RepAll (hid H A G) zs vs → Q (.ref l) (upd H l (.lst vs))
def fCN (op : List Dt → Option (List Dt)) (fa : FA) : FL := fun ρ => do
  let (as, ρ1) ← fa ρ
  let ds ← valsOf as
  let z ← op ds
  pure (z, ρ1.take ρ.length)
theorem cn_weak {op : List Dt → Option (List Dt)} {fa : FA} {K : Frg} {σ : L2.St} {H : Hp} {Q : VK} (q : tN K (fCN op fa) σ H Q) : tCB (rDn op) (tA K fa) σ H Q := by
  obtain ⟨τ, A, C, ρ, d, ρ', R, ef, k⟩ := q
  obtain ⟨⟨as, ρ1⟩, e1, ef⟩ := bind_some ef
  obtain ⟨ds, e2, ef⟩ := bind_some ef
  obtain ⟨z, e3, ef⟩ := bind_some ef
  cases ef
  refine ⟨τ, A, C, ρ, as, ρ1, R, e1, fun vs τx H1 A1 s1 R1 hv => ?_⟩
  have hr := vals_rep hv e2
  obtain ⟨R2, s2⟩ := app_nil_take R1 R.len.symm
  refine ⟨_, C.G, ds, _, R2.liv, repAll_mono s2.fr _ _ hr, e3, fun l ws hl hw => ?_⟩
  have er : rem (upd H1 l (.lst ws)) l = H1 := rem_upd hl
  exact k l ws _ _ (by rw [er]; exact s1.trans s2) (by rw [er]; exact R2) upd_same (by rw [er]; exact hw)
theorem x_ctN {x : Str} {T : String} {op : List Dt → Option (List Dt)} {fa : FA} (hc : CallR X (.type T) (rDn op)) (hm : X.mg x = none) (ha : PA X (e :: es) (tA X.K fa)) (hv : bootBuiltins x = some (.type T) := by decide +kernel) (hg : Gl X x := by rfl) (hn : x ≠ "__name__" := by decide) (hdb : (x == ("__debug__" : Str)) = false := by decide)
    (he : starEach (e :: es) X.env = (false, eval e X.env) :: starEach es X.env := by rfl) (hpl : (backTo pos (starEach es X.env)).any (·.1) = false := by rfl) : PE X (.Call (.Name x p) (e :: es) [] pos) (tN X.K (fCN op fa)) :=
  pe_weak (pe_callTy hc hg hm hv ha hn hdb he hpl) fun _ _ _ _ q => cn_weak q
theorem x_cbN {x : Str} {id : String} {op : List Dt → Option (List Dt)} {fa : FA} (hc : CallR X (.builtin id) (rDn op)) (hm : X.mg x = none) (ha : PA X (e :: es) (tA X.K fa)) (hv : bootBuiltins x = some (.builtin id) := by decide +kernel) (hg : Gl X x := by rfl) (hn : x ≠ "__name__" := by decide) (hdb : (x == ("__debug__" : Str)) = false := by decide)
    (he : starEach (e :: es) X.env = (false, eval e X.env) :: starEach es X.env := by rfl) (hpl : (backTo pos (starEach es X.env)).any (·.1) = false := by rfl) : PE X (.Call (.Name x p) (e :: es) [] pos) (tN X.K (fCN op fa)) :=
  pe_weak (pe_callB hc hg hm hv ha hn hdb he hpl) fun _ _ _ _ q => cn_weak q
def dLen : List Dt → Option Dt
  | [.list ds] => some (.int ds.length)
  | [.tuple ds] => some (.int ds.length)
  | [.str x] => if lenOk x.length = true then some (.int x.length) else none
  | _ => none
theorem c_len : CallR X (.builtin "len") (rDl dLen) := by
  intro pins s σ H xs us Q I r h
  obtain ⟨A, G, ds, z, L, hd, ho, k⟩ := h
  unfold dLen at ho
  split at ho
  · cases ho
    obtain ⟨v, vs, rfl, ⟨a, ys, rfl, h1, h2⟩, h3⟩ := hd
    cases h3
    exact call_len_seq pins s σ H _ us Q I r ⟨a, ys, rfl, .inl (.inl (.inl (hid_sub _ _ h1))), k _ H (Same.refl _) (by rw [repAll_len h2]; rfl)⟩
  · cases ho
    obtain ⟨v, vs, rfl, ⟨a, ys, rfl, h1, h2⟩, h3⟩ := hd
    cases h3
    exact call_len_seq pins s σ H _ us Q I r ⟨a, ys, rfl, .inr (.inl (.inl (hid_sub _ _ h1))), k _ H (Same.refl _) (by rw [repAll_len h2]; rfl)⟩
  · split at ho
    · rename_i hz
      cases ho
      obtain ⟨v, vs, rfl, h1, h3⟩ := hd
      cases h3; cases h1
      exact call_len_str pins s σ H _ us Q I r ⟨_, rfl, lenOk_sz hz, k _ H (Same.refl _) rfl⟩
    · cases ho
  · cases ho
def boolsOf : List Dt → Option (List Bool)
  | [] => some []
  | .bool b :: ds => (boolsOf ds).map (b :: ·)
  | _ => none
theorem bools_rep {F : Hp} : ∀ {ds : List Dt} {vs : List V} {bs : List Bool}, boolsOf ds = some bs → RepAll F ds vs → vs = bs.map V.bl
  | [], _, _, e, h => by cases e; cases h; rfl
  | d :: ds, _, bs, e, h => by
    obtain ⟨v, ws, rfl, h1, h2⟩ := h
    cases d with
    | bool b =>
      have e : (boolsOf ds).map (b :: ·) = some bs := e
      cases q : boolsOf ds with
      | none => rw [q] at e; cases e
      | some bs' =>
        rw [q] at e
        cases e
        cases h1
        rw [bools_rep q h2]
        rfl
    | _ => cases e
def dAll : List Dt → Option Dt
  | [.list ds] => (boolsOf ds).map fun bs => .bool (bs.all id)
  | _ => none
def dAny : List Dt → Option Dt
  | [.list ds] => (boolsOf ds).map fun bs => .bool (bs.any id)
  | _ => none
theorem c_all (hc : X.calm = true) : CallR X (.builtin "all") (rDl dAll) := by
  intro pins s σ H xs us Q I r h
  obtain ⟨A, G, ds, z, L, hd, ho, k⟩ := h
  unfold dAll at ho
  split at ho
  · rename_i ds
    cases q : boolsOf ds with
    | none => rw [q] at ho; cases ho
    | some bs =>
      rw [q] at ho
      cases ho
      obtain ⟨v, vs, rfl, ⟨a, ys, rfl, h1, h2⟩, h3⟩ := hd
      cases h3
      have e := bools_rep q h2
      subst e
      exact cr_all hc pins s σ H _ us Q I r ⟨a, bs, rfl, .inl (.inl (hid_sub _ _ h1)), k _ H (Same.refl _) rfl⟩
  · cases ho
theorem c_any (hc : X.calm = true) : CallR X (.builtin "any") (rDl dAny) := by
  intro pins s σ H xs us Q I r h
  obtain ⟨A, G, ds, z, L, hd, ho, k⟩ := h
  unfold dAny at ho
  split at ho
  · rename_i ds
    cases q : boolsOf ds with
    | none => rw [q] at ho; cases ho
    | some bs =>
      rw [q] at ho
      cases ho
      obtain ⟨v, vs, rfl, ⟨a, ys, rfl, h1, h2⟩, h3⟩ := hd
      cases h3
      have e := bools_rep q h2
      subst e
      exact cr_any hc pins s σ H _ us Q I r ⟨a, bs, rfl, .inl (.inl (hid_sub _ _ h1)), k _ H (Same.refl _) rfl⟩
  · cases ho
def dAbs : List Dt → Option Dt
  | [.int i] => some (.int (if i < 0 then -i else i))
  | _ => none
theorem c_abs : CallR X (.builtin "abs") (rDl dAbs) := by
  intro pins s σ H xs us Q I r h
  obtain ⟨A, G, ds, z, L, hd, ho, k⟩ := h
  unfold dAbs at ho
  split at ho
  · cases ho
    obtain ⟨v, vs, rfl, h1, h3⟩ := hd
    cases h3; cases h1
    exact call_abs pins s σ H _ us Q I r ⟨_, rfl, k _ H (Same.refl _) rfl⟩
  · cases ho
def dMax2 : List Dt → Option Dt
  | [.int i, .int j] => some (.int (if j > i then j else i))
  | _ => none
def dMin2 : List Dt → Option Dt
  | [.int i, .int j] => some (.int (if j < i then j else i))
  | _ => none
theorem c_max2 (hc : X.calm = true) : CallR X (.builtin "max") (rDl dMax2) := by
  intro pins s σ H xs us Q I r h
  obtain ⟨A, G, ds, z, L, hd, ho, k⟩ := h
  unfold dMax2 at ho
  split at ho
  · cases ho
    obtain ⟨v, vs, rfl, h1, v2, ws, rfl, h2, h3⟩ := hd
    cases h3; cases h1; cases h2
    exact call_max2 hc pins s σ H _ us Q I r ⟨_, _, rfl, k _ H (Same.refl _) rfl⟩
  · cases ho
theorem c_min2 (hc : X.calm = true) : CallR X (.builtin "min") (rDl dMin2) := by
  intro pins s σ H xs us Q I r h
  obtain ⟨A, G, ds, z, L, hd, ho, k⟩ := h
  unfold dMin2 at ho
  split at ho
  · cases ho
    obtain ⟨v, vs, rfl, h1, v2, ws, rfl, h2, h3⟩ := hd
    cases h3; cases h1; cases h2
    exact call_min2 hc pins s σ H _ us Q I r ⟨_, _, rfl, k _ H (Same.refl _) rfl⟩
  · cases ho
def dInt : List Dt → Option Dt
  | [.int i] => some (.int i)
  | [.bool b] => some (.int (if b = true then 1 else 0))
  | _ => none
theorem c_int : CallR X (.type "int") (rDl dInt) := by
  intro pins s σ H xs us Q I r h
  obtain ⟨A, G, ds, z, L, hd, ho, k⟩ := h
  unfold dInt at ho
  split at ho
  · cases ho
    obtain ⟨v, vs, rfl, h1, h3⟩ := hd
    cases h3; cases h1
    exact call_int1 pins s σ H _ us Q I r (.inl ⟨_, rfl, k _ H (Same.refl _) rfl⟩)
  · cases ho
    obtain ⟨v, vs, rfl, h1, h3⟩ := hd
    cases h3; cases h1
    exact call_int1 pins s σ H _ us Q I r (.inr ⟨_, rfl, k _ H (Same.refl _) rfl⟩)
  · cases ho
def dStr : List Dt → Option Dt
  | [.int i] => if i.natAbs.log2 < 1920 then some (.str (toString i)) else none
  | _ => none
theorem c_str : CallR X (.type "str") (rDl dStr) := by
  intro pins s σ H xs us Q I r h
  obtain ⟨A, G, ds, z, L, hd, ho, k⟩ := h
  unfold dStr at ho
  split at ho
  · split at ho
    · rename_i hz
      cases ho
      obtain ⟨v, vs, rfl, h1, h3⟩ := hd
      cases h3; cases h1
      exact call_str_int pins s σ H _ us Q I r ⟨_, rfl, hz, k _ H (Same.refl _) rfl⟩
    · cases ho
  · cases ho
def dTuple : List Dt → Option Dt
  | [.list ds] => some (.tuple ds)
  | [.tuple ds] => some (.tuple ds)
  | _ => none
theorem c_tuple : CallR X (.type "tuple") (rDl dTuple) := by
  intro pins s σ H xs us Q I r h
  obtain ⟨A, G, ds, z, L, hd, ho, k⟩ := h
  unfold dTuple at ho
  split at ho
  · cases ho
    obtain ⟨v, vs, rfl, ⟨a, ys, rfl, h1, h2⟩, h3⟩ := hd
    cases h3
    exact call_tuple_of pins s σ H _ us Q I r ⟨a, ys, rfl, .inl ⟨.inl (.inl (hid_sub _ _ h1)), fun l hl => k _ _ (same_new hl) (rep_newT L hl h2)⟩⟩
  · cases ho
    obtain ⟨v, vs, rfl, ⟨a, ys, rfl, h1, h2⟩, h3⟩ := hd
    cases h3
    exact call_tuple_of pins s σ H _ us Q I r ⟨a, ys, rfl, .inr ⟨.inl (.inl (hid_sub _ _ h1)), k _ H (Same.refl _) ⟨a, ys, rfl, h1, h2⟩⟩⟩
  · cases ho
def dList : List Dt → Option (List Dt)
  | [.list ds] => some ds
  | [.tuple ds] => some ds
  | _ => none
theorem c_list : CallR X (.type "list") (rDn dList) := by
  intro pins s σ H xs us Q I r h
  obtain ⟨A, G, ds, z, L, hd, ho, k⟩ := h
  unfold dList at ho
  split at ho
  · cases ho
    obtain ⟨v, vs, rfl, ⟨a, ys, rfl, h1, h2⟩, h3⟩ := hd
    cases h3
    exact call_list_of pins s σ H _ us Q I r ⟨a, ys, rfl, .inl (.inl (.inl (hid_sub _ _ h1))), fun l hl => k l ys hl h2⟩
  · cases ho
    obtain ⟨v, vs, rfl, ⟨a, ys, rfl, h1, h2⟩, h3⟩ := hd
    cases h3
    exact call_list_of pins s σ H _ us Q I r ⟨a, ys, rfl, .inr (.inl (.inl (hid_sub _ _ h1))), fun l hl => k l ys hl h2⟩
  · cases ho
end
end Mm

namespace Mm
open PySem L2 PySem.Spec PyProof.Rows
/-! kinds -/
def isiB (T : String) : Dt → Bool
  | .none => T == "NoneType"
  | .bool _ => T == "bool" || T == "int"
  | .int _ => T == "int"
  | .str _ => T == "str"
  | .list _ => T == "list"
  | .tuple _ => T == "tuple"
  | .dict _ => T == "dict"
def tyN : Dt → String
  | .none => "NoneType"
  | .bool _ => "bool"
  | .int _ => "int"
  | .str _ => "str"
  | .list _ => "list"
  | .tuple _ => "tuple"
  | .dict _ => "dict"
theorem rep_ty {K : Frg} {F : Hp} {d : Dt} {v : V} (h : Rep F d v) : TyX K F v (.type (tyN d)) := by
  cases d with
  | none => cases h; exact .base .non
  | bool b => cases h; exact .base (.bl b)
  | int b => cases h; exact .base (.int b)
  | str b => cases h; exact .base (.str b)
  | list b => obtain ⟨a, xs, rfl, h, _⟩ := h; exact .base (.lst h)
  | tuple b => obtain ⟨a, xs, rfl, h, _⟩ := h; exact .base (.tup h)
  | dict b => obtain ⟨a, xs, rfl, h, _⟩ := h; exact .base (.dK h)
structure Kit (T : String) : Prop where
  non : kitB "NoneType" T = some (T == "NoneType")
  bl : kitB "bool" T = some (T == "bool" || T == "int")
  int : kitB "int" T = some (T == "int")
  str : kitB "str" T = some (T == "str")
  lst : kitB "list" T = some (T == "list")
  tup : kitB "tuple" T = some (T == "tuple")
  dct : kitB "dict" T = some (T == "dict")
theorem kit_int : Kit "int" := ⟨by decide +kernel, by decide +kernel, by decide +kernel, by decide +kernel, by decide +kernel, by decide +kernel, by decide +kernel⟩
theorem kit_bool : Kit "bool" := ⟨by decide +kernel, by decide +kernel, by decide +kernel, by decide +kernel, by decide +kernel, by decide +kernel, by decide +kernel⟩
theorem kit_str : Kit "str" := ⟨by decide +kernel, by decide +kernel, by decide +kernel, by decide +kernel, by decide +kernel, by decide +kernel, by decide +kernel⟩
theorem kit_list : Kit "list" := ⟨by decide +kernel, by decide +kernel, by decide +kernel, by decide +kernel, by decide +kernel, by decide +kernel, by decide +kernel⟩
theorem kit_tuple : Kit "tuple" := ⟨by decide +kernel, by decide +kernel, by decide +kernel, by decide +kernel, by decide +kernel, by decide +kernel, by decide +kernel⟩
theorem Kit.is {T : String} (k : Kit T) {K : Frg} (d : Dt) : PySem.W.kitOne K (.type (tyN d)) (.type T) = some (isiB T d) := by
  cases d with
  | none => exact kit_ty k.non
  | bool b => exact kit_ty k.bl
  | int b => exact kit_ty k.int
  | str b => exact kit_ty k.str
  | list b => exact kit_ty k.lst
  | tuple b => exact kit_ty k.tup
  | dict b => exact kit_ty k.dct
theorem tyX_mono {K : Frg} {H H' : Hp} {v : V} {d : Dt} (e : Same H H') (h : Rep H d v) : TyX K H' v (.type (tyN d)) := rep_ty (rep_mono e d v h)
section
variable {X : Cx} {e : Expr} {es : List Expr} {pos p p2 tp : Pos}
def fIsi (T : String) (f : F1) : F1 := fUn (fun d => some (.bool (isiB T d))) f
theorem x_isi {T : String} {x : Str} {f : F1} (k : Kit T) (hm : X.mg "isinstance" = none) (hm2 : X.mg x = none) (ha : PE X e (tF X.K f)) (hv2 : bootBuiltins x = some (.type T) := by decide +kernel) (hg : Gl X "isinstance" := by rfl) (hg2 : Gl X x := by rfl) (hn2 : x ≠ "__name__" := by decide) (hd2 : (x == ("__debug__" : Str)) = false := by decide)
    (hv : bootBuiltins "isinstance" = some (.builtin "isinstance") := by decide +kernel) (he : starEach (e :: [.Name x p2]) X.env = (false, eval e X.env) :: starEach [.Name x p2] X.env := by rfl) (hpl : (backTo pos (starEach [.Name x p2] X.env)).any (·.1) = false := by rfl)
    (hs1 : starEach [.Name x p2] X.env = (false, eval (.Name x p2) X.env) :: starEach [] X.env := by rfl) : PE X (.Call (.Name "isinstance" p) [e, .Name x p2] [] pos) (tF X.K (fIsi T f)) :=
  pe_weak (pe_callB call_isi hg hm hv (pa_cons ha (pa_cons (pe_bltn (v := .ty T) hg2 hm2 hv2 rfl hn2 hd2) pa_nil hs1) he) (by decide) (by decide) he hpl) fun σ H Q _ q => by
    obtain ⟨τ, A, C, ρ, d, ρ', R, ef, k'⟩ := q
    obtain ⟨⟨x1, ρ1⟩, e1, ef⟩ := bind_some ef
    cases ef
    refine ⟨τ, A, C, ρ, x1, _, R, e1, fun v H1 A1 s1 R1 hx => ?_⟩
    exact ⟨v, .ty T, _, _, _, rfl, .ty T, tyX_mono hid_sub hx, k.is x1, k' _ H1 A1 s1 R1 rfl⟩
def fIsi2 (T U : String) (f : F1) : F1 := fUn (fun d => some (.bool (isiB T d || isiB U d))) f
theorem x_isi2 {T U : String} {x y : Str} {f : F1} {kk : Nat} {p3 : Pos} (k : Kit T) (k2 : Kit U) (hm : X.mg "isinstance" = none) (hm2 : X.mg x = none) (hm3 : X.mg y = none) (ha : PE X e (tF X.K f)) (hv2 : bootBuiltins x = some (.type T) := by decide +kernel) (hv3 : bootBuiltins y = some (.type U) := by decide +kernel) (hg : Gl X "isinstance" := by rfl) (hg2 : Gl X x := by rfl) (hg3 : Gl X y := by rfl) (hn2 : x ≠ "__name__" := by decide) (hd2 : (x == ("__debug__" : Str)) = false := by decide) (hn3 : y ≠ "__name__" := by decide) (hd3 : (y == ("__debug__" : Str)) = false := by decide)
    (hv : bootBuiltins "isinstance" = some (.builtin "isinstance") := by decide +kernel) (he : starEach (e :: [.Tuple [.Name x p2, .Name y p3] kk tp]) X.env = (false, eval e X.env) :: starEach [.Tuple [.Name x p2, .Name y p3] kk tp] X.env := by rfl) (hpl : (backTo pos (starEach [.Tuple [.Name x p2, .Name y p3] kk tp] X.env)).any (·.1) = false := by rfl)
    (hs1 : starEach [.Tuple [.Name x p2, .Name y p3] kk tp] X.env = (false, eval (.Tuple [.Name x p2, .Name y p3] kk tp) X.env) :: starEach [] X.env := by rfl) (hs2 : starEach [.Name x p2, .Name y p3] X.env = (false, eval (.Name x p2) X.env) :: starEach [.Name y p3] X.env := by rfl) (hs3 : starEach [.Name y p3] X.env = (false, eval (.Name y p3) X.env) :: starEach [] X.env := by rfl) :
    PE X (.Call (.Name "isinstance" p) [e, .Tuple [.Name x p2, .Name y p3] kk tp] [] pos) (tF X.K (fIsi2 T U f)) :=
  pe_weak (pe_callB call_isiT hg hm hv (pa_cons ha (pa_cons (pe_tup (pa_cons (pe_bltn (v := .ty T) hg2 hm2 hv2 rfl hn2 hd2) (pa_cons (pe_bltn (v := .ty U) hg3 hm3 hv3 rfl hn3 hd3) pa_nil hs3) hs2)) pa_nil hs1) he) (by decide) (by decide) he hpl) fun σ H Q _ q => by
    obtain ⟨τ, A, C, ρ, d, ρ', R, ef, k'⟩ := q
    obtain ⟨⟨x1, ρ1⟩, e1, ef⟩ := bind_some ef
    cases ef
    refine ⟨τ, A, C, ρ, x1, _, R, e1, fun v H1 A1 s1 R1 hx => ⟨by show 2 ≤ sizeLine; decide, fun q hq => ?_⟩⟩
    have sm := same_new (o := HO.tup [.ty T, .ty U]) hq
    refine ⟨v, q, [.ty T, .ty U], _, [.type T, .type U], _, rfl, upd_same, .cons (.ty T) (.cons (.ty U) .nil), tyX_mono (hid_sub.trans sm) hx, ?_, k' _ _ A1 (s1.trans (Stp.grow R1.liv sm)) (R1.grow sm) rfl⟩
    refine kitAny_cons (k.is x1) (fun h => kitAny_cons (k2.is x1) (fun h2 => ?_) (fun h2 => ?_)) (fun h => ?_)
    · rw [h, h2]; rfl
    · rw [h2, Bool.or_true]
    · rw [h]; rfl
/-! len of a slot, items of a slot: one's own lists read without giving them away -/
def fLenS (i : Nat) : F1 := fun ρ => match ρ[i]? with
  | some (.own _ (.lst ds)) => some (.int ds.length, ρ)
  | some (.own _ (.dct ds)) => none
  | some (.ro d) => (dLen [d]).map fun z => (z, ρ)
  | some (.scr ns) => some (.int ns.length, ρ)
  | _ => none
theorem callR_or {f : Value} {r r' : List V → Hp → VK → Prop} (h : CallR X f r) (h' : CallR X f r') : CallR X f (fun xs H Q => r xs H Q ∨ r' xs H Q) := by
  intro pins s σ H xs us Q I rr q
  rcases q with q | q
  · exact h pins s σ H xs us Q I rr q
  · exact h' pins s σ H xs us Q I rr q
theorem slot_at {σ τ : L2.St} {i n : Nat} {v : V} (h : (σ ++ τ)[i]? = some (some v)) (hi : i < n) (hl : σ.length = n) : σ[i]? = some (some v) := by
  rw [List.getElem?_append_left (by omega)] at h
  exact h
theorem x_lenS (i : Nat) {x : Str} (hm : X.mg "len" = none) (hN : X.N[i]? = some x := by rfl) (hv : Vis X.env.scope x := by first | exact Or.inl rfl | exact Or.inr (Or.inl rfl) | exact Or.inr (Or.inr rfl)) (hd : (x == ("__debug__" : Str)) = false := by decide)
    (hcd : (x == ("__classdict__" : Str)) = false := by decide) (hg : Gl X "len" := by rfl) (he : starEach (.Name x p2 :: []) X.env = (false, eval (.Name x p2) X.env) :: starEach [] X.env := by rfl) (hpl : (backTo pos (starEach [] X.env)).any (·.1) = false := by rfl) :
    PE X (.Call (.Name "len" p) [.Name x p2] [] pos) (tF X.K (fLenS i)) := by
  have hl : i < X.N.length := by
    obtain ⟨h, _⟩ := List.getElem?_eq_some_iff.mp hN
    exact h
  refine pe_weak (pe_callB (callR_or call_len_seq c_len) hg hm PySem.boot_len (pa_cons (pe_var hN hv hd hcd) pa_nil he) (by decide) (by decide) he hpl) fun σ H Q ls q => ?_
  obtain ⟨τ, A, C, ρ, d, ρ', R, ef, k⟩ := q
  unfold fLenS at ef
  split at ef
  · rename_i pp ds z
    cases ef
    obtain ⟨l, h1, h2, ⟨vs, h3, h4⟩, h5⟩ := R.own i _ _ z
    exact ⟨_, slot_at h2 hl ls, .inl ⟨l, vs, rfl, .inl (.inl (.inl h3)), k _ H A Stp.refl R (by rw [repAll_len h4]; rfl)⟩⟩
  · cases ef
  · rename_i d0 z
    obtain ⟨v, h1, h2⟩ := R.ro i _ z
    cases q : dLen [d0] with
    | none => rw [q] at ef; cases ef
    | some w =>
      rw [q] at ef
      cases ef
      exact ⟨v, slot_at h1 hl ls, .inr ⟨A, C.G, [d0], _, R.liv, ⟨v, [], rfl, h2, rfl⟩, q, fun u H' sm hz => k u H' A (Stp.grow R.liv sm) (R.grow sm) hz⟩⟩
  · rename_i ns z
    cases ef
    obtain ⟨l, h1, h2⟩ := R.scr i ns z
    refine ⟨_, slot_at h1 hl ls, .inl ⟨l, _, rfl, .inl (sql_mono hid_sub h2), k _ H A Stp.refl R ?_⟩⟩
    show V.int ((ns.map V.int).length : Int) = V.int (ns.length : Int)
    rw [List.length_map]
  · cases ef
/-- slot i's own list becomes another -/
theorem Rp.setC {K : Frg} {H : Hp} {σ : L2.St} {ρ : Ev} {A : Fp} {C : Cn} {i : Nat} {p : Bool} {c : OC} {l : Addr} {ds : List Dt} {vs : List V} (R : Rp K H σ ρ A C) (z : ρ[i]? = some (.own p c)) (hl : A i = [l]) (hv : RepAll (hid H A C.G) ds vs) :
    Rp K (upd H l (.lst vs)) σ (ρ.set i (.own p (.lst ds))) A C ∧ Stp H A (upd H l (.lst vs)) A C ∧ Same (hid H A C.G) (hid (upd H l (.lst vs)) A C.G) := by
  have e : hid (upd H l (.lst vs)) A C.G = hid H A C.G := by
    funext a
    unfold hid
    by_cases q : (∃ i, a ∈ A i) ∨ C.G a
    · rw [if_pos q, if_pos q]
    · rw [if_neg q, if_neg q, upd_ne fun e => q (.inl ⟨i, by rw [hl, e]; simp⟩)]
  have nG : ¬ C.G l := R.sep i l (by rw [hl]; simp)
  refine ⟨⟨by simp [R.len], fun j d w => ?_, fun j p' c' w => ?_, fun j ns w => ?_, R.inj, R.sep, fun a w => ?_⟩, ⟨by rw [e]; exact Same.refl _, fun a g => upd_ne fun q => nG (by rw [← q]; exact g)⟩, by rw [e]; exact Same.refl _⟩
  · rcases set_get w with ⟨rfl, q⟩ | ⟨ne, w⟩
    · cases q
    · rw [e]; exact R.ro j d w
  · rcases set_get w with ⟨rfl, q⟩ | ⟨ne, w⟩
    · cases q
      obtain ⟨l', h1, h2, h3, h4⟩ := R.own _ _ _ z
      rw [hl] at h1
      have e2 : l = l' := by simpa using h1
      subst e2
      exact ⟨l, hl, h2, ⟨vs, upd_same, by rw [e]; exact hv⟩, h4⟩
    · obtain ⟨l', h1, h2, h3, h4⟩ := R.own j p' c' w
      refine ⟨l', h1, h2, ?_, h4⟩
      rw [e]
      refine ocAt_mono h3 (upd_ne fun q => ?_) (Same.refl _)
      subst q
      exact ne (R.inj j i l' (by rw [h1]; simp) (by rw [hl]; simp))
  · rcases set_get w with ⟨rfl, q⟩ | ⟨ne, w⟩
    · cases q
    · rw [e]; exact R.scr j ns w
  · by_cases q : a = l
    · rw [q, upd_same]; simp
    · rw [upd_ne q]; exact R.liv a w
/-! methods of one's own list -/
def isOwnL : Option Slot → Bool
  | some (.own _ (.lst _)) => true
  | _ => false
theorem isOwnL_of {s : Option Slot} (h : isOwnL s = true) : ∃ p ds, s = some (.own p (.lst ds)) := by
  unfold isOwnL at h
  split at h
  · exact ⟨_, _, rfl⟩
  · cases h
def appendTo (d : Dt) (ρ : Ev) (i : Nat) : Option Slot → Option (Dt × Ev)
  | some (.own p (.lst ds)) => if ds.length < 100000 then some (.none, ρ.set i (.own p (.lst (ds ++ [d])))) else none
  | _ => none
def fAppend (i : Nat) (fe : F1) : F1 := fun ρ => if isOwnL ρ[i]? = true then do
  let (d, ρ1) ← fe ρ
  appendTo d ρ1 i ρ1[i]?
  else none
theorem x_append (i : Nat) {x : Str} {fe : F1} {apos : Pos} (he : PE X e (tF X.K fe)) (hN : X.N[i]? = some x := by rfl) (hv : Vis X.env.scope x := by first | exact Or.inl rfl | exact Or.inr (Or.inl rfl) | exact Or.inr (Or.inr rfl)) (hd : (x == ("__debug__" : Str)) = false := by decide)
    (hcd : (x == ("__classdict__" : Str)) = false := by decide) (hbase : attributeBase (.Name x p) "append" X.env (eval (.Name x p) X.env) = eval (.Name x p) X.env := by rfl)
    (hfew : ((backTo pos (starEach (e :: []) X.env)).all (fun x => !x.1) && (backToKw pos (keywordEach [] X.env)).all (fun x => x.1.isSome) && decide ((e :: []).length + ([] : List Keyword).length + (if ([] : List Keyword).isEmpty then 0 else 1) < 30)) = true := by rfl)
    (hline : (apos.endLine == pos.line) = true := by rfl) (hs : starEach (e :: []) X.env = (false, eval e X.env) :: starEach [] X.env := by rfl) (hplain : (backTo pos (starEach [] X.env)).any (·.1) = false := by rfl) :
    PE X (.Call (.Attribute (.Name x p) "append" apos) [e] [] pos) (tF X.K (fAppend i fe)) := by
  have hl : i < X.N.length := by
    obtain ⟨h, _⟩ := List.getElem?_eq_some_iff.mp hN
    exact h
  refine pe_weak (pe_bm PySem.F.plainAttrs_list PySem.F.slot_list_append PySem.F.type_list_append mt_append (pe_var hN hv hd hcd) (pa_cons he pa_nil hs) hbase hfew hline hs hplain) fun σ H Q ls q => ?_
  obtain ⟨τ, A, C, ρ, d, ρ', R, ef, k⟩ := q
  unfold fAppend at ef
  split at ef
  · rename_i hown
    obtain ⟨p0, ds0, z0⟩ := isOwnL_of hown
    obtain ⟨⟨x1, ρ1⟩, e1, ef⟩ := bind_some ef
    have ef : appendTo x1 ρ1 i ρ1[i]? = some (d, ρ') := ef
    cases z1 : ρ1[i]? with
    | none => rw [z1] at ef; cases ef
    | some s1 =>
      rw [z1] at ef
      unfold appendTo at ef
      split at ef
      · rename_i p ds es
        cases es
        split at ef
        · rename_i hz
          cases ef
          obtain ⟨l, h1, h2, ⟨vs0, h3, _⟩, h4⟩ := R.own i _ _ z0
          refine ⟨.ref l, slot_at h2 hl ls, .inl ⟨rfl, vs0, .inl (.inl h3)⟩, τ, A, C, ρ, x1, ρ1, R, e1, fun v H1 A1 s1 R1 hx => ?_⟩
          obtain ⟨l', g1, g2, ⟨vs, g3, g4⟩, g5⟩ := R1.own i _ _ z1
          rw [h2] at g2
          cases g2
          obtain ⟨R2, s2, sm⟩ := R1.setC z1 g1 (repAll_app g4 (repAll_one hx))
          exact ⟨l, vs, v, rfl, rfl, g3, by rw [← repAll_len g4]; exact Nat.lt_of_lt_of_le hz (by decide), k _ _ A1 (s1.trans s2) R2 rfl⟩
        · cases ef
      · cases ef
  · cases ef
theorem repAll_erase {H : Hp} : ∀ {ds : List Dt} {vs : List V} (n : Nat), RepAll H ds vs → RepAll H (ds.eraseIdx n) (vs.eraseIdx n)
  | [], _, n, h => by cases h; rfl
  | d :: ds, _, 0, h => by
    obtain ⟨v, vs, rfl, h1, h2⟩ := h
    exact h2
  | d :: ds, _, n + 1, h => by
    obtain ⟨v, vs, rfl, h1, h2⟩ := h
    exact ⟨v, _, rfl, h1, repAll_erase n h2⟩
def popLast (ρ : Ev) (i : Nat) : Option Slot → Option (Dt × Ev)
  | some (.own p (.lst ds)) => (ds[ds.length - 1]?).map fun d => (d, ρ.set i (.own p (.lst ds.dropLast)))
  | _ => none
def fPop (i : Nat) : F1 := fun ρ => popLast ρ i ρ[i]?
theorem repAll_dropLast {H : Hp} {ds : List Dt} {vs : List V} (h : RepAll H ds vs) : RepAll H ds.dropLast vs.dropLast := by
  rw [List.dropLast_eq_take, List.dropLast_eq_take, repAll_len h]
  exact repAll_take _ h
theorem x_pop (i : Nat) {x : Str} {apos : Pos} (hN : X.N[i]? = some x := by rfl) (hv : Vis X.env.scope x := by first | exact Or.inl rfl | exact Or.inr (Or.inl rfl) | exact Or.inr (Or.inr rfl)) (hd : (x == ("__debug__" : Str)) = false := by decide)
    (hcd : (x == ("__classdict__" : Str)) = false := by decide) (hbase : attributeBase (.Name x p) "pop" X.env (eval (.Name x p) X.env) = eval (.Name x p) X.env := by rfl) (hline : (apos.endLine == pos.line) = true := by rfl) :
    PE X (.Call (.Attribute (.Name x p) "pop" apos) [] [] pos) (tF X.K (fPop i)) := by
  have hl : i < X.N.length := by
    obtain ⟨h, _⟩ := List.getElem?_eq_some_iff.mp hN
    exact h
  refine pe_weak (pe_bm0 PySem.F.plainAttrs_list PySem.F.slot_list_pop PySem.F.type_list_pop mt_pop (pe_var hN hv hd hcd) hbase hline) fun σ H Q ls q => ?_
  obtain ⟨τ, A, C, ρ, d, ρ', R, ef, k⟩ := q
  have ef : popLast ρ i ρ[i]? = some (d, ρ') := ef
  cases z : ρ[i]? with
  | none => rw [z] at ef; cases ef
  | some s1 =>
    rw [z] at ef
    unfold popLast at ef
    split at ef
    · rename_i p ds es
      cases es
      cases q : ds[ds.length - 1]? with
      | none => rw [q] at ef; cases ef
      | some x =>
        rw [q] at ef
        cases ef
        obtain ⟨l, h1, h2, ⟨vs, h3, h4⟩, h5⟩ := R.own i _ _ z
        obtain ⟨v, g1, g2⟩ := repAll_get h4 q
        obtain ⟨R2, s2, sm⟩ := R.setC z h1 (repAll_dropLast h4)
        exact ⟨.ref l, slot_at h2 hl ls, .inl ⟨rfl, vs, .inl (.inl h3)⟩, l, vs, v, rfl, rfl, h3, by rw [← repAll_len h4]; exact g1, k v _ A s2 R2 (rep_mono sm _ _ g2)⟩
    · cases ef
def popAt (d : Dt) (ρ : Ev) (i : Nat) : Option Slot → Option (Dt × Ev)
  | some (.own p (.lst ds)) => match d with
    | .int j => if 0 ≤ j ∧ j < 100000 then (ds[j.toNat]?).map fun x => (x, ρ.set i (.own p (.lst (ds.eraseIdx j.toNat)))) else none
    | _ => none
  | _ => none
def fPopAt (i : Nat) (fe : F1) : F1 := fun ρ => if isOwnL ρ[i]? = true then do
  let (d, ρ1) ← fe ρ
  popAt d ρ1 i ρ1[i]?
  else none
theorem x_popAt (i : Nat) {x : Str} {fe : F1} {apos : Pos} (he : PE X e (tF X.K fe)) (hN : X.N[i]? = some x := by rfl) (hv : Vis X.env.scope x := by first | exact Or.inl rfl | exact Or.inr (Or.inl rfl) | exact Or.inr (Or.inr rfl)) (hd : (x == ("__debug__" : Str)) = false := by decide)
    (hcd : (x == ("__classdict__" : Str)) = false := by decide) (hbase : attributeBase (.Name x p) "pop" X.env (eval (.Name x p) X.env) = eval (.Name x p) X.env := by rfl)
    (hfew : ((backTo pos (starEach (e :: []) X.env)).all (fun x => !x.1) && (backToKw pos (keywordEach [] X.env)).all (fun x => x.1.isSome) && decide ((e :: []).length + ([] : List Keyword).length + (if ([] : List Keyword).isEmpty then 0 else 1) < 30)) = true := by rfl)
    (hline : (apos.endLine == pos.line) = true := by rfl) (hs : starEach (e :: []) X.env = (false, eval e X.env) :: starEach [] X.env := by rfl) (hplain : (backTo pos (starEach [] X.env)).any (·.1) = false := by rfl) :
    PE X (.Call (.Attribute (.Name x p) "pop" apos) [e] [] pos) (tF X.K (fPopAt i fe)) := by
  have hl : i < X.N.length := by
    obtain ⟨h, _⟩ := List.getElem?_eq_some_iff.mp hN
    exact h
  refine pe_weak (pe_bm PySem.F.plainAttrs_list PySem.F.slot_list_pop PySem.F.type_list_pop mt_popAt (pe_var hN hv hd hcd) (pa_cons he pa_nil hs) hbase hfew hline hs hplain) fun σ H Q ls q => ?_
  obtain ⟨τ, A, C, ρ, d, ρ', R, ef, k⟩ := q
  unfold fPopAt at ef
  split at ef
  · rename_i hown
    obtain ⟨p0, ds0, z0⟩ := isOwnL_of hown
    obtain ⟨⟨x1, ρ1⟩, e1, ef⟩ := bind_some ef
    have ef : popAt x1 ρ1 i ρ1[i]? = some (d, ρ') := ef
    cases z1 : ρ1[i]? with
    | none => rw [z1] at ef; cases ef
    | some s1 =>
      rw [z1] at ef
      unfold popAt at ef
      split at ef
      · rename_i p ds es
        cases es
        cases x1 with
        | int j =>
          dsimp only at ef
          split at ef
          · rename_i hj
            cases q : ds[j.toNat]? with
            | none => rw [q] at ef; cases ef
            | some x =>
              rw [q] at ef
              cases ef
              obtain ⟨l, h1, h2, ⟨vs0, h3, _⟩, h4⟩ := R.own i _ _ z0
              refine ⟨.ref l, slot_at h2 hl ls, .inl ⟨rfl, vs0, .inl (.inl h3)⟩, τ, A, C, ρ, _, ρ1, R, e1, fun v H1 A1 s1 R1 hx => ?_⟩
              cases hx
              obtain ⟨l', g1, g2, ⟨vs, g3, g4⟩, g5⟩ := R1.own i _ _ z1
              rw [h2] at g2
              cases g2
              obtain ⟨w, w1, w2⟩ := repAll_get g4 q
              obtain ⟨R2, s2, sm⟩ := R1.setC z1 g1 (repAll_erase j.toNat g4)
              have hlt : j.toNat < vs.length := (List.getElem?_eq_some_iff.mp w1).1
              have hix : seqIndex? j vs.length = some j.toNat := by
                unfold seqIndex?
                rw [if_neg (show ¬ j < 0 by omega)]
                dsimp only
                rw [if_pos (show (decide (0 ≤ j) && decide (j < (vs.length : Int))) = true by rw [Bool.and_eq_true, decide_eq_true_eq, decide_eq_true_eq]; omega)]
              exact ⟨l, vs, j, j.toNat, w, rfl, rfl, g3, by omega, by omega, hix, w1, k w _ A1 (s1.trans s2) R2 (rep_mono sm _ _ w2)⟩
          · cases ef
        | _ => cases ef
      · cases ef
  · cases ef
/-! x[i] = e of one's own list -/
def putAt (d k : Dt) (ρ : Ev) (i : Nat) : Option Slot → Option Ev
  | some (.own p (.lst ds)) => match k with
    | .int j => (ixN ds.length j).map fun n => ρ.set i (.own p (.lst (ds.set n d)))
    | _ => none
  | _ => none
def bSub (i : Nat) (fk : F1) : FT := fun d ρ => if isOwnL ρ[i]? = true then do
  let (k, ρ1) ← fk ρ
  putAt d k ρ1 i ρ1[i]?
  else none
theorem xg_sub (i : Nat) {x : Str} {fk : F1} (hk : PE X e (tF X.K fk)) (hN : X.N[i]? = some x := by rfl) (hv : Vis X.env.scope x := by first | exact Or.inl rfl | exact Or.inr (Or.inl rfl) | exact Or.inr (Or.inr rfl)) (hd : (x == ("__debug__" : Str)) = false := by decide)
    (hcd : (x == ("__classdict__" : Str)) = false := by decide)
    (ha : ∀ v, assign (.Subscript (.Name x p) e pos) X.env v = (do
      let ov ← holding [v] (eval (.Name x p) X.env)
      let iv ← holding [v, ov] (eval e X.env)
      standAt pos
      holding [v, ov, iv] (setItem ov iv v)
      release [v, ov, iv] []) := by intro _; rfl) : PG X (.Subscript (.Name x p) e pos) (tG X.K [] (bSub i fk)) := by
  have hl : i < X.N.length := by
    obtain ⟨h, _⟩ := List.getElem?_eq_some_iff.mp hN
    exact h
  refine pg_weak (pg_sub (pe_var hN hv hd hcd) hk set_list ha) fun v σ H Q ls q => ?_
  obtain ⟨τ, A, C, ρ, d, ρ', R, hv, ef, k⟩ := q
  unfold bSub at ef
  split at ef
  · rename_i hown
    obtain ⟨p0, ds0, z0⟩ := isOwnL_of hown
    obtain ⟨⟨x1, ρ1⟩, e1, ef⟩ := bind_some ef
    have ef : putAt d x1 ρ1 i ρ1[i]? = some ρ' := ef
    cases z1 : ρ1[i]? with
    | none => rw [z1] at ef; cases ef
    | some s1 =>
      rw [z1] at ef
      unfold putAt at ef
      split at ef
      · rename_i p ds es
        cases es
        cases x1 with
        | int j =>
          dsimp only at ef
          cases q : ixN ds.length j with
          | none => rw [q] at ef; cases ef
          | some n =>
            rw [q] at ef
            cases ef
            obtain ⟨l, h1, h2, ⟨vs0, h3, _⟩, h4⟩ := R.own i _ _ z0
            refine ⟨.ref l, slot_at h2 hl ls, τ, A, C, ρ, _, ρ1, R, e1, fun u H1 A1 s1 R1 hx => ?_⟩
            cases hx
            obtain ⟨l', g1, g2, ⟨vs, g3, g4⟩, g5⟩ := R1.own i _ _ z1
            rw [h2] at g2
            cases g2
            obtain ⟨R2, s2, sm⟩ := R1.setC z1 g1 (repAll_set n g4 (rep_mono s1.fr _ _ hv))
            exact ⟨l, vs, j, n, rfl, rfl, g3, by rw [← repAll_len g4]; exact q, k σ _ A1 rfl (fun _ _ => rfl) (s1.trans s2) R2⟩
        | _ => cases ef
      · cases ef
  · cases ef
/-! slices -/
def tO (K : Frg) (f : Ev → Option (Option Int × Ev)) : TO := fun σ H Q => ∃ τ A C ρ o ρ', Rp K H (σ ++ τ) ρ A C ∧ f ρ = some (o, ρ') ∧ ∀ H' A', Stp H A H' A' C → Rp K H' (σ ++ τ) ρ' A' C → Q o H'
def oNone : Ev → Option (Option Int × Ev) := fun ρ => some (none, ρ)
def oSome (f : F1) : Ev → Option (Option Int × Ev) := fun ρ => match f ρ with
  | some (.int i, ρ1) => some (some i, ρ1)
  | _ => none
theorem po_weak {o : Option Expr} {t t' : TO} (h : PO X o t) (w : ∀ σ H Q, t' σ H Q → t σ H Q) : PO X o t' :=
  ⟨fun pins s σ H Q I q => h.run pins s σ H Q I (w σ H Q q)⟩
theorem xo_none : PO X none (tO X.K oNone) := po_weak po_none fun σ H Q q => by
  obtain ⟨τ, A, C, ρ, o, ρ', R, ef, k⟩ := q
  cases ef
  exact k H A Stp.refl R
theorem xo_some {f : F1} (h : PE X e (tF X.K f)) : PO X (some e) (tO X.K (oSome f)) := po_weak (po_some h) fun σ H Q q => by
  obtain ⟨τ, A, C, ρ, o, ρ', R, ef, k⟩ := q
  unfold oSome at ef
  split at ef
  · rename_i i ρ1 h1
    cases ef
    exact ⟨τ, A, C, ρ, _, _, R, h1, fun v H' A' s R' hv => ⟨i, hv, k H' A' s R'⟩⟩
  · cases ef
def cutD (xs : List Dt) (lo hi : Option Int) : List Dt := (xs.drop (HT.sIx xs.length 0 lo)).take (HT.sIx xs.length xs.length hi - HT.sIx xs.length 0 lo)
theorem cut_rep {F : Hp} {ds : List Dt} {vs : List V} (h : RepAll F ds vs) (lo hi : Option Int) : RepAll F (cutD ds lo hi) (cutV vs lo hi) := by
  unfold cutD cutV
  rw [← repAll_len h]
  exact repAll_take _ (repAll_drop _ h)
def dSlice : Dt → Option Int → Option Int → Option Dt
  | .list ds, lo, hi => some (.list (cutD ds lo hi))
  | .tuple ds, lo, hi => some (.tuple (cutD ds lo hi))
  | .str x, lo, hi => if lenOk x.length = true then some (.str (cutS x lo hi)) else none
  | _, _, _ => none
def rSlD : V → Option Int → Option Int → Hp → VK → Prop := fun x lo hi H Q => ∃ A G d z, Liv H A G ∧ Rep (hid H A G) d x ∧ dSlice d lo hi = some z ∧ ∀ v H', Same H H' → Rep (hid H' A G) z v → Q v H'
theorem sl_D : SlR X rSlD := by
  intro pins s σ H x v vl vu lo hi sl Q I rx hs pl pu h
  obtain ⟨A, G, d, z, L, hd, ho, k⟩ := h
  unfold dSlice at ho
  split at ho
  · cases ho
    obtain ⟨a, xs, rfl, h1, h2⟩ := hd
    exact sl_list pins s σ H _ v vl vu lo hi sl Q I rx hs pl pu ⟨a, xs, rfl, .inl (.inl (hid_sub _ _ h1)), fun p hp => k _ _ (same_new hp) (rep_newL L hp (cut_rep h2 lo hi))⟩
  · cases ho
    obtain ⟨a, xs, rfl, h1, h2⟩ := hd
    refine sl_tupA pins s σ H _ v vl vu lo hi sl Q I rx hs pl pu ⟨a, xs, rfl, .inl (.inl (hid_sub _ _ h1)), fun hw => ?_, fun _ p hp => k _ _ (same_new hp) (rep_newT L hp (cut_rep h2 lo hi))⟩
    refine k _ H (Same.refl _) ⟨a, xs, rfl, h1, ?_⟩
    have e : cutV xs lo hi = xs := by
      unfold cutV
      rw [hw.1, hw.2]
      simp
    have h3 := cut_rep h2 lo hi
    rw [e] at h3
    exact h3
  · split at ho
    · rename_i hz
      cases ho; cases hd
      exact sl_str pins s σ H _ v vl vu lo hi sl Q I rx hs pl pu ⟨_, rfl, lenOk_sz hz, k _ H (Same.refl _) rfl⟩
    · cases ho
  · cases ho
def fSlice (fe : F1) (fl fh : Ev → Option (Option Int × Ev)) : F1 := fun ρ => do
  let (d, ρ1) ← fe ρ
  let (lo, ρ2) ← fl ρ1
  let (hi, ρ3) ← fh ρ2
  let z ← dSlice d lo hi
  pure (z, ρ3)
theorem x_slice {lo hi : Option Expr} {fe : F1} {fl fh : Ev → Option (Option Int × Ev)} (he : PE X e (tF X.K fe)) (hl : PO X lo (tO X.K fl)) (hh : PO X hi (tO X.K fh)) : PE X (.Subscript e (.Slice lo hi none p2) pos) (tF X.K (fSlice fe fl fh)) :=
  pe_weak (pe_slice sl_D he hl hh) fun σ H Q _ q => by
    obtain ⟨τ, A, C, ρ, d, ρ', R, ef, k⟩ := q
    obtain ⟨⟨x, ρ1⟩, e1, ef⟩ := bind_some ef
    obtain ⟨⟨o1, ρ2⟩, e2, ef⟩ := bind_some ef
    obtain ⟨⟨o2, ρ3⟩, e3, ef⟩ := bind_some ef
    obtain ⟨z, e4, ef⟩ := bind_some ef
    cases ef
    refine ⟨τ, A, C, ρ, x, ρ1, R, e1, fun v H1 A1 s1 R1 hx => ⟨τ, A1, C, ρ1, o1, ρ2, R1, e2, fun H2 A2 s2 R2 => ⟨τ, A2, C, ρ2, o2, _, R2, e3, fun H3 A3 s3 R3 => ?_⟩⟩⟩
    exact ⟨A3, C.G, x, _, R3.liv, rep_mono (s2.trans s3).fr _ _ hx, e4, fun w H4 sm hz => k w H4 A3 (((s1.trans s2).trans s3).trans (Stp.grow R3.liv sm)) (R3.grow sm) hz⟩
/-! methods of texts -/
def dUpper : Dt → Option Dt
  | .str x => if lenOk x.length = true then some (.str (Txt.upper x)) else none
  | _ => none
theorem x_upper {f : F1} {apos : Pos} (h : PE X e (tF X.K f)) (hbase : attributeBase e "upper" X.env (eval e X.env) = eval e X.env := by rfl) (hline : (apos.endLine == pos.line) = true := by rfl) : PE X (.Call (.Attribute e "upper" apos) [] [] pos) (tF X.K (fUn dUpper f)) :=
  pe_weak (pe_upper h hbase hline) fun σ H Q _ q => by
    obtain ⟨τ, A, C, ρ, d, ρ', R, ef, k⟩ := q
    obtain ⟨⟨x1, ρ1⟩, e1, ef⟩ := bind_some ef
    obtain ⟨z, e2, ef⟩ := bind_some ef
    cases ef
    unfold dUpper at e2
    split at e2
    · split at e2
      · rename_i hz
        cases e2
        refine ⟨τ, A, C, ρ, _, _, R, e1, fun v H1 A1 s1 R1 hx => ?_⟩
        cases hx
        exact ⟨⟨_, rfl⟩, _, rfl, rfl, Nat.le_trans (of_decide_eq_true hz) (by decide), k _ H1 A1 s1 R1 rfl⟩
      · cases e2
    · cases e2
def strsOf : List Dt → Option (List Str)
  | [] => some []
  | .str x :: ds => (strsOf ds).map (x :: ·)
  | _ => none
theorem strs_rep {F : Hp} : ∀ {ds : List Dt} {vs : List V} {bs : List Str}, strsOf ds = some bs → RepAll F ds vs → vs = bs.map V.str
  | [], _, _, e, h => by cases e; cases h; rfl
  | d :: ds, _, bs, e, h => by
    obtain ⟨v, ws, rfl, h1, h2⟩ := h
    cases d with
    | str b =>
      have e : (strsOf ds).map (b :: ·) = some bs := e
      cases q : strsOf ds with
      | none => rw [q] at e; cases e
      | some bs' =>
        rw [q] at e
        cases e
        cases h1
        rw [strs_rep q h2]
        rfl
    | _ => cases e
def dJoin : Dt → Dt → Option Dt
  | .str a, .list ds => match strsOf ds with
    | some ys => if (ys.map (·.length)).sum + ys.length * a.length ≤ 16777216 then some (.str (Txt.join a ys)) else none
    | none => none
  | _, _ => none
theorem x_join {f g : F1} {a b : Expr} {apos : Pos} (ha : PE X a (tF X.K f)) (hb : PE X b (tF X.K g)) (hs : starEach [b] X.env = [(false, eval b X.env)] := by rfl) (hbase : attributeBase a "join" X.env (eval a X.env) = eval a X.env := by rfl) (hline : (apos.endLine == pos.line) = true := by rfl) :
    PE X (.Call (.Attribute a "join" apos) [b] [] pos) (tF X.K (fBin dJoin f g)) :=
  pe_weak (pe_join ha hb hs hbase hline) fun σ H Q _ q => by
    obtain ⟨τ, A, C, ρ, d, ρ', R, ef, k⟩ := q
    obtain ⟨⟨x1, ρ1⟩, e1, ef⟩ := bind_some ef
    obtain ⟨⟨x2, ρ2⟩, e2, ef⟩ := bind_some ef
    obtain ⟨z, e3, ef⟩ := bind_some ef
    cases ef
    unfold dJoin at e3
    split at e3
    · rename_i a0 ds0
      split at e3
      · rename_i ys hy
        split at e3
        · rename_i hz
          cases e3
          refine ⟨τ, A, C, ρ, _, _, R, e1, fun v H1 A1 s1 R1 hx => ?_⟩
          cases hx
          refine ⟨⟨_, rfl⟩, τ, A1, C, ρ1, _, _, R1, e2, fun v H2 A2 s2 R2 hx => ?_⟩
          obtain ⟨l, vs, rfl, h1, h2⟩ := hx
          have e := strs_rep hy h2
          subst e
          exact ⟨_, l, ys, rfl, rfl, .inl (.inl (.inl (hid_sub _ _ h1))), hz, k _ H2 A2 (s1.trans s2) R2 rfl⟩
        · cases e3
      · cases e3
    · cases e3
/-! sorted texts -/
def insS (x : Str) : List Str → List Str
  | [] => [x]
  | y :: ys => if strLt y x = true then y :: insS x ys else x :: y :: ys
def sortS : List Str → List Str
  | [] => []
  | x :: xs => insS x (sortS xs)
theorem insS_perm (x : Str) : ∀ ys : List Str, (insS x ys).Perm (x :: ys)
  | [] => .refl _
  | y :: ys => by
    unfold insS
    split
    · exact ((insS_perm x ys).cons y).trans (.swap x y ys)
    · exact .refl _
theorem sortS_perm : ∀ xs : List Str, (sortS xs).Perm xs
  | [] => .refl _
  | x :: xs => (insS_perm x _).trans ((sortS_perm xs).cons x)
def leS (x y : Str) : Prop := strLt y x = false
theorem strLt_iff {x y : Str} : strLt x y = true ↔ x.cps.toList < y.cps.toList := by unfold strLt; exact decide_eq_true_iff
theorem leS_iff {x y : Str} : leS x y ↔ ¬ y.cps.toList < x.cps.toList := by unfold leS strLt; exact decide_eq_false_iff_not
theorem leS_trans {x y z : Str} (h : leS x y) (g : leS y z) : leS x z := by
  rw [leS_iff, List.not_lt] at *
  exact List.le_trans h g
theorem leS_total (x y : Str) : leS x y ∨ leS y x := by
  rw [leS_iff, leS_iff, List.not_lt, List.not_lt]
  exact List.le_total _ _
theorem cps_ext {x y : Str} (h : x.cps.toList = y.cps.toList) : x = y := by
  obtain ⟨⟨l⟩⟩ := x
  obtain ⟨⟨r⟩⟩ := y
  have h : l = r := h
  rw [h]
theorem leS_anti {x y : Str} (h : leS x y) (g : leS y x) : x = y := by
  rw [leS_iff, List.not_lt] at *
  exact cps_ext (List.le_antisymm h g)
theorem insS_sorted (x : Str) : ∀ ys : List Str, ys.Pairwise leS → (insS x ys).Pairwise leS
  | [], _ => List.pairwise_singleton _ _
  | y :: ys, h => by
    rw [List.pairwise_cons] at h
    unfold insS
    split
    · rename_i hlt
      rw [List.pairwise_cons]
      refine ⟨fun z hz => ?_, insS_sorted x ys h.2⟩
      rcases List.mem_cons.mp ((insS_perm x ys).mem_iff.mp hz) with rfl | hz
      · rcases leS_total y z with q | q
        · exact q
        · unfold leS at q; rw [hlt] at q; cases q
      · exact h.1 z hz
    · rename_i hlt
      have hxy : leS x y := by unfold leS; exact Bool.eq_false_iff.mpr hlt
      rw [List.pairwise_cons]
      refine ⟨fun z hz => ?_, by rw [List.pairwise_cons]; exact h⟩
      rcases List.mem_cons.mp hz with rfl | hz
      · exact hxy
      · exact leS_trans hxy (h.1 z hz)
theorem sortS_sorted : ∀ xs : List Str, (sortS xs).Pairwise leS
  | [] => List.Pairwise.nil
  | x :: xs => insS_sorted x _ (sortS_sorted xs)
theorem rising_pw : ∀ (p : Str) (xs : List Str), risingS p xs = true → (p :: xs).Pairwise leS
  | p, [], _ => List.pairwise_singleton _ _
  | p, x :: r, h => by
    have h : (!Spec.ltCps x.cps.toList p.cps.toList && risingS x r) = true := h
    rw [Bool.and_eq_true] at h
    have ih := rising_pw x r h.2
    have hp : leS p x := by
      unfold leS strLt
      rw [← ltCps_eq]
      simpa using h.1
    rw [List.pairwise_cons]
    refine ⟨fun z hz => ?_, ih⟩
    rw [List.pairwise_cons] at ih
    rcases List.mem_cons.mp hz with rfl | hz
    · exact hp
    · exact leS_trans hp (ih.1 z hz)
theorem sortedS_eq {xs ys : List Str} (hp : ys.Perm xs) (hs : sortedS ys = true) : ys = sortS xs := by
  have h1 : ys.Pairwise leS := by
    cases ys with
    | nil => exact .nil
    | cons x r => exact rising_pw x r hs
  exact List.Perm.eq_of_pairwise (fun a b _ _ => leS_anti) h1 (sortS_sorted xs) (hp.trans (sortS_perm xs).symm)
def dSortedS : List Dt → Option (List Dt)
  | [d] => match items d with
    | some ds => match strsOf ds with
      | some xs => if xs.length < 64 then some ((sortS xs).map .str) else none
      | none => none
    | none => none
  | _ => none
theorem rep_strs {F : Hp} : ∀ xs : List Str, RepAll F (xs.map .str) (xs.map V.str)
  | [] => rfl
  | x :: xs => ⟨_, _, rfl, rfl, rep_strs xs⟩
def dSorted : List Dt → Option (List Dt)
  | [.list ds] => match strsOf ds with
    | some xs => if xs.length < 64 then some ((sortS xs).map .str) else none
    | none => none
  | _ => none
theorem c_sorted : CallR X (.builtin "sorted") (rDn dSorted) := by
  intro pins s σ H xs us Q I r h
  obtain ⟨A, G, ds, z, L, hd, ho, k⟩ := h
  unfold dSorted at ho
  split at ho
  · split at ho
    · rename_i ss hy
      split at ho
      · rename_i hz
        cases ho
        obtain ⟨v, vs, rfl, ⟨a, ys, rfl, h1, h2⟩, h3⟩ := hd
        cases h3
        have e := strs_rep hy h2
        subst e
        refine cr_sortedS pins s σ H _ us Q I r ⟨a, ss, rfl, .inl (.inl (hid_sub _ _ h1)), hz, fun ys p hp hs hn => ?_⟩
        have e := sortedS_eq hp hs
        subst e
        exact k p _ hn (rep_strs _)
      · cases ho
    · cases ho
  · cases ho
end
end Mm

namespace Mm
open PySem L2 PySem.Spec PyProof.Rows
section
variable {X : Cx} {e : Expr} {es : List Expr} {pos p : Pos}
def dRepr : List Dt → Option Dt
  | [d] => if okD d = true ∧ d.showable = true ∧ d.shown.length ≤ 16777216 then some (.str d.shown) else none
  | _ => none
theorem c_repr (hg : X.A.guards = some []) (hu : X.A.units + 70 < cLine) : CallR X (.builtin "repr") (rDl dRepr) := by
  intro pins s σ H xs us Q I r h
  obtain ⟨A, G, ds, z, L, hd, ho, k⟩ := h
  unfold dRepr at ho
  split at ho
  · rename_i d
    split at ho
    · rename_i hc
      cases ho
      obtain ⟨v, vs, rfl, h1, h3⟩ := hd
      cases h3
      cases r with
      | cons rv rr =>
        cases rr
        rename_i u
        have kq := k (.str d.shown) H (Same.refl _) rfl
        have hl : d.shown.length ≤ sizeLine := Nat.le_trans hc.2.2 (by decide)
        have dp := okD_dp (K := X.K) hc.1 h1
        obtain ⟨as, rd⟩ := Dp.reads I d v u dp rv
        have hp := lay_parts hc.1
        have big : ∀ {a : Addr}, u = .ref a → wpAny (model X.prog X.w) X.A (call (.builtin "repr") [u]) (EP X pins σ Q) X.xe s := fun {a} e => by
          subst e
          exact repr_of_reads' rd hc.2.1 (fun h => by rw [PyData.hasDict_of_canLay d hp.1] at h; cases h) hg (by omega) (fun _ _ q => q) (fun h' u tk hk => ⟨V.str d.shown, H, I.kept (t' := tk) fun b o q => hk b o q, ⟨_, rfl⟩, kq⟩) hl
        cases d with
        | none =>
          cases h1
          cases rv
          exact P.repr_of_none ⟨V.str "None", H, I.tok _, ⟨_, rfl⟩, kq⟩
        | bool b =>
          cases h1
          cases rv
          cases b with
          | true => exact P.repr_of_bool ⟨V.str "True", H, I.tok _, ⟨_, rfl⟩, kq⟩
          | false => exact P.repr_of_bool ⟨V.str "False", H, I.tok _, ⟨_, rfl⟩, kq⟩
        | int i =>
          cases h1
          obtain ⟨t, rfl⟩ := rv
          exact P.repr_of_int (of_decide_eq_true (by simpa only [PyData.showable] using hc.2.1)) ⟨V.str (toString i), H, I.tok _, ⟨_, rfl⟩, kq⟩
        | str x =>
          cases h1
          obtain ⟨t, rfl⟩ := rv
          exact P.repr_of_str ⟨V.str (reprText x), H, I.tok _, ⟨_, rfl⟩, kq⟩ (by simpa only [PyData.shown] using hl)
        | list xs =>
          obtain ⟨a, ys, rfl, _⟩ := h1
          exact big rv
        | tuple xs =>
          obtain ⟨a, ys, rfl, _⟩ := h1
          exact big rv
        | dict kvs => simp only [PyData.canLay0] at hp; cases hp.1
    · cases ho
  · cases ho
end
/-! defs that ask that nothing is being shown around them -/
structure FnG (P : Program) (w : World) (K : Frg) (mg : Str → Option Value) (base : Heap) (k : Nat) (f : Addr) (fd : FuncData) (ps : List Str) (sp : Sp) : Prop where
  len : ∀ vs H Q E, sp vs H Q E → vs.length = ps.length
  run : ∀ (A : Around) (outer : List Env) (s : Shared) (H : Hp) (args : Args) (us : List Value) (vs : List V) (Q : VK) (E : XK), Room k A → A.guards = some [] → Env0 P w K mg base A outer s H →
    BindsTo s fd args (ps.zip us) → Vals vs us → sp vs H Q E → codeAny (model P w) A (.call (.ref f) args) (CR CX0 outer P w H s Q E) s
section
variable {P : Program} {w : World} {K : PySem.W.Frag} {mg : Str → Option Value} {base : Heap} {k : Nat} {f : Addr} {fd : FuncData} {ps : List Str} {sp : Sp}
theorem FnG.of (F : FnOk P w K mg base CX0 k f fd ps sp) : FnG P w K mg base k f fd ps sp :=
  ⟨F.len, fun A outer s H args us vs Q E hr _ e0 hb hv hs => F.run A outer s H args us vs Q E hr e0 hb hv hs⟩
theorem FnG.mono {j : Nat} (F : FnG P w K mg base j f fd ps sp) (h : j ≤ k) : FnG P w K mg base k f fd ps sp :=
  ⟨F.len, fun A outer s H args us vs Q E hr => F.run A outer s H args us vs Q E (hr.mono h)⟩
theorem ok_fnG {x qual : Str} {st : Stmt} {N : List Str} {g : FS} (F : Fun K x qual st f fd) (S : FnScope N ps (defScope st)) (hp : ps.length ≤ N.length)
    (hb : ∀ (cdv : Value) (A : Around) (outer : List Env) (s : Shared) (H : Hp) (E : XK), Room k (A.deeper (envOfC qual (defScope st) s.heap.objs.size f cdv)) → (A.deeper (envOfC qual (defScope st) s.heap.objs.size f cdv)).guards = some [] →
      PSs (cxOf CX0 P w K mg base N qual (defScope st) f cdv A outer s H E).nox (defBody st) (tS K g)) : FnG P w K mg base (k + 1) f fd ps (spM K (mOf ps.length N.length g)) := by
  obtain ⟨oc, od, kV, doc, pm, an, cdv, ct, osl, rfl, lk, hcd⟩ := F.ex
  have hlen : ∀ vs H Q E, spM K (mOf ps.length N.length g) vs H Q E → vs.length = ps.length := fun vs H Q E h => by
    obtain ⟨ρ, A, C, d, ρ', R, _, _, _, em, _⟩ := h
    unfold mOf at em
    split at em
    · rename_i hl
      have := R.len
      rw [List.length_map] at this
      omega
    · cases em
  refine ⟨hlen, fun A outer s H args us vs Q E room hg e0 bind rv hq => ?_⟩
  have inK : K.In s.heap := e0.mod.kin.keeps fun b o e => (e0.bs b o e).1
  have limit : s.heap.NoLimit := e0.mod.nolimit.keeps fun b o e => (e0.bs b o e).1
  have kinds : ∀ y ∈ ps.zip us, (defScope st).names.lookup y.1 = some .local ∨ ((defScope st).names.lookup y.1 = some .cell ∧ ((cellsFrom (s.heap.objs.size + 1) (defScope st).names []).lookup y.1).isSome = true) := by
    rintro ⟨n, v⟩ hy
    rcases S.par n (List.of_mem_zip hy).1 with q | q
    · exact Or.inl q
    · exact Or.inr ⟨q, PySem.W.cellsFrom_some _ _ _ (Or.inl q)⟩
  refine codeAny_call_function room.depth (inK _ _ lk) rfl S.co S.gen rfl (PySem.W.codeRec_of inK hcd) (bind _ _ _ _ ?_)
  refine wpAny_newFunctionEnv_cells S.kind kinds fun env he s1 x => ?_
  subst he
  refine ⟨limit.keeps x.toInCall.keep, codeAny_func ?_⟩
  have body := (hb cdv A outer s H E (room.deeper _) hg).nox
  have I : L2.Inv (cxOf CX0 P w K mg base N qual (defScope st) f cdv A outer s H E) [] (L2.start N vs) H s1 := inv_start S room.hd e0 (hlen vs H Q E hq) rv x
  refine wpAny_mono (body.run [] s1 (L2.start N vs) H _ I (body_weak hp hq)) (fun fl s' hs => ?_) fun e s' hs => hs
  have fin : ∀ {σ' : L2.St} {H' : Hp} {v : V} {u : Value}, L2.Inv (cxOf CX0 P w K mg base N qual (defScope st) f cdv A outer s H E) [] σ' H' s' → L2.RelV v u → Q v H' → CE outer P w H s Q u s' :=
    fun {σ' H' v u} J r q => ⟨v, H', J.os, J.bare, J.base, J.hok, r, q⟩
  cases fl with
  | ret u => exact (fun ⟨v, σ', H', J, r, q⟩ => fin J r q) hs
  | next => exact (fun ⟨σ', H', J, q⟩ => fin (v := V.non) (u := Value.none) J rfl q) hs
  | brk => exact (fun ⟨_, _, _, q⟩ => False.elim q) hs
  | cont => exact (fun ⟨_, _, _, q⟩ => False.elim q) hs
theorem ok_fnG2 {x qual : Str} {st : Stmt} {N : List Str} {np n : Nat} {g : FS} (F : Fun K x qual st f fd) (S : FnScope N ps (defScope st)) (h1 : ps.length = np) (h2 : N.length = n) (hp : np ≤ n)
    (hb : ∀ (cdv : Value) (A : Around) (outer : List Env) (s : Shared) (H : Hp) (E : XK), Room k (A.deeper (envOfC qual (defScope st) s.heap.objs.size f cdv)) → (A.deeper (envOfC qual (defScope st) s.heap.objs.size f cdv)).guards = some [] →
      PSs (cxOf CX0 P w K mg base N qual (defScope st) f cdv A outer s H E).nox (defBody st) (tS K g)) : FnG P w K mg base (k + 1) f fd ps (spM K (mOf np n g)) := by
  subst h1 h2
  exact ok_fnG F S hp hb
end
section
variable {X : Cx} {k : Nat} {f : Addr} {fd : FuncData} {ps : List Str} {sp : Sp} {ds : List Value} {dvs : List V} {E : XK} {x : Str} {p pos : Pos} {e : Expr} {es : List Expr} {t : TA}
theorem run_fnG {pins : List (Addr × Obj)} {σ : L2.St} {H : Hp} {s : Shared} {Q : VK} {us : List Value} {vs : List V} (F : FnG X.prog X.w X.K X.mg X.base k f fd ps sp) (hr : Room k X.A) (hg : X.A.guards = some []) (hb : Binds X.K fd ps [])
    (I : L2.Inv X pins σ H s) (r : Vals vs us) (h : sp vs H Q E) : wpAny (model X.prog X.w) X.A (call (.ref f) us) (L2.EP X pins σ Q) X.xe s := by
  have hl : (us ++ []).length = ps.length := by rw [List.append_nil, ← r.length]; exact F.len _ _ _ _ h
  have bt := hb s us I.kIn hl
  rw [List.append_nil] at bt
  refine wpAny_call (codeAny_mono (F.run X.A X.stack s H ⟨us, []⟩ us vs Q E hr hg I.env0 bt r h) fun res s' hq => ?_)
  cases res with
  | error e => exact (show False from hq).elim
  | ok fl =>
    cases fl with
    | ret u => exact I.after hq
    | next => exact (show False from hq).elim
    | brk => exact (show False from hq).elim
    | cont => exact (show False from hq).elim
theorem pe_callG (F : FnG X.prog X.w X.K X.mg X.base k f fd ps sp) (hr : Room k X.A) (hgd : X.A.guards = some []) (hg : Gl X x) (hm : X.mg x = some (.ref f)) (hk : PySem.W.keepIn X.K (.ref f) = true) (hb : Binds X.K fd ps [])
    (ha : PA X (e :: es) t) (hdb : (x == ("__debug__" : Str)) = false := by decide) (he : starEach (e :: es) X.env = (false, eval e X.env) :: starEach es X.env := by rfl) (hpl : (backTo pos (starEach es X.env)).any (·.1) = false := by rfl) :
    PE X (.Call (.Name x p) (e :: es) [] pos) (tCall sp [] E t) := by
  refine ⟨fun pins s σ H Q I h => wpAny_Call_Name_kw (ld_glob I hg hm ?_ hdb)⟩
  refine PySem.W.callWith_K (h₀ := X.base) I.ok.mod.kin hk (thn (ha.run pos pins s σ H _ I h) fun us s1 ⟨vs, H1, I1, r, q⟩ => ⟨I1.kIn, ?_⟩) he hpl
  have q : sp (vs ++ []) H1 Q E := q
  rw [List.append_nil] at q
  exact run_fnG F hr hgd hb I1 r q
theorem x_call {m : FM} {fa : FA} (F : FnOk X.prog X.w X.K X.mg X.base CX0 k f fd ps (spM X.K m)) (hr : Room k X.A) (hm : X.mg x = some (.ref f)) (hk : PySem.W.keepIn X.K (.ref f) = true) (hb : Binds X.K fd ps []) (ha : PA X (e :: es) (tA X.K fa))
    (hg : Gl X x := by rfl) (hdb : (x == ("__debug__" : Str)) = false := by decide) (he : starEach (e :: es) X.env = (false, eval e X.env) :: starEach es X.env := by rfl) (hpl : (backTo pos (starEach es X.env)).any (·.1) = false := by rfl) :
    PE X (.Call (.Name x p) (e :: es) [] pos) (tF X.K (fCall m fa)) :=
  pe_weak (pe_call F hr hg hm hk hb .nil pass0 ha hdb he hpl) fun _ _ _ _ q => call_weak q
theorem x_callG {m : FM} {fa : FA} (F : FnG X.prog X.w X.K X.mg X.base k f fd ps (spM X.K m)) (hr : Room k X.A) (hgd : X.A.guards = some []) (hm : X.mg x = some (.ref f)) (hk : PySem.W.keepIn X.K (.ref f) = true) (hb : Binds X.K fd ps []) (ha : PA X (e :: es) (tA X.K fa))
    (hg : Gl X x := by rfl) (hdb : (x == ("__debug__" : Str)) = false := by decide) (he : starEach (e :: es) X.env = (false, eval e X.env) :: starEach es X.env := by rfl) (hpl : (backTo pos (starEach es X.env)).any (·.1) = false := by rfl) :
    PE X (.Call (.Name x p) (e :: es) [] pos) (tF X.K (fCall m fa)) :=
  pe_weak (pe_callG (E := E0) F hr hgd hg hm hk hb ha hdb he hpl) fun _ _ _ _ q => call_weak q
theorem x_callN {m : FN} {fa : FA} (F : FnOk X.prog X.w X.K X.mg X.base CX0 k f fd ps (spN X.K m)) (hr : Room k X.A) (hm : X.mg x = some (.ref f)) (hk : PySem.W.keepIn X.K (.ref f) = true) (hb : Binds X.K fd ps []) (ha : PA X (e :: es) (tA X.K fa))
    (hg : Gl X x := by rfl) (hdb : (x == ("__debug__" : Str)) = false := by decide) (he : starEach (e :: es) X.env = (false, eval e X.env) :: starEach es X.env := by rfl) (hpl : (backTo pos (starEach es X.env)).any (·.1) = false := by rfl) :
    PE X (.Call (.Name x p) (e :: es) [] pos) (tN X.K (fCallN m fa)) :=
  pe_weak (pe_call F hr hg hm hk hb .nil pass0 ha hdb he hpl) fun _ _ _ _ q => callN_weak q
/-! calls with keywords, in the parameters' order -/
def fAApp (f g : FA) : FA := fun ρ => do
  let (as, ρ1) ← f ρ
  let (bs, ρ2) ← g ρ1
  pure (as ++ bs, ρ2)
theorem argsAt_app {F : Hp} {σ : L2.St} : ∀ {as bs : List Arg} {vs ws : List V}, ArgsAt F σ as vs → ArgsAt F σ bs ws → ArgsAt F σ (as ++ bs) (vs ++ ws)
  | [], _, _, _, h, g => by cases h; exact g
  | a :: as, _, _, _, h, g => by
    obtain ⟨v, vs, rfl, h1, h2⟩ := h
    exact ⟨v, _, rfl, h1, argsAt_app h2 g⟩
theorem argsAt_mono {F F' : Hp} {σ τ : L2.St} (m : Same F F') : ∀ {as : List Arg} {vs : List V}, ArgsAt F σ as vs → ArgsAt F' (σ ++ τ) as vs
  | [], _, h => h
  | a :: as, _, h => by
    obtain ⟨v, vs, rfl, h1, h2⟩ := h
    exact ⟨v, vs, rfl, argAt_mono h1 m, argsAt_mono m h2⟩
theorem app_weak {K : Frg} {f g : FA} {σ : L2.St} {H : Hp} {Q : List V → Hp → Prop} (q : tA K (fAApp f g) σ H Q) : tA K f σ H fun vs H1 => tA K g σ H1 fun ws H2 => Q (vs ++ ws) H2 := by
  obtain ⟨τ, A, C, ρ, as, ρ', R, ef, k⟩ := q
  obtain ⟨⟨xs, ρ1⟩, e1, ef⟩ := bind_some ef
  obtain ⟨⟨ys, ρ2⟩, e2, ef⟩ := bind_some ef
  cases ef
  refine ⟨τ, A, C, ρ, xs, ρ1, R, e1, fun vs τx H1 A1 s1 R1 hv => ?_⟩
  rw [List.append_assoc] at R1
  refine ⟨τ ++ τx, A1, C, ρ1, ys, _, R1, e2, fun ws τy H2 A2 s2 R2 hw => ?_⟩
  have eq : σ ++ (τ ++ τx) ++ τy = σ ++ τ ++ (τx ++ τy) := by simp
  have hv2 := argsAt_mono (τ := τy) s2.fr hv
  rw [eq] at R2 hw
  have eq2 : σ ++ τ ++ τx ++ τy = σ ++ τ ++ (τx ++ τy) := by simp
  rw [eq2] at hv2
  exact k _ (τx ++ τy) H2 A2 (s1.trans s2) R2 (argsAt_app hv2 hw)
variable {kws : List Keyword} {kpos : Pos} {nm : Option Str}
theorem pk_weak {t t' : TA} (h : PK X kws t) (w : ∀ σ H Q, t' σ H Q → t σ H Q) : PK X kws t' :=
  ⟨fun pos pins s σ H Q I q => h.run pos pins s σ H Q I (w σ H Q q)⟩
theorem xk_nil : PK X [] (tA X.K fANil) := pk_weak pk_nil fun σ H Q q => by
  obtain ⟨τ, A, C, ρ, as, ρ', R, ef, k⟩ := q
  cases ef
  exact k [] [] H A Stp.refl (by rw [List.append_nil]; exact R) rfl
theorem xk_cons {f : F1} {g : FA} (ha : PE X e (tF X.K f)) (hr : PK X kws (tA X.K g)) : PK X (⟨nm, e, kpos⟩ :: kws) (tA X.K (fACons f g)) :=
  pk_weak (pk_cons ha hr) fun σ H Q q => by
    obtain ⟨τ, A, C, ρ, as, ρ', R, ef, k⟩ := q
    obtain ⟨⟨x, ρ1⟩, e1, ef⟩ := bind_some ef
    obtain ⟨⟨xs, ρ2⟩, e2, ef⟩ := bind_some ef
    cases ef
    refine ⟨τ, A, C, ρ, x, ρ1, R, e1, fun v H1 A1 s1 R1 hx => ?_⟩
    refine ⟨τ, A1, C, ρ1, xs, _, R1, e2, fun vs τx H2 A2 s2 R2 hy => ?_⟩
    exact k _ τx H2 A2 (s1.trans s2) R2 ⟨v, vs, rfl, rep_mono s2.fr _ _ hx, hy⟩
abbrev KB (K : Frg) (fd : FuncData) (ps ks : List Str) : Prop := KBinds K fd ps ks (· ++ ·) (· ++ ·)
theorem kb_of {K : Frg} {ps ks : List Str} {x qual : Str} {st : Stmt} (F : Fun K x qual st f fd)
    (h : ∀ (kV doc pm : Value) (an : Option Addr) (cdv ct : Value) (us ws : List Value), (us ++ ws).length = ps.length → ws.length = ks.length → bindArgs (PySem.W.fnOf x qual (defArgs st) (defBody st) (defScope st) .none kV doc pm an cdv ct) ⟨us, ks.zip ws⟩ = pure (ps.zip (us ++ ws))) :
    ∀ (s : Shared) (us ws : List Value), (us ++ ws).length = ps.length → ws.length = ks.length → BindsTo s fd ⟨us, ks.zip ws⟩ (ps.zip (us ++ ws)) := by
  obtain ⟨oc, od, kV, doc, pm, an, cdv, ct, osl, rfl, lk, hcd⟩ := F.ex
  exact fun s us ws h1 h2 => .of_eq (h kV doc pm an cdv ct us ws h1 h2)
end
end Mm

namespace Mm
open PySem L2 PySem.Spec PyProof.Rows
section
variable {X : Cx} {pos p p2 : Pos}
/-- a slice of the script -/
def fSliceS (i : Nat) (fl fh : Ev → Option (Option Int × Ev)) : FL := fun ρ => do
  let (lo, ρ2) ← fl ρ
  let (hi, ρ3) ← fh ρ2
  match ρ[i]? with
  | some (.scr ns) => some (cutD (ns.map .int) lo hi, ρ3)
  | _ => none
theorem ints_rep {F : Hp} : ∀ ns : List Int, RepAll F (ns.map .int) (ns.map V.int)
  | [] => rfl
  | n :: ns => ⟨_, _, rfl, rfl, ints_rep ns⟩
theorem x_sliceS (i : Nat) {x : Str} {lo hi : Option Expr} {fl fh : Ev → Option (Option Int × Ev)} (hl : PO X lo (tO X.K fl)) (hh : PO X hi (tO X.K fh)) (hN : X.N[i]? = some x := by rfl) (hv : Vis X.env.scope x := by first | exact Or.inl rfl | exact Or.inr (Or.inl rfl) | exact Or.inr (Or.inr rfl)) (hd : (x == ("__debug__" : Str)) = false := by decide)
    (hcd : (x == ("__classdict__" : Str)) = false := by decide) : PE X (.Subscript (.Name x p) (.Slice lo hi none p2) pos) (tN X.K (fSliceS i fl fh)) := by
  have hlt : i < X.N.length := by
    obtain ⟨h, _⟩ := List.getElem?_eq_some_iff.mp hN
    exact h
  refine pe_weak (pe_slice sl_list (pe_var hN hv hd hcd) hl hh) fun σ H Q ls q => ?_
  obtain ⟨τ, A, C, ρ, d, ρ', R, ef, k⟩ := q
  obtain ⟨⟨o1, ρ2⟩, e2, ef⟩ := bind_some ef
  obtain ⟨⟨o2, ρ3⟩, e3, ef⟩ := bind_some ef
  dsimp only at ef
  split at ef
  · rename_i ns z
    cases ef
    obtain ⟨l, h1, h2⟩ := R.scr i _ z
    refine ⟨.ref l, slot_at h1 hlt ls, τ, A, C, ρ, o1, ρ2, R, e2, fun H2 A2 s2 R2 => ⟨τ, A2, C, ρ2, o2, _, R2, e3, fun H3 A3 s3 R3 => ?_⟩⟩
    have h3 := sql_mono hid_sub (sql_mono (s2.trans s3).fr h2)
    refine ⟨l, _, rfl, h3, fun q hq => ?_⟩
    have er : rem (upd H3 q (.lst (cutV (ns.map V.int) o1 o2))) q = H3 := rem_upd hq
    exact k q _ _ A3 (by rw [er]; exact s2.trans s3) (by rw [er]; exact R3) upd_same (cut_rep (ints_rep ns) o1 o2)
  · cases ef
end
section
variable {X : Cx} {k : Nat} {f : Addr} {fd : FuncData} {ps ks : List Str} {x : Str} {p pos : Pos} {kws : List Keyword}
/-- f(k = e, ..), the keywords in the parameters' order -/
theorem x_callK0 {m : FM} {fk : FA} (F : FnOk X.prog X.w X.K X.mg X.base CX0 k f fd ps (spM X.K m)) (hr : Room k X.A) (hm : X.mg x = some (.ref f)) (hk : PySem.W.keepIn X.K (.ref f) = true)
    (hb : ∀ (s : Shared) (ws : List Value), ws.length = ps.length → BindsTo s fd ⟨[], ks.zip ws⟩ (ps.zip ws)) (hkw : PK X kws (tA X.K fk)) (hg : Gl X x := by rfl) (hdb : (x == ("__debug__" : Str)) = false := by decide)
    (hall : (backToKw pos (keywordEach kws X.env)).all (·.1.isSome) = true := by rfl) (hks : (backToKw pos (keywordEach kws X.env)).filterMap (·.1) = ks := by rfl)
    (hpl : ((backTo pos (starEach [] X.env)).any (·.1) || (backToKw pos (keywordEach kws X.env)).any (·.1.isNone)) = false := by rfl) : PE X (.Call (.Name x p) [] kws pos) (tF X.K (fCall m fk)) := by
  refine ⟨fun pins s σ H Q I h => wpAny_Call_Name_kw (ld_glob I hg hm ?_ hdb)⟩
  have h2 : tA X.K fk σ H fun vs H1 => spM X.K m (vs ++ []) H1 Q E0 := call_weak h
  refine PySem.W.callWith_KW0 (h₀ := X.base) I.ok.mod.kin hk hall ?_ hpl
  refine thn (hkw.run pos pins s σ H _ I h2) fun ws s2 ⟨zs, H2, I2, rz, q2⟩ => ⟨I2.kIn, ?_⟩
  rw [hks]
  have q2 : spM X.K m (zs ++ []) H2 Q E0 := q2
  rw [List.append_nil] at q2
  have hl : ws.length = ps.length := by rw [← rz.length]; exact F.len _ _ _ _ q2
  refine wpAny_call (codeAny_mono (F.run X.A X.stack s2 H2 ⟨[], ks.zip ws⟩ ws zs Q E0 hr I2.env0 (hb s2 ws hl) rz q2) fun res s' hq => ?_)
  cases res with
  | error e => exact (show False from hq).elim
  | ok fl =>
    cases fl with
    | ret u => exact I2.after hq
    | next => exact (show False from hq).elim
    | brk => exact (show False from hq).elim
    | cont => exact (show False from hq).elim
theorem x_globI {i : Int} (h : ∃ t, X.mg x = some (.int i t)) (hg : Gl X x := by rfl) (hd : (x == ("__debug__" : Str)) = false := by decide) : PE X (.Name x pos) (tF X.K (fC (.int i))) := by
  obtain ⟨t, h⟩ := h
  exact x_c (pe_glob (v := .int i) hg h ⟨t, rfl⟩ hd) fun _ => rfl
theorem x_globS {i : Str} (h : ∃ t, X.mg x = some (.str i t)) (hg : Gl X x := by rfl) (hd : (x == ("__debug__" : Str)) = false := by decide) : PE X (.Name x pos) (tF X.K (fC (.str i))) := by
  obtain ⟨t, h⟩ := h
  exact x_c (pe_glob (v := .str i) hg h ⟨t, rfl⟩ hd) fun _ => rfl
theorem room70 {A : Around} (hr : Room k A) : A.units + 70 < cLine := by have := hr.un; omega
end
section
variable {X : Cx} {e : Expr} {pos p : Pos}
/-- an item of one's own list -/
def ixOf (k : Dt) (ρ : Ev) : Option Slot → Option (Dt × Ev)
  | some (.own _ (.lst ds)) => match k with
    | .int j => (atI ds j).map fun d => (d, ρ)
    | _ => none
  | _ => none
def fIxS (i : Nat) (fk : F1) : F1 := fun ρ => if isOwnL ρ[i]? = true then do
  let (k, ρ1) ← fk ρ
  ixOf k ρ1 ρ1[i]?
  else none
theorem x_ixS (i : Nat) {x : Str} {fk : F1} (hk : PE X e (tF X.K fk)) (hN : X.N[i]? = some x := by rfl) (hv : Vis X.env.scope x := by first | exact Or.inl rfl | exact Or.inr (Or.inl rfl) | exact Or.inr (Or.inr rfl)) (hd : (x == ("__debug__" : Str)) = false := by decide)
    (hcd : (x == ("__classdict__" : Str)) = false := by decide) (hs : PlainIx e := by exact fun _ _ => rfl) : PE X (.Subscript (.Name x p) e pos) (tF X.K (fIxS i fk)) := by
  have hl : i < X.N.length := by
    obtain ⟨h, _⟩ := List.getElem?_eq_some_iff.mp hN
    exact h
  refine pe_weak (pe_ix ix_list (pe_var hN hv hd hcd) hk hs) fun σ H Q ls q => ?_
  obtain ⟨τ, A, C, ρ, d, ρ', R, ef, k⟩ := q
  unfold fIxS at ef
  split at ef
  · rename_i hown
    obtain ⟨p0, ds0, z0⟩ := isOwnL_of hown
    obtain ⟨⟨x1, ρ1⟩, e1, ef⟩ := bind_some ef
    have ef : ixOf x1 ρ1 ρ1[i]? = some (d, ρ') := ef
    obtain ⟨l, h1, h2, ⟨vs0, h3, _⟩, h4⟩ := R.own i _ _ z0
    refine ⟨.ref l, slot_at h2 hl ls, τ, A, C, ρ, x1, ρ1, R, e1, fun v H1 A1 s1 R1 hx => ?_⟩
    cases z1 : ρ1[i]? with
    | none => rw [z1] at ef; cases ef
    | some s1 =>
      rw [z1] at ef
      unfold ixOf at ef
      split at ef
      · rename_i p ds es
        cases es
        cases x1 with
        | int j =>
          dsimp only at ef
          cases q : atI ds j with
          | none => rw [q] at ef; cases ef
          | some x =>
            rw [q] at ef
            cases ef
            cases hx
            obtain ⟨l', g1, g2, ⟨vs, g3, g4⟩, g5⟩ := R1.own i _ _ z1
            rw [h2] at g2
            cases g2
            obtain ⟨w, w1, w2⟩ := repAll_at g4 q
            exact ⟨l, vs, j, w, rfl, rfl, .inl (.inl g3), w1, k w H1 A1 (by assumption) R1 w2⟩
        | _ => cases ef
      · cases ef
  · cases ef
end
/-- a def of the text, found -/
structure Df (K : Frg) (mg : Str → Option Value) (name : Str) (st : Stmt) (ps : List Str) (f : Addr) (fd : FuncData) : Prop where
  F : Fun K name name st f fd
  g : mg name = some (.ref f)
  b : Binds K fd ps []
theorem fn_none {P : Program} {w : World} {K : PySem.W.Frag} {mg : Str → Option Value} {base : Heap} {k : Nat} {f : Addr} {fd : FuncData} {ps : List Str} : FnOk P w K mg base CX0 k f fd ps (spM K fun _ => none) :=
  have no : ∀ vs H Q E, ¬ spM K (fun _ => none) vs H Q E := fun vs H Q E h => by
    obtain ⟨_, _, _, _, _, _, _, _, _, h, _⟩ := h
    cases h
  ⟨fun vs H Q E h => (no vs H Q E h).elim, fun A outer s H args us vs Q E _ _ _ _ h => (no vs H Q E h).elim⟩
/-! the end of a law -/
theorem law_callG {P : Program} {w : World} {K : PySem.W.Frag} {mg mb : Str → Option Value} {k : Nat} {fa a : Addr} {fd : FuncData} {x : Str} {sp : Sp} {s1 : Shared} {vs : List Value} {ns : List Int}
    (KX : K.In s1.heap) (hns : s1.heap.Ns mainGlobals mg) (hb : s1.heap.Ns builtinsNs mb) (hbb : ∀ x : Str, x ≠ "__name__" → mb x = bootBuiltins x) (hlim : s1.heap.NoLimit) (hg : s1.gens = #[])
    (ha : s1.heap.get? a = some { cls := .type "list", data := .seq vs.toArray }) (hi : IntsAre vs ns) (hl : ns.length ≤ sizeLine) (hr : Room k callerA)
    (F : ∀ base : Heap, K.In base → base.Ns mainGlobals mg → FnG P w K mg base k fa fd [x] sp) (hbind : ∀ (s : Shared) (u : Value), BindsTo s fd ⟨[u], []⟩ [(x, u)])
    (hsp : ∀ H : Hp, Only H → SqL K H a (ns.map V.int) → sp [.ref a] H (fun v _ => v = .bl true) fun _ _ _ => False) :
    codeAny (model P w) callerA (.call (.ref fa) ⟨[.ref a], []⟩) (fun r s' => r = .ok (.ret (.bool true)) ∧ OldK s1.heap s'.heap ∧ s'.os = s1.os ∧ AllBare s'.gens) s1 := by
  have vals := vals_ints hi
  have lenV := hi.length
  have main : ∀ H : Hp, Only H → SqL K H a (ns.map V.int) → HOk P w H s1.heap → (∀ b, H b ≠ none → b = a) → (H a ≠ none → K.lookup a = none) →
      codeAny (model P w) callerA (.call (.ref fa) ⟨[.ref a], []⟩) (fun r s' => r = .ok (.ret (.bool true)) ∧ OldK s1.heap s'.heap ∧ s'.os = s1.os ∧ AllBare s'.gens) s1 := by
    intro H only sq ok alone notK
    have seen : ∀ {b : Addr} {o : Obj}, s1.heap.get? b = some o → H b = none → (hidT s1.heap H).get? b = some o := fun e n => hidT_get e n
    have noDict : ∀ {b : Addr} {o : Obj} {es : Array DictEntry} {ep : Nat}, s1.heap.get? b = some o → o.data = .dict es ep → H b = none := by
      intro b o es ep e d
      cases q : H b with
      | none => rfl
      | some u =>
        exfalso
        have eb : b = a := alone b (by rw [q]; simp)
        rw [eb, ha] at e
        cases e
        cases d
    have carry : ∀ {b : Addr} {m : Str → Option Value}, s1.heap.Ns b m → (hidT s1.heap H).Ns b m := by
      rintro b m ⟨o, es, ep, e, d, r⟩
      exact ⟨o, es, ep, seen e (noDict e d), d, r⟩
    have inB : K.In (hidT s1.heap H) := by
      intro b o e
      refine seen (KX b o e) ?_
      cases q : H b with
      | none => rfl
      | some u =>
        exfalso
        have eb : b = a := alone b (by rw [q]; simp)
        rw [eb] at e q
        rw [notK (by rw [q]; simp)] at e
        cases e
    obtain ⟨mc, c1, c2⟩ := hlim
    have md : Mod K mg (hidT s1.heap H) := ⟨inB, carry hns, ⟨mb, carry hb, hbb⟩, ⟨mc, carry c1, c2⟩⟩
    have e0 : Env0 P w K mg (hidT s1.heap H) callerA [] s1 H := ⟨rfl, md, fun b o e => of_hidT e, Nat.le_of_eq (hidT_size _ _), trivial, fun b hb => absurd (show b ∈ ([] : List Addr) from hb) (by simp), ok, .of_eq hg⟩
    have run := (F _ inB (carry hns)).run callerA [] s1 H ⟨[.ref a], []⟩ [.ref a] [.ref a] _ _ hr rfl e0 (hbind s1 (.ref a)) (.cons rfl .nil) (hsp H only sq)
    refine codeAny_mono run fun r s' h => ?_
    cases r with
    | error e => exact (show False from h).elim
    | ok fl =>
      cases fl with
      | next => exact (show False from h).elim
      | brk => exact (show False from h).elim
      | cont => exact (show False from h).elim
      | ret u =>
        obtain ⟨v, H', os, bare, un, ok', rv, ev⟩ := h
        have ev : v = .bl true := ev
        subst ev
        have eu : u = Value.bool true := rv
        subst eu
        refine ⟨rfl, OldK.of_keep fun b o e => ?_, os, bare⟩
        cases q : H b with
        | none => exact un.keep b o e q (fun z => absurd (show b ∈ ([] : List Addr) from z) (by simp)) (by simp)
        | some u =>
          rcases only b with z | ⟨ob, xs, z⟩
          · rw [q] at z; cases z
          · have z2 := un.frzs b ob _ z
            obtain ⟨e1, _⟩ := ok b _ z
            obtain ⟨e2, _⟩ := ok' b _ z2
            rw [e] at e1
            cases e1
            exact e2
  cases hk : K.lookup a with
  | some o =>
    have e := KX a o hk
    rw [ha] at e
    cases e
    refine main (fun _ => none) (fun _ => .inl rfl) (.inr ⟨_, vs.toArray, _, hk, rfl, rfl, rfl, ?_, ?_⟩) (fun b u z => nomatch (show (none : Option HO) = some u from z)) (fun b z => absurd rfl z) fun z => absurd rfl z
    · rw [List.size_toArray, lenV]; exact hl
    · simpa using vals
  | none =>
    let H0 : Hp := fun b => if b = a then some (.frz { cls := .type "list", data := .seq vs.toArray } (.lst (ns.map V.int))) else none
    have at_ : H0 a = some (.frz { cls := .type "list", data := .seq vs.toArray } (.lst (ns.map V.int))) := if_pos rfl
    have off : ∀ {b : Addr}, b ≠ a → H0 b = none := fun h => if_neg h
    refine main H0 (fun b => ?_) (.inl (.inr ⟨_, at_⟩)) (fun b u z => ?_) (fun b z => ?_) fun _ => hk
    · by_cases q : b = a
      · exact .inr ⟨_, _, by rw [q]; exact at_⟩
      · exact .inl (off q)
    · by_cases q : b = a
      · subst q
        rw [at_] at z
        cases z
        exact ⟨ha, by rw [List.length_map]; exact hl, vs, _, vals, ha⟩
      · rw [off q] at z
        cases z
    · by_cases q : b = a
      · exact q
      · exact absurd (off q) z
theorem sp_law {K : PySem.W.Frag} {m : FM} {H : Hp} {a : Addr} {ns : List Int} {E : XK} (hS : SqL K H a (ns.map V.int)) (hm : ∃ ρ', m [.scr ns] = some (.bool true, ρ')) : spM K m [.ref a] H (fun v _ => v = .bl true) E := by
  obtain ⟨ρ', hm⟩ := hm
  have nn : ∀ a, ¬ ((∃ i : Nat, a ∈ ((fun _ => []) : Fp) i) ∨ (fun _ : Addr => False) a) := by
    rintro a (⟨i, z⟩ | z)
    · cases z
    · exact z
  have eh : hid H (fun _ => []) (fun _ => False) = H := by
    funext b
    unfold hid
    rw [if_neg (nn b)]
  refine ⟨[.scr ns], fun _ => [], ⟨fun _ => [], fun _ => False⟩, _, ρ', ⟨rfl, fun i d z => ?_, fun i p c z => ?_, fun i ns' z => ?_, fun i j l z => (by cases z), fun i l z => (by cases z), fun a z => absurd z (nn a)⟩, rfl, fun i p c z => ?_, fun i l z => (by cases z), hm, fun v H' _ _ _ hr => hr⟩
  · cases i with
    | zero => simp at z
    | succ i => simp at z
  · cases i with
    | zero => simp at z
    | succ i => simp at z
  · cases i with
    | zero =>
      simp at z
      subst z
      exact ⟨a, rfl, by rw [eh]; exact hS⟩
    | succ i => simp at z
  · cases i with
    | zero => simp at z
    | succ i => simp at z
theorem walk_M {l : PySem.W.OpenLaw} {n k : Nat} {q : Program} {loose : List Str} {XP : (Str → Option Value) → Heap → Prop} {YP : World → Heap → Prop} {d : DefRec} {K : Params → PySem.W.Frag} {m : FM} {x : Str}
    (hn : l.most = some n) (hn2 : n ≤ sizeLine) (hdf : d.params.defaults = []) (hr : Room k callerA) (hY : ∀ (w : World) (h : Heap), YP w h → (K w.params).In h)
    (F : ∀ (w : World) (mg : Str → Option Value) (fa : Addr) (h : Heap), (K w.params).In h → h.Ns mainGlobals mg → mg d.name = some (.ref fa) →
      ∃ fd : FuncData, (∀ (s : Shared) (u : Value), BindsTo s fd ⟨[u], []⟩ [(x, u)]) ∧ ∀ base : Heap, (K w.params).In base → base.Ns mainGlobals mg → FnG l.prog w (K w.params) mg base k fa fd [x] (spM (K w.params) m))
    (hm : ∀ ns : List Int, ns.length ≤ n → ∃ ρ', m [.scr ns] = some (.bool true, ρ')) :
    PySem.W.WalkO q loose XP YP l.row.toRowW d [] (fun f vs => PySem.call f vs) := by
  refine Att.attach_call hn hdf fun w s₀ s₁ mg mb fa o pm cd doc a vs ns G Y ho hd hcd hmg hobj hints hlen hg => ?_
  have KX := hY w _ Y
  obtain ⟨fd, hb, hF⟩ := F w mg fa _ KX G.T.g hmg
  exact law_callG KX G.T.g G.T.b G.T.builtins G.T.nolimit hg hobj hints (Nat.le_trans hlen hn2) hr hF hb fun H hO hS => sp_law hS (hm ns hlen)
end Mm

namespace K01
open PySem L2 PySem.Spec PyProof.Rows Mm
def topS (i : Nat) : Stmt := PySem.Challenge.pw_hoarseheath_k01_plans_or_not.main.body.getD i (.Pass ⟨0, 0, 0, 0⟩)
abbrev s_is_number : Stmt := topS 8
abbrev N_is_number : List Str := ["thing"]
theorem sc_is_number : FnScope N_is_number ["thing"] (defScope s_is_number) := ⟨rfl, rfl, rfl, by decide +kernel, rfl, by decide +kernel, by decide +kernel⟩
abbrev s_is_between : Stmt := topS 9
abbrev N_is_between : List Str := ["thing", "least", "most"]
theorem sc_is_between : FnScope N_is_between ["thing", "least", "most"] (defScope s_is_between) := ⟨rfl, rfl, rfl, by decide +kernel, rfl, by decide +kernel, by decide +kernel⟩
abbrev s_is_name : Stmt := topS 10
abbrev N_is_name : List Str := ["thing", "sign"]
theorem sc_is_name : FnScope N_is_name ["thing"] (defScope s_is_name) := ⟨rfl, rfl, rfl, by decide +kernel, rfl, by decide +kernel, by decide +kernel⟩
abbrev s_is_tuple_of : Stmt := topS 11
abbrev N_is_tuple_of : List Str := ["thing", "many"]
theorem sc_is_tuple_of : FnScope N_is_tuple_of ["thing", "many"] (defScope s_is_tuple_of) := ⟨rfl, rfl, rfl, by decide +kernel, rfl, by decide +kernel, by decide +kernel⟩
abbrev s_are_rising : Stmt := topS 12
abbrev N_are_rising : List Str := ["things", "one", "two"]
theorem sc_are_rising : FnScope N_are_rising ["things"] (defScope s_are_rising) := ⟨rfl, rfl, rfl, by decide +kernel, rfl, by decide +kernel, by decide +kernel⟩
abbrev s_is_way : Stmt := topS 14
abbrev N_is_way : List Str := ["rest", "callers", "thing", "name", "one", "other", "beats"]
theorem sc_is_way : FnScope N_is_way ["rest", "callers", "thing"] (defScope s_is_way) := ⟨rfl, rfl, rfl, by decide +kernel, rfl, by decide +kernel, by decide +kernel⟩
abbrev s_is_plan : Stmt := topS 15
abbrev N_is_plan : List Str := ["thing", "rest", "callers", "ways", "caller", "way"]
theorem sc_is_plan : FnScope N_is_plan ["thing"] (defScope s_is_plan) := ⟨rfl, rfl, rfl, by decide +kernel, rfl, by decide +kernel, by decide +kernel⟩
abbrev s_law_tape : Stmt := topS 17
abbrev N_law_tape : List Str := ["script", "k", "cell"]
theorem sc_law_tape : FnScope N_law_tape ["script", "k"] (defScope s_law_tape) := ⟨rfl, rfl, rfl, by decide +kernel, rfl, by decide +kernel, by decide +kernel⟩
abbrev s_law_draw : Stmt := topS 18
abbrev N_law_draw : List Str := ["tape", "many", "found", "once", "twice", "wide"]
theorem sc_law_draw : FnScope N_law_draw ["tape", "many"] (defScope s_law_draw) := ⟨rfl, rfl, rfl, by decide +kernel, rfl, by decide +kernel, by decide +kernel⟩
abbrev s_law_folded : Stmt := topS 19
abbrev N_law_folded : List Str := ["script", "many", "cells", "k", "cell"]
theorem sc_law_folded : FnScope N_law_folded ["script", "many"] (defScope s_law_folded) := ⟨rfl, rfl, rfl, by decide +kernel, rfl, by decide +kernel, by decide +kernel⟩
abbrev s_law_names : Stmt := topS 20
abbrev N_law_names : List Str := ["tape", "many", "letters", "shift", "stem", "k", "at", "step", "found", "head", "tail", "way", "sign"]
theorem sc_law_names : FnScope N_law_names ["tape", "many"] (defScope s_law_names) := ⟨rfl, rfl, rfl, by decide +kernel, rfl, by decide +kernel, by decide +kernel⟩
abbrev s_law_part : Stmt := topS 21
abbrev N_law_part : List Str := ["tape", "some", "many", "left", "k"]
theorem sc_law_part : FnScope N_law_part ["tape", "some", "many"] (defScope s_law_part) := ⟨rfl, rfl, rfl, by decide +kernel, rfl, by decide +kernel, by decide +kernel⟩
abbrev s_law_is_number : Stmt := topS 22
abbrev N_law_is_number : List Str := ["a_thing"]
theorem sc_law_is_number : FnScope N_law_is_number ["a_thing"] (defScope s_law_is_number) := ⟨rfl, rfl, rfl, by decide +kernel, rfl, by decide +kernel, by decide +kernel⟩
abbrev s_law_leaf : Stmt := topS 23
abbrev N_law_leaf : List Str := ["tape", "a_thing", "step"]
theorem sc_law_leaf : FnScope N_law_leaf ["tape", "a_thing"] (defScope s_law_leaf) := ⟨rfl, rfl, rfl, by decide +kernel, rfl, by decide +kernel, by decide +kernel⟩
abbrev s_law_row_bent : Stmt := topS 24
abbrev N_law_row_bent : List Str := ["tape", "a_thing", "at", "step", "front", "here", "back", "new", "some"]
theorem sc_law_row_bent : FnScope N_law_row_bent ["tape", "a_thing"] (defScope s_law_row_bent) := ⟨rfl, rfl, rfl, by decide +kernel, rfl, by decide +kernel, by decide +kernel⟩
abbrev s_law_bent : Stmt := topS 25
abbrev N_law_bent : List Str := ["tape", "a_thing", "deep", "at", "one"]
theorem sc_law_bent : FnScope N_law_bent ["tape", "a_thing", "deep"] (defScope s_law_bent) := ⟨rfl, rfl, rfl, by decide +kernel, rfl, by decide +kernel, by decide +kernel⟩
abbrev s_law_is_name : Stmt := topS 26
abbrev N_law_is_name : List Str := ["a_thing", "sign"]
theorem sc_law_is_name : FnScope N_law_is_name ["a_thing"] (defScope s_law_is_name) := ⟨rfl, rfl, rfl, by decide +kernel, rfl, by decide +kernel, by decide +kernel⟩
abbrev s_law_rise : Stmt := topS 27
abbrev N_law_rise : List Str := ["names", "one", "two"]
theorem sc_law_rise : FnScope N_law_rise ["names"] (defScope s_law_rise) := ⟨rfl, rfl, rfl, by decide +kernel, rfl, by decide +kernel, by decide +kernel⟩
abbrev s_law_is_way : Stmt := topS 28
abbrev N_law_is_way : List Str := ["rest", "callers", "a_thing"]
theorem sc_law_is_way : FnScope N_law_is_way ["rest", "callers", "a_thing"] (defScope s_law_is_way) := ⟨rfl, rfl, rfl, by decide +kernel, rfl, by decide +kernel, by decide +kernel⟩
abbrev s_law_due : Stmt := topS 29
abbrev N_law_due : List Str := ["a_thing", "rest", "callers", "ways", "one"]
theorem sc_law_due : FnScope N_law_due ["a_thing"] (defScope s_law_due) := ⟨rfl, rfl, rfl, by decide +kernel, rfl, by decide +kernel, by decide +kernel⟩
abbrev s_law_plan : Stmt := topS 30
abbrev N_law_plan : List Str := ["tape", "many", "names", "rest", "callers", "ways", "top", "name", "pair"]
theorem sc_law_plan : FnScope N_law_plan ["tape"] (defScope s_law_plan) := ⟨rfl, rfl, rfl, by decide +kernel, rfl, by decide +kernel, by decide +kernel⟩
abbrev s_law_right : Stmt := topS 31
abbrev N_law_right : List Str := ["a_thing", "kept", "due", "told", "one"]
theorem sc_law_right : FnScope N_law_right ["a_thing"] (defScope s_law_right) := ⟨rfl, rfl, rfl, by decide +kernel, rfl, by decide +kernel, by decide +kernel⟩
abbrev s_law : Stmt := topS 32
abbrev N_law : List Str := ["script", "cells", "k", "tape", "turn", "plan", "again", "a_thing", "odd"]
theorem sc_law : FnScope N_law ["script"] (defScope s_law) := ⟨rfl, rfl, rfl, by decide +kernel, rfl, by decide +kernel, by decide +kernel⟩
def g_is_number : FS := (gRet (fAnd (fIsi "int" (fVar 0)) (fNot (fIsi "bool" (fVar 0)))))
def m_is_number : FM := mOf 1 1 g_is_number
def g_is_between : FS := (gRet (fAnd (fCall m_is_number (fACons (fVar 0) fANil)) (fChain dLe dLe (fVar 1) (fVar 0) (fVar 2))))
def m_is_between : FM := mOf 3 3 g_is_between
def g_is_name : FS := (gSeq (gIf (gOr (gNot (fTest (fIsi "str" (fVar 0)))) (gNot (fTest (fChain dLe dLe (fC (.int 1)) (fLenS 0) (fC (.int 8)))))) (gRet (fC (.bool false))) gNx)
  (gRet (fCB dAll (fACons (fFrz (fLc [1] (fItems (fVar 0)) (bName 1) fYes (fBin dIn (fVar 1) (fC (.str "abcdefghijklmnopqrstuvwxyz"))))) fANil))))
def m_is_name : FM := mOf 1 2 g_is_name
def g_is_tuple_of : FS := (gRet (fAnd (fIsi "tuple" (fVar 0)) (fBin dEq (fLenS 0) (fVar 1))))
def m_is_tuple_of : FM := mOf 2 2 g_is_tuple_of
def g_are_rising : FS := (gRet (fCB dAll (fACons (fFrz (fLc [1, 2] (fZip (fACons (fVar 0) (fACons (fSlice (fVar 0) (oSome (fC (.int 1))) oNone) fANil))) (bTup 2 (bCons (bName 1) (bCons (bName 2) bNil))) fYes (fBin dLt (fVar 1) (fVar 2)))) fANil)))
def m_are_rising : FM := mOf 1 3 g_are_rising
def g_is_way : FS := (gSeq (gIf (gNot (fTest (fCall m_is_tuple_of (fACons (fVar 2) (fACons (fC (.int 4)) fANil))))) (gRet (fC (.bool false))) gNx)
  (gSeq (gAsg (fVar 2) (bTup 4 (bCons (bName 3) (bCons (bName 4) (bCons (bName 5) (bCons (bName 6) bNil))))))
  (gSeq (gIf (gOr (gNot (fTest (fCall m_is_name (fACons (fVar 3) fANil)))) (gOr (fTest (fBin dNotIn (fVar 4) (fVar 1))) (gOr (fTest (fBin dNotIn (fVar 5) (fVar 1))) (gNot (fTest (fBin dLt (fVar 4) (fVar 5))))))) (gRet (fC (.bool false))) gNx)
  (gRet (fAnd (fCall m_is_between (fACons (fVar 6) (fACons (fC (.int 1)) (fACons (fC (.int 6)) fANil)))) (fBin dLe (fBin dAdd (fBin dMul (fC (.int 2)) (fVar 6)) (fC (.int 1))) (fVar 0)))))))
def m_is_way : FM := mOf 3 7 g_is_way
def g_is_plan : FS := (gSeq (gIf (gNot (fTest (fCall m_is_tuple_of (fACons (fVar 0) (fACons (fC (.int 3)) fANil))))) (gRet (fC (.bool false))) gNx)
  (gSeq (gAsg (fVar 0) (bTup 3 (bCons (bName 1) (bCons (bName 2) (bCons (bName 3) bNil)))))
  (gSeq (gIf (gOr (gNot (fTest (fCall m_is_between (fACons (fVar 1) (fACons (fC (.int 3)) (fACons (fC (.int 24)) fANil)))))) (gOr (gNot (fTest (fIsi "tuple" (fVar 2)))) (gNot (fTest (fIsi "tuple" (fVar 3)))))) (gRet (fC (.bool false))) gNx)
  (gSeq (gIf (gOr (gNot (fTest (fChain dLe dLe (fC (.int 1)) (fLenS 2) (fC (.int 8))))) (fTest (fBin dGt (fLenS 3) (fC (.int 10))))) (gRet (fC (.bool false))) gNx)
  (gSeq (gIf (gOr (gNot (fTest (fCB dAll (fACons (fFrz (fLc [4] (fItems (fVar 2)) (bName 4) fYes (fCall m_is_name (fACons (fVar 4) fANil)))) fANil)))) (gNot (fTest (fCall m_are_rising (fACons (fVar 2) fANil))))) (gRet (fC (.bool false))) gNx)
  (gRet (fAnd (fCB dAll (fACons (fFrz (fLc [5] (fItems (fVar 3)) (bName 5) fYes (fCall m_is_way (fACons (fVar 1) (fACons (fVar 2) (fACons (fVar 5) fANil)))))) fANil)) (fCall m_are_rising (fACons (fFrz (fLc [5] (fItems (fVar 3)) (bName 5) fYes (fBin dIx (fVar 5) (fC (.int 0))))) fANil)))))))))
def m_is_plan : FM := mOf 1 6 g_is_plan
def g_law_tape : FS := (gSeq (gAsg (fIf (fTest (fBin dLt (fVar 1) (fLenS 0))) (fBin dIx (fVar 0) (fVar 1)) (fC (.int 0))) (bName 2))
  (gRetL (fDisp (fACons (fBin dMul (fCB dAbs (fACons (fVar 2) fANil)) (fCB dInt (fACons (fBin dGe (fCB dAbs (fACons (fVar 2) fANil)) (fBin dPow (fC (.int 10)) (fC (.int 18)))) fANil))) (fACons (fBin dAdd (fBin dAdd (fBin dMod (fVar 2) (fC (.int 2305843009213693951))) (fBin dMul (fC (.int 39373)) (fVar 1))) (fC (.int 17))) (fACons (fC (.int 0)) fANil))))))
def m_law_tape : FN := mOfN 2 3 g_law_tape
def g_law_draw : FS := (gSeq (gIf (fTest (fBin dGt (fIxS 0 (fC (.int 0))) (fC (.int 0)))) (gSeq (gAsg (fBin dMod (fIxS 0 (fC (.int 0))) (fVar 1)) (bName 2))
  (gSeq (gAsg (fBin dDiv (fIxS 0 (fC (.int 0))) (fVar 1)) (bSub 0 (fC (.int 0))))
  (gRet (fVar 2)))) gNx)
  (gSeq (gAsg (fBin dAdd (fIxS 0 (fC (.int 2))) (fC (.int 1))) (bSub 0 (fC (.int 2))))
  (gSeq (gAsg (fBin dMod (fBin dPow (fBin dAdd (fIxS 0 (fC (.int 1))) (fBin dMul (fC (.int 39373)) (fIxS 0 (fC (.int 2))))) (fC (.int 5))) (fC (.int 2147483647))) (bName 3))
  (gSeq (gAsg (fBin dMod (fBin dMul (fBin dAdd (fVar 3) (fIxS 0 (fC (.int 2)))) (fBin dAdd (fBin dAdd (fBin dMod (fVar 3) (fC (.int 40009))) (fC (.int 7))) (fIxS 0 (fC (.int 2))))) (fC (.int 2147483629))) (bName 4))
  (gSeq (gAsg (fBin dMod (fBin dAdd (fBin dAdd (fBin dDiv (fIxS 0 (fC (.int 1))) (fC (.int 2147483647))) (fBin dMul (fVar 4) (fC (.int 40009)))) (fIxS 0 (fC (.int 2)))) (fC (.int 2305843009213693951))) (bName 5))
  (gRet (fBin dMod (fBin dDiv (fBin dMod (fBin dAdd (fBin dAdd (fBin dMul (fVar 4) (fC (.int 48271))) (fBin dMul (fVar 5) (fC (.int 39373)))) (fVar 3)) (fC (.int 2305843009213693921))) (fC (.int 64))) (fVar 1))))))))
def m_law_draw : FM := mOf 2 6 g_law_draw
def g_law_folded : FS := (gSeq (gSetN 2 (fCN dList (fACons (fFrz (fSliceS 0 oNone (oSome (fVar 1)))) fANil)))
  (gSeq (gFor (fEnum (fACons (fFrz (fSliceS 0 (oSome (fVar 1)) (oSome (fC (.int 63))))) fANil)) (bTup 2 (bCons (bName 3) (bCons (bName 4) bNil))) (gAsg (fBin dAdd (fIxS 2 (fBin dMod (fVar 3) (fVar 1))) (fBin dMul (fVar 4) (fBin dAdd (fVar 3) (fC (.int 2))))) (bSub 2 (fBin dMod (fVar 3) (fVar 1)))))
  (gRet (fVar 2))))
def m_law_folded : FM := mOf 2 5 g_law_folded
def g_law_names : FS := (gSeq (gAsg (fTup (fACons (fC (.str "abcdefghijklmnopqrstuvwxyz")) (fACons (fCall m_law_draw (fASlot 0 (fACons (fC (.int 26)) fANil))) fANil))) (bTup 2 (bCons (bName 2) (bCons (bName 3) bNil))))
  (gSeq (gAsg (fBin dJoin (fC (.str "")) (fFrz (fLc [5] (fRange1 (fACons (fCall m_law_draw (fASlot 0 (fACons (fC (.int 8)) fANil))) fANil)) (bName 5) fYes (fBin dIx (fVar 2) (fCall m_law_draw (fASlot 0 (fACons (fC (.int 26)) fANil))))))) (bName 4))
  (gSeq (gPar [6, 7, 8] (fACons (fCall m_law_draw (fASlot 0 (fACons (fBin dAdd (fLenS 4) (fC (.int 1))) fANil))) (fACons (fBin dIx (fFrz (fDisp (fACons (fC (.int 1)) (fACons (fC (.int 7)) (fACons (fC (.int 25)) fANil))))) (fCall m_law_draw (fASlot 0 (fACons (fC (.int 3)) fANil)))) (fAN (fDisp fANil) fANil))))
  (gSeq (gPar [9, 10] (fACons (fSlice (fVar 4) oNone (oSome (fVar 6))) (fACons (fSlice (fVar 4) (oSome (fVar 6)) oNone) fANil)))
  (gSeq (gFor (fRange1 (fACons (fVar 1) fANil)) (bName 5) (gSeq (gAsg (fBin dMul (fBin dMod (fBin dAdd (fBin dAdd (fVar 3) (fVar 6)) (fLenS 4)) (fC (.int 3))) (fCB dInt (fACons (fBin dNe (fVar 10) (fC (.str ""))) fANil))) (bName 11))
  (gSeq (gAsg (fBin dIx (fVar 2) (fBin dMod (fBin dAdd (fVar 3) (fBin dMul (fVar 7) (fBin dIx (fFrz (fDisp (fACons (fVar 5) (fACons (fBin dDiv (fVar 5) (fC (.int 2))) (fACons (fVar 5) fANil))))) (fVar 11)))) (fC (.int 26)))) (bName 12))
  (gExpr (fAppend 8 (fBin dAdd (fBin dAdd (fVar 9) (fVar 12)) (fBin dIx (fFrz (fDisp (fACons (fVar 10) (fACons (fBin dMul (fVar 10) (fBin dMod (fVar 5) (fC (.int 2)))) (fACons (fSlice (fVar 10) oNone (oSome (fBin dMod (fVar 5) (fBin dAdd (fLenS 10) (fC (.int 1)))))) fANil))))) (fVar 11))))))))
  (gRet (fVar 8)))))))
def m_law_names : FM := mOf 2 13 g_law_names
def g_law_part : FS := (gSeq (gSetN 3 (fCN dList (fACons (fVar 1) fANil)))
  (gRet (fFrz (fLc [4] (fRange1 (fACons (fVar 2) fANil)) (bName 4) fYes (fPopAt 3 (fCall m_law_draw (fASlot 0 (fACons (fLenS 3) fANil))))))))
def m_law_part : FM := mOf 3 5 g_law_part
def g_law_is_number : FS := (gRet (fAnd (fIsi "int" (fVar 0)) (fNot (fIsi "bool" (fVar 0)))))
def m_law_is_number : FM := mOf 1 1 g_law_is_number
def g_law_leaf : FS := (gSeq (gAsg (fCall m_law_draw (fASlot 0 (fACons (fC (.int 8)) fANil))) (bName 2))
  (gSeq (gIf (fTest (fBin dEq (fVar 2) (fC (.int 0)))) (gRet (fBin dIx (fFrz (fDisp (fACons (fC .none) (fACons (fC (.bool true)) (fACons (fC (.str "")) (fACons (fC (.str "a")) (fACons (fTup fANil) (fACons (fFrz (fDisp fANil)) (fACons (fTup (fACons (fC (.int 0)) fANil)) (fACons (fFrz (fDisp (fACons (fC (.int 0)) fANil))) (fACons (fUn dNeg (fC (.int 1))) (fACons (fC (.bool false)) fANil)))))))))))) (fCall m_law_draw (fASlot 0 (fACons (fC (.int 10)) fANil))))) gNx)
  (gSeq (gIf (fTest (fCall m_law_is_number (fACons (fVar 1) fANil))) (gRet (fBin dIx (fFrz (fDisp (fACons (fBin dAdd (fVar 1) (fC (.int 1))) (fACons (fBin dSub (fVar 1) (fC (.int 1))) (fACons (fBin dEq (fVar 1) (fC (.int 1))) (fACons (fCB dStr (fACons (fVar 1) fANil)) (fACons (fC (.int 0)) (fACons (fUn dNeg (fVar 1)) (fACons (fBin dAdd (fVar 1) (fBin dPow (fC (.int 10)) (fC (.int 9)))) fANil))))))))) (fBin dSub (fVar 2) (fC (.int 1))))) gNx)
  (gSeq (gIf (fTest (fIsi "str" (fVar 1))) (gRet (fBin dIx (fFrz (fDisp (fACons (fBin dAdd (fVar 1) (fC (.str "a"))) (fACons (fSlice (fVar 1) (oSome (fC (.int 1))) oNone) (fACons (fBin dAdd (fC (.str "A")) (fVar 1)) (fACons (fUn dUpper (fVar 1)) (fACons (fFrz (fDisp (fACons (fVar 1) fANil))) (fACons (fC .none) (fACons (fC (.str "zzzzzzzzz")) fANil))))))))) (fBin dSub (fVar 2) (fC (.int 1))))) gNx)
  (gRet (fBin dIx (fFrz (fDisp (fACons (fC (.int 0)) (fACons (fC (.int 1)) (fACons (fC .none) (fACons (fC (.bool true)) (fACons (fTup (fACons (fC (.int 0)) (fACons (fC (.int 1)) fANil))) (fACons (fTup fANil) (fACons (fFrz (fDisp fANil)) fANil))))))))) (fBin dSub (fVar 2) (fC (.int 1)))))))))
def m_law_leaf : FM := mOf 2 3 g_law_leaf
def g_law_row_bent : FS := (gSeq (gPar [2, 3] (fACons (fCall m_law_draw (fASlot 0 (fACons (fBin dAdd (fLenS 1) (fC (.int 1))) fANil))) (fACons (fCall m_law_draw (fASlot 0 (fACons (fC (.int 6)) fANil))) fANil)))
  (gSeq (gPar [4, 5] (fACons (fSlice (fVar 1) oNone (oSome (fVar 2))) (fACons (fSlice (fVar 1) (oSome (fVar 2)) (oSome (fBin dAdd (fVar 2) (fC (.int 1))))) fANil)))
  (gSeq (gAsg (fSlice (fVar 1) (oSome (fBin dAdd (fVar 2) (fC (.int 1)))) oNone) (bName 6))
  (gSeq (gIf (fTest (fBin dEq (fVar 3) (fC (.int 5)))) (gRet (fIf (fTest (fIsi "tuple" (fVar 1))) (fFrz (fCN dList (fACons (fVar 1) fANil))) (fCB dTuple (fACons (fVar 1) fANil)))) gNx)
  (gSeq (gIf (fTest (fBin dEq (fVar 3) (fC (.int 4)))) (gSeq (gAsg (fBin dIx (fFrz (fDisp (fACons (fC (.int 0)) (fACons (fC (.int 1)) (fACons (fUn dNeg (fC (.int 1))) (fACons (fC .none) (fACons (fTup (fACons (fC (.int 0)) (fACons (fC (.int 1)) fANil))) (fACons (fFrz (fDisp fANil)) (fACons (fTup (fACons (fC (.int 0)) (fACons (fC (.int 0)) (fACons (fC (.int 0)) fANil)))) fANil))))))))) (fCall m_law_draw (fASlot 0 (fACons (fC (.int 7)) fANil)))) (bName 7))
  (gSeq (gAsg (fIf (fTest (fIsi "tuple" (fVar 1))) (fTup (fACons (fVar 7) fANil)) (fFrz (fDisp (fACons (fVar 7) fANil)))) (bName 8))
  (gRet (fBin dAdd (fBin dAdd (fBin dAdd (fVar 4) (fVar 8)) (fVar 5)) (fVar 6))))) gNx)
  (gSeq (gIf (fTest (fBin dEq (fVar 3) (fC (.int 1)))) (gRet (fBin dAdd (fBin dAdd (fBin dAdd (fVar 4) (fVar 5)) (fVar 5)) (fVar 6))) gNx)
  (gRet (fBin dIx (fFrz (fDisp (fACons (fBin dAdd (fVar 4) (fVar 6)) (fACons (fVar 4) (fACons (fBin dAdd (fBin dAdd (fBin dAdd (fVar 4) (fSlice (fVar 6) oNone (oSome (fC (.int 1))))) (fVar 5)) (fSlice (fVar 6) (oSome (fC (.int 1))) oNone)) (fACons (fVar 4) fANil)))))) (fVar 3)))))))))
def m_law_row_bent : FM := mOf 2 9 g_law_row_bent
def g_law_bent (mrec : FM) : FS := (gSeq (gIf (gNot (fTest (fIsi2 "tuple" "list" (fVar 1)))) (gRet (fCall m_law_leaf (fASlot 0 (fACons (fVar 1) fANil)))) gNx)
  (gSeq (gIf (gOr (fTest (fBin dEq (fLenS 1) (fC (.int 0)))) (gOr (fTest (fBin dEq (fVar 2) (fC (.int 0)))) (fTest (fBin dEq (fCall m_law_draw (fASlot 0 (fACons (fC (.int 5)) fANil))) (fC (.int 0)))))) (gRet (fCall m_law_row_bent (fASlot 0 (fACons (fVar 1) fANil)))) gNx)
  (gSeq (gAsg (fIf (fTest (fBin dEq (fCall m_law_draw (fASlot 0 (fACons (fC (.int 2)) fANil))) (fC (.int 0)))) (fBin dSub (fLenS 1) (fC (.int 1))) (fCall m_law_draw (fASlot 0 (fACons (fLenS 1) fANil)))) (bName 3))
  (gSeq (gAsg (fCall mrec (fASlot 0 (fACons (fBin dIx (fVar 1) (fVar 3)) (fACons (fBin dSub (fVar 2) (fC (.int 1))) fANil)))) (bName 4))
  (gRet (fBin dAdd (fBin dAdd (fSlice (fVar 1) oNone (oSome (fVar 3))) (fIf (fTest (fIsi "tuple" (fVar 1))) (fTup (fACons (fVar 4) fANil)) (fFrz (fDisp (fACons (fVar 4) fANil))))) (fSlice (fVar 1) (oSome (fBin dAdd (fVar 3) (fC (.int 1)))) oNone)))))))
def m_law_bent : Nat → FM
  | 0 => fun _ => none
  | n + 1 => mOf 3 5 (g_law_bent (m_law_bent n))
def g_law_is_name : FS := (gSeq (gIf (gOr (gNot (fTest (fIsi "str" (fVar 0)))) (gNot (fTest (fChain dLe dLe (fC (.int 1)) (fLenS 0) (fC (.int 8)))))) (gRet (fC (.bool false))) gNx)
  (gRet (fCB dAll (fACons (fFrz (fLc [1] (fItems (fVar 0)) (bName 1) fYes (fBin dIn (fVar 1) (fC (.str "abcdefghijklmnopqrstuvwxyz"))))) fANil))))
def m_law_is_name : FM := mOf 1 2 g_law_is_name
def g_law_rise : FS := (gRet (fCB dAll (fACons (fFrz (fLc [1, 2] (fZip (fACons (fVar 0) (fACons (fSlice (fVar 0) (oSome (fC (.int 1))) oNone) fANil))) (bTup 2 (bCons (bName 1) (bCons (bName 2) bNil))) fYes (fBin dLt (fVar 1) (fVar 2)))) fANil)))
def m_law_rise : FM := mOf 1 3 g_law_rise
def g_law_is_way : FS := (gSeq (gIf (gOr (gNot (fTest (fIsi "tuple" (fVar 2)))) (gOr (fTest (fBin dNe (fLenS 2) (fC (.int 4)))) (gNot (fTest (fCall m_law_is_name (fACons (fBin dIx (fVar 2) (fC (.int 0))) fANil)))))) (gRet (fC (.bool false))) gNx)
  (gSeq (gIf (gOr (fTest (fBin dNotIn (fBin dIx (fVar 2) (fC (.int 1))) (fVar 1))) (gOr (fTest (fBin dNotIn (fBin dIx (fVar 2) (fC (.int 2))) (fVar 1))) (fTest (fBin dGe (fBin dIx (fVar 2) (fC (.int 1))) (fBin dIx (fVar 2) (fC (.int 2))))))) (gRet (fC (.bool false))) gNx)
  (gRet (fAnd (fCall m_law_is_number (fACons (fBin dIx (fVar 2) (fC (.int 3))) fANil)) (fAnd (fChain dLe dLe (fC (.int 1)) (fBin dIx (fVar 2) (fC (.int 3))) (fC (.int 6))) (fBin dLe (fBin dAdd (fBin dMul (fC (.int 2)) (fBin dIx (fVar 2) (fC (.int 3)))) (fC (.int 1))) (fVar 0)))))))
def m_law_is_way : FM := mOf 3 3 g_law_is_way
def g_law_due : FS := (gSeq (gIf (gOr (gNot (fTest (fIsi "tuple" (fVar 0)))) (fTest (fBin dNe (fLenS 0) (fC (.int 3))))) (gRet (fC (.bool false))) gNx)
  (gSeq (gAsg (fVar 0) (bTup 3 (bCons (bName 1) (bCons (bName 2) (bCons (bName 3) bNil)))))
  (gSeq (gIf (gOr (gNot (fTest (fCall m_law_is_number (fACons (fVar 1) fANil)))) (gNot (fTest (fChain dLe dLe (fC (.int 3)) (fVar 1) (fC (.int 24)))))) (gRet (fC (.bool false))) gNx)
  (gSeq (gIf (gOr (gNot (fTest (fIsi "tuple" (fVar 2)))) (gOr (gNot (fTest (fChain dLe dLe (fC (.int 1)) (fLenS 2) (fC (.int 8))))) (gNot (fTest (fCB dAll (fACons (fFrz (fLc [4] (fItems (fVar 2)) (bName 4) fYes (fCall m_law_is_name (fACons (fVar 4) fANil)))) fANil)))))) (gRet (fC (.bool false))) gNx)
  (gSeq (gIf (gOr (gNot (fTest (fIsi "tuple" (fVar 3)))) (gOr (fTest (fBin dGt (fLenS 3) (fC (.int 10)))) (gNot (fTest (fCall m_law_rise (fACons (fVar 2) fANil)))))) (gRet (fC (.bool false))) gNx)
  (gRet (fAnd (fCB dAll (fACons (fFrz (fLc [4] (fItems (fVar 3)) (bName 4) fYes (fCall m_law_is_way (fACons (fVar 1) (fACons (fVar 2) (fACons (fVar 4) fANil)))))) fANil)) (fCall m_law_rise (fACons (fFrz (fLc [4] (fItems (fVar 3)) (bName 4) fYes (fBin dIx (fVar 4) (fC (.int 0))))) fANil)))))))))
def m_law_due : FM := mOf 1 5 g_law_due
def g_law_plan : FS := (gSeq (gPar [1, 2] (fACons (fBin dIx (fFrz (fDisp (fACons (fBin dAdd (fC (.int 1)) (fCall m_law_draw (fASlot 0 (fACons (fC (.int 8)) fANil)))) (fACons (fC (.int 8)) (fACons (fC (.int 9)) (fACons (fC (.int 2)) fANil)))))) (fCall m_law_draw (fASlot 0 (fACons (fC (.int 4)) fANil)))) (fACons (fCall m_law_names (fASlot 0 (fACons (fC (.int 22)) fANil))) fANil)))
  (gSeq (gAsg (fBin dIx (fFrz (fDisp (fACons (fBin dAdd (fC (.int 3)) (fCall m_law_draw (fASlot 0 (fACons (fC (.int 22)) fANil)))) (fACons (fC (.int 3)) (fACons (fC (.int 24)) (fACons (fC (.int 13)) (fACons (fC (.int 2)) (fACons (fC (.int 25)) fANil)))))))) (fCall m_law_draw (fASlot 0 (fACons (fC (.int 6)) fANil)))) (bName 3))
  (gSeq (gPar [4, 5] (fAN (fCN dSorted (fACons (fSlice (fVar 2) oNone (oSome (fVar 1))) fANil)) (fAN (fDisp fANil) fANil)))
  (gSeq (gAsg (fBin dAdd (fCB dMin2 (fACons (fC (.int 6)) (fACons (fCB dMax2 (fACons (fC (.int 1)) (fACons (fBin dDiv (fBin dSub (fVar 3) (fC (.int 1))) (fC (.int 2))) fANil))) fANil))) (fCB dInt (fACons (fBin dEq (fCall m_law_draw (fASlot 0 (fACons (fC (.int 6)) fANil))) (fC (.int 0))) fANil))) (bName 6))
  (gSeq (gFor (fItems (fFrz (fCN dSorted (fACons (fSlice (fVar 2) (oSome (fC (.int 9))) (oSome (fBin dAdd (fC (.int 9)) (fBin dIx (fFrz (fDisp (fACons (fCall m_law_draw (fASlot 0 (fACons (fC (.int 11)) fANil))) (fACons (fC (.int 10)) (fACons (fC (.int 11)) (fACons (fC (.int 1)) fANil)))))) (fCall m_law_draw (fASlot 0 (fACons (fC (.int 4)) fANil))))))) fANil)))) (bName 7) (gIf (fTest (fBin dGt (fVar 1) (fC (.int 1)))) (gSeq (gSetN 8 (fCN dSorted (fACons (fCall m_law_part (fASlot 0 (fACons (fVar 4) (fACons (fC (.int 2)) fANil)))) fANil)))
  (gExpr (fAppend 5 (fTup (fACons (fVar 7) (fACons (fBin dIx (fVar 8) (fC (.int 0))) (fACons (fBin dIx (fVar 8) (fC (.int 1))) (fACons (fBin dIx (fFrz (fDisp (fACons (fBin dAdd (fC (.int 1)) (fCall m_law_draw (fASlot 0 (fACons (fVar 6) fANil)))) (fACons (fVar 6) fANil)))) (fCall m_law_draw (fASlot 0 (fACons (fC (.int 2)) fANil)))) fANil)))))))) gNx))
  (gRet (fTup (fACons (fVar 3) (fACons (fCB dTuple (fACons (fVar 4) fANil)) (fACons (fCB dTuple (fACons (fVar 5) fANil)) fANil))))))))))
def m_law_plan : FM := mOf 1 9 g_law_plan
def g_law_right : FS := (gSeq (gAsg (fTup (fACons (fCB dRepr (fACons (fVar 0) fANil)) (fACons (fCall m_law_due (fACons (fVar 0) fANil)) fANil))) (bTup 2 (bCons (bName 1) (bCons (bName 2) bNil))))
  (gSeq (gSetN 3 (fDisp (fACons (fCall m_is_plan (fACons (fVar 0) fANil)) (fACons (fCall m_is_plan (fACons (fVar 0) fANil)) fANil))))
  (gRet (fAnd (fCB dAll (fACons (fFrz (fLc [4] (fItems (fVar 3)) (bName 4) fYes (fAnd (fIsi "bool" (fVar 4)) (fBin dEq (fVar 4) (fVar 2))))) fANil)) (fBin dEq (fCB dRepr (fACons (fVar 0) fANil)) (fVar 1))))))
def m_law_right : FM := mOf 1 5 g_law_right
def g_law : FS := (gSeq (gAsg (fCall m_law_folded (fASlot 0 (fACons (fC (.int 4)) fANil))) (bName 1))
  (gSeq (gFor (fRange1 (fACons (fCB dMax2 (fACons (fC (.int 1)) (fACons (fLenS 1) fANil))) fANil)) (bName 2) (gSeq (gSetN 3 (fCallN m_law_tape (fACons (fVar 1) (fACons (fVar 2) fANil))))
  (gSeq (gFor (fRange1 (fACons (fC (.int 3)) fANil)) (bName 4) (gSeq (gAsg (fCall m_law_plan (fASlot 3 fANil)) (bName 5))
  (gSeq (gIf (gOr (gNot (fTest (fCall m_law_right (fACons (fVar 5) fANil)))) (gNot (fTest (fCall m_law_right (fACons (fFrz (fCN dList (fACons (fVar 5) fANil))) fANil))))) (gRet (fC (.bool false))) gNx)
  (gFor (fRange1 (fACons (fC (.int 8)) fANil)) (bName 6) (gSeq (gAsg (fCall (m_law_bent 6) (fASlot 3 (fACons (fVar 5) (fACons (fC (.int 4)) fANil)))) (bName 7))
  (gSeq (gAsg (fIf (fTest (fBin dEq (fCall m_law_draw (fASlot 3 (fACons (fC (.int 3)) fANil))) (fC (.int 0)))) (fCall (m_law_bent 6) (fASlot 3 (fACons (fVar 7) (fACons (fC (.int 4)) fANil)))) (fVar 7)) (bName 7))
  (gIf (gNot (fTest (fCall m_law_right (fACons (fVar 7) fANil)))) (gRet (fC (.bool false))) gNx)))))))
  (gSeq (gSetN 8 (fDisp (fACons (fC .none) (fACons (fC (.bool true)) (fACons (fC (.str "")) (fACons (fC (.int 7)) (fACons (fTup fANil) (fACons (fFrz (fDisp fANil)) (fACons (fTup (fACons (fC (.int 3)) (fACons (fTup (fACons (fC (.str "a")) fANil)) (fACons (fTup fANil) fANil)))) (fACons (fTup (fACons (fC (.int 3)) (fACons (fTup fANil) (fACons (fTup fANil) fANil)))) (fACons (fTup (fACons (fC (.int 3)) (fACons (fTup (fACons (fC (.str "a")) (fACons (fC (.str "a")) fANil))) (fACons (fTup fANil) fANil)))) (fACons (fTup (fACons (fC (.bool true)) (fACons (fTup (fACons (fC (.str "a")) fANil)) (fACons (fTup fANil) fANil)))) fANil))))))))))))
  (gFor (fItems (fVar 8)) (bName 7) (gIf (gNot (fTest (fCall m_law_right (fACons (fVar 7) fANil)))) (gRet (fC (.bool false))) gNx))))))
  (gRet (fC (.bool true)))))
def m_law : FM := mOf 1 9 g_law
structure Txt (mg : Str → Option Value) : Prop where
  z_abs : mg "abs" = none
  z_all : mg "all" = none
  z_bool : mg "bool" = none
  z_enumerate : mg "enumerate" = none
  z_int : mg "int" = none
  z_isinstance : mg "isinstance" = none
  z_len : mg "len" = none
  z_list : mg "list" = none
  z_max : mg "max" = none
  z_min : mg "min" = none
  z_range : mg "range" = none
  z_repr : mg "repr" = none
  z_sorted : mg "sorted" = none
  z_str : mg "str" = none
  z_tuple : mg "tuple" = none
  z_zip : mg "zip" = none
  c_CALLERS : ∃ t, mg "CALLERS" = some (.int 8 t)
  c_WAYS : ∃ t, mg "WAYS" = some (.int 10 t)
  c_BEATS : ∃ t, mg "BEATS" = some (.int 6 t)
  c_REST : ∃ t, mg "REST" = some (.int 24 t)
  c_LEAST_REST : ∃ t, mg "LEAST_REST" = some (.int 3 t)
  c_MOST_SIGNS : ∃ t, mg "MOST_SIGNS" = some (.int 8 t)
  c_SMALL_SIGNS : ∃ t, mg "SMALL_SIGNS" = some (.str "abcdefghijklmnopqrstuvwxyz" t)
section
variable {P : Program} {w : World} {K : PySem.W.Frag} {mg : Str → Option Value} {base : Heap}
variable {f_is_number : Addr} {fd_is_number : FuncData}
variable {f_is_between : Addr} {fd_is_between : FuncData}
variable {f_is_name : Addr} {fd_is_name : FuncData}
variable {f_is_tuple_of : Addr} {fd_is_tuple_of : FuncData}
variable {f_are_rising : Addr} {fd_are_rising : FuncData}
variable {f_is_way : Addr} {fd_is_way : FuncData}
variable {f_is_plan : Addr} {fd_is_plan : FuncData}
variable {f_law_tape : Addr} {fd_law_tape : FuncData}
variable {f_law_draw : Addr} {fd_law_draw : FuncData}
variable {f_law_folded : Addr} {fd_law_folded : FuncData}
variable {f_law_names : Addr} {fd_law_names : FuncData}
variable {f_law_part : Addr} {fd_law_part : FuncData}
variable {f_law_is_number : Addr} {fd_law_is_number : FuncData}
variable {f_law_leaf : Addr} {fd_law_leaf : FuncData}
variable {f_law_row_bent : Addr} {fd_law_row_bent : FuncData}
variable {f_law_bent : Addr} {fd_law_bent : FuncData}
variable {f_law_is_name : Addr} {fd_law_is_name : FuncData}
variable {f_law_rise : Addr} {fd_law_rise : FuncData}
variable {f_law_is_way : Addr} {fd_law_is_way : FuncData}
variable {f_law_due : Addr} {fd_law_due : FuncData}
variable {f_law_plan : Addr} {fd_law_plan : FuncData}
variable {f_law_right : Addr} {fd_law_right : FuncData}
variable {f_law : Addr} {fd_law : FuncData}
theorem ok_is_number (T : Txt mg) (D_is_number : Df K mg "is_number" s_is_number ["thing"] f_is_number fd_is_number) : FnOk P w K mg base CX0 1 f_is_number fd_is_number ["thing"] (spM K m_is_number) :=
  ok_fn2 (g := g_is_number) D_is_number.F sc_is_number rfl rfl (by decide) fun cdv A outer s H E hr =>
    (xs_one (xs_ret (x_and (x_isi kit_int T.z_isinstance T.z_int (x_var 0)) (x_one (x_not (x_isi kit_bool T.z_isinstance T.z_bool (x_var 0)))))))
theorem ok_is_between (T : Txt mg) (D_is_between : Df K mg "is_between" s_is_between ["thing", "least", "most"] f_is_between fd_is_between) (D_is_number : Df K mg "is_number" s_is_number ["thing"] f_is_number fd_is_number) (G_is_number : FnOk P w K mg base CX0 1 f_is_number fd_is_number ["thing"] (spM K m_is_number)) : FnOk P w K mg base CX0 2 f_is_between fd_is_between ["thing", "least", "most"] (spM K m_is_between) :=
  ok_fn2 (g := g_is_between) D_is_between.F sc_is_between rfl rfl (by decide) fun cdv A outer s H E hr =>
    (xs_one (xs_ret (x_and (x_call G_is_number (hr.mono (by decide)) D_is_number.g D_is_number.F.kp D_is_number.b (xa_cons (x_var 0) xa_nil)) (x_one (x_chain o_le o_le (x_var 1) (x_var 0) (x_var 2))))))
theorem ok_is_name (T : Txt mg) (D_is_name : Df K mg "is_name" s_is_name ["thing"] f_is_name fd_is_name) : FnOk P w K mg base CX0 1 f_is_name fd_is_name ["thing"] (spM K m_is_name) :=
  ok_fn2 (g := g_is_name) D_is_name.F sc_is_name rfl rfl (by decide) fun cdv A outer s H E hr =>
    (xs_cons (xs_if (PW.pt (xw_or (xt_not (xt_val (x_isi kit_str T.z_isinstance T.z_str (x_var 0)))) (xw_or1 (xt_not (xt_chain o_le o_le x_int (x_lenS 0 T.z_len) (x_globI T.c_MOST_SIGNS)))))) (xs_one (xs_ret x_bl)) xs_nil)
      (xs_one (xs_ret (x_cb (c_all rfl) T.z_all (xa_cons (x_frz (x_lc (own := [("sign", 1)]) rfl sc_is_name.nd (xi_items (x_var 0)) (blkOk_by (own := [("sign", 1)]) (N := N_is_name) (sc := defScope s_is_name) (by decide +kernel)) (fun _ _ _ _ _ => (xg_name (i := 1) sc_is_name.nd)) (fun _ _ _ _ _ => xts_nil) (fun _ _ _ _ _ => (x_cmp (o_in (room70 hr)) (x_var 1) (x_globS T.c_SMALL_SIGNS) rfl)))) xa_nil)))))
theorem ok_is_tuple_of (T : Txt mg) (D_is_tuple_of : Df K mg "is_tuple_of" s_is_tuple_of ["thing", "many"] f_is_tuple_of fd_is_tuple_of) : FnOk P w K mg base CX0 1 f_is_tuple_of fd_is_tuple_of ["thing", "many"] (spM K m_is_tuple_of) :=
  ok_fn2 (g := g_is_tuple_of) D_is_tuple_of.F sc_is_tuple_of rfl rfl (by decide) fun cdv A outer s H E hr =>
    (xs_one (xs_ret (x_and (x_isi kit_tuple T.z_isinstance T.z_tuple (x_var 0)) (x_one (x_cmp (o_eq hr.units) (x_lenS 0 T.z_len) (x_var 1) (nomark _))))))
theorem ok_are_rising (T : Txt mg) (D_are_rising : Df K mg "are_rising" s_are_rising ["things"] f_are_rising fd_are_rising) : FnOk P w K mg base CX0 1 f_are_rising fd_are_rising ["things"] (spM K m_are_rising) :=
  ok_fn2 (g := g_are_rising) D_are_rising.F sc_are_rising rfl rfl (by decide) fun cdv A outer s H E hr =>
    (xs_one (xs_ret (x_cb (c_all rfl) T.z_all (xa_cons (x_frz (x_lc (own := [("one", 1), ("two", 2)]) rfl sc_are_rising.nd (xi_zip T.z_zip (xa_cons (x_var 0) (xa_cons (x_slice (x_var 0) (xo_some x_int) xo_none) xa_nil))) (blkOk_by (own := [("one", 1), ("two", 2)]) (N := N_are_rising) (sc := defScope s_are_rising) (by decide +kernel)) (fun _ _ _ _ _ => (xg_tup rfl (xgs_cons (xg_name (i := 1) sc_are_rising.nd) (xgs_cons (xg_name (i := 2) sc_are_rising.nd) xgs_nil)))) (fun _ _ _ _ _ => xts_nil) (fun _ _ _ _ _ => (x_cmp o_lt (x_var 1) (x_var 2) (nomark _))))) xa_nil))))
theorem ok_is_way (T : Txt mg) (D_is_way : Df K mg "is_way" s_is_way ["rest", "callers", "thing"] f_is_way fd_is_way) (D_is_tuple_of : Df K mg "is_tuple_of" s_is_tuple_of ["thing", "many"] f_is_tuple_of fd_is_tuple_of) (G_is_tuple_of : FnOk P w K mg base CX0 1 f_is_tuple_of fd_is_tuple_of ["thing", "many"] (spM K m_is_tuple_of)) (D_is_between : Df K mg "is_between" s_is_between ["thing", "least", "most"] f_is_between fd_is_between) (G_is_between : FnOk P w K mg base CX0 2 f_is_between fd_is_between ["thing", "least", "most"] (spM K m_is_between)) (D_is_name : Df K mg "is_name" s_is_name ["thing"] f_is_name fd_is_name) (G_is_name : FnOk P w K mg base CX0 1 f_is_name fd_is_name ["thing"] (spM K m_is_name)) : FnOk P w K mg base CX0 3 f_is_way fd_is_way ["rest", "callers", "thing"] (spM K m_is_way) :=
  ok_fn2 (g := g_is_way) D_is_way.F sc_is_way rfl rfl (by decide) fun cdv A outer s H E hr =>
    (xs_cons (xs_if (xt_not (xt_val (x_call G_is_tuple_of (hr.mono (by decide)) D_is_tuple_of.g D_is_tuple_of.F.kp D_is_tuple_of.b (xa_cons (x_var 2) (xa_cons x_int xa_nil))))) (xs_one (xs_ret x_bl)) xs_nil)
      (xs_cons (xs_asg (x_var 2) (xg_tup rfl (xgs_cons (xg_name (i := 3) sc_is_way.nd) (xgs_cons (xg_name (i := 4) sc_is_way.nd) (xgs_cons (xg_name (i := 5) sc_is_way.nd) (xgs_cons (xg_name (i := 6) sc_is_way.nd) xgs_nil))))))
      (xs_cons (xs_if (PW.pt (xw_or (xt_not (xt_val (x_call G_is_name (hr.mono (by decide)) D_is_name.g D_is_name.F.kp D_is_name.b (xa_cons (x_var 3) xa_nil)))) (xw_or (xt_cmp (o_notIn (room70 hr)) (x_var 4) (x_var 1) rfl) (xw_or (xt_cmp (o_notIn (room70 hr)) (x_var 5) (x_var 1) rfl) (xw_or1 (xt_not (xt_cmp o_lt (x_var 4) (x_var 5) (nomark _)))))))) (xs_one (xs_ret x_bl)) xs_nil)
      (xs_one (xs_ret (x_and (x_call G_is_between (hr.mono (by decide)) D_is_between.g D_is_between.F.kp D_is_between.b (xa_cons (x_var 6) (xa_cons x_int (xa_cons (x_globI T.c_BEATS) xa_nil)))) (x_one (x_cmp o_le (x_op o_add (x_op o_mul x_int (x_var 6)) x_int) (x_var 0) (nomark _)))))))))
theorem ok_is_plan (T : Txt mg) (D_is_plan : Df K mg "is_plan" s_is_plan ["thing"] f_is_plan fd_is_plan) (D_is_tuple_of : Df K mg "is_tuple_of" s_is_tuple_of ["thing", "many"] f_is_tuple_of fd_is_tuple_of) (G_is_tuple_of : FnOk P w K mg base CX0 1 f_is_tuple_of fd_is_tuple_of ["thing", "many"] (spM K m_is_tuple_of)) (D_are_rising : Df K mg "are_rising" s_are_rising ["things"] f_are_rising fd_are_rising) (G_are_rising : FnOk P w K mg base CX0 1 f_are_rising fd_are_rising ["things"] (spM K m_are_rising)) (D_is_between : Df K mg "is_between" s_is_between ["thing", "least", "most"] f_is_between fd_is_between) (G_is_between : FnOk P w K mg base CX0 2 f_is_between fd_is_between ["thing", "least", "most"] (spM K m_is_between)) (D_is_way : Df K mg "is_way" s_is_way ["rest", "callers", "thing"] f_is_way fd_is_way) (G_is_way : FnOk P w K mg base CX0 3 f_is_way fd_is_way ["rest", "callers", "thing"] (spM K m_is_way)) (D_is_name : Df K mg "is_name" s_is_name ["thing"] f_is_name fd_is_name) (G_is_name : FnOk P w K mg base CX0 1 f_is_name fd_is_name ["thing"] (spM K m_is_name)) : FnOk P w K mg base CX0 4 f_is_plan fd_is_plan ["thing"] (spM K m_is_plan) :=
  ok_fn2 (g := g_is_plan) D_is_plan.F sc_is_plan rfl rfl (by decide) fun cdv A outer s H E hr =>
    (xs_cons (xs_if (xt_not (xt_val (x_call G_is_tuple_of (hr.mono (by decide)) D_is_tuple_of.g D_is_tuple_of.F.kp D_is_tuple_of.b (xa_cons (x_var 0) (xa_cons x_int xa_nil))))) (xs_one (xs_ret x_bl)) xs_nil)
      (xs_cons (xs_asg (x_var 0) (xg_tup rfl (xgs_cons (xg_name (i := 1) sc_is_plan.nd) (xgs_cons (xg_name (i := 2) sc_is_plan.nd) (xgs_cons (xg_name (i := 3) sc_is_plan.nd) xgs_nil)))))
      (xs_cons (xs_if (PW.pt (xw_or (xt_not (xt_val (x_call G_is_between (hr.mono (by decide)) D_is_between.g D_is_between.F.kp D_is_between.b (xa_cons (x_var 1) (xa_cons (x_globI T.c_LEAST_REST) (xa_cons (x_globI T.c_REST) xa_nil)))))) (xw_or (xt_not (xt_val (x_isi kit_tuple T.z_isinstance T.z_tuple (x_var 2)))) (xw_or1 (xt_not (xt_val (x_isi kit_tuple T.z_isinstance T.z_tuple (x_var 3)))))))) (xs_one (xs_ret x_bl)) xs_nil)
      (xs_cons (xs_if (PW.pt (xw_or (xt_not (xt_chain o_le o_le x_int (x_lenS 2 T.z_len) (x_globI T.c_CALLERS))) (xw_or1 (xt_cmp o_gt (x_lenS 3 T.z_len) (x_globI T.c_WAYS) (nomark _))))) (xs_one (xs_ret x_bl)) xs_nil)
      (xs_cons (xs_if (PW.pt (xw_or (xt_not (xt_val (x_cb (c_all rfl) T.z_all (xa_cons (x_frz (x_lc (own := [("caller", 4)]) rfl sc_is_plan.nd (xi_items (x_var 2)) (blkOk_by (own := [("caller", 4)]) (N := N_is_plan) (sc := defScope s_is_plan) (by decide +kernel)) (fun _ _ _ _ _ => (xg_name (i := 4) sc_is_plan.nd)) (fun _ _ _ _ _ => xts_nil) (fun _ _ _ _ _ => (x_call G_is_name (hr.mono (by decide)) D_is_name.g D_is_name.F.kp D_is_name.b (xa_cons (x_var 4) xa_nil))))) xa_nil)))) (xw_or1 (xt_not (xt_val (x_call G_are_rising (hr.mono (by decide)) D_are_rising.g D_are_rising.F.kp D_are_rising.b (xa_cons (x_var 2) xa_nil))))))) (xs_one (xs_ret x_bl)) xs_nil)
      (xs_one (xs_ret (x_and (x_cb (c_all rfl) T.z_all (xa_cons (x_frz (x_lc (own := [("way", 5)]) rfl sc_is_plan.nd (xi_items (x_var 3)) (blkOk_by (own := [("way", 5)]) (N := N_is_plan) (sc := defScope s_is_plan) (by decide +kernel)) (fun _ _ _ _ _ => (xg_name (i := 5) sc_is_plan.nd)) (fun _ _ _ _ _ => xts_nil) (fun _ _ _ _ _ => (x_call G_is_way (hr.mono (by decide)) D_is_way.g D_is_way.F.kp D_is_way.b (xa_cons (x_var 1) (xa_cons (x_var 2) (xa_cons (x_var 5) xa_nil))))))) xa_nil)) (x_one (x_call G_are_rising (hr.mono (by decide)) D_are_rising.g D_are_rising.F.kp D_are_rising.b (xa_cons (x_frz (x_lc (own := [("way", 5)]) rfl sc_is_plan.nd (xi_items (x_var 3)) (blkOk_by (own := [("way", 5)]) (N := N_is_plan) (sc := defScope s_is_plan) (by decide +kernel)) (fun _ _ _ _ _ => (xg_name (i := 5) sc_is_plan.nd)) (fun _ _ _ _ _ => xts_nil) (fun _ _ _ _ _ => (x_ix o_ix (x_var 5) x_int)))) xa_nil)))))))))))
theorem ok_law_tape (T : Txt mg) (D_law_tape : Df K mg "_law_tape" s_law_tape ["script", "k"] f_law_tape fd_law_tape) : FnOk P w K mg base CX0 1 f_law_tape fd_law_tape ["script", "k"] (spN K m_law_tape) :=
  ok_fnN2 (g := g_law_tape) D_law_tape.F sc_law_tape rfl rfl (by decide) fun cdv A outer s H E hr =>
    (xs_cons (xs_set (i := 2) sc_law_tape.nd (x_if (xt_cmp o_lt (x_var 1) (x_lenS 0 T.z_len) (nomark _)) (x_ix o_ix (x_var 0) (x_var 1)) x_int))
      (xs_one (xs_retL (x_list (xa_cons (x_op o_mul (x_cb c_abs T.z_abs (xa_cons (x_var 2) xa_nil)) (x_ct c_int T.z_int (xa_cons (x_cmp o_ge (x_cb c_abs T.z_abs (xa_cons (x_var 2) xa_nil)) (x_op o_pow x_int x_int) (nomark _)) xa_nil))) (xa_cons (x_op o_add (x_op o_add (x_op o_mod (x_var 2) x_int) (x_op o_mul x_int (x_var 1))) x_int) (xa_cons x_int xa_nil)))))))
theorem ok_law_draw (T : Txt mg) (D_law_draw : Df K mg "_law_draw" s_law_draw ["tape", "many"] f_law_draw fd_law_draw) : FnOk P w K mg base CX0 1 f_law_draw fd_law_draw ["tape", "many"] (spM K m_law_draw) :=
  ok_fn2 (g := g_law_draw) D_law_draw.F sc_law_draw rfl rfl (by decide) fun cdv A outer s H E hr =>
    (xs_cons (xs_if (xt_cmp o_gt (x_ixS 0 x_int) x_int (nomark _)) (xs_cons (xs_set (i := 2) sc_law_draw.nd (x_op o_mod (x_ixS 0 x_int) (x_var 1)))
      (xs_cons (xs_asg (x_op o_div (x_ixS 0 x_int) (x_var 1)) (xg_sub 0 x_int))
      (xs_one (xs_ret (x_var 2))))) xs_nil)
      (xs_cons (xs_asg (x_op o_add (x_ixS 0 x_int) x_int) (xg_sub 0 x_int))
      (xs_cons (xs_set (i := 3) sc_law_draw.nd (x_op o_mod (x_op o_pow (x_op o_add (x_ixS 0 x_int) (x_op o_mul x_int (x_ixS 0 x_int))) x_int) x_int))
      (xs_cons (xs_set (i := 4) sc_law_draw.nd (x_op o_mod (x_op o_mul (x_op o_add (x_var 3) (x_ixS 0 x_int)) (x_op o_add (x_op o_add (x_op o_mod (x_var 3) x_int) x_int) (x_ixS 0 x_int))) x_int))
      (xs_cons (xs_set (i := 5) sc_law_draw.nd (x_op o_mod (x_op o_add (x_op o_add (x_op o_div (x_ixS 0 x_int) x_int) (x_op o_mul (x_var 4) x_int)) (x_ixS 0 x_int)) x_int))
      (xs_one (xs_ret (x_op o_mod (x_op o_div (x_op o_mod (x_op o_add (x_op o_add (x_op o_mul (x_var 4) x_int) (x_op o_mul (x_var 5) x_int)) (x_var 3)) x_int) x_int) (x_var 1)))))))))
theorem ok_law_folded (T : Txt mg) (D_law_folded : Df K mg "_law_folded" s_law_folded ["script", "many"] f_law_folded fd_law_folded) : FnOk P w K mg base CX0 1 f_law_folded fd_law_folded ["script", "many"] (spM K m_law_folded) :=
  ok_fn2 (g := g_law_folded) D_law_folded.F sc_law_folded rfl rfl (by decide) fun cdv A outer s H E hr =>
    (xs_cons (xs_setN (i := 2) sc_law_folded.nd (x_ctN c_list T.z_list (xa_cons (x_frz (x_sliceS 0 xo_none (xo_some (x_var 1)))) xa_nil)))
      (xs_cons (xs_for PassesOwn.never rfl (xi_enum T.z_enumerate (xa_cons (x_frz (x_sliceS 0 (xo_some (x_var 1)) (xo_some x_int))) xa_nil)) (xg_tup rfl (xgs_cons (xg_name (i := 3) sc_law_folded.nd) (xgs_cons (xg_name (i := 4) sc_law_folded.nd) xgs_nil))) (xs_one (xs_asg (x_op o_add (x_ixS 2 (x_op o_mod (x_var 3) (x_var 1))) (x_op o_mul (x_var 4) (x_op o_add (x_var 3) x_int))) (xg_sub 2 (x_op o_mod (x_var 3) (x_var 1))))))
      (xs_one (xs_ret (x_var 2)))))
theorem ok_law_names (T : Txt mg) (D_law_names : Df K mg "_law_names" s_law_names ["tape", "many"] f_law_names fd_law_names) (D_law_draw : Df K mg "_law_draw" s_law_draw ["tape", "many"] f_law_draw fd_law_draw) (G_law_draw : FnOk P w K mg base CX0 1 f_law_draw fd_law_draw ["tape", "many"] (spM K m_law_draw)) : FnOk P w K mg base CX0 2 f_law_names fd_law_names ["tape", "many"] (spM K m_law_names) :=
  ok_fn2 (g := g_law_names) D_law_names.F sc_law_names rfl rfl (by decide) fun cdv A outer s H E hr =>
    (xs_cons (xs_asg (x_tup (xa_cons x_str (xa_cons (x_call G_law_draw (hr.mono (by decide)) D_law_draw.g D_law_draw.F.kp D_law_draw.b (xa_slot 0 (xa_cons x_int xa_nil))) xa_nil))) (xg_tup rfl (xgs_cons (xg_name (i := 2) sc_law_names.nd) (xgs_cons (xg_name (i := 3) sc_law_names.nd) xgs_nil))))
      (xs_cons (xs_set (i := 4) sc_law_names.nd (x_join x_str (x_frz (x_lc (own := [("k", 5)]) rfl sc_law_names.nd (xi_range1 T.z_range (xa_cons (x_call G_law_draw (hr.mono (by decide)) D_law_draw.g D_law_draw.F.kp D_law_draw.b (xa_slot 0 (xa_cons x_int xa_nil))) xa_nil)) (blkOk_by (own := [("k", 5)]) (N := N_law_names) (sc := defScope s_law_names) (by decide +kernel)) (fun _ _ _ _ _ => (xg_name (i := 5) sc_law_names.nd)) (fun _ _ _ _ _ => xts_nil) (fun _ _ _ _ _ => (x_ix o_ix (x_var 2) (x_call G_law_draw (hr.mono (by decide)) D_law_draw.g D_law_draw.F.kp D_law_draw.b (xa_slot 0 (xa_cons x_int xa_nil)))))))))
      (xs_cons (xs_par3 rfl sc_law_names.nd (xa_cons (x_call G_law_draw (hr.mono (by decide)) D_law_draw.g D_law_draw.F.kp D_law_draw.b (xa_slot 0 (xa_cons (x_op o_add (x_lenS 4 T.z_len) x_int) xa_nil))) (xa_cons (x_ix o_ix (x_frz (x_list (xa_cons x_int (xa_cons x_int (xa_cons x_int xa_nil))))) (x_call G_law_draw (hr.mono (by decide)) D_law_draw.g D_law_draw.F.kp D_law_draw.b (xa_slot 0 (xa_cons x_int xa_nil)))) (xa_new (x_list xa_nil) xa_nil))))
      (xs_cons (xs_par rfl sc_law_names.nd (xa_cons (x_slice (x_var 4) xo_none (xo_some (x_var 6))) (xa_cons (x_slice (x_var 4) (xo_some (x_var 6)) xo_none) xa_nil)))
      (xs_cons (xs_for PassesOwn.never rfl (xi_range1 T.z_range (xa_cons (x_var 1) xa_nil)) (xg_name (i := 5) sc_law_names.nd) (xs_cons (xs_set (i := 11) sc_law_names.nd (x_op o_mul (x_op o_mod (x_op o_add (x_op o_add (x_var 3) (x_var 6)) (x_lenS 4 T.z_len)) x_int) (x_ct c_int T.z_int (xa_cons (x_cmp (o_ne hr.units) (x_var 10) x_str (nomark _)) xa_nil))))
      (xs_cons (xs_set (i := 12) sc_law_names.nd (x_ix o_ix (x_var 2) (x_op o_mod (x_op o_add (x_var 3) (x_op o_mul (x_var 7) (x_ix o_ix (x_frz (x_list (xa_cons (x_var 5) (xa_cons (x_op o_div (x_var 5) x_int) (xa_cons (x_var 5) xa_nil))))) (x_var 11)))) x_int)))
      (xs_one (xs_expr (x_append 8 (x_op o_add (x_op o_add (x_var 9) (x_var 12)) (x_ix o_ix (x_frz (x_list (xa_cons (x_var 10) (xa_cons (x_op o_mul (x_var 10) (x_op o_mod (x_var 5) x_int)) (xa_cons (x_slice (x_var 10) xo_none (xo_some (x_op o_mod (x_var 5) (x_op o_add (x_lenS 10 T.z_len) x_int)))) xa_nil))))) (x_var 11)))))))))
      (xs_one (xs_ret (x_var 8))))))))
theorem ok_law_part (T : Txt mg) (D_law_part : Df K mg "_law_part" s_law_part ["tape", "some", "many"] f_law_part fd_law_part) (D_law_draw : Df K mg "_law_draw" s_law_draw ["tape", "many"] f_law_draw fd_law_draw) (G_law_draw : FnOk P w K mg base CX0 1 f_law_draw fd_law_draw ["tape", "many"] (spM K m_law_draw)) : FnOk P w K mg base CX0 2 f_law_part fd_law_part ["tape", "some", "many"] (spM K m_law_part) :=
  ok_fn2 (g := g_law_part) D_law_part.F sc_law_part rfl rfl (by decide) fun cdv A outer s H E hr =>
    (xs_cons (xs_setN (i := 3) sc_law_part.nd (x_ctN c_list T.z_list (xa_cons (x_var 1) xa_nil)))
      (xs_one (xs_ret (x_frz (x_lc (own := [("k", 4)]) rfl sc_law_part.nd (xi_range1 T.z_range (xa_cons (x_var 2) xa_nil)) (blkOk_by (own := [("k", 4)]) (N := N_law_part) (sc := defScope s_law_part) (by decide +kernel)) (fun _ _ _ _ _ => (xg_name (i := 4) sc_law_part.nd)) (fun _ _ _ _ _ => xts_nil) (fun _ _ _ _ _ => (x_popAt 3 (x_call G_law_draw (hr.mono (by decide)) D_law_draw.g D_law_draw.F.kp D_law_draw.b (xa_slot 0 (xa_cons (x_lenS 3 T.z_len) xa_nil))))))))))
theorem ok_law_is_number (T : Txt mg) (D_law_is_number : Df K mg "_law_is_number" s_law_is_number ["a_thing"] f_law_is_number fd_law_is_number) : FnOk P w K mg base CX0 1 f_law_is_number fd_law_is_number ["a_thing"] (spM K m_law_is_number) :=
  ok_fn2 (g := g_law_is_number) D_law_is_number.F sc_law_is_number rfl rfl (by decide) fun cdv A outer s H E hr =>
    (xs_one (xs_ret (x_and (x_isi kit_int T.z_isinstance T.z_int (x_var 0)) (x_one (x_not (x_isi kit_bool T.z_isinstance T.z_bool (x_var 0)))))))
theorem ok_law_leaf (T : Txt mg) (D_law_leaf : Df K mg "_law_leaf" s_law_leaf ["tape", "a_thing"] f_law_leaf fd_law_leaf) (D_law_draw : Df K mg "_law_draw" s_law_draw ["tape", "many"] f_law_draw fd_law_draw) (G_law_draw : FnOk P w K mg base CX0 1 f_law_draw fd_law_draw ["tape", "many"] (spM K m_law_draw)) (D_law_is_number : Df K mg "_law_is_number" s_law_is_number ["a_thing"] f_law_is_number fd_law_is_number) (G_law_is_number : FnOk P w K mg base CX0 1 f_law_is_number fd_law_is_number ["a_thing"] (spM K m_law_is_number)) : FnOk P w K mg base CX0 2 f_law_leaf fd_law_leaf ["tape", "a_thing"] (spM K m_law_leaf) :=
  ok_fn2 (g := g_law_leaf) D_law_leaf.F sc_law_leaf rfl rfl (by decide) fun cdv A outer s H E hr =>
    (xs_cons (xs_set (i := 2) sc_law_leaf.nd (x_call G_law_draw (hr.mono (by decide)) D_law_draw.g D_law_draw.F.kp D_law_draw.b (xa_slot 0 (xa_cons x_int xa_nil))))
      (xs_cons (xs_if (xt_cmp (o_eq hr.units) (x_var 2) x_int (nomark _)) (xs_one (xs_ret (x_ix o_ix (x_frz (x_list (xa_cons x_non (xa_cons x_bl (xa_cons x_str (xa_cons x_str (xa_cons (x_tup xa_nil) (xa_cons (x_frz (x_list xa_nil)) (xa_cons (x_tup (xa_cons x_int xa_nil)) (xa_cons (x_frz (x_list (xa_cons x_int xa_nil))) (xa_cons (x_un o_neg x_int) (xa_cons x_bl xa_nil)))))))))))) (x_call G_law_draw (hr.mono (by decide)) D_law_draw.g D_law_draw.F.kp D_law_draw.b (xa_slot 0 (xa_cons x_int xa_nil)))))) xs_nil)
      (xs_cons (xs_if (xt_val (x_call G_law_is_number (hr.mono (by decide)) D_law_is_number.g D_law_is_number.F.kp D_law_is_number.b (xa_cons (x_var 1) xa_nil))) (xs_one (xs_ret (x_ix o_ix (x_frz (x_list (xa_cons (x_op o_add (x_var 1) x_int) (xa_cons (x_op o_sub (x_var 1) x_int) (xa_cons (x_cmp (o_eq hr.units) (x_var 1) x_int (nomark _)) (xa_cons (x_ct c_str T.z_str (xa_cons (x_var 1) xa_nil)) (xa_cons x_int (xa_cons (x_un o_neg (x_var 1)) (xa_cons (x_op o_add (x_var 1) (x_op o_pow x_int x_int)) xa_nil))))))))) (x_op o_sub (x_var 2) x_int)))) xs_nil)
      (xs_cons (xs_if (xt_val (x_isi kit_str T.z_isinstance T.z_str (x_var 1))) (xs_one (xs_ret (x_ix o_ix (x_frz (x_list (xa_cons (x_op o_add (x_var 1) x_str) (xa_cons (x_slice (x_var 1) (xo_some x_int) xo_none) (xa_cons (x_op o_add x_str (x_var 1)) (xa_cons (x_upper (x_var 1)) (xa_cons (x_frz (x_list (xa_cons (x_var 1) xa_nil))) (xa_cons x_non (xa_cons x_str xa_nil))))))))) (x_op o_sub (x_var 2) x_int)))) xs_nil)
      (xs_one (xs_ret (x_ix o_ix (x_frz (x_list (xa_cons x_int (xa_cons x_int (xa_cons x_non (xa_cons x_bl (xa_cons (x_tup (xa_cons x_int (xa_cons x_int xa_nil))) (xa_cons (x_tup xa_nil) (xa_cons (x_frz (x_list xa_nil)) xa_nil))))))))) (x_op o_sub (x_var 2) x_int))))))))
theorem ok_law_row_bent (T : Txt mg) (D_law_row_bent : Df K mg "_law_row_bent" s_law_row_bent ["tape", "a_thing"] f_law_row_bent fd_law_row_bent) (D_law_draw : Df K mg "_law_draw" s_law_draw ["tape", "many"] f_law_draw fd_law_draw) (G_law_draw : FnOk P w K mg base CX0 1 f_law_draw fd_law_draw ["tape", "many"] (spM K m_law_draw)) : FnOk P w K mg base CX0 2 f_law_row_bent fd_law_row_bent ["tape", "a_thing"] (spM K m_law_row_bent) :=
  ok_fn2 (g := g_law_row_bent) D_law_row_bent.F sc_law_row_bent rfl rfl (by decide) fun cdv A outer s H E hr =>
    (xs_cons (xs_par rfl sc_law_row_bent.nd (xa_cons (x_call G_law_draw (hr.mono (by decide)) D_law_draw.g D_law_draw.F.kp D_law_draw.b (xa_slot 0 (xa_cons (x_op o_add (x_lenS 1 T.z_len) x_int) xa_nil))) (xa_cons (x_call G_law_draw (hr.mono (by decide)) D_law_draw.g D_law_draw.F.kp D_law_draw.b (xa_slot 0 (xa_cons x_int xa_nil))) xa_nil)))
      (xs_cons (xs_par rfl sc_law_row_bent.nd (xa_cons (x_slice (x_var 1) xo_none (xo_some (x_var 2))) (xa_cons (x_slice (x_var 1) (xo_some (x_var 2)) (xo_some (x_op o_add (x_var 2) x_int))) xa_nil)))
      (xs_cons (xs_set (i := 6) sc_law_row_bent.nd (x_slice (x_var 1) (xo_some (x_op o_add (x_var 2) x_int)) xo_none))
      (xs_cons (xs_if (xt_cmp (o_eq hr.units) (x_var 3) x_int (nomark _)) (xs_one (xs_ret (x_if (xt_val (x_isi kit_tuple T.z_isinstance T.z_tuple (x_var 1))) (x_frz (x_ctN c_list T.z_list (xa_cons (x_var 1) xa_nil))) (x_ct c_tuple T.z_tuple (xa_cons (x_var 1) xa_nil))))) xs_nil)
      (xs_cons (xs_if (xt_cmp (o_eq hr.units) (x_var 3) x_int (nomark _)) (xs_cons (xs_set (i := 7) sc_law_row_bent.nd (x_ix o_ix (x_frz (x_list (xa_cons x_int (xa_cons x_int (xa_cons (x_un o_neg x_int) (xa_cons x_non (xa_cons (x_tup (xa_cons x_int (xa_cons x_int xa_nil))) (xa_cons (x_frz (x_list xa_nil)) (xa_cons (x_tup (xa_cons x_int (xa_cons x_int (xa_cons x_int xa_nil)))) xa_nil))))))))) (x_call G_law_draw (hr.mono (by decide)) D_law_draw.g D_law_draw.F.kp D_law_draw.b (xa_slot 0 (xa_cons x_int xa_nil)))))
      (xs_cons (xs_set (i := 8) sc_law_row_bent.nd (x_if (xt_val (x_isi kit_tuple T.z_isinstance T.z_tuple (x_var 1))) (x_tup (xa_cons (x_var 7) xa_nil)) (x_frz (x_list (xa_cons (x_var 7) xa_nil)))))
      (xs_one (xs_ret (x_op o_add (x_op o_add (x_op o_add (x_var 4) (x_var 8)) (x_var 5)) (x_var 6)))))) xs_nil)
      (xs_cons (xs_if (xt_cmp (o_eq hr.units) (x_var 3) x_int (nomark _)) (xs_one (xs_ret (x_op o_add (x_op o_add (x_op o_add (x_var 4) (x_var 5)) (x_var 5)) (x_var 6)))) xs_nil)
      (xs_one (xs_ret (x_ix o_ix (x_frz (x_list (xa_cons (x_op o_add (x_var 4) (x_var 6)) (xa_cons (x_var 4) (xa_cons (x_op o_add (x_op o_add (x_op o_add (x_var 4) (x_slice (x_var 6) xo_none (xo_some x_int))) (x_var 5)) (x_slice (x_var 6) (xo_some x_int) xo_none)) (xa_cons (x_var 4) xa_nil)))))) (x_var 3))))))))))
theorem ok_law_bent_at (T : Txt mg) (D_law_bent : Df K mg "_law_bent" s_law_bent ["tape", "a_thing", "deep"] f_law_bent fd_law_bent) (D_law_leaf : Df K mg "_law_leaf" s_law_leaf ["tape", "a_thing"] f_law_leaf fd_law_leaf) (G_law_leaf : FnOk P w K mg base CX0 2 f_law_leaf fd_law_leaf ["tape", "a_thing"] (spM K m_law_leaf)) (D_law_row_bent : Df K mg "_law_row_bent" s_law_row_bent ["tape", "a_thing"] f_law_row_bent fd_law_row_bent) (G_law_row_bent : FnOk P w K mg base CX0 2 f_law_row_bent fd_law_row_bent ["tape", "a_thing"] (spM K m_law_row_bent)) (D_law_draw : Df K mg "_law_draw" s_law_draw ["tape", "many"] f_law_draw fd_law_draw) (G_law_draw : FnOk P w K mg base CX0 1 f_law_draw fd_law_draw ["tape", "many"] (spM K m_law_draw)) : ∀ n : Nat, FnOk P w K mg base CX0 (2 + n) f_law_bent fd_law_bent ["tape", "a_thing", "deep"] (spM K (m_law_bent n))
  | 0 => fn_none
  | n + 1 => by
    have G_rec := ok_law_bent_at T D_law_bent D_law_leaf G_law_leaf D_law_row_bent G_law_row_bent D_law_draw G_law_draw n
    refine ok_fn2 (k := 2 + n) (g := g_law_bent (m_law_bent n)) D_law_bent.F sc_law_bent rfl rfl (by decide) fun cdv A outer s H E hr => ?_
    exact (xs_cons (xs_if (xt_not (xt_val (x_isi2 kit_tuple kit_list T.z_isinstance T.z_tuple T.z_list (x_var 1)))) (xs_one (xs_ret (x_call G_law_leaf (hr.mono (by omega)) D_law_leaf.g D_law_leaf.F.kp D_law_leaf.b (xa_slot 0 (xa_cons (x_var 1) xa_nil))))) xs_nil)
      (xs_cons (xs_if (PW.pt (xw_or (xt_cmp (o_eq hr.units) (x_lenS 1 T.z_len) x_int (nomark _)) (xw_or (xt_cmp (o_eq hr.units) (x_var 2) x_int (nomark _)) (xw_or1 (xt_cmp (o_eq hr.units) (x_call G_law_draw (hr.mono (by omega)) D_law_draw.g D_law_draw.F.kp D_law_draw.b (xa_slot 0 (xa_cons x_int xa_nil))) x_int (nomark _)))))) (xs_one (xs_ret (x_call G_law_row_bent (hr.mono (by omega)) D_law_row_bent.g D_law_row_bent.F.kp D_law_row_bent.b (xa_slot 0 (xa_cons (x_var 1) xa_nil))))) xs_nil)
      (xs_cons (xs_set (i := 3) sc_law_bent.nd (x_if (xt_cmp (o_eq hr.units) (x_call G_law_draw (hr.mono (by omega)) D_law_draw.g D_law_draw.F.kp D_law_draw.b (xa_slot 0 (xa_cons x_int xa_nil))) x_int (nomark _)) (x_op o_sub (x_lenS 1 T.z_len) x_int) (x_call G_law_draw (hr.mono (by omega)) D_law_draw.g D_law_draw.F.kp D_law_draw.b (xa_slot 0 (xa_cons (x_lenS 1 T.z_len) xa_nil)))))
      (xs_cons (xs_set (i := 4) sc_law_bent.nd (x_call G_rec (hr.mono (by omega)) D_law_bent.g D_law_bent.F.kp D_law_bent.b (xa_slot 0 (xa_cons (x_ix o_ix (x_var 1) (x_var 3)) (xa_cons (x_op o_sub (x_var 2) x_int) xa_nil)))))
      (xs_one (xs_ret (x_op o_add (x_op o_add (x_slice (x_var 1) xo_none (xo_some (x_var 3))) (x_if (xt_val (x_isi kit_tuple T.z_isinstance T.z_tuple (x_var 1))) (x_tup (xa_cons (x_var 4) xa_nil)) (x_frz (x_list (xa_cons (x_var 4) xa_nil))))) (x_slice (x_var 1) (xo_some (x_op o_add (x_var 3) x_int)) xo_none))))))))
theorem ok_law_bent (T : Txt mg) (D_law_bent : Df K mg "_law_bent" s_law_bent ["tape", "a_thing", "deep"] f_law_bent fd_law_bent) (D_law_leaf : Df K mg "_law_leaf" s_law_leaf ["tape", "a_thing"] f_law_leaf fd_law_leaf) (G_law_leaf : FnOk P w K mg base CX0 2 f_law_leaf fd_law_leaf ["tape", "a_thing"] (spM K m_law_leaf)) (D_law_row_bent : Df K mg "_law_row_bent" s_law_row_bent ["tape", "a_thing"] f_law_row_bent fd_law_row_bent) (G_law_row_bent : FnOk P w K mg base CX0 2 f_law_row_bent fd_law_row_bent ["tape", "a_thing"] (spM K m_law_row_bent)) (D_law_draw : Df K mg "_law_draw" s_law_draw ["tape", "many"] f_law_draw fd_law_draw) (G_law_draw : FnOk P w K mg base CX0 1 f_law_draw fd_law_draw ["tape", "many"] (spM K m_law_draw)) : FnOk P w K mg base CX0 8 f_law_bent fd_law_bent ["tape", "a_thing", "deep"] (spM K (m_law_bent 6)) := ok_law_bent_at T D_law_bent D_law_leaf G_law_leaf D_law_row_bent G_law_row_bent D_law_draw G_law_draw 6
theorem ok_law_is_name (T : Txt mg) (D_law_is_name : Df K mg "_law_is_name" s_law_is_name ["a_thing"] f_law_is_name fd_law_is_name) : FnOk P w K mg base CX0 1 f_law_is_name fd_law_is_name ["a_thing"] (spM K m_law_is_name) :=
  ok_fn2 (g := g_law_is_name) D_law_is_name.F sc_law_is_name rfl rfl (by decide) fun cdv A outer s H E hr =>
    (xs_cons (xs_if (PW.pt (xw_or (xt_not (xt_val (x_isi kit_str T.z_isinstance T.z_str (x_var 0)))) (xw_or1 (xt_not (xt_chain o_le o_le x_int (x_lenS 0 T.z_len) x_int))))) (xs_one (xs_ret x_bl)) xs_nil)
      (xs_one (xs_ret (x_cb (c_all rfl) T.z_all (xa_cons (x_frz (x_lc (own := [("sign", 1)]) rfl sc_law_is_name.nd (xi_items (x_var 0)) (blkOk_by (own := [("sign", 1)]) (N := N_law_is_name) (sc := defScope s_law_is_name) (by decide +kernel)) (fun _ _ _ _ _ => (xg_name (i := 1) sc_law_is_name.nd)) (fun _ _ _ _ _ => xts_nil) (fun _ _ _ _ _ => (x_cmp (o_in (room70 hr)) (x_var 1) x_str rfl)))) xa_nil)))))
theorem ok_law_rise (T : Txt mg) (D_law_rise : Df K mg "_law_rise" s_law_rise ["names"] f_law_rise fd_law_rise) : FnOk P w K mg base CX0 1 f_law_rise fd_law_rise ["names"] (spM K m_law_rise) :=
  ok_fn2 (g := g_law_rise) D_law_rise.F sc_law_rise rfl rfl (by decide) fun cdv A outer s H E hr =>
    (xs_one (xs_ret (x_cb (c_all rfl) T.z_all (xa_cons (x_frz (x_lc (own := [("one", 1), ("two", 2)]) rfl sc_law_rise.nd (xi_zip T.z_zip (xa_cons (x_var 0) (xa_cons (x_slice (x_var 0) (xo_some x_int) xo_none) xa_nil))) (blkOk_by (own := [("one", 1), ("two", 2)]) (N := N_law_rise) (sc := defScope s_law_rise) (by decide +kernel)) (fun _ _ _ _ _ => (xg_tup rfl (xgs_cons (xg_name (i := 1) sc_law_rise.nd) (xgs_cons (xg_name (i := 2) sc_law_rise.nd) xgs_nil)))) (fun _ _ _ _ _ => xts_nil) (fun _ _ _ _ _ => (x_cmp o_lt (x_var 1) (x_var 2) (nomark _))))) xa_nil))))
theorem ok_law_is_way (T : Txt mg) (D_law_is_way : Df K mg "_law_is_way" s_law_is_way ["rest", "callers", "a_thing"] f_law_is_way fd_law_is_way) (D_law_is_number : Df K mg "_law_is_number" s_law_is_number ["a_thing"] f_law_is_number fd_law_is_number) (G_law_is_number : FnOk P w K mg base CX0 1 f_law_is_number fd_law_is_number ["a_thing"] (spM K m_law_is_number)) (D_law_is_name : Df K mg "_law_is_name" s_law_is_name ["a_thing"] f_law_is_name fd_law_is_name) (G_law_is_name : FnOk P w K mg base CX0 1 f_law_is_name fd_law_is_name ["a_thing"] (spM K m_law_is_name)) : FnOk P w K mg base CX0 2 f_law_is_way fd_law_is_way ["rest", "callers", "a_thing"] (spM K m_law_is_way) :=
  ok_fn2 (g := g_law_is_way) D_law_is_way.F sc_law_is_way rfl rfl (by decide) fun cdv A outer s H E hr =>
    (xs_cons (xs_if (PW.pt (xw_or (xt_not (xt_val (x_isi kit_tuple T.z_isinstance T.z_tuple (x_var 2)))) (xw_or (xt_cmp (o_ne hr.units) (x_lenS 2 T.z_len) x_int (nomark _)) (xw_or1 (xt_not (xt_val (x_call G_law_is_name (hr.mono (by decide)) D_law_is_name.g D_law_is_name.F.kp D_law_is_name.b (xa_cons (x_ix o_ix (x_var 2) x_int) xa_nil)))))))) (xs_one (xs_ret x_bl)) xs_nil)
      (xs_cons (xs_if (PW.pt (xw_or (xt_cmp (o_notIn (room70 hr)) (x_ix o_ix (x_var 2) x_int) (x_var 1) rfl) (xw_or (xt_cmp (o_notIn (room70 hr)) (x_ix o_ix (x_var 2) x_int) (x_var 1) rfl) (xw_or1 (xt_cmp o_ge (x_ix o_ix (x_var 2) x_int) (x_ix o_ix (x_var 2) x_int) (nomark _)))))) (xs_one (xs_ret x_bl)) xs_nil)
      (xs_one (xs_ret (x_and (x_call G_law_is_number (hr.mono (by decide)) D_law_is_number.g D_law_is_number.F.kp D_law_is_number.b (xa_cons (x_ix o_ix (x_var 2) x_int) xa_nil)) (x_and (x_chain o_le o_le x_int (x_ix o_ix (x_var 2) x_int) x_int) (x_one (x_cmp o_le (x_op o_add (x_op o_mul x_int (x_ix o_ix (x_var 2) x_int)) x_int) (x_var 0) (nomark _)))))))))
theorem ok_law_due (T : Txt mg) (D_law_due : Df K mg "_law_due" s_law_due ["a_thing"] f_law_due fd_law_due) (D_law_rise : Df K mg "_law_rise" s_law_rise ["names"] f_law_rise fd_law_rise) (G_law_rise : FnOk P w K mg base CX0 1 f_law_rise fd_law_rise ["names"] (spM K m_law_rise)) (D_law_is_number : Df K mg "_law_is_number" s_law_is_number ["a_thing"] f_law_is_number fd_law_is_number) (G_law_is_number : FnOk P w K mg base CX0 1 f_law_is_number fd_law_is_number ["a_thing"] (spM K m_law_is_number)) (D_law_is_way : Df K mg "_law_is_way" s_law_is_way ["rest", "callers", "a_thing"] f_law_is_way fd_law_is_way) (G_law_is_way : FnOk P w K mg base CX0 2 f_law_is_way fd_law_is_way ["rest", "callers", "a_thing"] (spM K m_law_is_way)) (D_law_is_name : Df K mg "_law_is_name" s_law_is_name ["a_thing"] f_law_is_name fd_law_is_name) (G_law_is_name : FnOk P w K mg base CX0 1 f_law_is_name fd_law_is_name ["a_thing"] (spM K m_law_is_name)) : FnOk P w K mg base CX0 3 f_law_due fd_law_due ["a_thing"] (spM K m_law_due) :=
  ok_fn2 (g := g_law_due) D_law_due.F sc_law_due rfl rfl (by decide) fun cdv A outer s H E hr =>
    (xs_cons (xs_if (PW.pt (xw_or (xt_not (xt_val (x_isi kit_tuple T.z_isinstance T.z_tuple (x_var 0)))) (xw_or1 (xt_cmp (o_ne hr.units) (x_lenS 0 T.z_len) x_int (nomark _))))) (xs_one (xs_ret x_bl)) xs_nil)
      (xs_cons (xs_asg (x_var 0) (xg_tup rfl (xgs_cons (xg_name (i := 1) sc_law_due.nd) (xgs_cons (xg_name (i := 2) sc_law_due.nd) (xgs_cons (xg_name (i := 3) sc_law_due.nd) xgs_nil)))))
      (xs_cons (xs_if (PW.pt (xw_or (xt_not (xt_val (x_call G_law_is_number (hr.mono (by decide)) D_law_is_number.g D_law_is_number.F.kp D_law_is_number.b (xa_cons (x_var 1) xa_nil)))) (xw_or1 (xt_not (xt_chain o_le o_le x_int (x_var 1) x_int))))) (xs_one (xs_ret x_bl)) xs_nil)
      (xs_cons (xs_if (PW.pt (xw_or (xt_not (xt_val (x_isi kit_tuple T.z_isinstance T.z_tuple (x_var 2)))) (xw_or (xt_not (xt_chain o_le o_le x_int (x_lenS 2 T.z_len) x_int)) (xw_or1 (xt_not (xt_val (x_cb (c_all rfl) T.z_all (xa_cons (x_frz (x_lc (own := [("one", 4)]) rfl sc_law_due.nd (xi_items (x_var 2)) (blkOk_by (own := [("one", 4)]) (N := N_law_due) (sc := defScope s_law_due) (by decide +kernel)) (fun _ _ _ _ _ => (xg_name (i := 4) sc_law_due.nd)) (fun _ _ _ _ _ => xts_nil) (fun _ _ _ _ _ => (x_call G_law_is_name (hr.mono (by decide)) D_law_is_name.g D_law_is_name.F.kp D_law_is_name.b (xa_cons (x_var 4) xa_nil))))) xa_nil)))))))) (xs_one (xs_ret x_bl)) xs_nil)
      (xs_cons (xs_if (PW.pt (xw_or (xt_not (xt_val (x_isi kit_tuple T.z_isinstance T.z_tuple (x_var 3)))) (xw_or (xt_cmp o_gt (x_lenS 3 T.z_len) x_int (nomark _)) (xw_or1 (xt_not (xt_val (x_call G_law_rise (hr.mono (by decide)) D_law_rise.g D_law_rise.F.kp D_law_rise.b (xa_cons (x_var 2) xa_nil)))))))) (xs_one (xs_ret x_bl)) xs_nil)
      (xs_one (xs_ret (x_and (x_cb (c_all rfl) T.z_all (xa_cons (x_frz (x_lc (own := [("one", 4)]) rfl sc_law_due.nd (xi_items (x_var 3)) (blkOk_by (own := [("one", 4)]) (N := N_law_due) (sc := defScope s_law_due) (by decide +kernel)) (fun _ _ _ _ _ => (xg_name (i := 4) sc_law_due.nd)) (fun _ _ _ _ _ => xts_nil) (fun _ _ _ _ _ => (x_call G_law_is_way (hr.mono (by decide)) D_law_is_way.g D_law_is_way.F.kp D_law_is_way.b (xa_cons (x_var 1) (xa_cons (x_var 2) (xa_cons (x_var 4) xa_nil))))))) xa_nil)) (x_one (x_call G_law_rise (hr.mono (by decide)) D_law_rise.g D_law_rise.F.kp D_law_rise.b (xa_cons (x_frz (x_lc (own := [("one", 4)]) rfl sc_law_due.nd (xi_items (x_var 3)) (blkOk_by (own := [("one", 4)]) (N := N_law_due) (sc := defScope s_law_due) (by decide +kernel)) (fun _ _ _ _ _ => (xg_name (i := 4) sc_law_due.nd)) (fun _ _ _ _ _ => xts_nil) (fun _ _ _ _ _ => (x_ix o_ix (x_var 4) x_int)))) xa_nil)))))))))))
theorem ok_law_plan (T : Txt mg) (D_law_plan : Df K mg "_law_plan" s_law_plan ["tape"] f_law_plan fd_law_plan) (D_law_names : Df K mg "_law_names" s_law_names ["tape", "many"] f_law_names fd_law_names) (G_law_names : FnOk P w K mg base CX0 2 f_law_names fd_law_names ["tape", "many"] (spM K m_law_names)) (D_law_draw : Df K mg "_law_draw" s_law_draw ["tape", "many"] f_law_draw fd_law_draw) (G_law_draw : FnOk P w K mg base CX0 1 f_law_draw fd_law_draw ["tape", "many"] (spM K m_law_draw)) (D_law_part : Df K mg "_law_part" s_law_part ["tape", "some", "many"] f_law_part fd_law_part) (G_law_part : FnOk P w K mg base CX0 2 f_law_part fd_law_part ["tape", "some", "many"] (spM K m_law_part)) : FnOk P w K mg base CX0 3 f_law_plan fd_law_plan ["tape"] (spM K m_law_plan) :=
  ok_fn2 (g := g_law_plan) D_law_plan.F sc_law_plan rfl rfl (by decide) fun cdv A outer s H E hr =>
    (xs_cons (xs_par rfl sc_law_plan.nd (xa_cons (x_ix o_ix (x_frz (x_list (xa_cons (x_op o_add x_int (x_call G_law_draw (hr.mono (by decide)) D_law_draw.g D_law_draw.F.kp D_law_draw.b (xa_slot 0 (xa_cons x_int xa_nil)))) (xa_cons x_int (xa_cons x_int (xa_cons x_int xa_nil)))))) (x_call G_law_draw (hr.mono (by decide)) D_law_draw.g D_law_draw.F.kp D_law_draw.b (xa_slot 0 (xa_cons x_int xa_nil)))) (xa_cons (x_call G_law_names (hr.mono (by decide)) D_law_names.g D_law_names.F.kp D_law_names.b (xa_slot 0 (xa_cons x_int xa_nil))) xa_nil)))
      (xs_cons (xs_set (i := 3) sc_law_plan.nd (x_ix o_ix (x_frz (x_list (xa_cons (x_op o_add x_int (x_call G_law_draw (hr.mono (by decide)) D_law_draw.g D_law_draw.F.kp D_law_draw.b (xa_slot 0 (xa_cons x_int xa_nil)))) (xa_cons x_int (xa_cons x_int (xa_cons x_int (xa_cons x_int (xa_cons x_int xa_nil)))))))) (x_call G_law_draw (hr.mono (by decide)) D_law_draw.g D_law_draw.F.kp D_law_draw.b (xa_slot 0 (xa_cons x_int xa_nil)))))
      (xs_cons (xs_par rfl sc_law_plan.nd (xa_new (x_cbN c_sorted T.z_sorted (xa_cons (x_slice (x_var 2) xo_none (xo_some (x_var 1))) xa_nil)) (xa_new (x_list xa_nil) xa_nil)))
      (xs_cons (xs_set (i := 6) sc_law_plan.nd (x_op o_add (x_cb (c_min2 rfl) T.z_min (xa_cons x_int (xa_cons (x_cb (c_max2 rfl) T.z_max (xa_cons x_int (xa_cons (x_op o_div (x_op o_sub (x_var 3) x_int) x_int) xa_nil))) xa_nil))) (x_ct c_int T.z_int (xa_cons (x_cmp (o_eq hr.units) (x_call G_law_draw (hr.mono (by decide)) D_law_draw.g D_law_draw.F.kp D_law_draw.b (xa_slot 0 (xa_cons x_int xa_nil))) x_int (nomark _)) xa_nil))))
      (xs_cons (xs_for PassesOwn.never rfl (xi_items (x_frz (x_cbN c_sorted T.z_sorted (xa_cons (x_slice (x_var 2) (xo_some x_int) (xo_some (x_op o_add x_int (x_ix o_ix (x_frz (x_list (xa_cons (x_call G_law_draw (hr.mono (by decide)) D_law_draw.g D_law_draw.F.kp D_law_draw.b (xa_slot 0 (xa_cons x_int xa_nil))) (xa_cons x_int (xa_cons x_int (xa_cons x_int xa_nil)))))) (x_call G_law_draw (hr.mono (by decide)) D_law_draw.g D_law_draw.F.kp D_law_draw.b (xa_slot 0 (xa_cons x_int xa_nil))))))) xa_nil)))) (xg_name (i := 7) sc_law_plan.nd) (xs_one (xs_if (xt_cmp o_gt (x_var 1) x_int (nomark _)) (xs_cons (xs_setN (i := 8) sc_law_plan.nd (x_cbN c_sorted T.z_sorted (xa_cons (x_call G_law_part (hr.mono (by decide)) D_law_part.g D_law_part.F.kp D_law_part.b (xa_slot 0 (xa_cons (x_var 4) (xa_cons x_int xa_nil)))) xa_nil)))
      (xs_one (xs_expr (x_append 5 (x_tup (xa_cons (x_var 7) (xa_cons (x_ix o_ix (x_var 8) x_int) (xa_cons (x_ix o_ix (x_var 8) x_int) (xa_cons (x_ix o_ix (x_frz (x_list (xa_cons (x_op o_add x_int (x_call G_law_draw (hr.mono (by decide)) D_law_draw.g D_law_draw.F.kp D_law_draw.b (xa_slot 0 (xa_cons (x_var 6) xa_nil)))) (xa_cons (x_var 6) xa_nil)))) (x_call G_law_draw (hr.mono (by decide)) D_law_draw.g D_law_draw.F.kp D_law_draw.b (xa_slot 0 (xa_cons x_int xa_nil)))) xa_nil))))))))) xs_nil)))
      (xs_one (xs_ret (x_tup (xa_cons (x_var 3) (xa_cons (x_ct c_tuple T.z_tuple (xa_cons (x_var 4) xa_nil)) (xa_cons (x_ct c_tuple T.z_tuple (xa_cons (x_var 5) xa_nil)) xa_nil)))))))))))
theorem ok_law_right (T : Txt mg) (D_law_right : Df K mg "_law_right" s_law_right ["a_thing"] f_law_right fd_law_right) (D_law_due : Df K mg "_law_due" s_law_due ["a_thing"] f_law_due fd_law_due) (G_law_due : FnOk P w K mg base CX0 3 f_law_due fd_law_due ["a_thing"] (spM K m_law_due)) (D_is_plan : Df K mg "is_plan" s_is_plan ["thing"] f_is_plan fd_is_plan) (G_is_plan : FnOk P w K mg base CX0 4 f_is_plan fd_is_plan ["thing"] (spM K m_is_plan)) (kb_is_plan : ∀ (s : Shared) (ws : List Value), ws.length = 1 → BindsTo s fd_is_plan ⟨[], List.zip ["thing"] ws⟩ (List.zip ["thing"] ws)) : FnG P w K mg base 5 f_law_right fd_law_right ["a_thing"] (spM K m_law_right) :=
  ok_fnG2 (g := g_law_right) D_law_right.F sc_law_right rfl rfl (by decide) fun cdv A outer s H E hr hgd =>
    (xs_cons (xs_asg (x_tup (xa_cons (x_cb (c_repr hgd (room70 hr)) T.z_repr (xa_cons (x_var 0) xa_nil)) (xa_cons (x_call G_law_due (hr.mono (by decide)) D_law_due.g D_law_due.F.kp D_law_due.b (xa_cons (x_var 0) xa_nil)) xa_nil))) (xg_tup rfl (xgs_cons (xg_name (i := 1) sc_law_right.nd) (xgs_cons (xg_name (i := 2) sc_law_right.nd) xgs_nil))))
      (xs_cons (xs_setN (i := 3) sc_law_right.nd (x_list (xa_cons (x_call G_is_plan (hr.mono (by decide)) D_is_plan.g D_is_plan.F.kp D_is_plan.b (xa_cons (x_var 0) xa_nil)) (xa_cons (x_callK0 G_is_plan (hr.mono (by decide)) D_is_plan.g D_is_plan.F.kp kb_is_plan (xk_cons (x_var 0) xk_nil)) xa_nil))))
      (xs_one (xs_ret (x_and (x_cb (c_all rfl) T.z_all (xa_cons (x_frz (x_lc (own := [("one", 4)]) rfl sc_law_right.nd (xi_items (x_var 3)) (blkOk_by (own := [("one", 4)]) (N := N_law_right) (sc := defScope s_law_right) (by decide +kernel)) (fun _ _ _ _ _ => (xg_name (i := 4) sc_law_right.nd)) (fun _ _ _ _ _ => xts_nil) (fun _ _ _ _ _ => (x_and (x_isi kit_bool T.z_isinstance T.z_bool (x_var 4)) (x_one (x_cmp (o_eq hr.units) (x_var 4) (x_var 2) (nomark _))))))) xa_nil)) (x_one (x_cmp (o_eq hr.units) (x_cb (c_repr hgd (room70 hr)) T.z_repr (xa_cons (x_var 0) xa_nil)) (x_var 1) (nomark _))))))))
theorem ok_law (T : Txt mg) (D_law : Df K mg "law" s_law ["script"] f_law fd_law) (D_law_folded : Df K mg "_law_folded" s_law_folded ["script", "many"] f_law_folded fd_law_folded) (G_law_folded : FnOk P w K mg base CX0 1 f_law_folded fd_law_folded ["script", "many"] (spM K m_law_folded)) (D_law_tape : Df K mg "_law_tape" s_law_tape ["script", "k"] f_law_tape fd_law_tape) (G_law_tape : FnOk P w K mg base CX0 1 f_law_tape fd_law_tape ["script", "k"] (spN K m_law_tape)) (D_law_plan : Df K mg "_law_plan" s_law_plan ["tape"] f_law_plan fd_law_plan) (G_law_plan : FnOk P w K mg base CX0 3 f_law_plan fd_law_plan ["tape"] (spM K m_law_plan)) (D_law_bent : Df K mg "_law_bent" s_law_bent ["tape", "a_thing", "deep"] f_law_bent fd_law_bent) (G_law_bent : FnOk P w K mg base CX0 8 f_law_bent fd_law_bent ["tape", "a_thing", "deep"] (spM K (m_law_bent 6))) (D_law_right : Df K mg "_law_right" s_law_right ["a_thing"] f_law_right fd_law_right) (G_law_right : FnG P w K mg base 5 f_law_right fd_law_right ["a_thing"] (spM K m_law_right)) (D_law_draw : Df K mg "_law_draw" s_law_draw ["tape", "many"] f_law_draw fd_law_draw) (G_law_draw : FnOk P w K mg base CX0 1 f_law_draw fd_law_draw ["tape", "many"] (spM K m_law_draw)) : FnG P w K mg base 9 f_law fd_law ["script"] (spM K m_law) :=
  ok_fnG2 (g := g_law) D_law.F sc_law rfl rfl (by decide) fun cdv A outer s H E hr hgd =>
    (xs_cons (xs_set (i := 1) sc_law.nd (x_call G_law_folded (hr.mono (by decide)) D_law_folded.g D_law_folded.F.kp D_law_folded.b (xa_slot 0 (xa_cons x_int xa_nil))))
      (xs_cons (xs_for PassesOwn.never rfl (xi_range1 T.z_range (xa_cons (x_cb (c_max2 rfl) T.z_max (xa_cons x_int (xa_cons (x_lenS 1 T.z_len) xa_nil))) xa_nil)) (xg_name (i := 2) sc_law.nd) (xs_cons (xs_setN (i := 3) sc_law.nd (x_callN G_law_tape (hr.mono (by decide)) D_law_tape.g D_law_tape.F.kp D_law_tape.b (xa_cons (x_var 1) (xa_cons (x_var 2) xa_nil))))
      (xs_cons (xs_for PassesOwn.never rfl (xi_range1 T.z_range (xa_cons x_int xa_nil)) (xg_name (i := 4) sc_law.nd) (xs_cons (xs_set (i := 5) sc_law.nd (x_call G_law_plan (hr.mono (by decide)) D_law_plan.g D_law_plan.F.kp D_law_plan.b (xa_slot 3 xa_nil)))
      (xs_cons (xs_if (PW.pt (xw_or (xt_not (xt_val (x_callG G_law_right (hr.mono (by decide)) hgd D_law_right.g D_law_right.F.kp D_law_right.b (xa_cons (x_var 5) xa_nil)))) (xw_or1 (xt_not (xt_val (x_callG G_law_right (hr.mono (by decide)) hgd D_law_right.g D_law_right.F.kp D_law_right.b (xa_cons (x_frz (x_ctN c_list T.z_list (xa_cons (x_var 5) xa_nil))) xa_nil))))))) (xs_one (xs_ret x_bl)) xs_nil)
      (xs_one (xs_for PassesOwn.never rfl (xi_range1 T.z_range (xa_cons x_int xa_nil)) (xg_name (i := 6) sc_law.nd) (xs_cons (xs_set (i := 7) sc_law.nd (x_call G_law_bent (hr.mono (by decide)) D_law_bent.g D_law_bent.F.kp D_law_bent.b (xa_slot 3 (xa_cons (x_var 5) (xa_cons x_int xa_nil)))))
      (xs_cons (xs_set (i := 7) sc_law.nd (x_if (xt_cmp (o_eq hr.units) (x_call G_law_draw (hr.mono (by decide)) D_law_draw.g D_law_draw.F.kp D_law_draw.b (xa_slot 3 (xa_cons x_int xa_nil))) x_int (nomark _)) (x_call G_law_bent (hr.mono (by decide)) D_law_bent.g D_law_bent.F.kp D_law_bent.b (xa_slot 3 (xa_cons (x_var 7) (xa_cons x_int xa_nil)))) (x_var 7)))
      (xs_one (xs_if (xt_not (xt_val (x_callG G_law_right (hr.mono (by decide)) hgd D_law_right.g D_law_right.F.kp D_law_right.b (xa_cons (x_var 7) xa_nil)))) (xs_one (xs_ret x_bl)) xs_nil)))))))))
      (xs_cons (xs_setN (i := 8) sc_law.nd (x_list (xa_cons x_non (xa_cons x_bl (xa_cons x_str (xa_cons x_int (xa_cons (x_tup xa_nil) (xa_cons (x_frz (x_list xa_nil)) (xa_cons (x_tup (xa_cons x_int (xa_cons (x_tup (xa_cons x_str xa_nil)) (xa_cons (x_tup xa_nil) xa_nil)))) (xa_cons (x_tup (xa_cons x_int (xa_cons (x_tup xa_nil) (xa_cons (x_tup xa_nil) xa_nil)))) (xa_cons (x_tup (xa_cons x_int (xa_cons (x_tup (xa_cons x_str (xa_cons x_str xa_nil))) (xa_cons (x_tup xa_nil) xa_nil)))) (xa_cons (x_tup (xa_cons x_bl (xa_cons (x_tup (xa_cons x_str xa_nil)) (xa_cons (x_tup xa_nil) xa_nil)))) xa_nil))))))))))))
      (xs_one (xs_for PassesOwn.never rfl (xi_items (x_var 8)) (xg_name (i := 7) sc_law.nd) (xs_one (xs_if (xt_not (xt_val (x_callG G_law_right (hr.mono (by decide)) hgd D_law_right.g D_law_right.F.kp D_law_right.b (xa_cons (x_var 7) xa_nil)))) (xs_one (xs_ret x_bl)) xs_nil))))))))
      (xs_one (xs_ret x_bl))))
end
end K01

namespace Mm
open PySem L2
/-! it ends, and what then holds -/
def Ok {α : Type} (o : Option α) (P : α → Prop) : Prop := ∃ a, o = some a ∧ P a
theorem Ok.mono {α : Type} {o : Option α} {P Q : α → Prop} (h : Ok o P) (k : ∀ a, P a → Q a) : Ok o Q := by
  obtain ⟨a, e, p⟩ := h
  exact ⟨a, e, k a p⟩
def E1 {α : Type} (o : Option (α × Ev)) (Q : α → Ev → Prop) : Prop := ∃ d ρ', o = some (d, ρ') ∧ Q d ρ'
theorem E1.mono {α : Type} {o : Option (α × Ev)} {P Q : α → Ev → Prop} (h : E1 o P) (k : ∀ a ρ, P a ρ → Q a ρ) : E1 o Q := by
  obtain ⟨a, ρ, e, p⟩ := h
  exact ⟨a, ρ, e, k a ρ p⟩
section
variable {ρ : Ev} {i : Nat} {d : Dt} {f g fa fb fc : F1} {t t' : FB} {A B : FA} {l l' : FL} {op op' : Dt → Dt → Option Dt} {ds : List Dt} {Q1 : Dt → Ev → Prop} {QB : Bool → Ev → Prop} {QL : List Dt → Ev → Prop} {QA : List Arg → Ev → Prop} {QO : Option Int → Ev → Prop} {QS : Out → Prop} {s s' : FS} {b : FT}
theorem w_var (h : ρ[i]? = some (.ro d)) (k : Q1 d ρ) : E1 (fVar i ρ) Q1 := by
  refine ⟨d, ρ, ?_, k⟩
  unfold fVar; rw [h]
theorem w_varO (h : ρ[i]? = some (.own false (.lst ds))) (k : Q1 (.list ds) (ρ.set i (.ro (.list ds)))) : E1 (fVar i ρ) Q1 := by
  refine ⟨_, _, ?_, k⟩
  unfold fVar; rw [h]
theorem w_c (k : Q1 d ρ) : E1 (fC d ρ) Q1 := ⟨_, _, rfl, k⟩
theorem w_bin (h : E1 (fa ρ) fun x ρ1 => E1 (fb ρ1) fun y ρ2 => Ok (op x y) fun z => Q1 z ρ2) : E1 (fBin op fa fb ρ) Q1 := by
  obtain ⟨x, ρ1, e1, y, ρ2, e2, z, e3, q⟩ := h
  exact ⟨z, ρ2, by simp [fBin, e1, e2, e3], q⟩
theorem w_un {f : Dt → Option Dt} (h : E1 (fa ρ) fun x ρ1 => Ok (f x) fun z => Q1 z ρ1) : E1 (fUn f fa ρ) Q1 := by
  obtain ⟨x, ρ1, e1, z, e3, q⟩ := h
  exact ⟨z, ρ1, by simp [fUn, e1, e3], q⟩
theorem w_isi {T : String} (h : E1 (fa ρ) fun x ρ1 => Q1 (.bool (isiB T x)) ρ1) : E1 (fIsi T fa ρ) Q1 := by
  obtain ⟨x, ρ1, e1, q⟩ := h
  exact ⟨_, ρ1, by simp [fIsi, fUn, e1], q⟩
theorem w_isi2 {T U : String} (h : E1 (fa ρ) fun x ρ1 => Q1 (.bool (isiB T x || isiB U x)) ρ1) : E1 (fIsi2 T U fa ρ) Q1 := by
  obtain ⟨x, ρ1, e1, q⟩ := h
  exact ⟨_, ρ1, by simp [fIsi2, fUn, e1], q⟩
theorem w_test (h : E1 (f ρ) fun d ρ1 => ∃ c, d = .bool c ∧ QB c ρ1) : E1 (fTest f ρ) QB := by
  obtain ⟨x, ρ1, e1, c, rfl, q⟩ := h
  exact ⟨c, ρ1, by simp [fTest, e1], q⟩
theorem w_chain (h : E1 (fa ρ) fun x ρ1 => E1 (fb ρ1) fun y ρ2 => Ok (op x y) fun w => ∃ c, w = .bool c ∧ (c = true → E1 (fc ρ2) fun u ρ3 => Ok (op' y u) fun z => Q1 z ρ3) ∧ (c = false → Q1 (.bool false) ρ2)) : E1 (fChain op op' fa fb fc ρ) Q1 := by
  obtain ⟨x, ρ1, e1, y, ρ2, e2, w, e3, c, rfl, q1, q2⟩ := h
  cases c with
  | true =>
    obtain ⟨u, ρ3, e4, z, e5, q⟩ := q1 rfl
    exact ⟨z, ρ3, by simp [fChain, e1, e2, e3, e4, e5], q⟩
  | false => exact ⟨_, ρ2, by simp [fChain, e1, e2, e3], q2 rfl⟩
theorem w_gAnd (h : E1 (t ρ) fun c ρ1 => (c = true → E1 (t' ρ1) QB) ∧ (c = false → QB false ρ1)) : E1 (gAnd t t' ρ) QB := by
  obtain ⟨c, ρ1, e1, q1, q2⟩ := h
  cases c with
  | true => obtain ⟨u, ρ3, e4, q⟩ := q1 rfl; exact ⟨u, ρ3, by simp [gAnd, e1, e4], q⟩
  | false => exact ⟨_, ρ1, by simp [gAnd, e1], q2 rfl⟩
theorem w_gOr (h : E1 (t ρ) fun c ρ1 => (c = true → QB true ρ1) ∧ (c = false → E1 (t' ρ1) QB)) : E1 (gOr t t' ρ) QB := by
  obtain ⟨c, ρ1, e1, q2, q1⟩ := h
  cases c with
  | false => obtain ⟨u, ρ3, e4, q⟩ := q1 rfl; exact ⟨u, ρ3, by simp [gOr, e1, e4], q⟩
  | true => exact ⟨_, ρ1, by simp [gOr, e1], q2 rfl⟩
theorem w_gNot (h : E1 (t ρ) fun c ρ1 => QB (!c) ρ1) : E1 (gNot t ρ) QB := by
  obtain ⟨c, ρ1, e1, q⟩ := h
  exact ⟨_, ρ1, by simp [gNot, e1], q⟩
theorem w_yes (k : QB true ρ) : E1 (fYes ρ) QB := ⟨_, _, rfl, k⟩
theorem w_and (h : E1 (fTest f ρ) fun c ρ1 => (c = true → E1 (g ρ1) Q1) ∧ (c = false → Q1 (.bool false) ρ1)) : E1 (fAnd f g ρ) Q1 := by
  obtain ⟨c, ρ1, e1, q1, q2⟩ := h
  cases c with
  | true => obtain ⟨u, ρ3, e4, q⟩ := q1 rfl; exact ⟨u, ρ3, by simp [fAnd, e1, e4], q⟩
  | false => exact ⟨_, ρ1, by simp [fAnd, e1], q2 rfl⟩
theorem w_or (h : E1 (fTest f ρ) fun c ρ1 => (c = true → Q1 (.bool true) ρ1) ∧ (c = false → E1 (g ρ1) Q1)) : E1 (fOr f g ρ) Q1 := by
  obtain ⟨c, ρ1, e1, q2, q1⟩ := h
  cases c with
  | false => obtain ⟨u, ρ3, e4, q⟩ := q1 rfl; exact ⟨u, ρ3, by simp [fOr, e1, e4], q⟩
  | true => exact ⟨_, ρ1, by simp [fOr, e1], q2 rfl⟩
theorem w_not (h : E1 (fTest f ρ) fun c ρ1 => Q1 (.bool (!c)) ρ1) : E1 (fNot f ρ) Q1 := by
  obtain ⟨c, ρ1, e1, q⟩ := h
  exact ⟨_, ρ1, by simp [fNot, e1], q⟩
theorem w_if (h : E1 (t ρ) fun c ρ1 => (c = true → E1 (f ρ1) Q1) ∧ (c = false → E1 (g ρ1) Q1)) : E1 (fIf t f g ρ) Q1 := by
  obtain ⟨c, ρ1, e1, q1, q2⟩ := h
  cases c with
  | true => obtain ⟨u, ρ3, e4, q⟩ := q1 rfl; exact ⟨u, ρ3, by simp [fIf, e1, e4], q⟩
  | false => obtain ⟨u, ρ3, e4, q⟩ := q2 rfl; exact ⟨u, ρ3, by simp [fIf, e1, e4], q⟩
theorem w_nil (k : QA [] ρ) : E1 (fANil ρ) QA := ⟨_, _, rfl, k⟩
theorem w_cons (h : E1 (f ρ) fun d ρ1 => E1 (A ρ1) fun as ρ2 => QA (.val d :: as) ρ2) : E1 (fACons f A ρ) QA := by
  obtain ⟨x, ρ1, e1, as, ρ2, e2, q⟩ := h
  exact ⟨_, ρ2, by simp [fACons, e1, e2], q⟩
theorem w_slot (v : isVal ρ[i]? = true) (h : E1 (A ρ) fun as ρ2 => QA (.slot i :: as) ρ2) : E1 (fASlot i A ρ) QA := by
  obtain ⟨as, ρ2, e2, q⟩ := h
  exact ⟨_, ρ2, by simp [fASlot, e2, v], q⟩
theorem w_an (h : E1 (l ρ) fun ds ρ1 => E1 (A (ρ1 ++ [.own false (.lst ds)])) fun as ρ2 => QA (.slot ρ1.length :: as) ρ2) : E1 (fAN l A ρ) QA := by
  obtain ⟨ds, ρ1, e1, as, ρ2, e2, q⟩ := h
  exact ⟨_, ρ2, by simp [fAN, e1, e2], q⟩
def V1 (A : FA) (ρ : Ev) (Q : List Dt → Ev → Prop) : Prop := E1 (A ρ) fun as ρ1 => ∃ ds, valsOf as = some ds ∧ Q ds ρ1
theorem v_nil (k : QL [] ρ) : V1 fANil ρ QL := ⟨_, _, rfl, _, rfl, k⟩
theorem v_cons (h : E1 (f ρ) fun d ρ1 => V1 A ρ1 fun ds ρ2 => QL (d :: ds) ρ2) : V1 (fACons f A) ρ QL := by
  obtain ⟨x, ρ1, e1, as, ρ2, e2, ds, e3, q⟩ := h
  exact ⟨.val x :: as, ρ2, by simp [fACons, e1, e2], x :: ds, by simp [valsOf, e3], q⟩
theorem take_eq {ρ1 ρ : Ev} (h : ρ1.length = ρ.length) : ρ1.take ρ.length = ρ1 := by rw [← h]; exact List.take_length
theorem w_disp (h : V1 A ρ fun ds ρ1 => ρ1.length = ρ.length ∧ ds.length ≤ 100000 ∧ QL ds ρ1) : E1 (fDisp A ρ) QL := by
  obtain ⟨as, ρ1, e1, ds, e2, ht, hl, q⟩ := h
  exact ⟨ds, _, by simp [fDisp, e1, e2, hl, take_eq ht], q⟩
theorem w_tup (h : E1 (fDisp A ρ) fun ds ρ1 => Q1 (.tuple ds) ρ1) : E1 (fTup A ρ) Q1 := by
  obtain ⟨ds, ρ1, e1, q⟩ := h
  exact ⟨_, ρ1, by simp [fTup, e1], q⟩
theorem w_frz (h : E1 (l ρ) fun ds ρ1 => Q1 (.list ds) ρ1) : E1 (fFrz l ρ) Q1 := by
  obtain ⟨ds, ρ1, e1, q⟩ := h
  exact ⟨_, ρ1, by simp [fFrz, e1], q⟩
theorem w_call {m : FM} (h : E1 (A ρ) fun as ρ1 => (ownIx ρ1 as).Nodup ∧ ∃ ρ0, argSlots ρ1 as = some ρ0 ∧ E1 (m ρ0) fun d ρ2 => ∃ ρ3, backs as ρ2 ρ1 = some ρ3 ∧ ρ3.length = ρ.length ∧ Q1 d ρ3) : E1 (fCall m A ρ) Q1 := by
  obtain ⟨as, ρ1, e1, n, ρ0, e2, d, ρ2, e3, ρ3, e4, hl, q⟩ := h
  exact ⟨d, _, by simp [fCall, e1, n, e2, e3, e4, take_eq hl], q⟩
theorem w_callN {m : FN} (h : E1 (A ρ) fun as ρ1 => (ownIx ρ1 as).Nodup ∧ ∃ ρ0, argSlots ρ1 as = some ρ0 ∧ E1 (m ρ0) fun d ρ2 => ∃ ρ3, backs as ρ2 ρ1 = some ρ3 ∧ ρ3.length = ρ.length ∧ QL d ρ3) : E1 (fCallN m A ρ) QL := by
  obtain ⟨as, ρ1, e1, n, ρ0, e2, d, ρ2, e3, ρ3, e4, hl, q⟩ := h
  exact ⟨d, _, by simp [fCallN, e1, n, e2, e3, e4, take_eq hl], q⟩
theorem w_cb {op : List Dt → Option Dt} (h : V1 A ρ fun ds ρ1 => ρ1.length = ρ.length ∧ Ok (op ds) fun z => Q1 z ρ1) : E1 (fCB op A ρ) Q1 := by
  obtain ⟨as, ρ1, e1, ds, e2, hl, z, e3, q⟩ := h
  exact ⟨z, _, by simp [fCB, e1, e2, e3, take_eq hl], q⟩
theorem w_cn {op : List Dt → Option (List Dt)} (h : V1 A ρ fun ds ρ1 => ρ1.length = ρ.length ∧ Ok (op ds) fun z => QL z ρ1) : E1 (fCN op A ρ) QL := by
  obtain ⟨as, ρ1, e1, ds, e2, hl, z, e3, q⟩ := h
  exact ⟨z, _, by simp [fCN, e1, e2, e3, take_eq hl], q⟩
theorem w_items (h : E1 (f ρ) fun d ρ1 => Ok (items d) fun z => QL z ρ1) : E1 (fItems f ρ) QL := by
  obtain ⟨as, ρ1, e1, z, e3, q⟩ := h
  exact ⟨z, _, by simp [fItems, e1, e3], q⟩
theorem w_range1 (h : E1 (f ρ) fun d ρ1 => ρ1.length = ρ.length ∧ ∃ n, d = .int n ∧ n < 2 ^ 62 ∧ -(2 ^ 62) ≤ n ∧ QL (rangeD 0 n.toNat) ρ1) : E1 (fRange1 (fACons f fANil) ρ) QL := by
  obtain ⟨d, ρ1, e1, hl, n, rfl, h1, h2, q⟩ := h
  refine ⟨_, _, ?_, q⟩
  unfold fRange1 fACons fANil
  rw [e1]
  show (if n < 2 ^ 62 ∧ -(2 ^ 62) ≤ n then some (rangeD 0 n.toNat, ρ1.take ρ.length) else none) = _
  rw [if_pos ⟨h1, h2⟩, take_eq hl]
theorem w_zip (h : E1 (f ρ) fun d ρ1 => E1 (g ρ1) fun e ρ2 => ρ2.length = ρ.length ∧ ∃ xs ys, ((d = .list xs ∧ e = .list ys) ∨ (d = .tuple xs ∧ e = .tuple ys)) ∧ QL (List.zipWith pairD xs ys) ρ2) : E1 (fZip (fACons f (fACons g fANil)) ρ) QL := by
  obtain ⟨d, ρ1, e1, e, ρ2, e2, hl, xs, ys, h1, q⟩ := h
  refine ⟨_, ρ2, ?_, q⟩
  rcases h1 with ⟨rfl, rfl⟩ | ⟨rfl, rfl⟩ <;> simp [fZip, fACons, fANil, e1, e2, take_eq hl]
theorem w_enum (h : E1 (f ρ) fun d ρ1 => ρ1.length = ρ.length ∧ ∃ xs, d = .list xs ∧ QL (enumD 0 xs) ρ1) : E1 (fEnum (fACons f fANil) ρ) QL := by
  obtain ⟨d, ρ1, e1, hl, xs, rfl, q⟩ := h
  exact ⟨_, _, by simp [fEnum, fACons, fANil, e1, take_eq hl], q⟩
theorem w_lenL {p : Bool} (h : ρ[i]? = some (.own p (.lst ds))) (k : Q1 (.int ds.length) ρ) : E1 (fLenS i ρ) Q1 := by
  refine ⟨_, ρ, ?_, k⟩
  unfold fLenS; rw [h]
theorem w_lenD (h : ρ[i]? = some (.ro d)) (k : Ok (dLen [d]) fun z => Q1 z ρ) : E1 (fLenS i ρ) Q1 := by
  obtain ⟨z, e, q⟩ := k
  exact ⟨z, ρ, by (unfold fLenS; rw [h]; simp [e]), q⟩
theorem w_lenS {ns : List Int} (h : ρ[i]? = some (.scr ns)) (k : Q1 (.int ns.length) ρ) : E1 (fLenS i ρ) Q1 := by
  refine ⟨_, ρ, ?_, k⟩
  unfold fLenS; rw [h]
theorem w_oNone (k : QO none ρ) : E1 (oNone ρ) QO := ⟨_, _, rfl, k⟩
theorem w_oSome (h : E1 (f ρ) fun d ρ1 => ∃ n, d = .int n ∧ QO (some n) ρ1) : E1 (oSome f ρ) QO := by
  obtain ⟨x, ρ1, e1, n, rfl, q⟩ := h
  exact ⟨_, ρ1, by simp [oSome, e1], q⟩
theorem w_slice {fl fh : Ev → Option (Option Int × Ev)} (h : E1 (f ρ) fun d ρ1 => E1 (fl ρ1) fun lo ρ2 => E1 (fh ρ2) fun hi ρ3 => Ok (dSlice d lo hi) fun z => Q1 z ρ3) : E1 (fSlice f fl fh ρ) Q1 := by
  obtain ⟨x, ρ1, e1, lo, ρ2, e2, hi, ρ3, e3, z, e4, q⟩ := h
  exact ⟨z, ρ3, by simp [fSlice, e1, e2, e3, e4], q⟩
theorem w_sliceS {fl fh : Ev → Option (Option Int × Ev)} {ns : List Int} (hs : ρ[i]? = some (.scr ns)) (h : E1 (fl ρ) fun lo ρ2 => E1 (fh ρ2) fun hi ρ3 => QL (cutD (ns.map .int) lo hi) ρ3) : E1 (fSliceS i fl fh ρ) QL := by
  obtain ⟨lo, ρ2, e2, hi, ρ3, e3, q⟩ := h
  refine ⟨_, ρ3, ?_, q⟩
  unfold fSliceS
  rw [e2]; show (fh ρ2 >>= _) = _
  rw [e3]; show (match ρ[i]? with | some (.scr ns) => _ | _ => _) = _
  rw [hs]
theorem w_ixS {p : Bool} (hs : ρ[i]? = some (.own p (.lst ds))) (h : E1 (f ρ) fun k ρ1 => ∃ p ds n, k = .int n ∧ ρ1[i]? = some (.own p (.lst ds)) ∧ Ok (atI ds n) fun z => Q1 z ρ1) : E1 (fIxS i f ρ) Q1 := by
  obtain ⟨x, ρ1, e1, p, ds, n, rfl, e2, z, e3, q⟩ := h
  exact ⟨z, ρ1, by simp [fIxS, hs, isOwnL, e1, e2, ixOf, e3], q⟩
theorem w_append {p : Bool} (hs : ρ[i]? = some (.own p (.lst ds))) (h : E1 (f ρ) fun d ρ1 => ∃ p ds, ρ1[i]? = some (.own p (.lst ds)) ∧ ds.length < 100000 ∧ Q1 .none (ρ1.set i (.own p (.lst (ds ++ [d]))))) : E1 (fAppend i f ρ) Q1 := by
  obtain ⟨d, ρ1, e1, p, ds, e2, hl, q⟩ := h
  exact ⟨_, _, by simp [fAppend, hs, isOwnL, e1, e2, appendTo, hl], q⟩
theorem w_popAt {p : Bool} (hs : ρ[i]? = some (.own p (.lst ds))) (h : E1 (f ρ) fun d ρ1 => ∃ p ds j x, d = .int j ∧ ρ1[i]? = some (.own p (.lst ds)) ∧ 0 ≤ j ∧ j < 100000 ∧ ds[j.toNat]? = some x ∧ Q1 x (ρ1.set i (.own p (.lst (ds.eraseIdx j.toNat))))) : E1 (fPopAt i f ρ) Q1 := by
  obtain ⟨d, ρ1, e1, p, ds, j, x, rfl, e2, h1, h2, e3, q⟩ := h
  refine ⟨_, _, ?_, q⟩
  unfold fPopAt
  rw [hs]
  show (f ρ >>= _) = _
  rw [e1]
  show popAt (.int j) ρ1 i ρ1[i]? = _
  rw [e2]
  show (if 0 ≤ j ∧ j < 100000 then (ds[j.toNat]?).map fun x => (x, ρ1.set i (.own p (.lst (ds.eraseIdx j.toNat)))) else none) = _
  rw [if_pos ⟨h1, h2⟩, e3]; rfl
theorem w_bSub {p : Bool} {d : Dt} {QE : Ev → Prop} (hs : ρ[i]? = some (.own p (.lst ds))) (h : E1 (f ρ) fun k ρ1 => ∃ p ds j n, k = .int j ∧ ρ1[i]? = some (.own p (.lst ds)) ∧ ixN ds.length j = some n ∧ QE (ρ1.set i (.own p (.lst (ds.set n d))))) : Ok (bSub i f d ρ) QE := by
  obtain ⟨k, ρ1, e1, p, ds, j, n, rfl, e2, e3, q⟩ := h
  exact ⟨_, by simp [bSub, hs, isOwnL, e1, e2, putAt, e3], q⟩
theorem w_bName {d : Dt} {QE : Ev → Prop} (h : free ρ i = true) (k : QE (ρ.set i (.ro d))) : Ok (bName i d ρ) QE := ⟨_, by (unfold bName; rw [if_pos h]), k⟩
/-! statements -/
theorem s_nx (k : QS (.nx ρ)) : Ok (gNx ρ) QS := ⟨_, rfl, k⟩
def SeqK (F : Ev → Prop) (QS : Out → Prop) : Out → Prop
  | .nx ρ => F ρ
  | .rt d ρ => QS (.rt d ρ)
  | .rn d ρ => QS (.rn d ρ)
  | .bk ρ => QS (.bk ρ)
  | .ct ρ => QS (.ct ρ)
section
variable {F : Ev → Prop} {ρ0 : Ev} {P : Dt → Ev → Prop} {PL : List Dt → Ev → Prop}
theorem k_nx (h : F ρ) : SeqK F QS (.nx ρ) := h
theorem k_rt (h : QS (.rt d ρ)) : SeqK F QS (.rt d ρ) := h
theorem k_rn (h : QS (.rn ds ρ)) : SeqK F QS (.rn ds ρ) := h
theorem k_bk (h : QS (.bk ρ)) : SeqK F QS (.bk ρ) := h
theorem k_ct (h : QS (.ct ρ)) : SeqK F QS (.ct ρ) := h
def FinK (ρ0 : Ev) (P : Dt → Ev → Prop) : Out → Prop
  | .nx ρ => kept ρ0 ρ = true ∧ P .none ρ
  | .rt d ρ => kept ρ0 ρ = true ∧ P d ρ
  | .rn d ρ => kept ρ0 ρ = true ∧ P (.list d) ρ
  | _ => False
theorem f_nx (k : kept ρ0 ρ = true) (h : P .none ρ) : FinK ρ0 P (.nx ρ) := ⟨k, h⟩
theorem f_rt (k : kept ρ0 ρ = true) (h : P d ρ) : FinK ρ0 P (.rt d ρ) := ⟨k, h⟩
theorem f_rn (k : kept ρ0 ρ = true) (h : P (.list ds) ρ) : FinK ρ0 P (.rn ds ρ) := ⟨k, h⟩
def FinL (ρ0 : Ev) (P : List Dt → Ev → Prop) : Out → Prop
  | .rn d ρ => kept ρ0 ρ = true ∧ P d ρ
  | _ => False
theorem f_rnL (k : kept ρ0 ρ = true) (h : PL ds ρ) : FinL ρ0 PL (.rn ds ρ) := ⟨k, h⟩
def LoopK (J : Ev → Prop) (QS : Out → Prop) : Out → Prop
  | .nx ρ => J ρ
  | .ct ρ => J ρ
  | .bk ρ => QS (.nx ρ)
  | .rt d ρ => QS (.rt d ρ)
  | .rn d ρ => QS (.rn d ρ)
theorem l_nx (h : F ρ) : LoopK F QS (.nx ρ) := h
theorem l_rt (h : QS (.rt d ρ)) : LoopK F QS (.rt d ρ) := h
end
theorem s_seq (h : Ok (s ρ) (SeqK (fun ρ1 => Ok (s' ρ1) QS) QS)) : Ok (gSeq s s' ρ) QS := by
  obtain ⟨o, e1, q⟩ := h
  cases o with
  | nx ρ1 => obtain ⟨o, e2, q⟩ := (q : Ok (s' ρ1) QS); exact ⟨o, by simp [gSeq, e1, e2], q⟩
  | rt d ρ1 => exact ⟨_, by simp [gSeq, e1], q⟩
  | rn d ρ1 => exact ⟨_, by simp [gSeq, e1], q⟩
  | bk ρ1 => exact ⟨_, by simp [gSeq, e1], q⟩
  | ct ρ1 => exact ⟨_, by simp [gSeq, e1], q⟩
theorem s_asg (h : E1 (f ρ) fun d ρ1 => Ok (b d ρ1) fun ρ2 => QS (.nx ρ2)) : Ok (gAsg f b ρ) QS := by
  obtain ⟨d, ρ1, e1, ρ2, e2, q⟩ := h
  exact ⟨_, by simp [gAsg, e1, e2], q⟩
theorem s_setN (h : E1 (l ρ) fun ds ρ1 => free ρ1 i = true ∧ QS (.nx (ρ1.set i (.own false (.lst ds))))) : Ok (gSetN i l ρ) QS := by
  obtain ⟨d, ρ1, e1, e2, q⟩ := h
  exact ⟨_, by simp [gSetN, e1, e2], q⟩
theorem s_ret (h : E1 (f ρ) fun d ρ1 => QS (.rt d ρ1)) : Ok (gRet f ρ) QS := by
  obtain ⟨d, ρ1, e1, q⟩ := h
  exact ⟨_, by simp [gRet, e1], q⟩
theorem s_retL (h : E1 (l ρ) fun d ρ1 => QS (.rn d ρ1)) : Ok (gRetL l ρ) QS := by
  obtain ⟨d, ρ1, e1, q⟩ := h
  exact ⟨_, by simp [gRetL, e1], q⟩
theorem s_expr (h : E1 (f ρ) fun d ρ1 => QS (.nx ρ1)) : Ok (gExpr f ρ) QS := by
  obtain ⟨d, ρ1, e1, q⟩ := h
  exact ⟨_, by simp [gExpr, e1], q⟩
theorem s_if (h : E1 (t ρ) fun c ρ1 => (c = true → Ok (s ρ1) QS) ∧ (c = false → Ok (s' ρ1) QS)) : Ok (gIf t s s' ρ) QS := by
  obtain ⟨c, ρ1, e1, q1, q2⟩ := h
  cases c with
  | true => obtain ⟨u, e4, q⟩ := q1 rfl; exact ⟨u, by simp [gIf, e1, e4], q⟩
  | false => obtain ⟨u, e4, q⟩ := q2 rfl; exact ⟨u, by simp [gIf, e1, e4], q⟩
theorem s_par {is : List Nat} (h : E1 (A ρ) fun as ρ1 => ∃ ρ2, putArgs is as ρ1 = some ρ2 ∧ ((is.all fun i => decide (i < ρ.length)) && ((slotArgs as).all fun k => decide (ρ.length ≤ k))) = true ∧ ∃ ρ3, ρ2.take ρ.length = ρ3 ∧ QS (.nx ρ3)) : Ok (gPar is A ρ) QS := by
  obtain ⟨as, ρ1, e1, ρ2, e2, e3, ρ3, rfl, q⟩ := h
  refine ⟨_, ?_, q⟩
  unfold gPar
  rw [e1]; show (putArgs is as ρ1 >>= _) = _
  rw [e2]; show (if _ then _ else _) = _
  rw [if_pos e3]
/-! two things on ints -/
section
variable {i j : Int} {Q : Dt → Prop}
theorem p_gt (k : Q (.bool (decide (j < i)))) : Ok (dGt (.int i) (.int j)) Q := ⟨_, rfl, k⟩
theorem p_lt (k : Q (.bool (decide (i < j)))) : Ok (dLt (.int i) (.int j)) Q := ⟨_, rfl, k⟩
theorem p_ge (k : Q (.bool (decide (j ≤ i)))) : Ok (dGe (.int i) (.int j)) Q := ⟨_, rfl, k⟩
theorem p_le (k : Q (.bool (decide (i ≤ j)))) : Ok (dLe (.int i) (.int j)) Q := ⟨_, rfl, k⟩
theorem p_add (k : Q (.int (i + j))) : Ok (dAdd (.int i) (.int j)) Q := ⟨_, rfl, k⟩
theorem p_sub (k : Q (.int (i - j))) : Ok (dSub (.int i) (.int j)) Q := ⟨_, rfl, k⟩
theorem p_neg (k : Q (.int (-i))) : Ok (dNeg (.int i)) Q := ⟨_, rfl, k⟩
theorem p_eq (k : Q (.bool (i == j))) : Ok (dEq (.int i) (.int j)) Q := ⟨_, rfl, k⟩
theorem p_ne (k : Q (.bool (!(i == j)))) : Ok (dNe (.int i) (.int j)) Q := ⟨_, rfl, k⟩
theorem p_mod (h : 0 < j) (k : Q (.int (i % j))) : Ok (dMod (.int i) (.int j)) Q := ⟨_, if_pos h, k⟩
theorem p_div (h : 0 < j ∧ j < 2 ^ 64) (k : Q (.int (i / j))) : Ok (dDiv (.int i) (.int j)) Q := ⟨_, if_pos h, k⟩
theorem p_pow (h : 0 ≤ j ∧ j ≤ 1000 ∧ i.natAbs < 2 ^ 64) (k : Q (.int (i ^ j.toNat))) : Ok (dPow (.int i) (.int j)) Q := ⟨_, if_pos h, k⟩
theorem p_mul (h : (-(2 ^ 64) < i ∧ i < 2 ^ 64) ∨ (-(2 ^ 64) < j ∧ j < 2 ^ 64)) (k : Q (.int (i * j))) : Ok (dMul (.int i) (.int j)) Q := by
  refine ⟨_, if_pos ?_, k⟩
  rw [Bool.or_eq_true, decide_eq_true_eq, decide_eq_true_eq]; exact h
theorem p_int (k : Q (.int i)) : Ok (dInt [.int i]) Q := ⟨_, rfl, k⟩
theorem p_intB {b : Bool} (k : Q (.int (if b = true then 1 else 0))) : Ok (dInt [.bool b]) Q := ⟨_, rfl, k⟩
theorem p_abs (k : Q (.int (if i < 0 then -i else i))) : Ok (dAbs [.int i]) Q := ⟨_, rfl, k⟩
theorem p_max (k : Q (.int (if j > i then j else i))) : Ok (dMax2 [.int i, .int j]) Q := ⟨_, rfl, k⟩
theorem p_min (k : Q (.int (if j < i then j else i))) : Ok (dMin2 [.int i, .int j]) Q := ⟨_, rfl, k⟩
end
/-- a loop with what holds before each round -/
theorem loop_inv {P : Dt → Prop} {J : Nat → Ev → Prop} {QS : Out → Prop}
    (step : ∀ n d ρ, P d → J (n + 1) ρ → Ok (b d ρ) fun ρ1 => Ok (s ρ1) (LoopK (J n) QS))
    (done : ∀ ρ, J 0 ρ → QS (.nx ρ)) :
    ∀ (ds : List Dt) (ρ : Ev), (∀ d ∈ ds, P d) → J ds.length ρ → Ok (loopL b s ds ρ) QS := by
  intro ds
  induction ds with
  | nil => exact fun ρ _ h => ⟨_, rfl, done ρ h⟩
  | cons d ds ih =>
    intro ρ hp hj
    obtain ⟨ρ1, e1, o, e2, q1⟩ := step ds.length d ρ (hp d (List.mem_cons_self ..)) hj
    have hp' : ∀ d ∈ ds, P d := fun x hx => hp x (List.mem_cons_of_mem _ hx)
    cases o with
    | nx ρ2 => obtain ⟨r, e3, q⟩ := ih ρ2 hp' q1; exact ⟨r, by simp [loopL, e1, e2, e3], q⟩
    | ct ρ2 => obtain ⟨r, e3, q⟩ := ih ρ2 hp' q1; exact ⟨r, by simp [loopL, e1, e2, e3], q⟩
    | bk ρ2 => exact ⟨_, by simp [loopL, e1, e2], q1⟩
    | rt v ρ2 => exact ⟨_, by simp [loopL, e1, e2], q1⟩
    | rn v ρ2 => exact ⟨_, by simp [loopL, e1, e2], q1⟩
theorem s_for (h : E1 (l ρ) fun ds ρ1 => Ok (loopL b s ds ρ1) QS) : Ok (gFor l b s ρ) QS := by
  obtain ⟨ds, ρ1, e1, o, e2, q⟩ := h
  exact ⟨o, by simp [gFor, e1, e2], q⟩
theorem w_lc {vs : List Nat} (h : E1 (l ρ) fun ds ρ1 => ds.length ≤ 100000 ∧ E1 (lcF vs b t f ds ρ1) fun xs ρ2 => ∃ ρ3, restE vs ρ1 ρ2 = some ρ3 ∧ QL xs ρ3) : E1 (fLc vs l b t f ρ) QL := by
  obtain ⟨ds, ρ1, e1, hl, xs, ρ2, e2, ρ3, e3, q⟩ := h
  exact ⟨xs, ρ3, by simp [fLc, e1, e2, e3, hl], q⟩
/-- a comprehension with what holds before each round; R what each item is -/
theorem lc_inv {vs : List Nat} {P R : Dt → Prop} {J : Nat → Ev → Prop}
    (step : ∀ n d ρ, P d → J (n + 1) ρ → Ok (b d (wipeE ρ vs)) fun ρ1 => E1 (t ρ1) fun c ρ2 => (c = true → E1 (f ρ2) fun x ρ3 => R x ∧ J n ρ3) ∧ (c = false → J n ρ2)) :
    ∀ (ds : List Dt) (ρ : Ev), (∀ d ∈ ds, P d) → J ds.length ρ → E1 (lcF vs b t f ds ρ) fun xs ρ' => (∀ x ∈ xs, R x) ∧ xs.length ≤ ds.length ∧ J 0 ρ' := by
  intro ds
  induction ds with
  | nil =>
    intro ρ _ h
    refine ⟨[], ρ, rfl, ?_⟩
    exact ⟨fun x h => absurd h List.not_mem_nil, Nat.le_refl _, h⟩
  | cons d ds ih =>
    intro ρ hp hj
    obtain ⟨ρ1, e1, c, ρ2, e2, q1, q2⟩ := step ds.length d ρ (hp d (List.mem_cons_self ..)) hj
    have hp' : ∀ d ∈ ds, P d := fun x hx => hp x (List.mem_cons_of_mem _ hx)
    cases c with
    | true =>
      obtain ⟨x, ρ3, e3, hx, hj3⟩ := q1 rfl
      obtain ⟨xs, ρ4, e4, h1, h2, h3⟩ := ih ρ3 hp' hj3
      refine ⟨x :: xs, ρ4, by simp [lcF, e1, e2, e3, e4], ?_, Nat.succ_le_succ h2, h3⟩
      intro y hy
      rcases List.mem_cons.mp hy with rfl | hy
      · exact hx
      · exact h1 y hy
    | false =>
      obtain ⟨xs, ρ4, e4, h1, h2, h3⟩ := ih ρ2 hp' (q2 rfl)
      exact ⟨xs, ρ4, by simp [lcF, e1, e2, e4], h1, Nat.le_succ_of_le h2, h3⟩
/-- a comprehension that asks nothing and gives one item for each -/
theorem lc_map {vs : List Nat} {ρ0 : Ev} {G : Dt → Dt} :
    ∀ (ds : List Dt) (ρ : Ev), (∀ d ∈ ds, ∀ ρ, wipeE ρ vs = wipeE ρ0 vs → Ok (b d (wipeE ρ vs)) fun ρ1 => E1 (t ρ1) fun c ρ2 => c = true ∧ E1 (f ρ2) fun x ρ3 => x = G d ∧ wipeE ρ3 vs = wipeE ρ0 vs) → wipeE ρ vs = wipeE ρ0 vs → E1 (lcF vs b t f ds ρ) fun xs ρ' => xs = ds.map G ∧ wipeE ρ' vs = wipeE ρ0 vs ∧ (ds = [] → ρ' = ρ) := by
  intro ds
  induction ds with
  | nil => exact fun ρ _ h => ⟨_, _, rfl, rfl, h, fun _ => rfl⟩
  | cons d ds ih =>
    intro ρ step hw
    obtain ⟨ρ1, e1, c, ρ2, e2, rfl, x, ρ3, e3, rfl, hw3⟩ := step d (List.mem_cons_self ..) ρ hw
    obtain ⟨xs, ρ4, e4, rfl, h2, _⟩ := ih ρ3 (fun z hz => step z (List.mem_cons_of_mem _ hz)) hw3
    exact ⟨_, ρ4, by simp [lcF, e1, e2, e3, e4], rfl, h2, fun h => nomatch h⟩
theorem m_of {np n : Nat} {P : Dt → Ev → Prop} (hl : ρ.length = np) (h : Ok (s (ρ ++ List.replicate (n - np) .no)) (FinK ρ P)) : E1 (mOf np n s ρ) P := by
  obtain ⟨o, e, q⟩ := h
  cases o with
  | nx ρ' => exact ⟨_, ρ', by simp [mOf, hl, e, fin, q.1], q.2⟩
  | rt d ρ' => exact ⟨_, ρ', by simp [mOf, hl, e, fin, q.1], q.2⟩
  | rn d ρ' => exact ⟨_, ρ', by simp [mOf, hl, e, fin, q.1], q.2⟩
  | bk ρ' => exact q.elim
  | ct ρ' => exact q.elim
theorem m_ofN {np n : Nat} {P : List Dt → Ev → Prop} (hl : ρ.length = np) (h : Ok (s (ρ ++ List.replicate (n - np) .no)) (FinL ρ P)) : E1 (mOfN np n s ρ) P := by
  obtain ⟨o, e, q⟩ := h
  cases o with
  | rn d ρ' => exact ⟨_, ρ', by simp [mOfN, hl, e, finN, q.1], q.2⟩
  | nx ρ' => exact q.elim
  | rt d ρ' => exact q.elim
  | bk ρ' => exact q.elim
  | ct ρ' => exact q.elim
theorem w_ixC {p : Bool} {j : Int} {z : Dt} (hs : ρ[i]? = some (.own p (.lst ds))) (e : atI ds j = some z) (k : Q1 z ρ) : E1 (fIxS i (fC (.int j)) ρ) Q1 :=
  w_ixS hs (w_c ⟨p, ds, j, rfl, hs, z, e, k⟩)
theorem w_bSubC {p : Bool} {j : Int} {n : Nat} {QE : Ev → Prop} (hs : ρ[i]? = some (.own p (.lst ds))) (e : ixN ds.length j = some n) (k : QE (ρ.set i (.own p (.lst (ds.set n d))))) : Ok (bSub i (fC (.int j)) d ρ) QE :=
  w_bSub hs (w_c ⟨p, ds, j, n, rfl, hs, e, k⟩)
end
end Mm

namespace Mm
open PySem L2
theorem kept_len : ∀ {ρ ρ' : Ev}, kept ρ ρ' = true → ρ.length ≤ ρ'.length
  | [], _, _ => Nat.zero_le _
  | _ :: r, _ :: r', h => by
    simp only [kept, Bool.and_eq_true] at h
    exact Nat.succ_le_succ (kept_len h.2)
  | _ :: _, [], h => by simp only [kept] at h; cases h
theorem fin_len {ρ ρ' : Ev} {o : Option Out} {d : Dt} (h : fin ρ o = some (d, ρ')) : ρ.length ≤ ρ'.length := by
  unfold fin at h
  split at h <;> first | (split at h <;> first | (rename_i hk; cases h; exact kept_len hk) | cases h) | cases h
theorem mOf_len {np n : Nat} {g : FS} {ρ ρ' : Ev} {d : Dt} (h : mOf np n g ρ = some (d, ρ')) : ρ.length ≤ ρ'.length := by
  unfold mOf at h
  split at h
  · exact fin_len h
  · cases h
theorem vals_own {ρ : Ev} : ∀ {as : List Arg} {ds : List Dt}, valsOf as = some ds → ownIx ρ as = [] ∧ argSlots ρ as = some (ds.map .ro) ∧ as.length = ds.length ∧ ∀ ρ2 : Ev, ds.length ≤ ρ2.length → backs as ρ2 ρ = some ρ
  | [], ds, h => by cases h; exact ⟨rfl, rfl, rfl, fun _ _ => rfl⟩
  | .val d :: as, ds, h => by
    simp only [valsOf] at h
    cases e : valsOf as with
    | none => rw [e] at h; cases h
    | some es =>
      rw [e] at h
      cases h
      obtain ⟨h1, h2, h3, h4⟩ := vals_own (ρ := ρ) e
      refine ⟨h1, by simp [argSlots, argSlot, h2], by simp [h3], fun ρ2 hl => ?_⟩
      cases ρ2 with
      | nil => simp at hl
      | cons s ρ2 => exact h4 ρ2 (by simpa using hl)
  | .slot _ :: _, _, h => by cases h
section
variable {ρ : Ev} {i : Nat} {d : Dt} {f g fa fb fc : F1} {t t' : FB} {A B : FA} {l l' : FL} {op op' : Dt → Dt → Option Dt} {ds : List Dt} {Q1 : Dt → Ev → Prop} {QB : Bool → Ev → Prop} {QL : List Dt → Ev → Prop} {QA : List Arg → Ev → Prop} {QO : Option Int → Ev → Prop} {QS : Out → Prop} {s s' : FS} {b : FT}
theorem w_callV {np n : Nat} {s : FS} {m : FM} (hm : m = mOf np n s) (h : V1 A ρ fun ds ρ1 => ρ1.length = ρ.length ∧ E1 (m (ds.map .ro)) fun d _ => Q1 d ρ1) : E1 (fCall m A ρ) Q1 := by
  obtain ⟨as, ρ1, e1, ds, e2, hl, d, ρ2, e3, q⟩ := h
  obtain ⟨h1, h2, h3, h4⟩ := vals_own (ρ := ρ1) e2
  have hk : ds.length ≤ ρ2.length := by
    rw [hm] at e3
    have := mOf_len e3
    rwa [List.length_map] at this
  exact w_call ⟨as, ρ1, e1, by rw [h1]; exact List.nodup_nil, _, h2, d, ρ2, e3, ρ1, h4 ρ2 hk, hl, q⟩
def plain (ρ : Ev) (vs : List Nat) : Bool := vs.all fun v => match ρ[v]? with
  | some (.own _ _) => false
  | some _ => true
  | none => false
theorem restE_got {ρ0 ρ : Ev} (hl : ρ.length = ρ0.length) : ∀ {vs : List Nat}, plain ρ0 vs = true → ∃ ρ', restE vs ρ0 ρ = some ρ' ∧ ρ'.length = ρ0.length ∧ ∀ j, ρ'[j]? = if j ∈ vs then ρ0[j]? else ρ[j]?
  | [], _ => ⟨ρ, rfl, hl, fun j => by rw [if_neg (fun m => nomatch m)]⟩
  | v :: vs, hp => by
    unfold plain at hp
    rw [List.all_cons, Bool.and_eq_true] at hp
    obtain ⟨h1, h2⟩ := hp
    obtain ⟨ρ', e1, e2, e3⟩ := restE_got hl (vs := vs) h2
    cases e : ρ0[v]? with
    | none => rw [e] at h1; cases h1
    | some s =>
      have hv : v < ρ0.length := by
        rcases Nat.lt_or_ge v ρ0.length with h | h
        · exact h
        · rw [List.getElem?_eq_none h] at e; cases e
      have hs : restE (v :: vs) ρ0 ρ = some (ρ'.set v s) := by
        cases s with
        | own p c => rw [e] at h1; cases h1
        | ro d => simp only [restE, e, e1, Option.map_some]
        | no => simp only [restE, e, e1, Option.map_some]
        | scr ns => simp only [restE, e, e1, Option.map_some]
      refine ⟨_, hs, by rw [List.length_set]; exact e2, fun j => ?_⟩
      by_cases hj : v = j
      · subst hj
        rw [List.getElem?_set_self (by rw [e2]; exact hv), if_pos (List.mem_cons_self ..), e]
      · rw [List.getElem?_set_ne hj, e3 j]
        by_cases hm : j ∈ vs
        · rw [if_pos hm, if_pos (List.mem_cons_of_mem _ hm)]
        · rw [if_neg hm, if_neg (fun q => (List.mem_cons.mp q).elim (fun q => hj q.symm) hm)]
theorem restE_plain {ρ0 ρ : Ev} {vs : List Nat} (hp : plain ρ0 vs = true) (hl : ρ.length = ρ0.length) (h : ∀ j, j ∉ vs → ρ[j]? = ρ0[j]?) : restE vs ρ0 ρ = some ρ0 := by
  obtain ⟨ρ', e1, e2, e3⟩ := restE_got hl hp
  have e : ρ' = ρ0 := List.ext_getElem? fun j => by
    rw [e3 j]
    by_cases hm : j ∈ vs
    · rw [if_pos hm]
    · rw [if_neg hm, h j hm]
  rw [e1, e]
theorem wipe_len (ρ : Ev) : ∀ vs : List Nat, (wipeE ρ vs).length = ρ.length
  | [] => rfl
  | v :: vs => by simp only [wipeE, List.length_set, wipe_len ρ vs]
theorem wipe_get (ρ : Ev) (j : Nat) : ∀ vs : List Nat, j ∉ vs → (wipeE ρ vs)[j]? = ρ[j]?
  | [], _ => rfl
  | v :: vs, h => by
    simp only [List.mem_cons, not_or] at h
    simp only [wipeE]
    rw [List.getElem?_set_ne (fun e => h.1 e.symm)]
    exact wipe_get ρ j vs h.2
/-- a comprehension that only reads -/
theorem w_lcm {vs : List Nat} (G : Dt → Dt) (h : E1 (l ρ) fun ds ρ1 => ds.length ≤ 100000 ∧ plain ρ1 vs = true ∧ (∀ d ∈ ds, Ok (b d (wipeE ρ1 vs)) fun ρ2 => E1 (t ρ2) fun c ρ3 => c = true ∧ E1 (f ρ3) fun x ρ4 => x = G d ∧ wipeE ρ4 vs = wipeE ρ1 vs) ∧ QL (ds.map G) ρ1) : E1 (fLc vs l b t f ρ) QL := by
  obtain ⟨ds, ρ1, e1, hl, hp, step, q⟩ := h
  refine w_lc ⟨ds, ρ1, e1, hl, E1.mono (lc_map (ρ0 := ρ1) (G := G) ds ρ1 (fun d hd ρ' hw => by rw [hw]; exact step d hd) rfl) ?_⟩
  rintro xs ρ2 ⟨rfl, hw, _⟩
  refine ⟨ρ1, restE_plain hp ?_ ?_, q⟩
  · have := congrArg List.length hw
    rwa [wipe_len, wipe_len] at this
  · intro j hj
    have := congrArg (fun e : Ev => e[j]?) hw
    simp only [wipe_get _ j vs hj] at this
    exact this
theorem boolsOf_map {G : Dt → Bool} : ∀ ds : List Dt, boolsOf (ds.map fun d => .bool (G d)) = some (ds.map G)
  | [] => rfl
  | d :: ds => by simp only [List.map_cons, boolsOf, boolsOf_map ds, Option.map_some]
theorem p_all {G : Dt → Bool} {Q : Dt → Prop} (k : Q (.bool (ds.all G))) : Ok (dAll [.list (ds.map fun d => .bool (G d))]) Q := by
  refine ⟨_, ?_, k⟩
  show (boolsOf _).map _ = _
  rw [boolsOf_map]
  simp [List.all_map]
theorem b_t {A B : Prop} (h : A) : (true = true → A) ∧ (true = false → B) := ⟨fun _ => h, fun h => (nomatch h)⟩
theorem b_f {A B : Prop} (h : B) : (false = true → A) ∧ (false = false → B) := ⟨fun h => (nomatch h), fun _ => h⟩
theorem b_pos {c : Bool} {A B : Prop} (e : c = true) (h : A) : (c = true → A) ∧ (c = false → B) := ⟨fun _ => h, fun q => absurd (e.symm.trans q) (by decide)⟩
theorem b_neg {c : Bool} {A B : Prop} (e : c = false) (h : B) : (c = true → A) ∧ (c = false → B) := ⟨fun q => absurd (e.symm.trans q) (by decide), fun _ => h⟩
theorem w_bTup {n : Nat} {gg : List Dt → Ev → Option Ev} {QE : Ev → Prop} (h : ds.length = n) (k : Ok (gg ds ρ) QE) : Ok (bTup n gg (.tuple ds) ρ) QE := by
  obtain ⟨r, e, q⟩ := k
  exact ⟨r, by simp [bTup, h, e], q⟩
theorem w_bCons {ff : FT} {gg : List Dt → Ev → Option Ev} {QE : Ev → Prop} (k : Ok (ff d ρ) fun ρ1 => Ok (gg ds ρ1) QE) : Ok (bCons ff gg (d :: ds) ρ) QE := by
  obtain ⟨r, e, r2, e2, q⟩ := k
  exact ⟨r2, by simp [bCons, e, e2], q⟩
theorem w_bNil {QE : Ev → Prop} (k : QE ρ) : Ok (bNil [] ρ) QE := ⟨ρ, rfl, k⟩
theorem w_len {n : Nat} {A : Prop} (h : Nat.ble n 100000 = true) (k : A) : n ≤ 100000 ∧ A := ⟨Nat.le_of_ble_eq_true h, k⟩
theorem b_nf {A B : Prop} (h : A) : ((!false) = true → A) ∧ ((!false) = false → B) := ⟨fun _ => h, fun h => (nomatch h)⟩
theorem b_nt {A B : Prop} (h : B) : ((!true) = true → A) ∧ ((!true) = false → B) := ⟨fun h => (nomatch h), fun _ => h⟩
section
variable {Q : Dt → Prop} {QD : List Dt → Prop} {lo hi : Option Int} {x : Str}
theorem p_lenT (k : Q (.int ds.length)) : Ok (dLen [.tuple ds]) Q := ⟨_, rfl, k⟩
theorem p_lenL (k : Q (.int ds.length)) : Ok (dLen [.list ds]) Q := ⟨_, rfl, k⟩
theorem p_ixT {i : Int} {d : Dt} (h : atI ds i = some d) (k : Q d) : Ok (dIx (.tuple ds) (.int i)) Q := ⟨d, h, k⟩
theorem p_ixL {i : Int} {d : Dt} (h : atI ds i = some d) (k : Q d) : Ok (dIx (.list ds) (.int i)) Q := ⟨d, h, k⟩
theorem p_notinT {d : Dt} (h : okD d = true) (hc : okD (.tuple ds) = true) (k : Q (.bool (!(ds.any fun z => PyData.eqv z d)))) : Ok (dNotIn d (.tuple ds)) Q := ⟨_, by (unfold dNotIn inD; simp only [h, hc, and_self, if_true, Option.map_some]), k⟩
theorem p_eqB {a b : Bool} (k : Q (.bool (a == b))) : Ok (dEq (.bool a) (.bool b)) Q := ⟨_, rfl, k⟩
theorem p_eqS {a b : Str} (k : Q (.bool (decide (a = b)))) : Ok (dEq (.str a) (.str b)) Q := ⟨_, rfl, k⟩
theorem p_ixM {i : Int} (h : 0 ≤ i ∧ i < ds.length) (k : ∀ d ∈ ds, Q d) : Ok (dIx (.list ds) (.int i)) Q := by
  have hi : i.toNat < ds.length := by omega
  have e : ds[i.toNat]? = some (ds[i.toNat]'hi) := List.getElem?_eq_getElem hi
  refine ⟨_, ?_, k _ (List.getElem_mem hi)⟩
  show (ixN ds.length i).bind (fun j => ds[j]?) = _
  unfold ixN
  rw [if_pos h.1, if_pos h.2]
  exact e
theorem p_ixMT {i : Int} (h : 0 ≤ i ∧ i < ds.length) (k : ∀ d ∈ ds, Q d) : Ok (dIx (.tuple ds) (.int i)) Q := p_ixM h k
theorem p_str {i : Int} (h : i.natAbs.log2 < 1920) (k : Q (.str (toString i : String))) : Ok (dStr [.int i]) Q := ⟨_, if_pos h, k⟩
theorem p_addS {a b : Str} (h : a.length + b.length ≤ 100000) (k : Q (.str (a ++ b))) : Ok (dAdd (.str a) (.str b)) Q := ⟨_, if_pos (decide_eq_true h), k⟩
theorem p_addT {a b : List Dt} (h : a.length + b.length ≤ 100000) (k : Q (.tuple (a ++ b))) : Ok (dAdd (.tuple a) (.tuple b)) Q := ⟨_, if_pos (decide_eq_true h), k⟩
theorem p_addL {a b : List Dt} (h : a.length + b.length ≤ 100000) (k : Q (.list (a ++ b))) : Ok (dAdd (.list a) (.list b)) Q := ⟨_, if_pos (decide_eq_true h), k⟩
theorem p_slS (h : x.length ≤ 100000) (k : Q (.str (cutS x lo hi))) : Ok (dSlice (.str x) lo hi) Q := ⟨_, if_pos (decide_eq_true h), k⟩
theorem p_up (h : x.length ≤ 100000) (k : Q (.str (Txt.upper x))) : Ok (dUpper (.str x)) Q := ⟨_, if_pos (decide_eq_true h), k⟩
theorem p_lenS (h : x.length ≤ 100000) (k : Q (.int x.length)) : Ok (dLen [.str x]) Q := ⟨_, if_pos (decide_eq_true h), k⟩
theorem p_tupL (k : Q (.tuple ds)) : Ok (dTuple [.list ds]) Q := ⟨_, rfl, k⟩
theorem p_tupT (k : Q (.tuple ds)) : Ok (dTuple [.tuple ds]) Q := ⟨_, rfl, k⟩
theorem p_lstL (k : QD ds) : Ok (dList [.list ds]) QD := ⟨_, rfl, k⟩
theorem p_lstT (k : QD ds) : Ok (dList [.tuple ds]) QD := ⟨_, rfl, k⟩
theorem p_itT (k : QD ds) : Ok (items (.tuple ds)) QD := ⟨_, rfl, k⟩
theorem p_itL (k : QD ds) : Ok (items (.list ds)) QD := ⟨_, rfl, k⟩
theorem p_itS (k : QD (chars x)) : Ok (items (.str x)) QD := ⟨_, rfl, k⟩
theorem p_slT (k : Q (.tuple (cutD ds lo hi))) : Ok (dSlice (.tuple ds) lo hi) Q := ⟨_, rfl, k⟩
theorem p_slL (k : Q (.list (cutD ds lo hi))) : Ok (dSlice (.list ds) lo hi) Q := ⟨_, rfl, k⟩
theorem p_ltS {a b : Str} (k : Q (.bool (strLt a b))) : Ok (dLt (.str a) (.str b)) Q := ⟨_, rfl, k⟩
theorem p_geS {a b : Str} (k : Q (.bool (!strLt a b))) : Ok (dGe (.str a) (.str b)) Q := ⟨_, rfl, k⟩
end
end
end Mm

namespace Mm
open PySem L2
/-! slots that may be set anew -/
def FreeS (s : Slot) : Prop := ∀ c, s ≠ .own true c
theorem FreeS.ro {d : Dt} : FreeS (.ro d) := fun c h => nomatch h
theorem FreeS.no : FreeS .no := fun c h => nomatch h
theorem FreeS.own {c : OC} : FreeS (.own false c) := fun c h => nomatch h
theorem free_of {ρ : Ev} {i : Nat} {s : Slot} (e : ρ[i]? = some s) (h : FreeS s) : free ρ i = true := by
  unfold free
  rw [e]
  cases s with
  | own p c =>
    cases p with
    | true => exact absurd rfl (h c)
    | false => rfl
  | no => rfl
  | ro d => rfl
  | scr ns => rfl
theorem app_cps (x y : Str) : (x ++ y).cps.toList = x.cps.toList ++ y.cps.toList := by
  show (x.cps ++ y.cps).toList = _
  exact Array.toList_append
theorem join_cps : ∀ ys : List Str, (Txt.join "" ys).cps.toList = (ys.map (·.cps.toList)).flatten := by
  intro ys
  have je : Txt.join "" ys = Str.join "" ys := StrLaws.glued_eq_join _ _
  rw [je]
  clear je
  induction ys with
  | nil => rfl
  | cons x ys ih =>
    cases ys with
    | nil => show x.cps.toList = _; simp
    | cons y r =>
      show (x ++ "" ++ Str.join "" (y :: r)).cps.toList = _
      rw [app_cps, app_cps, ih]
      show _ ++ [] ++ _ = _
      simp
theorem strsOf_map : ∀ ys : List Str, strsOf (ys.map .str) = some ys
  | [] => rfl
  | y :: ys => by simp only [List.map_cons, strsOf, strsOf_map ys, Option.map_some]
theorem p_join {ys : List Str} {a : Str} {Q : Dt → Prop} (h : (ys.map (·.length)).sum + ys.length * a.length ≤ 16777216) (k : Q (.str (Txt.join a ys))) : Ok (dJoin (.str a) (.list (ys.map .str))) Q := by
  refine ⟨_, ?_, k⟩
  unfold dJoin
  simp only [strsOf_map]
  rw [if_pos h]
theorem p_ixStr {x : Str} {i : Int} {Q : Dt → Prop} (hl : x.length ≤ 100000) (h : 0 ≤ i ∧ i < x.length) (k : ∀ c, x.cps.toList[i.toNat]? = some c → Q (.str ⟨#[c]⟩)) : Ok (dIx (.str x) (.int i)) Q := by
  have hi : i.toNat < x.cps.toList.length := by have : x.cps.toList.length = x.length := rfl; omega
  have e : x.cps.toList[i.toNat]? = some (x.cps.toList[i.toNat]'hi) := List.getElem?_eq_getElem hi
  refine ⟨_, ?_, k _ e⟩
  show (if lenOk x.length = true then (atI x.cps.toList i).map fun c => (PyData.str ⟨#[c]⟩ : Dt) else none) = _
  rw [if_pos (show lenOk x.length = true from decide_eq_true hl)]
  unfold atI ixN
  rw [if_pos h.1, if_pos (show i < (x.cps.toList.length : Nat) from h.2)]
  show Option.map _ (x.cps.toList[i.toNat]?) = _
  rw [e]; rfl
theorem p_neS {a b : Str} {Q : Dt → Prop} (ha : okD (.str a) = true) (hb : okD (.str b) = true) (k : Q (.bool (!PyData.eqv (.str a) (.str b)))) : Ok (dNe (.str a) (.str b)) Q := ⟨_, if_pos ⟨ha, hb⟩, k⟩
theorem p_mulS {a : Str} {j : Int} {Q : Dt → Prop} (h : 0 ≤ j ∧ j ≤ 1) (k : Q (.str (Txt.mul a j))) : Ok (dMul (.str a) (.int j)) Q := ⟨_, if_pos h, k⟩
section
variable {b : FT} {s : FS} {t : FB} {f : F1}
/-- a loop, by how many rounds are done -/
theorem loop_ix {J : Nat → Ev → Prop} {QS : Out → Prop} (ds : List Dt)
    (step : ∀ (i : Nat) (d : Dt) (ρ : Ev), ds[i]? = some d → J i ρ → Ok (b d ρ) fun ρ1 => Ok (s ρ1) (LoopK (J (i + 1)) QS))
    (done : ∀ ρ, J ds.length ρ → QS (.nx ρ)) (ρ : Ev) (h0 : J 0 ρ) : Ok (loopL b s ds ρ) QS := by
  have main : ∀ (es : List Dt) (i : Nat) (ρ : Ev), ds.drop i = es → i ≤ ds.length → J i ρ → Ok (loopL b s es ρ) QS := by
    intro es
    induction es with
    | nil =>
      intro i ρ e hi h
      have : i = ds.length := by
        have := congrArg List.length e
        rw [List.length_drop, List.length_nil] at this
        omega
      subst this
      exact ⟨_, rfl, done ρ h⟩
    | cons d es ih =>
      intro i ρ e hi hj
      have hd : ds[i]? = some d := by
        have := congrArg (fun l : List Dt => l[0]?) e
        simpa using this
      have he : ds.drop (i + 1) = es := by rw [← List.drop_drop, e]; rfl
      have hi' : i + 1 ≤ ds.length := by
        have := (List.getElem?_eq_some_iff.mp hd).1
        omega
      obtain ⟨ρ1, e1, o, e2, q1⟩ := step i d ρ hd hj
      cases o with
      | nx ρ2 => obtain ⟨r, e3, q⟩ := ih (i + 1) ρ2 he hi' q1; exact ⟨r, by simp [loopL, e1, e2, e3], q⟩
      | ct ρ2 => obtain ⟨r, e3, q⟩ := ih (i + 1) ρ2 he hi' q1; exact ⟨r, by simp [loopL, e1, e2, e3], q⟩
      | bk ρ2 => exact ⟨_, by simp [loopL, e1, e2], q1⟩
      | rt v ρ2 => exact ⟨_, by simp [loopL, e1, e2], q1⟩
      | rn v ρ2 => exact ⟨_, by simp [loopL, e1, e2], q1⟩
  exact main ds 0 ρ (List.drop_zero ..) (Nat.zero_le _) h0
/-- a comprehension that asks nothing, by how many rounds are done -/
theorem lc_ix {vs : List Nat} {J : Nat → List Dt → Ev → Prop} (ds : List Dt)
    (step : ∀ (i : Nat) (d : Dt) (xs : List Dt) (ρ : Ev), ds[i]? = some d → J i xs ρ → Ok (b d (wipeE ρ vs)) fun ρ1 => E1 (t ρ1) fun c ρ2 => c = true ∧ E1 (f ρ2) fun x ρ3 => J (i + 1) (xs ++ [x]) ρ3)
    (ρ : Ev) (h0 : J 0 [] ρ) : E1 (lcF vs b t f ds ρ) fun xs ρ' => J ds.length xs ρ' := by
  have main : ∀ (es : List Dt) (i : Nat) (ys : List Dt) (ρ : Ev), ds.drop i = es → i ≤ ds.length → J i ys ρ → E1 (lcF vs b t f es ρ) fun xs ρ' => J ds.length (ys ++ xs) ρ' := by
    intro es
    induction es with
    | nil =>
      intro i ys ρ e hi h
      have : i = ds.length := by
        have := congrArg List.length e
        rw [List.length_drop, List.length_nil] at this
        omega
      subst this
      exact ⟨_, _, rfl, by show J ds.length (ys ++ []) ρ; rw [List.append_nil]; exact h⟩
    | cons d es ih =>
      intro i ys ρ e hi hj
      have hd : ds[i]? = some d := by
        have := congrArg (fun l : List Dt => l[0]?) e
        simpa using this
      have he : ds.drop (i + 1) = es := by rw [← List.drop_drop, e]; rfl
      have hi' : i + 1 ≤ ds.length := by
        have := (List.getElem?_eq_some_iff.mp hd).1
        omega
      obtain ⟨ρ1, e1, c, ρ2, e2, rfl, x, ρ3, e3, q⟩ := step i d ys ρ hd hj
      obtain ⟨xs, ρ4, e4, q4⟩ := ih (i + 1) (ys ++ [x]) ρ3 he hi' q
      refine ⟨x :: xs, ρ4, by simp [lcF, e1, e2, e3, e4], ?_⟩
      rw [List.append_assoc] at q4
      exact q4
  exact (main ds 0 [] ρ (List.drop_zero ..) (Nat.zero_le _) h0)
end
theorem finN_len {ρ ρ' : Ev} {o : Option Out} {d : List Dt} (h : finN ρ o = some (d, ρ')) : ρ.length ≤ ρ'.length := by
  unfold finN at h
  split at h <;> first | (split at h <;> first | (rename_i hk; cases h; exact kept_len hk) | cases h) | cases h
theorem mOfN_len {np n : Nat} {g : FS} {ρ ρ' : Ev} {d : List Dt} (h : mOfN np n g ρ = some (d, ρ')) : ρ.length ≤ ρ'.length := by
  unfold mOfN at h
  split at h
  · exact finN_len h
  · cases h
theorem w_callNV {ρ : Ev} {A : FA} {QL : List Dt → Ev → Prop} {np n : Nat} {s : FS} {m : FN} (hm : m = mOfN np n s) (h : V1 A ρ fun ds ρ1 => ρ1.length = ρ.length ∧ E1 (m (ds.map .ro)) fun d _ => QL d ρ1) : E1 (fCallN m A ρ) QL := by
  obtain ⟨as, ρ1, e1, ds, e2, hl, d, ρ2, e3, q⟩ := h
  obtain ⟨h1, h2, h3, h4⟩ := vals_own (ρ := ρ1) e2
  have hk : ds.length ≤ ρ2.length := by
    rw [hm] at e3
    have := mOfN_len e3
    rwa [List.length_map] at this
  exact w_callN ⟨as, ρ1, e1, by rw [h1]; exact List.nodup_nil, _, h2, d, ρ2, e3, ρ1, h4 ρ2 hk, hl, q⟩
theorem range_get {lo : Int} {n i : Nat} {d : Dt} (h : (rangeD lo n)[i]? = some d) : i < n ∧ d = .int (lo + i) := by
  unfold rangeD at h
  rw [List.getElem?_map] at h
  rcases Nat.lt_or_ge i n with q | q
  · rw [List.getElem?_range q] at h
    exact ⟨q, by simpa using h.symm⟩
  · rw [List.getElem?_eq_none (by simpa using q)] at h
    cases h
theorem range_len {lo : Int} {n : Nat} : (rangeD lo n).length = n := by unfold rangeD; rw [List.length_map, List.length_range]
end Mm

namespace K01
open PySem L2 Mm
local macro_rules
  | `(tactic| decreasing_trivial_pre_omega) => `(tactic| repeat (first | (with_reducible first | refine Mm.w_c ?_ | refine Mm.w_bin ?_ | refine Mm.w_isi ?_ | refine Mm.w_isi2 ?_ | refine Mm.w_un ?_ | refine Mm.w_test ?_ | refine Mm.w_chain ?_ | refine Mm.w_gAnd ?_ | refine Mm.w_gOr ?_ | refine Mm.w_gNot ?_ | refine Mm.w_yes ?_ | refine Mm.w_and ?_ | refine Mm.w_or ?_ | refine Mm.w_not ?_ | refine Mm.w_if ?_ | refine Mm.w_nil ?_ | refine Mm.w_cons ?_ | refine Mm.w_an ?_ | refine Mm.v_nil ?_ | refine Mm.v_cons ?_ | refine Mm.w_disp ?_ | refine Mm.w_tup ?_ | refine Mm.w_frz ?_ | refine Mm.w_cb ?_ | refine Mm.w_cn ?_ | refine Mm.w_items ?_ | refine Mm.w_range1 ?_ | refine Mm.w_zip ?_ | refine Mm.w_enum ?_ | refine Mm.w_oNone ?_ | refine Mm.w_oSome ?_ | refine Mm.w_slice ?_ | refine Mm.s_nx ?_ | refine Mm.s_seq ?_ | refine Mm.s_asg ?_ | refine Mm.s_setN ?_ | refine Mm.s_ret ?_ | refine Mm.s_retL ?_ | refine Mm.s_expr ?_ | refine Mm.s_if ?_ | refine Mm.s_par ?_ | refine Mm.s_for ?_ | refine Mm.k_rt ?_ | refine Mm.k_rn ?_ | refine Mm.k_bk ?_ | refine Mm.k_ct ?_ | refine Mm.l_nx ?_ | refine Mm.l_rt ?_ | refine Mm.b_t ?_ | refine Mm.b_f ?_ | refine Mm.b_nf ?_ | refine Mm.b_nt ?_ | refine Mm.w_bCons ?_ | refine Mm.w_bNil ?_ | refine Mm.p_gt ?_ | refine Mm.p_lt ?_ | refine Mm.p_ge ?_ | refine Mm.p_le ?_ | refine Mm.p_add ?_ | refine Mm.p_sub ?_ | refine Mm.p_neg ?_ | refine Mm.p_eq ?_ | refine Mm.p_ne ?_ | refine Mm.p_int ?_ | refine Mm.p_intB ?_ | refine Mm.p_abs ?_ | refine Mm.p_max ?_ | refine Mm.p_min ?_ | refine Mm.p_eqB ?_ | refine Mm.p_eqS ?_ | refine Mm.p_tupL ?_ | refine Mm.p_tupT ?_ | refine Mm.p_lstL ?_ | refine Mm.p_lstT ?_ | refine Mm.p_lenT ?_ | refine Mm.p_lenL ?_ | refine Mm.p_itT ?_ | refine Mm.p_itL ?_ | refine Mm.p_itS ?_ | refine Mm.p_slT ?_ | refine Mm.p_slL ?_ | refine Mm.p_ltS ?_ | refine Mm.p_geS ?_ | refine ⟨_, rfl, ?_⟩) | ((with_reducible apply Mm.w_var); exact rfl) | ((with_reducible apply Mm.w_slot); exact rfl) | ((with_reducible apply Mm.w_bName); exact rfl) | ((with_reducible apply Mm.w_lenL); exact rfl) | ((with_reducible apply Mm.w_lenD); exact rfl) | ((with_reducible apply Mm.p_ixT); exact rfl) | ((with_reducible apply Mm.p_ixL); exact rfl) | ((with_reducible apply Mm.w_bTup); exact rfl) | ((with_reducible apply Mm.w_len); exact rfl) | ((with_reducible apply Mm.w_append); exact rfl) | ((with_reducible apply Mm.w_varO); exact rfl) | ((with_reducible apply Mm.f_nx); exact rfl) | ((with_reducible apply Mm.f_rt); exact rfl) | ((with_reducible apply Mm.f_rn); exact rfl) | ((with_reducible apply Mm.f_rnL); exact rfl) | ((with_reducible refine Mm.k_nx ?_) <;> try (simp only [List.set_cons_succ, List.set_cons_zero, List.set_nil, List.cons_append, List.nil_append, List.take_succ_cons, List.take_zero, List.take_nil, List.replicate_succ, List.replicate_zero, List.length_cons, List.length_nil, List.length_set, Nat.reduceAdd, Nat.reduceSub, Mm.slotArgs, Mm.putArgs, Mm.putArg, Mm.putSlot])) | ((with_reducible apply Mm.w_bName); exact Mm.free_of rfl (by assumption)) | ((with_reducible apply Mm.w_ixC); exact rfl; exact rfl) | ((with_reducible apply Mm.w_bSubC); exact rfl; exact rfl) | ((with_reducible refine ⟨?_, ?_⟩); exact rfl) | ((with_reducible refine ⟨?_, ?_⟩); exact Mm.free_of rfl (by assumption))))
abbrev tp (p : Bool) (t : Int × Int × Int) : Slot := .own p (.lst [.int t.1, .int t.2.1, .int t.2.2])
def Tok (k : Nat) (t : Int × Int × Int) : Prop := 0 ≤ t.1 ∧ 0 ≤ t.2.1 ∧ t.2.1 < 2 ^ 62 ∧ 0 ≤ t.2.2 ∧ t.2.2 + k ≤ 10000000
theorem Tok.le {k j : Nat} {t : Int × Int × Int} (h : Tok k t) (e : j ≤ k) : Tok j t := ⟨h.1, h.2.1, h.2.2.1, h.2.2.2.1, by have := h.2.2.2.2; omega⟩
theorem modP {i : Int} {n : Int} (h : 0 < n) : 0 ≤ i % n ∧ i % n < n := ⟨Int.emod_nonneg _ (by omega), Int.emod_lt_of_pos _ h⟩
theorem draw_ok {k : Nat} {t : Int × Int × Int} {n : Int} {P : Dt → Ev → Prop} (h : Tok (k + 1) t) (hn : 0 < n) (hn' : n < 1000000)
    (q : ∀ r t' rest, 0 ≤ r → r < n → Tok k t' → P (.int r) (tp true t' :: .ro (.int n) :: rest)) :
    E1 (m_law_draw [tp true t, .ro (.int n)]) P := by
  obtain ⟨a, b, c⟩ := t
  obtain ⟨ha, hb, hb', hc, hc'⟩ := h
  simp only at ha hb hb' hc hc'
  unfold m_law_draw g_law_draw
  refine m_of rfl ?_
  decreasing_trivial_pre_omega
  refine ⟨fun hx => ?_, fun hx => ?_⟩
  · decreasing_trivial_pre_omega
    refine p_mod hn ?_
    decreasing_trivial_pre_omega
    refine p_div ⟨hn, by omega⟩ ?_
    decreasing_trivial_pre_omega
    have m := modP (i := a) hn
    exact q _ (a / n, b, c) _ m.1 m.2 ⟨Int.ediv_nonneg ha (by omega), hb, hb', hc, by first | omega | (simp only; omega)⟩
  · decreasing_trivial_pre_omega
    refine p_mul (Or.inl (by decide)) ?_
    decreasing_trivial_pre_omega
    refine p_pow ⟨by decide, by decide, by first | omega | (simp only; omega)⟩ ?_
    decreasing_trivial_pre_omega
    refine p_mod (by decide) ?_
    decreasing_trivial_pre_omega
    refine p_mod (by decide) ?_
    decreasing_trivial_pre_omega
    have m3 := modP (i := (b + 39373 * (c + 1)) ^ (5 : Int).toNat) (n := 2147483647) (by decide)
    refine p_mul (Or.inl (by first | omega | (simp only; omega))) ?_
    decreasing_trivial_pre_omega
    refine p_mod (by decide) ?_
    decreasing_trivial_pre_omega
    refine p_div (by decide) ?_
    decreasing_trivial_pre_omega
    refine p_mul (Or.inr (by decide)) ?_
    decreasing_trivial_pre_omega
    refine p_mod (by decide) ?_
    decreasing_trivial_pre_omega
    refine p_mul (Or.inr (by decide)) ?_
    decreasing_trivial_pre_omega
    refine p_mul (Or.inr (by decide)) ?_
    decreasing_trivial_pre_omega
    refine p_mod (by decide) ?_
    decreasing_trivial_pre_omega
    refine p_div (by decide) ?_
    decreasing_trivial_pre_omega
    refine p_mod hn ?_
    decreasing_trivial_pre_omega
    have m := fun i => modP (i := i) hn
    exact q _ (a, b, c + 1) _ (m _).1 (m _).2 ⟨ha, hb, hb', by first | omega | (simp only; omega), by first | omega | (simp only; omega)⟩
/-- a draw where it stands -/
theorem w_draw {k : Nat} {ρ : Ev} {i : Nat} {f : F1} {Q : Dt → Ev → Prop} (v : isVal ρ[i]? = true)
    (h : E1 (f ρ) fun d ρ1 => ρ1.length = ρ.length ∧ ∃ p t n, ρ1[i]? = some (tp p t) ∧ d = .int n ∧ 0 < n ∧ n < 1000000 ∧ Tok (k + 1) t ∧ ∀ r t', 0 ≤ r → r < n → Tok k t' → Q (.int r) (ρ1.set i (tp p t'))) :
    E1 (fCall m_law_draw (fASlot i (fACons f fANil)) ρ) Q := by
  obtain ⟨d, ρ1, e1, hl, p, t, n, e2, rfl, h1, h2, h3, q⟩ := h
  refine w_call (w_slot v (w_cons ⟨_, ρ1, e1, w_nil ⟨?_, [tp true t, .ro (.int n)], ?_, ?_⟩⟩))
  · show (ownIx ρ1 [.slot i, .val _]).Nodup
    simp only [ownIx, e2]
    simp
  · simp [argSlots, argSlot, e2, slotIn]
  · refine draw_ok h3 h1 h2 fun r t' rest r1 r2 r3 => ⟨ρ1.set i (tp p t'), ?_, by rw [List.length_set]; exact hl, q r t' r1 r2 r3⟩
    show backs [.slot i, .val _] (tp true t' :: _ :: rest) ρ1 = _
    simp [backs, e2]
end K01

namespace K01
open PySem L2 Mm
/-- all signs are small -/
def asc (x : Str) : Bool := x.cps.toList.all fun c => decide (c < 128)
mutual
def lvs (B : Nat) : Dt → Bool
  | .none => true
  | .bool _ => true
  | .int i => decide (i.natAbs ≤ B)
  | .str x => asc x
  | .list xs => lvsAll B xs
  | .tuple xs => lvsAll B xs
  | .dict _ => false
def lvsAll (B : Nat) : List Dt → Bool
  | [] => true
  | x :: xs => lvs B x && lvsAll B xs
end
structure Tm (B W D : Nat) (d : Dt) : Prop where
  lv : lvs B d = true
  bk : d.bulk ≤ W
  dp : d.depth ≤ D
structure Ts (B W D : Nat) (ds : List Dt) : Prop where
  lv : lvsAll B ds = true
  bk : PyData.bulkAll ds ≤ W
  dp : PyData.depthAll ds ≤ D
theorem Ts.nil {B W D : Nat} : Ts B W D [] := ⟨rfl, Nat.zero_le _, Nat.zero_le _⟩
theorem Ts.cons {B W V D : Nat} {d : Dt} {ds : List Dt} (h : Tm B W D d) (k : Ts B V D ds) : Ts B (W + 1 + V) D (d :: ds) :=
  ⟨by simp only [lvsAll, h.lv, k.lv, Bool.and_self], by (have := h.bk; have := k.bk; simp only [PyData.bulkAll]; omega), by (have := h.dp; have := k.dp; simp only [PyData.depthAll]; omega)⟩
theorem Ts.head {B W D : Nat} {d : Dt} {ds : List Dt} (h : Ts B W D (d :: ds)) : Tm B (W - 1) D d ∧ Ts B W D ds := by
  obtain ⟨h1, h2, h3⟩ := h
  simp only [lvsAll, Bool.and_eq_true, PyData.bulkAll, PyData.depthAll] at h1 h2 h3
  exact ⟨⟨h1.1, by omega, by omega⟩, ⟨h1.2, by omega, by omega⟩⟩
theorem Tm.le {B W D B' W' D' : Nat} {d : Dt} (h : Tm B W D d) (e1 : B = B') (e2 : W ≤ W') (e3 : D ≤ D') : Tm B' W' D' d := by
  subst e1; exact ⟨h.lv, Nat.le_trans h.bk e2, Nat.le_trans h.dp e3⟩
theorem Ts.le {B W D W' D' : Nat} {d : List Dt} (h : Ts B W D d) (e2 : W ≤ W') (e3 : D ≤ D') : Ts B W' D' d :=
  ⟨h.lv, Nat.le_trans h.bk e2, Nat.le_trans h.dp e3⟩
mutual
theorem lvs_up {B C : Nat} (h : B ≤ C) : ∀ d : Dt, lvs B d = true → lvs C d = true
  | .none, _ => rfl
  | .bool _, _ => rfl
  | .int i, q => by simp only [lvs, decide_eq_true_eq] at q ⊢; omega
  | .str x, q => q
  | .list xs, q => by simp only [lvs] at q ⊢; exact lvsAll_up h xs q
  | .tuple xs, q => by simp only [lvs] at q ⊢; exact lvsAll_up h xs q
  | .dict _, q => by simp only [lvs] at q; cases q
theorem lvsAll_up {B C : Nat} (h : B ≤ C) : ∀ ds : List Dt, lvsAll B ds = true → lvsAll C ds = true
  | [], _ => rfl
  | x :: xs, q => by
    simp only [lvsAll, Bool.and_eq_true] at q ⊢
    exact ⟨lvs_up h x q.1, lvsAll_up h xs q.2⟩
end
theorem Tm.up {B W D B' W' D' : Nat} {d : Dt} (h : Tm B W D d) (e1 : B ≤ B') (e2 : W ≤ W') (e3 : D ≤ D') : Tm B' W' D' d := ⟨lvs_up e1 d h.lv, Nat.le_trans h.bk e2, Nat.le_trans h.dp e3⟩
theorem Ts.up {B W D B' W' D' : Nat} {d : List Dt} (h : Ts B W D d) (e1 : B ≤ B') (e2 : W ≤ W') (e3 : D ≤ D') : Ts B' W' D' d := ⟨lvsAll_up e1 d h.lv, Nat.le_trans h.bk e2, Nat.le_trans h.dp e3⟩
theorem Ts.app {B W V D : Nat} : ∀ {xs ys : List Dt}, Ts B W D xs → Ts B V D ys → Ts B (W + V) D (xs ++ ys)
  | [], ys, _, k => k.le (Nat.le_add_left ..) (Nat.le_refl _)
  | x :: xs, ys, h, k => by
    obtain ⟨h1, h2, h3⟩ := h
    simp only [lvsAll, Bool.and_eq_true, PyData.bulkAll, PyData.depthAll] at h1 h2 h3
    have a : Tm B x.bulk D x := ⟨h1.1, Nat.le_refl _, by omega⟩
    have b : Ts B (W - (x.bulk + 1)) D xs := ⟨h1.2, by omega, by omega⟩
    exact (Ts.cons a (b.app k)).le (by omega) (Nat.le_refl _)
theorem Ts.cut {B W D : Nat} (n : Nat) : ∀ {xs : List Dt}, Ts B W D xs → ∃ W1 W2, W1 + W2 ≤ W ∧ Ts B W1 D (xs.take n) ∧ Ts B W2 D (xs.drop n) := by
  induction n generalizing W with
  | zero => exact fun {xs} h => ⟨0, W, by omega, by rw [List.take_zero]; exact .nil, h⟩
  | succ n ih =>
    intro xs h
    cases xs with
    | nil => exact ⟨0, 0, by omega, .nil, .nil⟩
    | cons x xs =>
      obtain ⟨h1, h2, h3⟩ := h
      simp only [lvsAll, Bool.and_eq_true, PyData.bulkAll, PyData.depthAll] at h1 h2 h3
      have a : Tm B x.bulk D x := ⟨h1.1, Nat.le_refl _, by omega⟩
      have b : Ts B (W - (x.bulk + 1)) D xs := ⟨h1.2, by omega, by omega⟩
      obtain ⟨W1, W2, e, p, q⟩ := ih b
      exact ⟨x.bulk + 1 + W1, W2, by omega, .cons a p, q⟩
theorem Ts.mem {B W D : Nat} {d : Dt} : ∀ {xs : List Dt}, Ts B W D xs → d ∈ xs → Tm B (W - 1) D d
  | x :: xs, h, m => by
    rcases List.mem_cons.mp m with rfl | m
    · exact h.head.1
    · exact h.head.2.mem m
theorem Ts.of_mem {B W D : Nat} : ∀ {xs : List Dt}, (∀ d ∈ xs, Tm B W D d) → Ts B (xs.length * (W + 1)) D xs
  | [], _ => .nil
  | x :: xs, h => (Ts.cons (h x (List.mem_cons_self ..)) (Ts.of_mem fun d m => h d (List.mem_cons_of_mem _ m))).le (by rw [List.length_cons, Nat.add_mul]; omega) (Nat.le_refl _)
theorem bulk_len : ∀ xs : List Dt, xs.length ≤ PyData.bulkAll xs
  | [] => Nat.le_refl _
  | x :: xs => by have := bulk_len xs; simp only [List.length_cons, PyData.bulkAll]; omega
theorem Ts.len {B W D : Nat} {xs : List Dt} (h : Ts B W D xs) : xs.length ≤ W := Nat.le_trans (bulk_len xs) h.bk
theorem Ts.tup {B W D : Nat} {xs : List Dt} (h : Ts B W D xs) : Tm B W (D + 1) (.tuple xs) := ⟨h.lv, h.bk, by (have := h.dp; simp only [PyData.depth]; omega)⟩
theorem Ts.lst {B W D : Nat} {xs : List Dt} (h : Ts B W D xs) : Tm B W (D + 1) (.list xs) := ⟨h.lv, h.bk, by (have := h.dp; simp only [PyData.depth]; omega)⟩
theorem Tm.untup {B W D : Nat} {xs : List Dt} (h : Tm B W D (.tuple xs)) : Ts B W (D - 1) xs ∧ 1 ≤ D := by
  obtain ⟨h1, h2, h3⟩ := h
  simp only [lvs, PyData.bulk, PyData.depth] at h1 h2 h3
  exact ⟨⟨h1, h2, by omega⟩, by omega⟩
theorem Tm.unlst {B W D : Nat} {xs : List Dt} (h : Tm B W D (.list xs)) : Ts B W (D - 1) xs ∧ 1 ≤ D := by
  obtain ⟨h1, h2, h3⟩ := h
  simp only [lvs, PyData.bulk, PyData.depth] at h1 h2 h3
  exact ⟨⟨h1, h2, by omega⟩, by omega⟩
mutual
theorem lvs_lay {B : Nat} : ∀ d : Dt, lvs B d = true → d.canLay0 = true
  | .none, _ => rfl
  | .bool _, _ => rfl
  | .int i, q => rfl
  | .str x, q => by
    simp only [lvs, asc, List.all_eq_true, decide_eq_true_eq] at q
    simp only [PyData.canLay0, PyData.strOk, ← Array.all_toList, List.all_eq_true, decide_eq_true_eq]
    intro c hc
    have := q c hc
    omega
  | .list xs, q => by simp only [lvs] at q; simp only [PyData.canLay0]; exact lvsAll_lay xs q
  | .tuple xs, q => by simp only [lvs] at q; simp only [PyData.canLay0]; exact lvsAll_lay xs q
  | .dict _, q => by simp only [lvs] at q; cases q
theorem lvsAll_lay {B : Nat} : ∀ ds : List Dt, lvsAll B ds = true → PyData.canLayAll0 ds = true
  | [], _ => rfl
  | x :: xs, q => by
    simp only [lvsAll, Bool.and_eq_true] at q
    simp only [PyData.canLayAll0, Bool.and_eq_true]
    exact ⟨lvs_lay x q.1, lvsAll_lay xs q.2⟩
end
mutual
theorem lvs_short {B : Nat} (h : B < 10 ^ 12) : ∀ d : Dt, lvs B d = true → d.leavesShort 13 = true ∧ d.showable = true
  | .none, _ => ⟨rfl, rfl⟩
  | .bool _, _ => ⟨rfl, rfl⟩
  | .int i, q => by
    simp only [lvs, decide_eq_true_eq] at q
    have h1 : i.natAbs < 10 ^ 12 := by omega
    refine ⟨by simp only [PyData.leavesShort, decide_eq_true_eq]; exact PyData.shown_int_le h1, ?_⟩
    simp only [PyData.showable, decide_eq_true_eq]
    by_cases h0 : i.natAbs = 0
    · rw [h0]; decide
    · have h2 : i.natAbs < 2 ^ 40 := Nat.lt_of_lt_of_le h1 (by decide)
      have := (Nat.log2_lt h0).mpr h2
      omega
  | .str x, q => by
    simp only [lvs, asc, List.all_eq_true, decide_eq_true_eq] at q
    refine ⟨?_, rfl⟩
    simp only [PyData.leavesShort, List.all_eq_true, decide_eq_true_eq]
    intro c hc
    have := q c hc
    have : (128 : Nat) < 16 ^ 8 := by decide
    omega
  | .list xs, q => by simp only [lvs] at q; simp only [PyData.leavesShort, PyData.showable]; exact lvsAll_short h xs q
  | .tuple xs, q => by simp only [lvs] at q; simp only [PyData.leavesShort, PyData.showable]; exact lvsAll_short h xs q
  | .dict _, q => by simp only [lvs] at q; cases q
theorem lvsAll_short {B : Nat} (h : B < 10 ^ 12) : ∀ ds : List Dt, lvsAll B ds = true → PyData.leavesShortAll 13 ds = true ∧ PyData.showableAll ds = true
  | [], _ => ⟨rfl, rfl⟩
  | x :: xs, q => by
    simp only [lvsAll, Bool.and_eq_true] at q
    simp only [PyData.leavesShortAll, PyData.showableAll, Bool.and_eq_true]
    have a := lvs_short h x q.1
    have b := lvsAll_short h xs q.2
    exact ⟨⟨a.1, b.1⟩, ⟨a.2, b.2⟩⟩
end
theorem Tm.ok {B W D : Nat} {d : Dt} (h : Tm B W D d) (hd : D ≤ 64) : okD d = true := by
  show (d.canLay0 && decide (d.depth ≤ 64)) = true
  rw [Bool.and_eq_true]
  exact ⟨lvs_lay d h.lv, decide_eq_true (Nat.le_trans h.dp hd)⟩
theorem Tm.repr {B W D : Nat} {d : Dt} {Q : Dt → Prop} (h : Tm B W D d) (hb : B < 10 ^ 12) (hw : W ≤ 100000) (hd : D ≤ 64) (k : Q (.str d.shown)) : Ok (dRepr [d]) Q := by
  have s := lvs_short hb d h.lv
  have e := PyData.shown_le_bulk 13 (by decide) d s.1
  have hk := h.bk
  exact ⟨_, if_pos ⟨h.ok hd, s.2, by omega⟩, k⟩
/-! texts -/
theorem asc_mem {x : Str} : asc x = true ↔ ∀ c ∈ x.cps.toList, c < 128 := by simp only [asc, List.all_eq_true, decide_eq_true_eq]
theorem asc_app {x y : Str} (h : asc x = true) (k : asc y = true) : asc (x ++ y) = true := by
  rw [asc_mem] at *
  intro c hc
  have e : (x ++ y).cps.toList = x.cps.toList ++ y.cps.toList := by
    show (x.cps ++ y.cps).toList = _
    exact Array.toList_append
  rw [e, List.mem_append] at hc
  exact hc.elim (h c) (k c)
theorem len_app (x y : Str) : (x ++ y).length = x.length + y.length := by
  show (x.cps ++ y.cps).size = _
  exact Array.size_append
theorem asc_cut {x : Str} (lo hi : Option Int) (h : asc x = true) : asc (cutS x lo hi) = true ∧ (cutS x lo hi).length ≤ x.length := by
  rw [asc_mem] at *
  constructor
  · intro c hc
    exact h c (List.mem_of_mem_drop (List.mem_of_mem_take hc))
  · show (List.toArray _).size ≤ _
    rw [List.size_toArray, List.length_take, List.length_drop]
    have : x.cps.toList.length = x.length := rfl
    omega
theorem asc_upper {x : Str} (h : asc x = true) : asc (Txt.upper x) = true ∧ (Txt.upper x).length = x.length := by
  rw [asc_mem] at *
  rw [PyProof.Rows.upper_ascii h]
  refine ⟨?_, ?_⟩
  · intro c hc
    simp only [Array.toList_map, List.mem_map] at hc
    obtain ⟨a, ha, rfl⟩ := hc
    have := h a ha
    unfold PyProof.Rows.up1
    split <;> omega
  · show (Array.map _ _).size = _
    rw [Array.size_map]; rfl
theorem asc_int {i : Int} (h : i.natAbs < 10 ^ 12) : asc (toString i : String) = true ∧ ((toString i : String) : Str).length ≤ 13 := by
  constructor
  · rw [asc_mem]
    intro c hc
    by_cases h1 : c < 128
    · exact h1
    · exact absurd hc (PyProof.Rows.int_text_free' c ⟨by omega, by omega⟩ i)
  · have := int_text_length_le10 (a := i) (k := 12) (by decide) h
    rw [ofString_length]; omega
end K01

namespace K01
open PySem L2 Mm

def numB (d : Dt) : Bool := isiB "int" d && !isiB "bool" d
theorem num_int {d : Dt} (h : numB d = true) : ∃ i, d = .int i := by
  cases d <;> first | exact ⟨_, rfl⟩ | (simp [numB, isiB] at h)
theorem num_i (i : Int) : numB (.int i) = true := by simp [numB, isiB]
section
variable {ρ : Ev} {f g h : F1} {Q : Dt → Ev → Prop} {d : Dt}
theorem num_ok (k : ∀ ρ, Q (.bool (numB d)) ρ) : E1 (m_is_number [.ro d]) Q := by
  unfold m_is_number g_is_number
  refine m_of rfl ?_
  (repeat (first | (with_reducible first | refine Mm.w_c ?_ | refine Mm.w_bin ?_ | refine Mm.w_isi ?_ | refine Mm.w_isi2 ?_ | refine Mm.w_un ?_ | refine Mm.w_test ?_ | refine Mm.w_chain ?_ | refine Mm.w_gAnd ?_ | refine Mm.w_gOr ?_ | refine Mm.w_gNot ?_ | refine Mm.w_yes ?_ | refine Mm.w_and ?_ | refine Mm.w_or ?_ | refine Mm.w_not ?_ | refine Mm.w_if ?_ | refine Mm.w_nil ?_ | refine Mm.w_cons ?_ | refine Mm.w_an ?_ | refine Mm.v_nil ?_ | refine Mm.v_cons ?_ | refine Mm.w_disp ?_ | refine Mm.w_tup ?_ | refine Mm.w_frz ?_ | refine Mm.w_cb ?_ | refine Mm.w_cn ?_ | refine Mm.w_items ?_ | refine Mm.w_range1 ?_ | refine Mm.w_zip ?_ | refine Mm.w_enum ?_ | refine Mm.w_oNone ?_ | refine Mm.w_oSome ?_ | refine Mm.w_slice ?_ | refine Mm.s_nx ?_ | refine Mm.s_seq ?_ | refine Mm.s_asg ?_ | refine Mm.s_setN ?_ | refine Mm.s_ret ?_ | refine Mm.s_retL ?_ | refine Mm.s_expr ?_ | refine Mm.s_if ?_ | refine Mm.s_par ?_ | refine Mm.s_for ?_ | refine Mm.k_rt ?_ | refine Mm.k_rn ?_ | refine Mm.k_bk ?_ | refine Mm.k_ct ?_ | refine Mm.l_nx ?_ | refine Mm.l_rt ?_ | refine Mm.b_t ?_ | refine Mm.b_f ?_ | refine Mm.b_nf ?_ | refine Mm.b_nt ?_ | refine Mm.w_bCons ?_ | refine Mm.w_bNil ?_ | refine Mm.p_gt ?_ | refine Mm.p_lt ?_ | refine Mm.p_ge ?_ | refine Mm.p_le ?_ | refine Mm.p_add ?_ | refine Mm.p_sub ?_ | refine Mm.p_neg ?_ | refine Mm.p_eq ?_ | refine Mm.p_ne ?_ | refine Mm.p_int ?_ | refine Mm.p_intB ?_ | refine Mm.p_abs ?_ | refine Mm.p_max ?_ | refine Mm.p_min ?_ | refine Mm.p_eqB ?_ | refine Mm.p_eqS ?_ | refine Mm.p_tupL ?_ | refine Mm.p_tupT ?_ | refine Mm.p_lstL ?_ | refine Mm.p_lstT ?_ | refine Mm.p_lenT ?_ | refine Mm.p_lenL ?_ | refine Mm.p_itT ?_ | refine Mm.p_itL ?_ | refine Mm.p_itS ?_ | refine Mm.p_slT ?_ | refine Mm.p_slL ?_ | refine Mm.p_ltS ?_ | refine Mm.p_geS ?_ | refine c_num ?_ | refine c_lnum ?_ | refine c_btw ?_ | refine c_tup ?_ | refine ⟨_, rfl, ?_⟩) | ((with_reducible apply Mm.w_var); exact rfl) | ((with_reducible apply Mm.w_slot); exact rfl) | ((with_reducible apply Mm.w_bName); exact rfl) | ((with_reducible apply Mm.w_lenL); exact rfl) | ((with_reducible apply Mm.w_lenD); exact rfl) | ((with_reducible apply Mm.p_ixT); exact rfl) | ((with_reducible apply Mm.p_ixL); exact rfl) | ((with_reducible apply Mm.w_bTup); exact rfl) | ((with_reducible apply Mm.w_len); exact rfl) | ((with_reducible apply Mm.w_append); exact rfl) | ((with_reducible apply Mm.w_varO); exact rfl) | ((with_reducible apply Mm.f_nx); exact rfl) | ((with_reducible apply Mm.f_rt); exact rfl) | ((with_reducible apply Mm.f_rn); exact rfl) | ((with_reducible apply Mm.f_rnL); exact rfl) | ((with_reducible refine Mm.k_nx ?_) <;> try (simp only [List.set_cons_succ, List.set_cons_zero, List.set_nil, List.cons_append, List.nil_append, List.take_succ_cons, List.take_zero, List.take_nil, List.replicate_succ, List.replicate_zero, List.length_cons, List.length_nil, List.length_set, Nat.reduceAdd, Nat.reduceSub, Mm.slotArgs, Mm.putArgs, Mm.putArg, Mm.putSlot])) | ((with_reducible apply Mm.w_bName); exact Mm.free_of rfl (by assumption)) | ((with_reducible apply Mm.w_ixC); exact rfl; exact rfl) | ((with_reducible apply Mm.w_bSubC); exact rfl; exact rfl) | ((with_reducible refine ⟨?_, ?_⟩); exact rfl) | ((with_reducible refine ⟨?_, ?_⟩); exact Mm.free_of rfl (by assumption))))
  refine ⟨fun hx => ?_, fun hx => ?_⟩
  · (repeat (first | (with_reducible first | refine Mm.w_c ?_ | refine Mm.w_bin ?_ | refine Mm.w_isi ?_ | refine Mm.w_isi2 ?_ | refine Mm.w_un ?_ | refine Mm.w_test ?_ | refine Mm.w_chain ?_ | refine Mm.w_gAnd ?_ | refine Mm.w_gOr ?_ | refine Mm.w_gNot ?_ | refine Mm.w_yes ?_ | refine Mm.w_and ?_ | refine Mm.w_or ?_ | refine Mm.w_not ?_ | refine Mm.w_if ?_ | refine Mm.w_nil ?_ | refine Mm.w_cons ?_ | refine Mm.w_an ?_ | refine Mm.v_nil ?_ | refine Mm.v_cons ?_ | refine Mm.w_disp ?_ | refine Mm.w_tup ?_ | refine Mm.w_frz ?_ | refine Mm.w_cb ?_ | refine Mm.w_cn ?_ | refine Mm.w_items ?_ | refine Mm.w_range1 ?_ | refine Mm.w_zip ?_ | refine Mm.w_enum ?_ | refine Mm.w_oNone ?_ | refine Mm.w_oSome ?_ | refine Mm.w_slice ?_ | refine Mm.s_nx ?_ | refine Mm.s_seq ?_ | refine Mm.s_asg ?_ | refine Mm.s_setN ?_ | refine Mm.s_ret ?_ | refine Mm.s_retL ?_ | refine Mm.s_expr ?_ | refine Mm.s_if ?_ | refine Mm.s_par ?_ | refine Mm.s_for ?_ | refine Mm.k_rt ?_ | refine Mm.k_rn ?_ | refine Mm.k_bk ?_ | refine Mm.k_ct ?_ | refine Mm.l_nx ?_ | refine Mm.l_rt ?_ | refine Mm.b_t ?_ | refine Mm.b_f ?_ | refine Mm.b_nf ?_ | refine Mm.b_nt ?_ | refine Mm.w_bCons ?_ | refine Mm.w_bNil ?_ | refine Mm.p_gt ?_ | refine Mm.p_lt ?_ | refine Mm.p_ge ?_ | refine Mm.p_le ?_ | refine Mm.p_add ?_ | refine Mm.p_sub ?_ | refine Mm.p_neg ?_ | refine Mm.p_eq ?_ | refine Mm.p_ne ?_ | refine Mm.p_int ?_ | refine Mm.p_intB ?_ | refine Mm.p_abs ?_ | refine Mm.p_max ?_ | refine Mm.p_min ?_ | refine Mm.p_eqB ?_ | refine Mm.p_eqS ?_ | refine Mm.p_tupL ?_ | refine Mm.p_tupT ?_ | refine Mm.p_lstL ?_ | refine Mm.p_lstT ?_ | refine Mm.p_lenT ?_ | refine Mm.p_lenL ?_ | refine Mm.p_itT ?_ | refine Mm.p_itL ?_ | refine Mm.p_itS ?_ | refine Mm.p_slT ?_ | refine Mm.p_slL ?_ | refine Mm.p_ltS ?_ | refine Mm.p_geS ?_ | refine c_num ?_ | refine c_lnum ?_ | refine c_btw ?_ | refine c_tup ?_ | refine ⟨_, rfl, ?_⟩) | ((with_reducible apply Mm.w_var); exact rfl) | ((with_reducible apply Mm.w_slot); exact rfl) | ((with_reducible apply Mm.w_bName); exact rfl) | ((with_reducible apply Mm.w_lenL); exact rfl) | ((with_reducible apply Mm.w_lenD); exact rfl) | ((with_reducible apply Mm.p_ixT); exact rfl) | ((with_reducible apply Mm.p_ixL); exact rfl) | ((with_reducible apply Mm.w_bTup); exact rfl) | ((with_reducible apply Mm.w_len); exact rfl) | ((with_reducible apply Mm.w_append); exact rfl) | ((with_reducible apply Mm.w_varO); exact rfl) | ((with_reducible apply Mm.f_nx); exact rfl) | ((with_reducible apply Mm.f_rt); exact rfl) | ((with_reducible apply Mm.f_rn); exact rfl) | ((with_reducible apply Mm.f_rnL); exact rfl) | ((with_reducible refine Mm.k_nx ?_) <;> try (simp only [List.set_cons_succ, List.set_cons_zero, List.set_nil, List.cons_append, List.nil_append, List.take_succ_cons, List.take_zero, List.take_nil, List.replicate_succ, List.replicate_zero, List.length_cons, List.length_nil, List.length_set, Nat.reduceAdd, Nat.reduceSub, Mm.slotArgs, Mm.putArgs, Mm.putArg, Mm.putSlot])) | ((with_reducible apply Mm.w_bName); exact Mm.free_of rfl (by assumption)) | ((with_reducible apply Mm.w_ixC); exact rfl; exact rfl) | ((with_reducible apply Mm.w_bSubC); exact rfl; exact rfl) | ((with_reducible refine ⟨?_, ?_⟩); exact rfl) | ((with_reducible refine ⟨?_, ?_⟩); exact Mm.free_of rfl (by assumption))))
    have e : numB d = !isiB "bool" d := by simp [numB, hx]
    rw [e] at k; exact k _
  · (repeat (first | (with_reducible first | refine Mm.w_c ?_ | refine Mm.w_bin ?_ | refine Mm.w_isi ?_ | refine Mm.w_isi2 ?_ | refine Mm.w_un ?_ | refine Mm.w_test ?_ | refine Mm.w_chain ?_ | refine Mm.w_gAnd ?_ | refine Mm.w_gOr ?_ | refine Mm.w_gNot ?_ | refine Mm.w_yes ?_ | refine Mm.w_and ?_ | refine Mm.w_or ?_ | refine Mm.w_not ?_ | refine Mm.w_if ?_ | refine Mm.w_nil ?_ | refine Mm.w_cons ?_ | refine Mm.w_an ?_ | refine Mm.v_nil ?_ | refine Mm.v_cons ?_ | refine Mm.w_disp ?_ | refine Mm.w_tup ?_ | refine Mm.w_frz ?_ | refine Mm.w_cb ?_ | refine Mm.w_cn ?_ | refine Mm.w_items ?_ | refine Mm.w_range1 ?_ | refine Mm.w_zip ?_ | refine Mm.w_enum ?_ | refine Mm.w_oNone ?_ | refine Mm.w_oSome ?_ | refine Mm.w_slice ?_ | refine Mm.s_nx ?_ | refine Mm.s_seq ?_ | refine Mm.s_asg ?_ | refine Mm.s_setN ?_ | refine Mm.s_ret ?_ | refine Mm.s_retL ?_ | refine Mm.s_expr ?_ | refine Mm.s_if ?_ | refine Mm.s_par ?_ | refine Mm.s_for ?_ | refine Mm.k_rt ?_ | refine Mm.k_rn ?_ | refine Mm.k_bk ?_ | refine Mm.k_ct ?_ | refine Mm.l_nx ?_ | refine Mm.l_rt ?_ | refine Mm.b_t ?_ | refine Mm.b_f ?_ | refine Mm.b_nf ?_ | refine Mm.b_nt ?_ | refine Mm.w_bCons ?_ | refine Mm.w_bNil ?_ | refine Mm.p_gt ?_ | refine Mm.p_lt ?_ | refine Mm.p_ge ?_ | refine Mm.p_le ?_ | refine Mm.p_add ?_ | refine Mm.p_sub ?_ | refine Mm.p_neg ?_ | refine Mm.p_eq ?_ | refine Mm.p_ne ?_ | refine Mm.p_int ?_ | refine Mm.p_intB ?_ | refine Mm.p_abs ?_ | refine Mm.p_max ?_ | refine Mm.p_min ?_ | refine Mm.p_eqB ?_ | refine Mm.p_eqS ?_ | refine Mm.p_tupL ?_ | refine Mm.p_tupT ?_ | refine Mm.p_lstL ?_ | refine Mm.p_lstT ?_ | refine Mm.p_lenT ?_ | refine Mm.p_lenL ?_ | refine Mm.p_itT ?_ | refine Mm.p_itL ?_ | refine Mm.p_itS ?_ | refine Mm.p_slT ?_ | refine Mm.p_slL ?_ | refine Mm.p_ltS ?_ | refine Mm.p_geS ?_ | refine c_num ?_ | refine c_lnum ?_ | refine c_btw ?_ | refine c_tup ?_ | refine ⟨_, rfl, ?_⟩) | ((with_reducible apply Mm.w_var); exact rfl) | ((with_reducible apply Mm.w_slot); exact rfl) | ((with_reducible apply Mm.w_bName); exact rfl) | ((with_reducible apply Mm.w_lenL); exact rfl) | ((with_reducible apply Mm.w_lenD); exact rfl) | ((with_reducible apply Mm.p_ixT); exact rfl) | ((with_reducible apply Mm.p_ixL); exact rfl) | ((with_reducible apply Mm.w_bTup); exact rfl) | ((with_reducible apply Mm.w_len); exact rfl) | ((with_reducible apply Mm.w_append); exact rfl) | ((with_reducible apply Mm.w_varO); exact rfl) | ((with_reducible apply Mm.f_nx); exact rfl) | ((with_reducible apply Mm.f_rt); exact rfl) | ((with_reducible apply Mm.f_rn); exact rfl) | ((with_reducible apply Mm.f_rnL); exact rfl) | ((with_reducible refine Mm.k_nx ?_) <;> try (simp only [List.set_cons_succ, List.set_cons_zero, List.set_nil, List.cons_append, List.nil_append, List.take_succ_cons, List.take_zero, List.take_nil, List.replicate_succ, List.replicate_zero, List.length_cons, List.length_nil, List.length_set, Nat.reduceAdd, Nat.reduceSub, Mm.slotArgs, Mm.putArgs, Mm.putArg, Mm.putSlot])) | ((with_reducible apply Mm.w_bName); exact Mm.free_of rfl (by assumption)) | ((with_reducible apply Mm.w_ixC); exact rfl; exact rfl) | ((with_reducible apply Mm.w_bSubC); exact rfl; exact rfl) | ((with_reducible refine ⟨?_, ?_⟩); exact rfl) | ((with_reducible refine ⟨?_, ?_⟩); exact Mm.free_of rfl (by assumption))))
    have e : numB d = false := by simp [numB, hx]
    rw [e] at k; exact k _
theorem c_num (q : E1 (f ρ) fun d ρ1 => ρ1.length = ρ.length ∧ Q (.bool (numB d)) ρ1) : E1 (fCall m_is_number (fACons f fANil) ρ) Q :=
  w_callV (np := 1) (n := 1) (s := g_is_number) rfl (v_cons (q.mono fun d ρ1 h => v_nil ⟨h.1, num_ok fun _ => h.2⟩))
theorem c_lnum (q : E1 (f ρ) fun d ρ1 => ρ1.length = ρ.length ∧ Q (.bool (numB d)) ρ1) : E1 (fCall m_law_is_number (fACons f fANil) ρ) Q := c_num q
def btwB (d : Dt) (lo hi : Int) : Bool := match d with
  | .int i => decide (lo ≤ i) && decide (i ≤ hi)
  | _ => false
theorem btw_ok {lo hi : Int} (k : ∀ ρ, Q (.bool (btwB d lo hi)) ρ) : E1 (m_is_between [.ro d, .ro (.int lo), .ro (.int hi)]) Q := by
  unfold m_is_between g_is_between
  refine m_of rfl ?_
  (repeat (first | (with_reducible first | refine Mm.w_c ?_ | refine Mm.w_bin ?_ | refine Mm.w_isi ?_ | refine Mm.w_isi2 ?_ | refine Mm.w_un ?_ | refine Mm.w_test ?_ | refine Mm.w_chain ?_ | refine Mm.w_gAnd ?_ | refine Mm.w_gOr ?_ | refine Mm.w_gNot ?_ | refine Mm.w_yes ?_ | refine Mm.w_and ?_ | refine Mm.w_or ?_ | refine Mm.w_not ?_ | refine Mm.w_if ?_ | refine Mm.w_nil ?_ | refine Mm.w_cons ?_ | refine Mm.w_an ?_ | refine Mm.v_nil ?_ | refine Mm.v_cons ?_ | refine Mm.w_disp ?_ | refine Mm.w_tup ?_ | refine Mm.w_frz ?_ | refine Mm.w_cb ?_ | refine Mm.w_cn ?_ | refine Mm.w_items ?_ | refine Mm.w_range1 ?_ | refine Mm.w_zip ?_ | refine Mm.w_enum ?_ | refine Mm.w_oNone ?_ | refine Mm.w_oSome ?_ | refine Mm.w_slice ?_ | refine Mm.s_nx ?_ | refine Mm.s_seq ?_ | refine Mm.s_asg ?_ | refine Mm.s_setN ?_ | refine Mm.s_ret ?_ | refine Mm.s_retL ?_ | refine Mm.s_expr ?_ | refine Mm.s_if ?_ | refine Mm.s_par ?_ | refine Mm.s_for ?_ | refine Mm.k_rt ?_ | refine Mm.k_rn ?_ | refine Mm.k_bk ?_ | refine Mm.k_ct ?_ | refine Mm.l_nx ?_ | refine Mm.l_rt ?_ | refine Mm.b_t ?_ | refine Mm.b_f ?_ | refine Mm.b_nf ?_ | refine Mm.b_nt ?_ | refine Mm.w_bCons ?_ | refine Mm.w_bNil ?_ | refine Mm.p_gt ?_ | refine Mm.p_lt ?_ | refine Mm.p_ge ?_ | refine Mm.p_le ?_ | refine Mm.p_add ?_ | refine Mm.p_sub ?_ | refine Mm.p_neg ?_ | refine Mm.p_eq ?_ | refine Mm.p_ne ?_ | refine Mm.p_int ?_ | refine Mm.p_intB ?_ | refine Mm.p_abs ?_ | refine Mm.p_max ?_ | refine Mm.p_min ?_ | refine Mm.p_eqB ?_ | refine Mm.p_eqS ?_ | refine Mm.p_tupL ?_ | refine Mm.p_tupT ?_ | refine Mm.p_lstL ?_ | refine Mm.p_lstT ?_ | refine Mm.p_lenT ?_ | refine Mm.p_lenL ?_ | refine Mm.p_itT ?_ | refine Mm.p_itL ?_ | refine Mm.p_itS ?_ | refine Mm.p_slT ?_ | refine Mm.p_slL ?_ | refine Mm.p_ltS ?_ | refine Mm.p_geS ?_ | refine c_num ?_ | refine c_lnum ?_ | refine c_btw ?_ | refine c_tup ?_ | refine ⟨_, rfl, ?_⟩) | ((with_reducible apply Mm.w_var); exact rfl) | ((with_reducible apply Mm.w_slot); exact rfl) | ((with_reducible apply Mm.w_bName); exact rfl) | ((with_reducible apply Mm.w_lenL); exact rfl) | ((with_reducible apply Mm.w_lenD); exact rfl) | ((with_reducible apply Mm.p_ixT); exact rfl) | ((with_reducible apply Mm.p_ixL); exact rfl) | ((with_reducible apply Mm.w_bTup); exact rfl) | ((with_reducible apply Mm.w_len); exact rfl) | ((with_reducible apply Mm.w_append); exact rfl) | ((with_reducible apply Mm.w_varO); exact rfl) | ((with_reducible apply Mm.f_nx); exact rfl) | ((with_reducible apply Mm.f_rt); exact rfl) | ((with_reducible apply Mm.f_rn); exact rfl) | ((with_reducible apply Mm.f_rnL); exact rfl) | ((with_reducible refine Mm.k_nx ?_) <;> try (simp only [List.set_cons_succ, List.set_cons_zero, List.set_nil, List.cons_append, List.nil_append, List.take_succ_cons, List.take_zero, List.take_nil, List.replicate_succ, List.replicate_zero, List.length_cons, List.length_nil, List.length_set, Nat.reduceAdd, Nat.reduceSub, Mm.slotArgs, Mm.putArgs, Mm.putArg, Mm.putSlot])) | ((with_reducible apply Mm.w_bName); exact Mm.free_of rfl (by assumption)) | ((with_reducible apply Mm.w_ixC); exact rfl; exact rfl) | ((with_reducible apply Mm.w_bSubC); exact rfl; exact rfl) | ((with_reducible refine ⟨?_, ?_⟩); exact rfl) | ((with_reducible refine ⟨?_, ?_⟩); exact Mm.free_of rfl (by assumption))))
  by_cases hn : numB d = true
  · obtain ⟨i, rfl⟩ := num_int hn
    refine b_pos hn ?_
    (repeat (first | (with_reducible first | refine Mm.w_c ?_ | refine Mm.w_bin ?_ | refine Mm.w_isi ?_ | refine Mm.w_isi2 ?_ | refine Mm.w_un ?_ | refine Mm.w_test ?_ | refine Mm.w_chain ?_ | refine Mm.w_gAnd ?_ | refine Mm.w_gOr ?_ | refine Mm.w_gNot ?_ | refine Mm.w_yes ?_ | refine Mm.w_and ?_ | refine Mm.w_or ?_ | refine Mm.w_not ?_ | refine Mm.w_if ?_ | refine Mm.w_nil ?_ | refine Mm.w_cons ?_ | refine Mm.w_an ?_ | refine Mm.v_nil ?_ | refine Mm.v_cons ?_ | refine Mm.w_disp ?_ | refine Mm.w_tup ?_ | refine Mm.w_frz ?_ | refine Mm.w_cb ?_ | refine Mm.w_cn ?_ | refine Mm.w_items ?_ | refine Mm.w_range1 ?_ | refine Mm.w_zip ?_ | refine Mm.w_enum ?_ | refine Mm.w_oNone ?_ | refine Mm.w_oSome ?_ | refine Mm.w_slice ?_ | refine Mm.s_nx ?_ | refine Mm.s_seq ?_ | refine Mm.s_asg ?_ | refine Mm.s_setN ?_ | refine Mm.s_ret ?_ | refine Mm.s_retL ?_ | refine Mm.s_expr ?_ | refine Mm.s_if ?_ | refine Mm.s_par ?_ | refine Mm.s_for ?_ | refine Mm.k_rt ?_ | refine Mm.k_rn ?_ | refine Mm.k_bk ?_ | refine Mm.k_ct ?_ | refine Mm.l_nx ?_ | refine Mm.l_rt ?_ | refine Mm.b_t ?_ | refine Mm.b_f ?_ | refine Mm.b_nf ?_ | refine Mm.b_nt ?_ | refine Mm.w_bCons ?_ | refine Mm.w_bNil ?_ | refine Mm.p_gt ?_ | refine Mm.p_lt ?_ | refine Mm.p_ge ?_ | refine Mm.p_le ?_ | refine Mm.p_add ?_ | refine Mm.p_sub ?_ | refine Mm.p_neg ?_ | refine Mm.p_eq ?_ | refine Mm.p_ne ?_ | refine Mm.p_int ?_ | refine Mm.p_intB ?_ | refine Mm.p_abs ?_ | refine Mm.p_max ?_ | refine Mm.p_min ?_ | refine Mm.p_eqB ?_ | refine Mm.p_eqS ?_ | refine Mm.p_tupL ?_ | refine Mm.p_tupT ?_ | refine Mm.p_lstL ?_ | refine Mm.p_lstT ?_ | refine Mm.p_lenT ?_ | refine Mm.p_lenL ?_ | refine Mm.p_itT ?_ | refine Mm.p_itL ?_ | refine Mm.p_itS ?_ | refine Mm.p_slT ?_ | refine Mm.p_slL ?_ | refine Mm.p_ltS ?_ | refine Mm.p_geS ?_ | refine c_num ?_ | refine c_lnum ?_ | refine c_btw ?_ | refine c_tup ?_ | refine ⟨_, rfl, ?_⟩) | ((with_reducible apply Mm.w_var); exact rfl) | ((with_reducible apply Mm.w_slot); exact rfl) | ((with_reducible apply Mm.w_bName); exact rfl) | ((with_reducible apply Mm.w_lenL); exact rfl) | ((with_reducible apply Mm.w_lenD); exact rfl) | ((with_reducible apply Mm.p_ixT); exact rfl) | ((with_reducible apply Mm.p_ixL); exact rfl) | ((with_reducible apply Mm.w_bTup); exact rfl) | ((with_reducible apply Mm.w_len); exact rfl) | ((with_reducible apply Mm.w_append); exact rfl) | ((with_reducible apply Mm.w_varO); exact rfl) | ((with_reducible apply Mm.f_nx); exact rfl) | ((with_reducible apply Mm.f_rt); exact rfl) | ((with_reducible apply Mm.f_rn); exact rfl) | ((with_reducible apply Mm.f_rnL); exact rfl) | ((with_reducible refine Mm.k_nx ?_) <;> try (simp only [List.set_cons_succ, List.set_cons_zero, List.set_nil, List.cons_append, List.nil_append, List.take_succ_cons, List.take_zero, List.take_nil, List.replicate_succ, List.replicate_zero, List.length_cons, List.length_nil, List.length_set, Nat.reduceAdd, Nat.reduceSub, Mm.slotArgs, Mm.putArgs, Mm.putArg, Mm.putSlot])) | ((with_reducible apply Mm.w_bName); exact Mm.free_of rfl (by assumption)) | ((with_reducible apply Mm.w_ixC); exact rfl; exact rfl) | ((with_reducible apply Mm.w_bSubC); exact rfl; exact rfl) | ((with_reducible refine ⟨?_, ?_⟩); exact rfl) | ((with_reducible refine ⟨?_, ?_⟩); exact Mm.free_of rfl (by assumption))))
    by_cases h1 : lo ≤ i
    · refine b_pos (by simp [h1]) ?_
      (repeat (first | (with_reducible first | refine Mm.w_c ?_ | refine Mm.w_bin ?_ | refine Mm.w_isi ?_ | refine Mm.w_isi2 ?_ | refine Mm.w_un ?_ | refine Mm.w_test ?_ | refine Mm.w_chain ?_ | refine Mm.w_gAnd ?_ | refine Mm.w_gOr ?_ | refine Mm.w_gNot ?_ | refine Mm.w_yes ?_ | refine Mm.w_and ?_ | refine Mm.w_or ?_ | refine Mm.w_not ?_ | refine Mm.w_if ?_ | refine Mm.w_nil ?_ | refine Mm.w_cons ?_ | refine Mm.w_an ?_ | refine Mm.v_nil ?_ | refine Mm.v_cons ?_ | refine Mm.w_disp ?_ | refine Mm.w_tup ?_ | refine Mm.w_frz ?_ | refine Mm.w_cb ?_ | refine Mm.w_cn ?_ | refine Mm.w_items ?_ | refine Mm.w_range1 ?_ | refine Mm.w_zip ?_ | refine Mm.w_enum ?_ | refine Mm.w_oNone ?_ | refine Mm.w_oSome ?_ | refine Mm.w_slice ?_ | refine Mm.s_nx ?_ | refine Mm.s_seq ?_ | refine Mm.s_asg ?_ | refine Mm.s_setN ?_ | refine Mm.s_ret ?_ | refine Mm.s_retL ?_ | refine Mm.s_expr ?_ | refine Mm.s_if ?_ | refine Mm.s_par ?_ | refine Mm.s_for ?_ | refine Mm.k_rt ?_ | refine Mm.k_rn ?_ | refine Mm.k_bk ?_ | refine Mm.k_ct ?_ | refine Mm.l_nx ?_ | refine Mm.l_rt ?_ | refine Mm.b_t ?_ | refine Mm.b_f ?_ | refine Mm.b_nf ?_ | refine Mm.b_nt ?_ | refine Mm.w_bCons ?_ | refine Mm.w_bNil ?_ | refine Mm.p_gt ?_ | refine Mm.p_lt ?_ | refine Mm.p_ge ?_ | refine Mm.p_le ?_ | refine Mm.p_add ?_ | refine Mm.p_sub ?_ | refine Mm.p_neg ?_ | refine Mm.p_eq ?_ | refine Mm.p_ne ?_ | refine Mm.p_int ?_ | refine Mm.p_intB ?_ | refine Mm.p_abs ?_ | refine Mm.p_max ?_ | refine Mm.p_min ?_ | refine Mm.p_eqB ?_ | refine Mm.p_eqS ?_ | refine Mm.p_tupL ?_ | refine Mm.p_tupT ?_ | refine Mm.p_lstL ?_ | refine Mm.p_lstT ?_ | refine Mm.p_lenT ?_ | refine Mm.p_lenL ?_ | refine Mm.p_itT ?_ | refine Mm.p_itL ?_ | refine Mm.p_itS ?_ | refine Mm.p_slT ?_ | refine Mm.p_slL ?_ | refine Mm.p_ltS ?_ | refine Mm.p_geS ?_ | refine c_num ?_ | refine c_lnum ?_ | refine c_btw ?_ | refine c_tup ?_ | refine ⟨_, rfl, ?_⟩) | ((with_reducible apply Mm.w_var); exact rfl) | ((with_reducible apply Mm.w_slot); exact rfl) | ((with_reducible apply Mm.w_bName); exact rfl) | ((with_reducible apply Mm.w_lenL); exact rfl) | ((with_reducible apply Mm.w_lenD); exact rfl) | ((with_reducible apply Mm.p_ixT); exact rfl) | ((with_reducible apply Mm.p_ixL); exact rfl) | ((with_reducible apply Mm.w_bTup); exact rfl) | ((with_reducible apply Mm.w_len); exact rfl) | ((with_reducible apply Mm.w_append); exact rfl) | ((with_reducible apply Mm.w_varO); exact rfl) | ((with_reducible apply Mm.f_nx); exact rfl) | ((with_reducible apply Mm.f_rt); exact rfl) | ((with_reducible apply Mm.f_rn); exact rfl) | ((with_reducible apply Mm.f_rnL); exact rfl) | ((with_reducible refine Mm.k_nx ?_) <;> try (simp only [List.set_cons_succ, List.set_cons_zero, List.set_nil, List.cons_append, List.nil_append, List.take_succ_cons, List.take_zero, List.take_nil, List.replicate_succ, List.replicate_zero, List.length_cons, List.length_nil, List.length_set, Nat.reduceAdd, Nat.reduceSub, Mm.slotArgs, Mm.putArgs, Mm.putArg, Mm.putSlot])) | ((with_reducible apply Mm.w_bName); exact Mm.free_of rfl (by assumption)) | ((with_reducible apply Mm.w_ixC); exact rfl; exact rfl) | ((with_reducible apply Mm.w_bSubC); exact rfl; exact rfl) | ((with_reducible refine ⟨?_, ?_⟩); exact rfl) | ((with_reducible refine ⟨?_, ?_⟩); exact Mm.free_of rfl (by assumption))))
      have e : btwB (.int i) lo hi = decide (i ≤ hi) := by simp [btwB, h1]
      rw [e] at k; exact k _
    · refine b_neg (by simp [h1]) ?_
      (repeat (first | (with_reducible first | refine Mm.w_c ?_ | refine Mm.w_bin ?_ | refine Mm.w_isi ?_ | refine Mm.w_isi2 ?_ | refine Mm.w_un ?_ | refine Mm.w_test ?_ | refine Mm.w_chain ?_ | refine Mm.w_gAnd ?_ | refine Mm.w_gOr ?_ | refine Mm.w_gNot ?_ | refine Mm.w_yes ?_ | refine Mm.w_and ?_ | refine Mm.w_or ?_ | refine Mm.w_not ?_ | refine Mm.w_if ?_ | refine Mm.w_nil ?_ | refine Mm.w_cons ?_ | refine Mm.w_an ?_ | refine Mm.v_nil ?_ | refine Mm.v_cons ?_ | refine Mm.w_disp ?_ | refine Mm.w_tup ?_ | refine Mm.w_frz ?_ | refine Mm.w_cb ?_ | refine Mm.w_cn ?_ | refine Mm.w_items ?_ | refine Mm.w_range1 ?_ | refine Mm.w_zip ?_ | refine Mm.w_enum ?_ | refine Mm.w_oNone ?_ | refine Mm.w_oSome ?_ | refine Mm.w_slice ?_ | refine Mm.s_nx ?_ | refine Mm.s_seq ?_ | refine Mm.s_asg ?_ | refine Mm.s_setN ?_ | refine Mm.s_ret ?_ | refine Mm.s_retL ?_ | refine Mm.s_expr ?_ | refine Mm.s_if ?_ | refine Mm.s_par ?_ | refine Mm.s_for ?_ | refine Mm.k_rt ?_ | refine Mm.k_rn ?_ | refine Mm.k_bk ?_ | refine Mm.k_ct ?_ | refine Mm.l_nx ?_ | refine Mm.l_rt ?_ | refine Mm.b_t ?_ | refine Mm.b_f ?_ | refine Mm.b_nf ?_ | refine Mm.b_nt ?_ | refine Mm.w_bCons ?_ | refine Mm.w_bNil ?_ | refine Mm.p_gt ?_ | refine Mm.p_lt ?_ | refine Mm.p_ge ?_ | refine Mm.p_le ?_ | refine Mm.p_add ?_ | refine Mm.p_sub ?_ | refine Mm.p_neg ?_ | refine Mm.p_eq ?_ | refine Mm.p_ne ?_ | refine Mm.p_int ?_ | refine Mm.p_intB ?_ | refine Mm.p_abs ?_ | refine Mm.p_max ?_ | refine Mm.p_min ?_ | refine Mm.p_eqB ?_ | refine Mm.p_eqS ?_ | refine Mm.p_tupL ?_ | refine Mm.p_tupT ?_ | refine Mm.p_lstL ?_ | refine Mm.p_lstT ?_ | refine Mm.p_lenT ?_ | refine Mm.p_lenL ?_ | refine Mm.p_itT ?_ | refine Mm.p_itL ?_ | refine Mm.p_itS ?_ | refine Mm.p_slT ?_ | refine Mm.p_slL ?_ | refine Mm.p_ltS ?_ | refine Mm.p_geS ?_ | refine c_num ?_ | refine c_lnum ?_ | refine c_btw ?_ | refine c_tup ?_ | refine ⟨_, rfl, ?_⟩) | ((with_reducible apply Mm.w_var); exact rfl) | ((with_reducible apply Mm.w_slot); exact rfl) | ((with_reducible apply Mm.w_bName); exact rfl) | ((with_reducible apply Mm.w_lenL); exact rfl) | ((with_reducible apply Mm.w_lenD); exact rfl) | ((with_reducible apply Mm.p_ixT); exact rfl) | ((with_reducible apply Mm.p_ixL); exact rfl) | ((with_reducible apply Mm.w_bTup); exact rfl) | ((with_reducible apply Mm.w_len); exact rfl) | ((with_reducible apply Mm.w_append); exact rfl) | ((with_reducible apply Mm.w_varO); exact rfl) | ((with_reducible apply Mm.f_nx); exact rfl) | ((with_reducible apply Mm.f_rt); exact rfl) | ((with_reducible apply Mm.f_rn); exact rfl) | ((with_reducible apply Mm.f_rnL); exact rfl) | ((with_reducible refine Mm.k_nx ?_) <;> try (simp only [List.set_cons_succ, List.set_cons_zero, List.set_nil, List.cons_append, List.nil_append, List.take_succ_cons, List.take_zero, List.take_nil, List.replicate_succ, List.replicate_zero, List.length_cons, List.length_nil, List.length_set, Nat.reduceAdd, Nat.reduceSub, Mm.slotArgs, Mm.putArgs, Mm.putArg, Mm.putSlot])) | ((with_reducible apply Mm.w_bName); exact Mm.free_of rfl (by assumption)) | ((with_reducible apply Mm.w_ixC); exact rfl; exact rfl) | ((with_reducible apply Mm.w_bSubC); exact rfl; exact rfl) | ((with_reducible refine ⟨?_, ?_⟩); exact rfl) | ((with_reducible refine ⟨?_, ?_⟩); exact Mm.free_of rfl (by assumption))))
      have e : btwB (.int i) lo hi = false := by simp [btwB, h1]
      rw [e] at k; exact k _
  · refine b_neg (by simpa using hn) ?_
    (repeat (first | (with_reducible first | refine Mm.w_c ?_ | refine Mm.w_bin ?_ | refine Mm.w_isi ?_ | refine Mm.w_isi2 ?_ | refine Mm.w_un ?_ | refine Mm.w_test ?_ | refine Mm.w_chain ?_ | refine Mm.w_gAnd ?_ | refine Mm.w_gOr ?_ | refine Mm.w_gNot ?_ | refine Mm.w_yes ?_ | refine Mm.w_and ?_ | refine Mm.w_or ?_ | refine Mm.w_not ?_ | refine Mm.w_if ?_ | refine Mm.w_nil ?_ | refine Mm.w_cons ?_ | refine Mm.w_an ?_ | refine Mm.v_nil ?_ | refine Mm.v_cons ?_ | refine Mm.w_disp ?_ | refine Mm.w_tup ?_ | refine Mm.w_frz ?_ | refine Mm.w_cb ?_ | refine Mm.w_cn ?_ | refine Mm.w_items ?_ | refine Mm.w_range1 ?_ | refine Mm.w_zip ?_ | refine Mm.w_enum ?_ | refine Mm.w_oNone ?_ | refine Mm.w_oSome ?_ | refine Mm.w_slice ?_ | refine Mm.s_nx ?_ | refine Mm.s_seq ?_ | refine Mm.s_asg ?_ | refine Mm.s_setN ?_ | refine Mm.s_ret ?_ | refine Mm.s_retL ?_ | refine Mm.s_expr ?_ | refine Mm.s_if ?_ | refine Mm.s_par ?_ | refine Mm.s_for ?_ | refine Mm.k_rt ?_ | refine Mm.k_rn ?_ | refine Mm.k_bk ?_ | refine Mm.k_ct ?_ | refine Mm.l_nx ?_ | refine Mm.l_rt ?_ | refine Mm.b_t ?_ | refine Mm.b_f ?_ | refine Mm.b_nf ?_ | refine Mm.b_nt ?_ | refine Mm.w_bCons ?_ | refine Mm.w_bNil ?_ | refine Mm.p_gt ?_ | refine Mm.p_lt ?_ | refine Mm.p_ge ?_ | refine Mm.p_le ?_ | refine Mm.p_add ?_ | refine Mm.p_sub ?_ | refine Mm.p_neg ?_ | refine Mm.p_eq ?_ | refine Mm.p_ne ?_ | refine Mm.p_int ?_ | refine Mm.p_intB ?_ | refine Mm.p_abs ?_ | refine Mm.p_max ?_ | refine Mm.p_min ?_ | refine Mm.p_eqB ?_ | refine Mm.p_eqS ?_ | refine Mm.p_tupL ?_ | refine Mm.p_tupT ?_ | refine Mm.p_lstL ?_ | refine Mm.p_lstT ?_ | refine Mm.p_lenT ?_ | refine Mm.p_lenL ?_ | refine Mm.p_itT ?_ | refine Mm.p_itL ?_ | refine Mm.p_itS ?_ | refine Mm.p_slT ?_ | refine Mm.p_slL ?_ | refine Mm.p_ltS ?_ | refine Mm.p_geS ?_ | refine c_num ?_ | refine c_lnum ?_ | refine c_btw ?_ | refine c_tup ?_ | refine ⟨_, rfl, ?_⟩) | ((with_reducible apply Mm.w_var); exact rfl) | ((with_reducible apply Mm.w_slot); exact rfl) | ((with_reducible apply Mm.w_bName); exact rfl) | ((with_reducible apply Mm.w_lenL); exact rfl) | ((with_reducible apply Mm.w_lenD); exact rfl) | ((with_reducible apply Mm.p_ixT); exact rfl) | ((with_reducible apply Mm.p_ixL); exact rfl) | ((with_reducible apply Mm.w_bTup); exact rfl) | ((with_reducible apply Mm.w_len); exact rfl) | ((with_reducible apply Mm.w_append); exact rfl) | ((with_reducible apply Mm.w_varO); exact rfl) | ((with_reducible apply Mm.f_nx); exact rfl) | ((with_reducible apply Mm.f_rt); exact rfl) | ((with_reducible apply Mm.f_rn); exact rfl) | ((with_reducible apply Mm.f_rnL); exact rfl) | ((with_reducible refine Mm.k_nx ?_) <;> try (simp only [List.set_cons_succ, List.set_cons_zero, List.set_nil, List.cons_append, List.nil_append, List.take_succ_cons, List.take_zero, List.take_nil, List.replicate_succ, List.replicate_zero, List.length_cons, List.length_nil, List.length_set, Nat.reduceAdd, Nat.reduceSub, Mm.slotArgs, Mm.putArgs, Mm.putArg, Mm.putSlot])) | ((with_reducible apply Mm.w_bName); exact Mm.free_of rfl (by assumption)) | ((with_reducible apply Mm.w_ixC); exact rfl; exact rfl) | ((with_reducible apply Mm.w_bSubC); exact rfl; exact rfl) | ((with_reducible refine ⟨?_, ?_⟩); exact rfl) | ((with_reducible refine ⟨?_, ?_⟩); exact Mm.free_of rfl (by assumption))))
    have e : btwB d lo hi = false := by
      cases d <;> first | rfl | exact absurd (num_i _) hn
    rw [e] at k; exact k _
theorem c_btw {lo hi : Int} (q : E1 (f ρ) fun d ρ1 => ρ1.length = ρ.length ∧ Q (.bool (btwB d lo hi)) ρ1) : E1 (fCall m_is_between (fACons f (fACons (fC (.int lo)) (fACons (fC (.int hi)) fANil))) ρ) Q :=
  w_callV (np := 3) (n := 3) (s := g_is_between) rfl (v_cons (q.mono fun d ρ1 h => v_cons (w_c (v_cons (w_c (v_nil ⟨h.1, btw_ok fun _ => h.2⟩))))))
def tupB (d : Dt) (n : Int) : Bool := match d with
  | .tuple ds => (ds.length : Int) == n
  | _ => false
theorem tup_ok {n : Int} (k : ∀ ρ, Q (.bool (tupB d n)) ρ) : E1 (m_is_tuple_of [.ro d, .ro (.int n)]) Q := by
  unfold m_is_tuple_of g_is_tuple_of
  refine m_of rfl ?_
  (repeat (first | (with_reducible first | refine Mm.w_c ?_ | refine Mm.w_bin ?_ | refine Mm.w_isi ?_ | refine Mm.w_isi2 ?_ | refine Mm.w_un ?_ | refine Mm.w_test ?_ | refine Mm.w_chain ?_ | refine Mm.w_gAnd ?_ | refine Mm.w_gOr ?_ | refine Mm.w_gNot ?_ | refine Mm.w_yes ?_ | refine Mm.w_and ?_ | refine Mm.w_or ?_ | refine Mm.w_not ?_ | refine Mm.w_if ?_ | refine Mm.w_nil ?_ | refine Mm.w_cons ?_ | refine Mm.w_an ?_ | refine Mm.v_nil ?_ | refine Mm.v_cons ?_ | refine Mm.w_disp ?_ | refine Mm.w_tup ?_ | refine Mm.w_frz ?_ | refine Mm.w_cb ?_ | refine Mm.w_cn ?_ | refine Mm.w_items ?_ | refine Mm.w_range1 ?_ | refine Mm.w_zip ?_ | refine Mm.w_enum ?_ | refine Mm.w_oNone ?_ | refine Mm.w_oSome ?_ | refine Mm.w_slice ?_ | refine Mm.s_nx ?_ | refine Mm.s_seq ?_ | refine Mm.s_asg ?_ | refine Mm.s_setN ?_ | refine Mm.s_ret ?_ | refine Mm.s_retL ?_ | refine Mm.s_expr ?_ | refine Mm.s_if ?_ | refine Mm.s_par ?_ | refine Mm.s_for ?_ | refine Mm.k_rt ?_ | refine Mm.k_rn ?_ | refine Mm.k_bk ?_ | refine Mm.k_ct ?_ | refine Mm.l_nx ?_ | refine Mm.l_rt ?_ | refine Mm.b_t ?_ | refine Mm.b_f ?_ | refine Mm.b_nf ?_ | refine Mm.b_nt ?_ | refine Mm.w_bCons ?_ | refine Mm.w_bNil ?_ | refine Mm.p_gt ?_ | refine Mm.p_lt ?_ | refine Mm.p_ge ?_ | refine Mm.p_le ?_ | refine Mm.p_add ?_ | refine Mm.p_sub ?_ | refine Mm.p_neg ?_ | refine Mm.p_eq ?_ | refine Mm.p_ne ?_ | refine Mm.p_int ?_ | refine Mm.p_intB ?_ | refine Mm.p_abs ?_ | refine Mm.p_max ?_ | refine Mm.p_min ?_ | refine Mm.p_eqB ?_ | refine Mm.p_eqS ?_ | refine Mm.p_tupL ?_ | refine Mm.p_tupT ?_ | refine Mm.p_lstL ?_ | refine Mm.p_lstT ?_ | refine Mm.p_lenT ?_ | refine Mm.p_lenL ?_ | refine Mm.p_itT ?_ | refine Mm.p_itL ?_ | refine Mm.p_itS ?_ | refine Mm.p_slT ?_ | refine Mm.p_slL ?_ | refine Mm.p_ltS ?_ | refine Mm.p_geS ?_ | refine c_num ?_ | refine c_lnum ?_ | refine c_btw ?_ | refine c_tup ?_ | refine ⟨_, rfl, ?_⟩) | ((with_reducible apply Mm.w_var); exact rfl) | ((with_reducible apply Mm.w_slot); exact rfl) | ((with_reducible apply Mm.w_bName); exact rfl) | ((with_reducible apply Mm.w_lenL); exact rfl) | ((with_reducible apply Mm.w_lenD); exact rfl) | ((with_reducible apply Mm.p_ixT); exact rfl) | ((with_reducible apply Mm.p_ixL); exact rfl) | ((with_reducible apply Mm.w_bTup); exact rfl) | ((with_reducible apply Mm.w_len); exact rfl) | ((with_reducible apply Mm.w_append); exact rfl) | ((with_reducible apply Mm.w_varO); exact rfl) | ((with_reducible apply Mm.f_nx); exact rfl) | ((with_reducible apply Mm.f_rt); exact rfl) | ((with_reducible apply Mm.f_rn); exact rfl) | ((with_reducible apply Mm.f_rnL); exact rfl) | ((with_reducible refine Mm.k_nx ?_) <;> try (simp only [List.set_cons_succ, List.set_cons_zero, List.set_nil, List.cons_append, List.nil_append, List.take_succ_cons, List.take_zero, List.take_nil, List.replicate_succ, List.replicate_zero, List.length_cons, List.length_nil, List.length_set, Nat.reduceAdd, Nat.reduceSub, Mm.slotArgs, Mm.putArgs, Mm.putArg, Mm.putSlot])) | ((with_reducible apply Mm.w_bName); exact Mm.free_of rfl (by assumption)) | ((with_reducible apply Mm.w_ixC); exact rfl; exact rfl) | ((with_reducible apply Mm.w_bSubC); exact rfl; exact rfl) | ((with_reducible refine ⟨?_, ?_⟩); exact rfl) | ((with_reducible refine ⟨?_, ?_⟩); exact Mm.free_of rfl (by assumption))))
  have e : (isiB "tuple" d = false ∧ tupB d n = false) ∨ ∃ x, d = .tuple x := by cases d <;> simp [isiB, tupB]
  rcases e with ⟨e1, e2⟩ | ⟨x, rfl⟩
  · refine b_neg e1 ?_
    (repeat (first | (with_reducible first | refine Mm.w_c ?_ | refine Mm.w_bin ?_ | refine Mm.w_isi ?_ | refine Mm.w_isi2 ?_ | refine Mm.w_un ?_ | refine Mm.w_test ?_ | refine Mm.w_chain ?_ | refine Mm.w_gAnd ?_ | refine Mm.w_gOr ?_ | refine Mm.w_gNot ?_ | refine Mm.w_yes ?_ | refine Mm.w_and ?_ | refine Mm.w_or ?_ | refine Mm.w_not ?_ | refine Mm.w_if ?_ | refine Mm.w_nil ?_ | refine Mm.w_cons ?_ | refine Mm.w_an ?_ | refine Mm.v_nil ?_ | refine Mm.v_cons ?_ | refine Mm.w_disp ?_ | refine Mm.w_tup ?_ | refine Mm.w_frz ?_ | refine Mm.w_cb ?_ | refine Mm.w_cn ?_ | refine Mm.w_items ?_ | refine Mm.w_range1 ?_ | refine Mm.w_zip ?_ | refine Mm.w_enum ?_ | refine Mm.w_oNone ?_ | refine Mm.w_oSome ?_ | refine Mm.w_slice ?_ | refine Mm.s_nx ?_ | refine Mm.s_seq ?_ | refine Mm.s_asg ?_ | refine Mm.s_setN ?_ | refine Mm.s_ret ?_ | refine Mm.s_retL ?_ | refine Mm.s_expr ?_ | refine Mm.s_if ?_ | refine Mm.s_par ?_ | refine Mm.s_for ?_ | refine Mm.k_rt ?_ | refine Mm.k_rn ?_ | refine Mm.k_bk ?_ | refine Mm.k_ct ?_ | refine Mm.l_nx ?_ | refine Mm.l_rt ?_ | refine Mm.b_t ?_ | refine Mm.b_f ?_ | refine Mm.b_nf ?_ | refine Mm.b_nt ?_ | refine Mm.w_bCons ?_ | refine Mm.w_bNil ?_ | refine Mm.p_gt ?_ | refine Mm.p_lt ?_ | refine Mm.p_ge ?_ | refine Mm.p_le ?_ | refine Mm.p_add ?_ | refine Mm.p_sub ?_ | refine Mm.p_neg ?_ | refine Mm.p_eq ?_ | refine Mm.p_ne ?_ | refine Mm.p_int ?_ | refine Mm.p_intB ?_ | refine Mm.p_abs ?_ | refine Mm.p_max ?_ | refine Mm.p_min ?_ | refine Mm.p_eqB ?_ | refine Mm.p_eqS ?_ | refine Mm.p_tupL ?_ | refine Mm.p_tupT ?_ | refine Mm.p_lstL ?_ | refine Mm.p_lstT ?_ | refine Mm.p_lenT ?_ | refine Mm.p_lenL ?_ | refine Mm.p_itT ?_ | refine Mm.p_itL ?_ | refine Mm.p_itS ?_ | refine Mm.p_slT ?_ | refine Mm.p_slL ?_ | refine Mm.p_ltS ?_ | refine Mm.p_geS ?_ | refine c_num ?_ | refine c_lnum ?_ | refine c_btw ?_ | refine c_tup ?_ | refine ⟨_, rfl, ?_⟩) | ((with_reducible apply Mm.w_var); exact rfl) | ((with_reducible apply Mm.w_slot); exact rfl) | ((with_reducible apply Mm.w_bName); exact rfl) | ((with_reducible apply Mm.w_lenL); exact rfl) | ((with_reducible apply Mm.w_lenD); exact rfl) | ((with_reducible apply Mm.p_ixT); exact rfl) | ((with_reducible apply Mm.p_ixL); exact rfl) | ((with_reducible apply Mm.w_bTup); exact rfl) | ((with_reducible apply Mm.w_len); exact rfl) | ((with_reducible apply Mm.w_append); exact rfl) | ((with_reducible apply Mm.w_varO); exact rfl) | ((with_reducible apply Mm.f_nx); exact rfl) | ((with_reducible apply Mm.f_rt); exact rfl) | ((with_reducible apply Mm.f_rn); exact rfl) | ((with_reducible apply Mm.f_rnL); exact rfl) | ((with_reducible refine Mm.k_nx ?_) <;> try (simp only [List.set_cons_succ, List.set_cons_zero, List.set_nil, List.cons_append, List.nil_append, List.take_succ_cons, List.take_zero, List.take_nil, List.replicate_succ, List.replicate_zero, List.length_cons, List.length_nil, List.length_set, Nat.reduceAdd, Nat.reduceSub, Mm.slotArgs, Mm.putArgs, Mm.putArg, Mm.putSlot])) | ((with_reducible apply Mm.w_bName); exact Mm.free_of rfl (by assumption)) | ((with_reducible apply Mm.w_ixC); exact rfl; exact rfl) | ((with_reducible apply Mm.w_bSubC); exact rfl; exact rfl) | ((with_reducible refine ⟨?_, ?_⟩); exact rfl) | ((with_reducible refine ⟨?_, ?_⟩); exact Mm.free_of rfl (by assumption))))
    rw [e2] at k; exact k _
  · refine b_pos (by simp [isiB]) ?_
    (repeat (first | (with_reducible first | refine Mm.w_c ?_ | refine Mm.w_bin ?_ | refine Mm.w_isi ?_ | refine Mm.w_isi2 ?_ | refine Mm.w_un ?_ | refine Mm.w_test ?_ | refine Mm.w_chain ?_ | refine Mm.w_gAnd ?_ | refine Mm.w_gOr ?_ | refine Mm.w_gNot ?_ | refine Mm.w_yes ?_ | refine Mm.w_and ?_ | refine Mm.w_or ?_ | refine Mm.w_not ?_ | refine Mm.w_if ?_ | refine Mm.w_nil ?_ | refine Mm.w_cons ?_ | refine Mm.w_an ?_ | refine Mm.v_nil ?_ | refine Mm.v_cons ?_ | refine Mm.w_disp ?_ | refine Mm.w_tup ?_ | refine Mm.w_frz ?_ | refine Mm.w_cb ?_ | refine Mm.w_cn ?_ | refine Mm.w_items ?_ | refine Mm.w_range1 ?_ | refine Mm.w_zip ?_ | refine Mm.w_enum ?_ | refine Mm.w_oNone ?_ | refine Mm.w_oSome ?_ | refine Mm.w_slice ?_ | refine Mm.s_nx ?_ | refine Mm.s_seq ?_ | refine Mm.s_asg ?_ | refine Mm.s_setN ?_ | refine Mm.s_ret ?_ | refine Mm.s_retL ?_ | refine Mm.s_expr ?_ | refine Mm.s_if ?_ | refine Mm.s_par ?_ | refine Mm.s_for ?_ | refine Mm.k_rt ?_ | refine Mm.k_rn ?_ | refine Mm.k_bk ?_ | refine Mm.k_ct ?_ | refine Mm.l_nx ?_ | refine Mm.l_rt ?_ | refine Mm.b_t ?_ | refine Mm.b_f ?_ | refine Mm.b_nf ?_ | refine Mm.b_nt ?_ | refine Mm.w_bCons ?_ | refine Mm.w_bNil ?_ | refine Mm.p_gt ?_ | refine Mm.p_lt ?_ | refine Mm.p_ge ?_ | refine Mm.p_le ?_ | refine Mm.p_add ?_ | refine Mm.p_sub ?_ | refine Mm.p_neg ?_ | refine Mm.p_eq ?_ | refine Mm.p_ne ?_ | refine Mm.p_int ?_ | refine Mm.p_intB ?_ | refine Mm.p_abs ?_ | refine Mm.p_max ?_ | refine Mm.p_min ?_ | refine Mm.p_eqB ?_ | refine Mm.p_eqS ?_ | refine Mm.p_tupL ?_ | refine Mm.p_tupT ?_ | refine Mm.p_lstL ?_ | refine Mm.p_lstT ?_ | refine Mm.p_lenT ?_ | refine Mm.p_lenL ?_ | refine Mm.p_itT ?_ | refine Mm.p_itL ?_ | refine Mm.p_itS ?_ | refine Mm.p_slT ?_ | refine Mm.p_slL ?_ | refine Mm.p_ltS ?_ | refine Mm.p_geS ?_ | refine c_num ?_ | refine c_lnum ?_ | refine c_btw ?_ | refine c_tup ?_ | refine ⟨_, rfl, ?_⟩) | ((with_reducible apply Mm.w_var); exact rfl) | ((with_reducible apply Mm.w_slot); exact rfl) | ((with_reducible apply Mm.w_bName); exact rfl) | ((with_reducible apply Mm.w_lenL); exact rfl) | ((with_reducible apply Mm.w_lenD); exact rfl) | ((with_reducible apply Mm.p_ixT); exact rfl) | ((with_reducible apply Mm.p_ixL); exact rfl) | ((with_reducible apply Mm.w_bTup); exact rfl) | ((with_reducible apply Mm.w_len); exact rfl) | ((with_reducible apply Mm.w_append); exact rfl) | ((with_reducible apply Mm.w_varO); exact rfl) | ((with_reducible apply Mm.f_nx); exact rfl) | ((with_reducible apply Mm.f_rt); exact rfl) | ((with_reducible apply Mm.f_rn); exact rfl) | ((with_reducible apply Mm.f_rnL); exact rfl) | ((with_reducible refine Mm.k_nx ?_) <;> try (simp only [List.set_cons_succ, List.set_cons_zero, List.set_nil, List.cons_append, List.nil_append, List.take_succ_cons, List.take_zero, List.take_nil, List.replicate_succ, List.replicate_zero, List.length_cons, List.length_nil, List.length_set, Nat.reduceAdd, Nat.reduceSub, Mm.slotArgs, Mm.putArgs, Mm.putArg, Mm.putSlot])) | ((with_reducible apply Mm.w_bName); exact Mm.free_of rfl (by assumption)) | ((with_reducible apply Mm.w_ixC); exact rfl; exact rfl) | ((with_reducible apply Mm.w_bSubC); exact rfl; exact rfl) | ((with_reducible refine ⟨?_, ?_⟩); exact rfl) | ((with_reducible refine ⟨?_, ?_⟩); exact Mm.free_of rfl (by assumption))))
    exact k _
theorem c_tup {n : Int} (q : E1 (f ρ) fun d ρ1 => ρ1.length = ρ.length ∧ Q (.bool (tupB d n)) ρ1) : E1 (fCall m_is_tuple_of (fACons f (fACons (fC (.int n)) fANil)) ρ) Q :=
  w_callV (np := 2) (n := 2) (s := g_is_tuple_of) rfl (v_cons (q.mono fun d ρ1 h => v_cons (w_c (v_nil ⟨h.1, tup_ok fun _ => h.2⟩))))
def chB (d : Dt) : Bool := match d with
  | .str x => match x.cps.toList with
    | [c] => decide (c ∈ ("abcdefghijklmnopqrstuvwxyz" : Str).cps.toList)
    | _ => false
  | _ => false
def nameB (d : Dt) : Bool := match d with
  | .str x => decide (1 ≤ (x.length : Int)) && (decide ((x.length : Int) ≤ 8) && (chars x).all chB)
  | _ => false
theorem name_ok (hd : d.bulk ≤ 100000) (k : ∀ ρ, Q (.bool (nameB d)) ρ) : E1 (m_is_name [.ro d]) Q := by
  unfold m_is_name g_is_name
  refine m_of rfl ?_
  (repeat (first | (with_reducible first | refine Mm.w_c ?_ | refine Mm.w_bin ?_ | refine Mm.w_isi ?_ | refine Mm.w_isi2 ?_ | refine Mm.w_un ?_ | refine Mm.w_test ?_ | refine Mm.w_chain ?_ | refine Mm.w_gAnd ?_ | refine Mm.w_gOr ?_ | refine Mm.w_gNot ?_ | refine Mm.w_yes ?_ | refine Mm.w_and ?_ | refine Mm.w_or ?_ | refine Mm.w_not ?_ | refine Mm.w_if ?_ | refine Mm.w_nil ?_ | refine Mm.w_cons ?_ | refine Mm.w_an ?_ | refine Mm.v_nil ?_ | refine Mm.v_cons ?_ | refine Mm.w_disp ?_ | refine Mm.w_tup ?_ | refine Mm.w_frz ?_ | refine Mm.w_cb ?_ | refine Mm.w_cn ?_ | refine Mm.w_items ?_ | refine Mm.w_range1 ?_ | refine Mm.w_zip ?_ | refine Mm.w_enum ?_ | refine Mm.w_oNone ?_ | refine Mm.w_oSome ?_ | refine Mm.w_slice ?_ | refine Mm.s_nx ?_ | refine Mm.s_seq ?_ | refine Mm.s_asg ?_ | refine Mm.s_setN ?_ | refine Mm.s_ret ?_ | refine Mm.s_retL ?_ | refine Mm.s_expr ?_ | refine Mm.s_if ?_ | refine Mm.s_par ?_ | refine Mm.s_for ?_ | refine Mm.k_rt ?_ | refine Mm.k_rn ?_ | refine Mm.k_bk ?_ | refine Mm.k_ct ?_ | refine Mm.l_nx ?_ | refine Mm.l_rt ?_ | refine Mm.b_t ?_ | refine Mm.b_f ?_ | refine Mm.b_nf ?_ | refine Mm.b_nt ?_ | refine Mm.w_bCons ?_ | refine Mm.w_bNil ?_ | refine Mm.p_gt ?_ | refine Mm.p_lt ?_ | refine Mm.p_ge ?_ | refine Mm.p_le ?_ | refine Mm.p_add ?_ | refine Mm.p_sub ?_ | refine Mm.p_neg ?_ | refine Mm.p_eq ?_ | refine Mm.p_ne ?_ | refine Mm.p_int ?_ | refine Mm.p_intB ?_ | refine Mm.p_abs ?_ | refine Mm.p_max ?_ | refine Mm.p_min ?_ | refine Mm.p_eqB ?_ | refine Mm.p_eqS ?_ | refine Mm.p_tupL ?_ | refine Mm.p_tupT ?_ | refine Mm.p_lstL ?_ | refine Mm.p_lstT ?_ | refine Mm.p_lenT ?_ | refine Mm.p_lenL ?_ | refine Mm.p_itT ?_ | refine Mm.p_itL ?_ | refine Mm.p_itS ?_ | refine Mm.p_slT ?_ | refine Mm.p_slL ?_ | refine Mm.p_ltS ?_ | refine Mm.p_geS ?_ | refine c_num ?_ | refine c_lnum ?_ | refine c_btw ?_ | refine c_tup ?_ | refine ⟨_, rfl, ?_⟩) | ((with_reducible apply Mm.w_var); exact rfl) | ((with_reducible apply Mm.w_slot); exact rfl) | ((with_reducible apply Mm.w_bName); exact rfl) | ((with_reducible apply Mm.w_lenL); exact rfl) | ((with_reducible apply Mm.w_lenD); exact rfl) | ((with_reducible apply Mm.p_ixT); exact rfl) | ((with_reducible apply Mm.p_ixL); exact rfl) | ((with_reducible apply Mm.w_bTup); exact rfl) | ((with_reducible apply Mm.w_len); exact rfl) | ((with_reducible apply Mm.w_append); exact rfl) | ((with_reducible apply Mm.w_varO); exact rfl) | ((with_reducible apply Mm.f_nx); exact rfl) | ((with_reducible apply Mm.f_rt); exact rfl) | ((with_reducible apply Mm.f_rn); exact rfl) | ((with_reducible apply Mm.f_rnL); exact rfl) | ((with_reducible refine Mm.k_nx ?_) <;> try (simp only [List.set_cons_succ, List.set_cons_zero, List.set_nil, List.cons_append, List.nil_append, List.take_succ_cons, List.take_zero, List.take_nil, List.replicate_succ, List.replicate_zero, List.length_cons, List.length_nil, List.length_set, Nat.reduceAdd, Nat.reduceSub, Mm.slotArgs, Mm.putArgs, Mm.putArg, Mm.putSlot])) | ((with_reducible apply Mm.w_bName); exact Mm.free_of rfl (by assumption)) | ((with_reducible apply Mm.w_ixC); exact rfl; exact rfl) | ((with_reducible apply Mm.w_bSubC); exact rfl; exact rfl) | ((with_reducible refine ⟨?_, ?_⟩); exact rfl) | ((with_reducible refine ⟨?_, ?_⟩); exact Mm.free_of rfl (by assumption))))
  have e : (isiB "str" d = false ∧ nameB d = false) ∨ ∃ x, d = .str x := by cases d <;> simp [isiB, nameB]
  rcases e with ⟨e1, e2⟩ | ⟨x, rfl⟩
  · refine b_pos (by simp [e1]) ?_
    (repeat (first | (with_reducible first | refine Mm.w_c ?_ | refine Mm.w_bin ?_ | refine Mm.w_isi ?_ | refine Mm.w_isi2 ?_ | refine Mm.w_un ?_ | refine Mm.w_test ?_ | refine Mm.w_chain ?_ | refine Mm.w_gAnd ?_ | refine Mm.w_gOr ?_ | refine Mm.w_gNot ?_ | refine Mm.w_yes ?_ | refine Mm.w_and ?_ | refine Mm.w_or ?_ | refine Mm.w_not ?_ | refine Mm.w_if ?_ | refine Mm.w_nil ?_ | refine Mm.w_cons ?_ | refine Mm.w_an ?_ | refine Mm.v_nil ?_ | refine Mm.v_cons ?_ | refine Mm.w_disp ?_ | refine Mm.w_tup ?_ | refine Mm.w_frz ?_ | refine Mm.w_cb ?_ | refine Mm.w_cn ?_ | refine Mm.w_items ?_ | refine Mm.w_range1 ?_ | refine Mm.w_zip ?_ | refine Mm.w_enum ?_ | refine Mm.w_oNone ?_ | refine Mm.w_oSome ?_ | refine Mm.w_slice ?_ | refine Mm.s_nx ?_ | refine Mm.s_seq ?_ | refine Mm.s_asg ?_ | refine Mm.s_setN ?_ | refine Mm.s_ret ?_ | refine Mm.s_retL ?_ | refine Mm.s_expr ?_ | refine Mm.s_if ?_ | refine Mm.s_par ?_ | refine Mm.s_for ?_ | refine Mm.k_rt ?_ | refine Mm.k_rn ?_ | refine Mm.k_bk ?_ | refine Mm.k_ct ?_ | refine Mm.l_nx ?_ | refine Mm.l_rt ?_ | refine Mm.b_t ?_ | refine Mm.b_f ?_ | refine Mm.b_nf ?_ | refine Mm.b_nt ?_ | refine Mm.w_bCons ?_ | refine Mm.w_bNil ?_ | refine Mm.p_gt ?_ | refine Mm.p_lt ?_ | refine Mm.p_ge ?_ | refine Mm.p_le ?_ | refine Mm.p_add ?_ | refine Mm.p_sub ?_ | refine Mm.p_neg ?_ | refine Mm.p_eq ?_ | refine Mm.p_ne ?_ | refine Mm.p_int ?_ | refine Mm.p_intB ?_ | refine Mm.p_abs ?_ | refine Mm.p_max ?_ | refine Mm.p_min ?_ | refine Mm.p_eqB ?_ | refine Mm.p_eqS ?_ | refine Mm.p_tupL ?_ | refine Mm.p_tupT ?_ | refine Mm.p_lstL ?_ | refine Mm.p_lstT ?_ | refine Mm.p_lenT ?_ | refine Mm.p_lenL ?_ | refine Mm.p_itT ?_ | refine Mm.p_itL ?_ | refine Mm.p_itS ?_ | refine Mm.p_slT ?_ | refine Mm.p_slL ?_ | refine Mm.p_ltS ?_ | refine Mm.p_geS ?_ | refine c_num ?_ | refine c_lnum ?_ | refine c_btw ?_ | refine c_tup ?_ | refine ⟨_, rfl, ?_⟩) | ((with_reducible apply Mm.w_var); exact rfl) | ((with_reducible apply Mm.w_slot); exact rfl) | ((with_reducible apply Mm.w_bName); exact rfl) | ((with_reducible apply Mm.w_lenL); exact rfl) | ((with_reducible apply Mm.w_lenD); exact rfl) | ((with_reducible apply Mm.p_ixT); exact rfl) | ((with_reducible apply Mm.p_ixL); exact rfl) | ((with_reducible apply Mm.w_bTup); exact rfl) | ((with_reducible apply Mm.w_len); exact rfl) | ((with_reducible apply Mm.w_append); exact rfl) | ((with_reducible apply Mm.w_varO); exact rfl) | ((with_reducible apply Mm.f_nx); exact rfl) | ((with_reducible apply Mm.f_rt); exact rfl) | ((with_reducible apply Mm.f_rn); exact rfl) | ((with_reducible apply Mm.f_rnL); exact rfl) | ((with_reducible refine Mm.k_nx ?_) <;> try (simp only [List.set_cons_succ, List.set_cons_zero, List.set_nil, List.cons_append, List.nil_append, List.take_succ_cons, List.take_zero, List.take_nil, List.replicate_succ, List.replicate_zero, List.length_cons, List.length_nil, List.length_set, Nat.reduceAdd, Nat.reduceSub, Mm.slotArgs, Mm.putArgs, Mm.putArg, Mm.putSlot])) | ((with_reducible apply Mm.w_bName); exact Mm.free_of rfl (by assumption)) | ((with_reducible apply Mm.w_ixC); exact rfl; exact rfl) | ((with_reducible apply Mm.w_bSubC); exact rfl; exact rfl) | ((with_reducible refine ⟨?_, ?_⟩); exact rfl) | ((with_reducible refine ⟨?_, ?_⟩); exact Mm.free_of rfl (by assumption))))
    rw [e2] at k; exact k _
  · refine b_neg (by simp [isiB]) ?_
    (repeat (first | (with_reducible first | refine Mm.w_c ?_ | refine Mm.w_bin ?_ | refine Mm.w_isi ?_ | refine Mm.w_isi2 ?_ | refine Mm.w_un ?_ | refine Mm.w_test ?_ | refine Mm.w_chain ?_ | refine Mm.w_gAnd ?_ | refine Mm.w_gOr ?_ | refine Mm.w_gNot ?_ | refine Mm.w_yes ?_ | refine Mm.w_and ?_ | refine Mm.w_or ?_ | refine Mm.w_not ?_ | refine Mm.w_if ?_ | refine Mm.w_nil ?_ | refine Mm.w_cons ?_ | refine Mm.w_an ?_ | refine Mm.v_nil ?_ | refine Mm.v_cons ?_ | refine Mm.w_disp ?_ | refine Mm.w_tup ?_ | refine Mm.w_frz ?_ | refine Mm.w_cb ?_ | refine Mm.w_cn ?_ | refine Mm.w_items ?_ | refine Mm.w_range1 ?_ | refine Mm.w_zip ?_ | refine Mm.w_enum ?_ | refine Mm.w_oNone ?_ | refine Mm.w_oSome ?_ | refine Mm.w_slice ?_ | refine Mm.s_nx ?_ | refine Mm.s_seq ?_ | refine Mm.s_asg ?_ | refine Mm.s_setN ?_ | refine Mm.s_ret ?_ | refine Mm.s_retL ?_ | refine Mm.s_expr ?_ | refine Mm.s_if ?_ | refine Mm.s_par ?_ | refine Mm.s_for ?_ | refine Mm.k_rt ?_ | refine Mm.k_rn ?_ | refine Mm.k_bk ?_ | refine Mm.k_ct ?_ | refine Mm.l_nx ?_ | refine Mm.l_rt ?_ | refine Mm.b_t ?_ | refine Mm.b_f ?_ | refine Mm.b_nf ?_ | refine Mm.b_nt ?_ | refine Mm.w_bCons ?_ | refine Mm.w_bNil ?_ | refine Mm.p_gt ?_ | refine Mm.p_lt ?_ | refine Mm.p_ge ?_ | refine Mm.p_le ?_ | refine Mm.p_add ?_ | refine Mm.p_sub ?_ | refine Mm.p_neg ?_ | refine Mm.p_eq ?_ | refine Mm.p_ne ?_ | refine Mm.p_int ?_ | refine Mm.p_intB ?_ | refine Mm.p_abs ?_ | refine Mm.p_max ?_ | refine Mm.p_min ?_ | refine Mm.p_eqB ?_ | refine Mm.p_eqS ?_ | refine Mm.p_tupL ?_ | refine Mm.p_tupT ?_ | refine Mm.p_lstL ?_ | refine Mm.p_lstT ?_ | refine Mm.p_lenT ?_ | refine Mm.p_lenL ?_ | refine Mm.p_itT ?_ | refine Mm.p_itL ?_ | refine Mm.p_itS ?_ | refine Mm.p_slT ?_ | refine Mm.p_slL ?_ | refine Mm.p_ltS ?_ | refine Mm.p_geS ?_ | refine c_num ?_ | refine c_lnum ?_ | refine c_btw ?_ | refine c_tup ?_ | refine ⟨_, rfl, ?_⟩) | ((with_reducible apply Mm.w_var); exact rfl) | ((with_reducible apply Mm.w_slot); exact rfl) | ((with_reducible apply Mm.w_bName); exact rfl) | ((with_reducible apply Mm.w_lenL); exact rfl) | ((with_reducible apply Mm.w_lenD); exact rfl) | ((with_reducible apply Mm.p_ixT); exact rfl) | ((with_reducible apply Mm.p_ixL); exact rfl) | ((with_reducible apply Mm.w_bTup); exact rfl) | ((with_reducible apply Mm.w_len); exact rfl) | ((with_reducible apply Mm.w_append); exact rfl) | ((with_reducible apply Mm.w_varO); exact rfl) | ((with_reducible apply Mm.f_nx); exact rfl) | ((with_reducible apply Mm.f_rt); exact rfl) | ((with_reducible apply Mm.f_rn); exact rfl) | ((with_reducible apply Mm.f_rnL); exact rfl) | ((with_reducible refine Mm.k_nx ?_) <;> try (simp only [List.set_cons_succ, List.set_cons_zero, List.set_nil, List.cons_append, List.nil_append, List.take_succ_cons, List.take_zero, List.take_nil, List.replicate_succ, List.replicate_zero, List.length_cons, List.length_nil, List.length_set, Nat.reduceAdd, Nat.reduceSub, Mm.slotArgs, Mm.putArgs, Mm.putArg, Mm.putSlot])) | ((with_reducible apply Mm.w_bName); exact Mm.free_of rfl (by assumption)) | ((with_reducible apply Mm.w_ixC); exact rfl; exact rfl) | ((with_reducible apply Mm.w_bSubC); exact rfl; exact rfl) | ((with_reducible refine ⟨?_, ?_⟩); exact rfl) | ((with_reducible refine ⟨?_, ?_⟩); exact Mm.free_of rfl (by assumption))))
    have hl : lenOk x.length = true := by
      simp only [PyData.bulk] at hd
      exact decide_eq_true hd
    refine ⟨.int x.length, by simp [dLen, hl], ?_⟩
    (repeat (first | (with_reducible first | refine Mm.w_c ?_ | refine Mm.w_bin ?_ | refine Mm.w_isi ?_ | refine Mm.w_isi2 ?_ | refine Mm.w_un ?_ | refine Mm.w_test ?_ | refine Mm.w_chain ?_ | refine Mm.w_gAnd ?_ | refine Mm.w_gOr ?_ | refine Mm.w_gNot ?_ | refine Mm.w_yes ?_ | refine Mm.w_and ?_ | refine Mm.w_or ?_ | refine Mm.w_not ?_ | refine Mm.w_if ?_ | refine Mm.w_nil ?_ | refine Mm.w_cons ?_ | refine Mm.w_an ?_ | refine Mm.v_nil ?_ | refine Mm.v_cons ?_ | refine Mm.w_disp ?_ | refine Mm.w_tup ?_ | refine Mm.w_frz ?_ | refine Mm.w_cb ?_ | refine Mm.w_cn ?_ | refine Mm.w_items ?_ | refine Mm.w_range1 ?_ | refine Mm.w_zip ?_ | refine Mm.w_enum ?_ | refine Mm.w_oNone ?_ | refine Mm.w_oSome ?_ | refine Mm.w_slice ?_ | refine Mm.s_nx ?_ | refine Mm.s_seq ?_ | refine Mm.s_asg ?_ | refine Mm.s_setN ?_ | refine Mm.s_ret ?_ | refine Mm.s_retL ?_ | refine Mm.s_expr ?_ | refine Mm.s_if ?_ | refine Mm.s_par ?_ | refine Mm.s_for ?_ | refine Mm.k_rt ?_ | refine Mm.k_rn ?_ | refine Mm.k_bk ?_ | refine Mm.k_ct ?_ | refine Mm.l_nx ?_ | refine Mm.l_rt ?_ | refine Mm.b_t ?_ | refine Mm.b_f ?_ | refine Mm.b_nf ?_ | refine Mm.b_nt ?_ | refine Mm.w_bCons ?_ | refine Mm.w_bNil ?_ | refine Mm.p_gt ?_ | refine Mm.p_lt ?_ | refine Mm.p_ge ?_ | refine Mm.p_le ?_ | refine Mm.p_add ?_ | refine Mm.p_sub ?_ | refine Mm.p_neg ?_ | refine Mm.p_eq ?_ | refine Mm.p_ne ?_ | refine Mm.p_int ?_ | refine Mm.p_intB ?_ | refine Mm.p_abs ?_ | refine Mm.p_max ?_ | refine Mm.p_min ?_ | refine Mm.p_eqB ?_ | refine Mm.p_eqS ?_ | refine Mm.p_tupL ?_ | refine Mm.p_tupT ?_ | refine Mm.p_lstL ?_ | refine Mm.p_lstT ?_ | refine Mm.p_lenT ?_ | refine Mm.p_lenL ?_ | refine Mm.p_itT ?_ | refine Mm.p_itL ?_ | refine Mm.p_itS ?_ | refine Mm.p_slT ?_ | refine Mm.p_slL ?_ | refine Mm.p_ltS ?_ | refine Mm.p_geS ?_ | refine c_num ?_ | refine c_lnum ?_ | refine c_btw ?_ | refine c_tup ?_ | refine ⟨_, rfl, ?_⟩) | ((with_reducible apply Mm.w_var); exact rfl) | ((with_reducible apply Mm.w_slot); exact rfl) | ((with_reducible apply Mm.w_bName); exact rfl) | ((with_reducible apply Mm.w_lenL); exact rfl) | ((with_reducible apply Mm.w_lenD); exact rfl) | ((with_reducible apply Mm.p_ixT); exact rfl) | ((with_reducible apply Mm.p_ixL); exact rfl) | ((with_reducible apply Mm.w_bTup); exact rfl) | ((with_reducible apply Mm.w_len); exact rfl) | ((with_reducible apply Mm.w_append); exact rfl) | ((with_reducible apply Mm.w_varO); exact rfl) | ((with_reducible apply Mm.f_nx); exact rfl) | ((with_reducible apply Mm.f_rt); exact rfl) | ((with_reducible apply Mm.f_rn); exact rfl) | ((with_reducible apply Mm.f_rnL); exact rfl) | ((with_reducible refine Mm.k_nx ?_) <;> try (simp only [List.set_cons_succ, List.set_cons_zero, List.set_nil, List.cons_append, List.nil_append, List.take_succ_cons, List.take_zero, List.take_nil, List.replicate_succ, List.replicate_zero, List.length_cons, List.length_nil, List.length_set, Nat.reduceAdd, Nat.reduceSub, Mm.slotArgs, Mm.putArgs, Mm.putArg, Mm.putSlot])) | ((with_reducible apply Mm.w_bName); exact Mm.free_of rfl (by assumption)) | ((with_reducible apply Mm.w_ixC); exact rfl; exact rfl) | ((with_reducible apply Mm.w_bSubC); exact rfl; exact rfl) | ((with_reducible refine ⟨?_, ?_⟩); exact rfl) | ((with_reducible refine ⟨?_, ?_⟩); exact Mm.free_of rfl (by assumption))))
    by_cases h1 : 1 ≤ (x.length : Int)
    · refine b_pos (by simpa using h1) ?_
      (repeat (first | (with_reducible first | refine Mm.w_c ?_ | refine Mm.w_bin ?_ | refine Mm.w_isi ?_ | refine Mm.w_isi2 ?_ | refine Mm.w_un ?_ | refine Mm.w_test ?_ | refine Mm.w_chain ?_ | refine Mm.w_gAnd ?_ | refine Mm.w_gOr ?_ | refine Mm.w_gNot ?_ | refine Mm.w_yes ?_ | refine Mm.w_and ?_ | refine Mm.w_or ?_ | refine Mm.w_not ?_ | refine Mm.w_if ?_ | refine Mm.w_nil ?_ | refine Mm.w_cons ?_ | refine Mm.w_an ?_ | refine Mm.v_nil ?_ | refine Mm.v_cons ?_ | refine Mm.w_disp ?_ | refine Mm.w_tup ?_ | refine Mm.w_frz ?_ | refine Mm.w_cb ?_ | refine Mm.w_cn ?_ | refine Mm.w_items ?_ | refine Mm.w_range1 ?_ | refine Mm.w_zip ?_ | refine Mm.w_enum ?_ | refine Mm.w_oNone ?_ | refine Mm.w_oSome ?_ | refine Mm.w_slice ?_ | refine Mm.s_nx ?_ | refine Mm.s_seq ?_ | refine Mm.s_asg ?_ | refine Mm.s_setN ?_ | refine Mm.s_ret ?_ | refine Mm.s_retL ?_ | refine Mm.s_expr ?_ | refine Mm.s_if ?_ | refine Mm.s_par ?_ | refine Mm.s_for ?_ | refine Mm.k_rt ?_ | refine Mm.k_rn ?_ | refine Mm.k_bk ?_ | refine Mm.k_ct ?_ | refine Mm.l_nx ?_ | refine Mm.l_rt ?_ | refine Mm.b_t ?_ | refine Mm.b_f ?_ | refine Mm.b_nf ?_ | refine Mm.b_nt ?_ | refine Mm.w_bCons ?_ | refine Mm.w_bNil ?_ | refine Mm.p_gt ?_ | refine Mm.p_lt ?_ | refine Mm.p_ge ?_ | refine Mm.p_le ?_ | refine Mm.p_add ?_ | refine Mm.p_sub ?_ | refine Mm.p_neg ?_ | refine Mm.p_eq ?_ | refine Mm.p_ne ?_ | refine Mm.p_int ?_ | refine Mm.p_intB ?_ | refine Mm.p_abs ?_ | refine Mm.p_max ?_ | refine Mm.p_min ?_ | refine Mm.p_eqB ?_ | refine Mm.p_eqS ?_ | refine Mm.p_tupL ?_ | refine Mm.p_tupT ?_ | refine Mm.p_lstL ?_ | refine Mm.p_lstT ?_ | refine Mm.p_lenT ?_ | refine Mm.p_lenL ?_ | refine Mm.p_itT ?_ | refine Mm.p_itL ?_ | refine Mm.p_itS ?_ | refine Mm.p_slT ?_ | refine Mm.p_slL ?_ | refine Mm.p_ltS ?_ | refine Mm.p_geS ?_ | refine c_num ?_ | refine c_lnum ?_ | refine c_btw ?_ | refine c_tup ?_ | refine ⟨_, rfl, ?_⟩) | ((with_reducible apply Mm.w_var); exact rfl) | ((with_reducible apply Mm.w_slot); exact rfl) | ((with_reducible apply Mm.w_bName); exact rfl) | ((with_reducible apply Mm.w_lenL); exact rfl) | ((with_reducible apply Mm.w_lenD); exact rfl) | ((with_reducible apply Mm.p_ixT); exact rfl) | ((with_reducible apply Mm.p_ixL); exact rfl) | ((with_reducible apply Mm.w_bTup); exact rfl) | ((with_reducible apply Mm.w_len); exact rfl) | ((with_reducible apply Mm.w_append); exact rfl) | ((with_reducible apply Mm.w_varO); exact rfl) | ((with_reducible apply Mm.f_nx); exact rfl) | ((with_reducible apply Mm.f_rt); exact rfl) | ((with_reducible apply Mm.f_rn); exact rfl) | ((with_reducible apply Mm.f_rnL); exact rfl) | ((with_reducible refine Mm.k_nx ?_) <;> try (simp only [List.set_cons_succ, List.set_cons_zero, List.set_nil, List.cons_append, List.nil_append, List.take_succ_cons, List.take_zero, List.take_nil, List.replicate_succ, List.replicate_zero, List.length_cons, List.length_nil, List.length_set, Nat.reduceAdd, Nat.reduceSub, Mm.slotArgs, Mm.putArgs, Mm.putArg, Mm.putSlot])) | ((with_reducible apply Mm.w_bName); exact Mm.free_of rfl (by assumption)) | ((with_reducible apply Mm.w_ixC); exact rfl; exact rfl) | ((with_reducible apply Mm.w_bSubC); exact rfl; exact rfl) | ((with_reducible refine ⟨?_, ?_⟩); exact rfl) | ((with_reducible refine ⟨?_, ?_⟩); exact Mm.free_of rfl (by assumption))))
      by_cases h2 : (x.length : Int) ≤ 8
      · refine b_neg (by simpa using h2) ?_
        (repeat (first | (with_reducible first | refine Mm.w_c ?_ | refine Mm.w_bin ?_ | refine Mm.w_isi ?_ | refine Mm.w_isi2 ?_ | refine Mm.w_un ?_ | refine Mm.w_test ?_ | refine Mm.w_chain ?_ | refine Mm.w_gAnd ?_ | refine Mm.w_gOr ?_ | refine Mm.w_gNot ?_ | refine Mm.w_yes ?_ | refine Mm.w_and ?_ | refine Mm.w_or ?_ | refine Mm.w_not ?_ | refine Mm.w_if ?_ | refine Mm.w_nil ?_ | refine Mm.w_cons ?_ | refine Mm.w_an ?_ | refine Mm.v_nil ?_ | refine Mm.v_cons ?_ | refine Mm.w_disp ?_ | refine Mm.w_tup ?_ | refine Mm.w_frz ?_ | refine Mm.w_cb ?_ | refine Mm.w_cn ?_ | refine Mm.w_items ?_ | refine Mm.w_range1 ?_ | refine Mm.w_zip ?_ | refine Mm.w_enum ?_ | refine Mm.w_oNone ?_ | refine Mm.w_oSome ?_ | refine Mm.w_slice ?_ | refine Mm.s_nx ?_ | refine Mm.s_seq ?_ | refine Mm.s_asg ?_ | refine Mm.s_setN ?_ | refine Mm.s_ret ?_ | refine Mm.s_retL ?_ | refine Mm.s_expr ?_ | refine Mm.s_if ?_ | refine Mm.s_par ?_ | refine Mm.s_for ?_ | refine Mm.k_rt ?_ | refine Mm.k_rn ?_ | refine Mm.k_bk ?_ | refine Mm.k_ct ?_ | refine Mm.l_nx ?_ | refine Mm.l_rt ?_ | refine Mm.b_t ?_ | refine Mm.b_f ?_ | refine Mm.b_nf ?_ | refine Mm.b_nt ?_ | refine Mm.w_bCons ?_ | refine Mm.w_bNil ?_ | refine Mm.p_gt ?_ | refine Mm.p_lt ?_ | refine Mm.p_ge ?_ | refine Mm.p_le ?_ | refine Mm.p_add ?_ | refine Mm.p_sub ?_ | refine Mm.p_neg ?_ | refine Mm.p_eq ?_ | refine Mm.p_ne ?_ | refine Mm.p_int ?_ | refine Mm.p_intB ?_ | refine Mm.p_abs ?_ | refine Mm.p_max ?_ | refine Mm.p_min ?_ | refine Mm.p_eqB ?_ | refine Mm.p_eqS ?_ | refine Mm.p_tupL ?_ | refine Mm.p_tupT ?_ | refine Mm.p_lstL ?_ | refine Mm.p_lstT ?_ | refine Mm.p_lenT ?_ | refine Mm.p_lenL ?_ | refine Mm.p_itT ?_ | refine Mm.p_itL ?_ | refine Mm.p_itS ?_ | refine Mm.p_slT ?_ | refine Mm.p_slL ?_ | refine Mm.p_ltS ?_ | refine Mm.p_geS ?_ | refine c_num ?_ | refine c_lnum ?_ | refine c_btw ?_ | refine c_tup ?_ | refine ⟨_, rfl, ?_⟩) | ((with_reducible apply Mm.w_var); exact rfl) | ((with_reducible apply Mm.w_slot); exact rfl) | ((with_reducible apply Mm.w_bName); exact rfl) | ((with_reducible apply Mm.w_lenL); exact rfl) | ((with_reducible apply Mm.w_lenD); exact rfl) | ((with_reducible apply Mm.p_ixT); exact rfl) | ((with_reducible apply Mm.p_ixL); exact rfl) | ((with_reducible apply Mm.w_bTup); exact rfl) | ((with_reducible apply Mm.w_len); exact rfl) | ((with_reducible apply Mm.w_append); exact rfl) | ((with_reducible apply Mm.w_varO); exact rfl) | ((with_reducible apply Mm.f_nx); exact rfl) | ((with_reducible apply Mm.f_rt); exact rfl) | ((with_reducible apply Mm.f_rn); exact rfl) | ((with_reducible apply Mm.f_rnL); exact rfl) | ((with_reducible refine Mm.k_nx ?_) <;> try (simp only [List.set_cons_succ, List.set_cons_zero, List.set_nil, List.cons_append, List.nil_append, List.take_succ_cons, List.take_zero, List.take_nil, List.replicate_succ, List.replicate_zero, List.length_cons, List.length_nil, List.length_set, Nat.reduceAdd, Nat.reduceSub, Mm.slotArgs, Mm.putArgs, Mm.putArg, Mm.putSlot])) | ((with_reducible apply Mm.w_bName); exact Mm.free_of rfl (by assumption)) | ((with_reducible apply Mm.w_ixC); exact rfl; exact rfl) | ((with_reducible apply Mm.w_bSubC); exact rfl; exact rfl) | ((with_reducible refine ⟨?_, ?_⟩); exact rfl) | ((with_reducible refine ⟨?_, ?_⟩); exact Mm.free_of rfl (by assumption))))
        refine w_lcm (fun d => .bool (chB d)) ?_
        (repeat (first | (with_reducible first | refine Mm.w_c ?_ | refine Mm.w_bin ?_ | refine Mm.w_isi ?_ | refine Mm.w_isi2 ?_ | refine Mm.w_un ?_ | refine Mm.w_test ?_ | refine Mm.w_chain ?_ | refine Mm.w_gAnd ?_ | refine Mm.w_gOr ?_ | refine Mm.w_gNot ?_ | refine Mm.w_yes ?_ | refine Mm.w_and ?_ | refine Mm.w_or ?_ | refine Mm.w_not ?_ | refine Mm.w_if ?_ | refine Mm.w_nil ?_ | refine Mm.w_cons ?_ | refine Mm.w_an ?_ | refine Mm.v_nil ?_ | refine Mm.v_cons ?_ | refine Mm.w_disp ?_ | refine Mm.w_tup ?_ | refine Mm.w_frz ?_ | refine Mm.w_cb ?_ | refine Mm.w_cn ?_ | refine Mm.w_items ?_ | refine Mm.w_range1 ?_ | refine Mm.w_zip ?_ | refine Mm.w_enum ?_ | refine Mm.w_oNone ?_ | refine Mm.w_oSome ?_ | refine Mm.w_slice ?_ | refine Mm.s_nx ?_ | refine Mm.s_seq ?_ | refine Mm.s_asg ?_ | refine Mm.s_setN ?_ | refine Mm.s_ret ?_ | refine Mm.s_retL ?_ | refine Mm.s_expr ?_ | refine Mm.s_if ?_ | refine Mm.s_par ?_ | refine Mm.s_for ?_ | refine Mm.k_rt ?_ | refine Mm.k_rn ?_ | refine Mm.k_bk ?_ | refine Mm.k_ct ?_ | refine Mm.l_nx ?_ | refine Mm.l_rt ?_ | refine Mm.b_t ?_ | refine Mm.b_f ?_ | refine Mm.b_nf ?_ | refine Mm.b_nt ?_ | refine Mm.w_bCons ?_ | refine Mm.w_bNil ?_ | refine Mm.p_gt ?_ | refine Mm.p_lt ?_ | refine Mm.p_ge ?_ | refine Mm.p_le ?_ | refine Mm.p_add ?_ | refine Mm.p_sub ?_ | refine Mm.p_neg ?_ | refine Mm.p_eq ?_ | refine Mm.p_ne ?_ | refine Mm.p_int ?_ | refine Mm.p_intB ?_ | refine Mm.p_abs ?_ | refine Mm.p_max ?_ | refine Mm.p_min ?_ | refine Mm.p_eqB ?_ | refine Mm.p_eqS ?_ | refine Mm.p_tupL ?_ | refine Mm.p_tupT ?_ | refine Mm.p_lstL ?_ | refine Mm.p_lstT ?_ | refine Mm.p_lenT ?_ | refine Mm.p_lenL ?_ | refine Mm.p_itT ?_ | refine Mm.p_itL ?_ | refine Mm.p_itS ?_ | refine Mm.p_slT ?_ | refine Mm.p_slL ?_ | refine Mm.p_ltS ?_ | refine Mm.p_geS ?_ | refine c_num ?_ | refine c_lnum ?_ | refine c_btw ?_ | refine c_tup ?_ | refine ⟨_, rfl, ?_⟩) | ((with_reducible apply Mm.w_var); exact rfl) | ((with_reducible apply Mm.w_slot); exact rfl) | ((with_reducible apply Mm.w_bName); exact rfl) | ((with_reducible apply Mm.w_lenL); exact rfl) | ((with_reducible apply Mm.w_lenD); exact rfl) | ((with_reducible apply Mm.p_ixT); exact rfl) | ((with_reducible apply Mm.p_ixL); exact rfl) | ((with_reducible apply Mm.w_bTup); exact rfl) | ((with_reducible apply Mm.w_len); exact rfl) | ((with_reducible apply Mm.w_append); exact rfl) | ((with_reducible apply Mm.w_varO); exact rfl) | ((with_reducible apply Mm.f_nx); exact rfl) | ((with_reducible apply Mm.f_rt); exact rfl) | ((with_reducible apply Mm.f_rn); exact rfl) | ((with_reducible apply Mm.f_rnL); exact rfl) | ((with_reducible refine Mm.k_nx ?_) <;> try (simp only [List.set_cons_succ, List.set_cons_zero, List.set_nil, List.cons_append, List.nil_append, List.take_succ_cons, List.take_zero, List.take_nil, List.replicate_succ, List.replicate_zero, List.length_cons, List.length_nil, List.length_set, Nat.reduceAdd, Nat.reduceSub, Mm.slotArgs, Mm.putArgs, Mm.putArg, Mm.putSlot])) | ((with_reducible apply Mm.w_bName); exact Mm.free_of rfl (by assumption)) | ((with_reducible apply Mm.w_ixC); exact rfl; exact rfl) | ((with_reducible apply Mm.w_bSubC); exact rfl; exact rfl) | ((with_reducible refine ⟨?_, ?_⟩); exact rfl) | ((with_reducible refine ⟨?_, ?_⟩); exact Mm.free_of rfl (by assumption))))
        refine ⟨?_, rfl, ?_, ?_⟩
        · show (chars x).length ≤ _
          unfold chars; rw [List.length_map]; show x.length ≤ _; omega
        · intro d hd
          obtain ⟨c, hc, rfl⟩ := List.mem_map.mp hd
          (repeat (first | (with_reducible first | refine Mm.w_c ?_ | refine Mm.w_bin ?_ | refine Mm.w_isi ?_ | refine Mm.w_isi2 ?_ | refine Mm.w_un ?_ | refine Mm.w_test ?_ | refine Mm.w_chain ?_ | refine Mm.w_gAnd ?_ | refine Mm.w_gOr ?_ | refine Mm.w_gNot ?_ | refine Mm.w_yes ?_ | refine Mm.w_and ?_ | refine Mm.w_or ?_ | refine Mm.w_not ?_ | refine Mm.w_if ?_ | refine Mm.w_nil ?_ | refine Mm.w_cons ?_ | refine Mm.w_an ?_ | refine Mm.v_nil ?_ | refine Mm.v_cons ?_ | refine Mm.w_disp ?_ | refine Mm.w_tup ?_ | refine Mm.w_frz ?_ | refine Mm.w_cb ?_ | refine Mm.w_cn ?_ | refine Mm.w_items ?_ | refine Mm.w_range1 ?_ | refine Mm.w_zip ?_ | refine Mm.w_enum ?_ | refine Mm.w_oNone ?_ | refine Mm.w_oSome ?_ | refine Mm.w_slice ?_ | refine Mm.s_nx ?_ | refine Mm.s_seq ?_ | refine Mm.s_asg ?_ | refine Mm.s_setN ?_ | refine Mm.s_ret ?_ | refine Mm.s_retL ?_ | refine Mm.s_expr ?_ | refine Mm.s_if ?_ | refine Mm.s_par ?_ | refine Mm.s_for ?_ | refine Mm.k_rt ?_ | refine Mm.k_rn ?_ | refine Mm.k_bk ?_ | refine Mm.k_ct ?_ | refine Mm.l_nx ?_ | refine Mm.l_rt ?_ | refine Mm.b_t ?_ | refine Mm.b_f ?_ | refine Mm.b_nf ?_ | refine Mm.b_nt ?_ | refine Mm.w_bCons ?_ | refine Mm.w_bNil ?_ | refine Mm.p_gt ?_ | refine Mm.p_lt ?_ | refine Mm.p_ge ?_ | refine Mm.p_le ?_ | refine Mm.p_add ?_ | refine Mm.p_sub ?_ | refine Mm.p_neg ?_ | refine Mm.p_eq ?_ | refine Mm.p_ne ?_ | refine Mm.p_int ?_ | refine Mm.p_intB ?_ | refine Mm.p_abs ?_ | refine Mm.p_max ?_ | refine Mm.p_min ?_ | refine Mm.p_eqB ?_ | refine Mm.p_eqS ?_ | refine Mm.p_tupL ?_ | refine Mm.p_tupT ?_ | refine Mm.p_lstL ?_ | refine Mm.p_lstT ?_ | refine Mm.p_lenT ?_ | refine Mm.p_lenL ?_ | refine Mm.p_itT ?_ | refine Mm.p_itL ?_ | refine Mm.p_itS ?_ | refine Mm.p_slT ?_ | refine Mm.p_slL ?_ | refine Mm.p_ltS ?_ | refine Mm.p_geS ?_ | refine c_num ?_ | refine c_lnum ?_ | refine c_btw ?_ | refine c_tup ?_ | refine ⟨_, rfl, ?_⟩) | ((with_reducible apply Mm.w_var); exact rfl) | ((with_reducible apply Mm.w_slot); exact rfl) | ((with_reducible apply Mm.w_bName); exact rfl) | ((with_reducible apply Mm.w_lenL); exact rfl) | ((with_reducible apply Mm.w_lenD); exact rfl) | ((with_reducible apply Mm.p_ixT); exact rfl) | ((with_reducible apply Mm.p_ixL); exact rfl) | ((with_reducible apply Mm.w_bTup); exact rfl) | ((with_reducible apply Mm.w_len); exact rfl) | ((with_reducible apply Mm.w_append); exact rfl) | ((with_reducible apply Mm.w_varO); exact rfl) | ((with_reducible apply Mm.f_nx); exact rfl) | ((with_reducible apply Mm.f_rt); exact rfl) | ((with_reducible apply Mm.f_rn); exact rfl) | ((with_reducible apply Mm.f_rnL); exact rfl) | ((with_reducible refine Mm.k_nx ?_) <;> try (simp only [List.set_cons_succ, List.set_cons_zero, List.set_nil, List.cons_append, List.nil_append, List.take_succ_cons, List.take_zero, List.take_nil, List.replicate_succ, List.replicate_zero, List.length_cons, List.length_nil, List.length_set, Nat.reduceAdd, Nat.reduceSub, Mm.slotArgs, Mm.putArgs, Mm.putArg, Mm.putSlot])) | ((with_reducible apply Mm.w_bName); exact Mm.free_of rfl (by assumption)) | ((with_reducible apply Mm.w_ixC); exact rfl; exact rfl) | ((with_reducible apply Mm.w_bSubC); exact rfl; exact rfl) | ((with_reducible refine ⟨?_, ?_⟩); exact rfl) | ((with_reducible refine ⟨?_, ?_⟩); exact Mm.free_of rfl (by assumption))))
          exact ⟨_, rfl, rfl, rfl⟩
        · (repeat (first | (with_reducible first | refine Mm.w_c ?_ | refine Mm.w_bin ?_ | refine Mm.w_isi ?_ | refine Mm.w_isi2 ?_ | refine Mm.w_un ?_ | refine Mm.w_test ?_ | refine Mm.w_chain ?_ | refine Mm.w_gAnd ?_ | refine Mm.w_gOr ?_ | refine Mm.w_gNot ?_ | refine Mm.w_yes ?_ | refine Mm.w_and ?_ | refine Mm.w_or ?_ | refine Mm.w_not ?_ | refine Mm.w_if ?_ | refine Mm.w_nil ?_ | refine Mm.w_cons ?_ | refine Mm.w_an ?_ | refine Mm.v_nil ?_ | refine Mm.v_cons ?_ | refine Mm.w_disp ?_ | refine Mm.w_tup ?_ | refine Mm.w_frz ?_ | refine Mm.w_cb ?_ | refine Mm.w_cn ?_ | refine Mm.w_items ?_ | refine Mm.w_range1 ?_ | refine Mm.w_zip ?_ | refine Mm.w_enum ?_ | refine Mm.w_oNone ?_ | refine Mm.w_oSome ?_ | refine Mm.w_slice ?_ | refine Mm.s_nx ?_ | refine Mm.s_seq ?_ | refine Mm.s_asg ?_ | refine Mm.s_setN ?_ | refine Mm.s_ret ?_ | refine Mm.s_retL ?_ | refine Mm.s_expr ?_ | refine Mm.s_if ?_ | refine Mm.s_par ?_ | refine Mm.s_for ?_ | refine Mm.k_rt ?_ | refine Mm.k_rn ?_ | refine Mm.k_bk ?_ | refine Mm.k_ct ?_ | refine Mm.l_nx ?_ | refine Mm.l_rt ?_ | refine Mm.b_t ?_ | refine Mm.b_f ?_ | refine Mm.b_nf ?_ | refine Mm.b_nt ?_ | refine Mm.w_bCons ?_ | refine Mm.w_bNil ?_ | refine Mm.p_gt ?_ | refine Mm.p_lt ?_ | refine Mm.p_ge ?_ | refine Mm.p_le ?_ | refine Mm.p_add ?_ | refine Mm.p_sub ?_ | refine Mm.p_neg ?_ | refine Mm.p_eq ?_ | refine Mm.p_ne ?_ | refine Mm.p_int ?_ | refine Mm.p_intB ?_ | refine Mm.p_abs ?_ | refine Mm.p_max ?_ | refine Mm.p_min ?_ | refine Mm.p_eqB ?_ | refine Mm.p_eqS ?_ | refine Mm.p_tupL ?_ | refine Mm.p_tupT ?_ | refine Mm.p_lstL ?_ | refine Mm.p_lstT ?_ | refine Mm.p_lenT ?_ | refine Mm.p_lenL ?_ | refine Mm.p_itT ?_ | refine Mm.p_itL ?_ | refine Mm.p_itS ?_ | refine Mm.p_slT ?_ | refine Mm.p_slL ?_ | refine Mm.p_ltS ?_ | refine Mm.p_geS ?_ | refine c_num ?_ | refine c_lnum ?_ | refine c_btw ?_ | refine c_tup ?_ | refine ⟨_, rfl, ?_⟩) | ((with_reducible apply Mm.w_var); exact rfl) | ((with_reducible apply Mm.w_slot); exact rfl) | ((with_reducible apply Mm.w_bName); exact rfl) | ((with_reducible apply Mm.w_lenL); exact rfl) | ((with_reducible apply Mm.w_lenD); exact rfl) | ((with_reducible apply Mm.p_ixT); exact rfl) | ((with_reducible apply Mm.p_ixL); exact rfl) | ((with_reducible apply Mm.w_bTup); exact rfl) | ((with_reducible apply Mm.w_len); exact rfl) | ((with_reducible apply Mm.w_append); exact rfl) | ((with_reducible apply Mm.w_varO); exact rfl) | ((with_reducible apply Mm.f_nx); exact rfl) | ((with_reducible apply Mm.f_rt); exact rfl) | ((with_reducible apply Mm.f_rn); exact rfl) | ((with_reducible apply Mm.f_rnL); exact rfl) | ((with_reducible refine Mm.k_nx ?_) <;> try (simp only [List.set_cons_succ, List.set_cons_zero, List.set_nil, List.cons_append, List.nil_append, List.take_succ_cons, List.take_zero, List.take_nil, List.replicate_succ, List.replicate_zero, List.length_cons, List.length_nil, List.length_set, Nat.reduceAdd, Nat.reduceSub, Mm.slotArgs, Mm.putArgs, Mm.putArg, Mm.putSlot])) | ((with_reducible apply Mm.w_bName); exact Mm.free_of rfl (by assumption)) | ((with_reducible apply Mm.w_ixC); exact rfl; exact rfl) | ((with_reducible apply Mm.w_bSubC); exact rfl; exact rfl) | ((with_reducible refine ⟨?_, ?_⟩); exact rfl) | ((with_reducible refine ⟨?_, ?_⟩); exact Mm.free_of rfl (by assumption))))
          refine p_all ?_
          (repeat (first | (with_reducible first | refine Mm.w_c ?_ | refine Mm.w_bin ?_ | refine Mm.w_isi ?_ | refine Mm.w_isi2 ?_ | refine Mm.w_un ?_ | refine Mm.w_test ?_ | refine Mm.w_chain ?_ | refine Mm.w_gAnd ?_ | refine Mm.w_gOr ?_ | refine Mm.w_gNot ?_ | refine Mm.w_yes ?_ | refine Mm.w_and ?_ | refine Mm.w_or ?_ | refine Mm.w_not ?_ | refine Mm.w_if ?_ | refine Mm.w_nil ?_ | refine Mm.w_cons ?_ | refine Mm.w_an ?_ | refine Mm.v_nil ?_ | refine Mm.v_cons ?_ | refine Mm.w_disp ?_ | refine Mm.w_tup ?_ | refine Mm.w_frz ?_ | refine Mm.w_cb ?_ | refine Mm.w_cn ?_ | refine Mm.w_items ?_ | refine Mm.w_range1 ?_ | refine Mm.w_zip ?_ | refine Mm.w_enum ?_ | refine Mm.w_oNone ?_ | refine Mm.w_oSome ?_ | refine Mm.w_slice ?_ | refine Mm.s_nx ?_ | refine Mm.s_seq ?_ | refine Mm.s_asg ?_ | refine Mm.s_setN ?_ | refine Mm.s_ret ?_ | refine Mm.s_retL ?_ | refine Mm.s_expr ?_ | refine Mm.s_if ?_ | refine Mm.s_par ?_ | refine Mm.s_for ?_ | refine Mm.k_rt ?_ | refine Mm.k_rn ?_ | refine Mm.k_bk ?_ | refine Mm.k_ct ?_ | refine Mm.l_nx ?_ | refine Mm.l_rt ?_ | refine Mm.b_t ?_ | refine Mm.b_f ?_ | refine Mm.b_nf ?_ | refine Mm.b_nt ?_ | refine Mm.w_bCons ?_ | refine Mm.w_bNil ?_ | refine Mm.p_gt ?_ | refine Mm.p_lt ?_ | refine Mm.p_ge ?_ | refine Mm.p_le ?_ | refine Mm.p_add ?_ | refine Mm.p_sub ?_ | refine Mm.p_neg ?_ | refine Mm.p_eq ?_ | refine Mm.p_ne ?_ | refine Mm.p_int ?_ | refine Mm.p_intB ?_ | refine Mm.p_abs ?_ | refine Mm.p_max ?_ | refine Mm.p_min ?_ | refine Mm.p_eqB ?_ | refine Mm.p_eqS ?_ | refine Mm.p_tupL ?_ | refine Mm.p_tupT ?_ | refine Mm.p_lstL ?_ | refine Mm.p_lstT ?_ | refine Mm.p_lenT ?_ | refine Mm.p_lenL ?_ | refine Mm.p_itT ?_ | refine Mm.p_itL ?_ | refine Mm.p_itS ?_ | refine Mm.p_slT ?_ | refine Mm.p_slL ?_ | refine Mm.p_ltS ?_ | refine Mm.p_geS ?_ | refine c_num ?_ | refine c_lnum ?_ | refine c_btw ?_ | refine c_tup ?_ | refine ⟨_, rfl, ?_⟩) | ((with_reducible apply Mm.w_var); exact rfl) | ((with_reducible apply Mm.w_slot); exact rfl) | ((with_reducible apply Mm.w_bName); exact rfl) | ((with_reducible apply Mm.w_lenL); exact rfl) | ((with_reducible apply Mm.w_lenD); exact rfl) | ((with_reducible apply Mm.p_ixT); exact rfl) | ((with_reducible apply Mm.p_ixL); exact rfl) | ((with_reducible apply Mm.w_bTup); exact rfl) | ((with_reducible apply Mm.w_len); exact rfl) | ((with_reducible apply Mm.w_append); exact rfl) | ((with_reducible apply Mm.w_varO); exact rfl) | ((with_reducible apply Mm.f_nx); exact rfl) | ((with_reducible apply Mm.f_rt); exact rfl) | ((with_reducible apply Mm.f_rn); exact rfl) | ((with_reducible apply Mm.f_rnL); exact rfl) | ((with_reducible refine Mm.k_nx ?_) <;> try (simp only [List.set_cons_succ, List.set_cons_zero, List.set_nil, List.cons_append, List.nil_append, List.take_succ_cons, List.take_zero, List.take_nil, List.replicate_succ, List.replicate_zero, List.length_cons, List.length_nil, List.length_set, Nat.reduceAdd, Nat.reduceSub, Mm.slotArgs, Mm.putArgs, Mm.putArg, Mm.putSlot])) | ((with_reducible apply Mm.w_bName); exact Mm.free_of rfl (by assumption)) | ((with_reducible apply Mm.w_ixC); exact rfl; exact rfl) | ((with_reducible apply Mm.w_bSubC); exact rfl; exact rfl) | ((with_reducible refine ⟨?_, ?_⟩); exact rfl) | ((with_reducible refine ⟨?_, ?_⟩); exact Mm.free_of rfl (by assumption))))
          have e : nameB (.str x) = (chars x).all chB := by simp [nameB, h1, h2]
          rw [e] at k; exact k _
      · refine b_pos (by simpa using h2) ?_
        (repeat (first | (with_reducible first | refine Mm.w_c ?_ | refine Mm.w_bin ?_ | refine Mm.w_isi ?_ | refine Mm.w_isi2 ?_ | refine Mm.w_un ?_ | refine Mm.w_test ?_ | refine Mm.w_chain ?_ | refine Mm.w_gAnd ?_ | refine Mm.w_gOr ?_ | refine Mm.w_gNot ?_ | refine Mm.w_yes ?_ | refine Mm.w_and ?_ | refine Mm.w_or ?_ | refine Mm.w_not ?_ | refine Mm.w_if ?_ | refine Mm.w_nil ?_ | refine Mm.w_cons ?_ | refine Mm.w_an ?_ | refine Mm.v_nil ?_ | refine Mm.v_cons ?_ | refine Mm.w_disp ?_ | refine Mm.w_tup ?_ | refine Mm.w_frz ?_ | refine Mm.w_cb ?_ | refine Mm.w_cn ?_ | refine Mm.w_items ?_ | refine Mm.w_range1 ?_ | refine Mm.w_zip ?_ | refine Mm.w_enum ?_ | refine Mm.w_oNone ?_ | refine Mm.w_oSome ?_ | refine Mm.w_slice ?_ | refine Mm.s_nx ?_ | refine Mm.s_seq ?_ | refine Mm.s_asg ?_ | refine Mm.s_setN ?_ | refine Mm.s_ret ?_ | refine Mm.s_retL ?_ | refine Mm.s_expr ?_ | refine Mm.s_if ?_ | refine Mm.s_par ?_ | refine Mm.s_for ?_ | refine Mm.k_rt ?_ | refine Mm.k_rn ?_ | refine Mm.k_bk ?_ | refine Mm.k_ct ?_ | refine Mm.l_nx ?_ | refine Mm.l_rt ?_ | refine Mm.b_t ?_ | refine Mm.b_f ?_ | refine Mm.b_nf ?_ | refine Mm.b_nt ?_ | refine Mm.w_bCons ?_ | refine Mm.w_bNil ?_ | refine Mm.p_gt ?_ | refine Mm.p_lt ?_ | refine Mm.p_ge ?_ | refine Mm.p_le ?_ | refine Mm.p_add ?_ | refine Mm.p_sub ?_ | refine Mm.p_neg ?_ | refine Mm.p_eq ?_ | refine Mm.p_ne ?_ | refine Mm.p_int ?_ | refine Mm.p_intB ?_ | refine Mm.p_abs ?_ | refine Mm.p_max ?_ | refine Mm.p_min ?_ | refine Mm.p_eqB ?_ | refine Mm.p_eqS ?_ | refine Mm.p_tupL ?_ | refine Mm.p_tupT ?_ | refine Mm.p_lstL ?_ | refine Mm.p_lstT ?_ | refine Mm.p_lenT ?_ | refine Mm.p_lenL ?_ | refine Mm.p_itT ?_ | refine Mm.p_itL ?_ | refine Mm.p_itS ?_ | refine Mm.p_slT ?_ | refine Mm.p_slL ?_ | refine Mm.p_ltS ?_ | refine Mm.p_geS ?_ | refine c_num ?_ | refine c_lnum ?_ | refine c_btw ?_ | refine c_tup ?_ | refine ⟨_, rfl, ?_⟩) | ((with_reducible apply Mm.w_var); exact rfl) | ((with_reducible apply Mm.w_slot); exact rfl) | ((with_reducible apply Mm.w_bName); exact rfl) | ((with_reducible apply Mm.w_lenL); exact rfl) | ((with_reducible apply Mm.w_lenD); exact rfl) | ((with_reducible apply Mm.p_ixT); exact rfl) | ((with_reducible apply Mm.p_ixL); exact rfl) | ((with_reducible apply Mm.w_bTup); exact rfl) | ((with_reducible apply Mm.w_len); exact rfl) | ((with_reducible apply Mm.w_append); exact rfl) | ((with_reducible apply Mm.w_varO); exact rfl) | ((with_reducible apply Mm.f_nx); exact rfl) | ((with_reducible apply Mm.f_rt); exact rfl) | ((with_reducible apply Mm.f_rn); exact rfl) | ((with_reducible apply Mm.f_rnL); exact rfl) | ((with_reducible refine Mm.k_nx ?_) <;> try (simp only [List.set_cons_succ, List.set_cons_zero, List.set_nil, List.cons_append, List.nil_append, List.take_succ_cons, List.take_zero, List.take_nil, List.replicate_succ, List.replicate_zero, List.length_cons, List.length_nil, List.length_set, Nat.reduceAdd, Nat.reduceSub, Mm.slotArgs, Mm.putArgs, Mm.putArg, Mm.putSlot])) | ((with_reducible apply Mm.w_bName); exact Mm.free_of rfl (by assumption)) | ((with_reducible apply Mm.w_ixC); exact rfl; exact rfl) | ((with_reducible apply Mm.w_bSubC); exact rfl; exact rfl) | ((with_reducible refine ⟨?_, ?_⟩); exact rfl) | ((with_reducible refine ⟨?_, ?_⟩); exact Mm.free_of rfl (by assumption))))
        have e : nameB (.str x) = false := by simp [nameB, h2]
        rw [e] at k; exact k _
    · refine b_neg (by simpa using h1) ?_
      (repeat (first | (with_reducible first | refine Mm.w_c ?_ | refine Mm.w_bin ?_ | refine Mm.w_isi ?_ | refine Mm.w_isi2 ?_ | refine Mm.w_un ?_ | refine Mm.w_test ?_ | refine Mm.w_chain ?_ | refine Mm.w_gAnd ?_ | refine Mm.w_gOr ?_ | refine Mm.w_gNot ?_ | refine Mm.w_yes ?_ | refine Mm.w_and ?_ | refine Mm.w_or ?_ | refine Mm.w_not ?_ | refine Mm.w_if ?_ | refine Mm.w_nil ?_ | refine Mm.w_cons ?_ | refine Mm.w_an ?_ | refine Mm.v_nil ?_ | refine Mm.v_cons ?_ | refine Mm.w_disp ?_ | refine Mm.w_tup ?_ | refine Mm.w_frz ?_ | refine Mm.w_cb ?_ | refine Mm.w_cn ?_ | refine Mm.w_items ?_ | refine Mm.w_range1 ?_ | refine Mm.w_zip ?_ | refine Mm.w_enum ?_ | refine Mm.w_oNone ?_ | refine Mm.w_oSome ?_ | refine Mm.w_slice ?_ | refine Mm.s_nx ?_ | refine Mm.s_seq ?_ | refine Mm.s_asg ?_ | refine Mm.s_setN ?_ | refine Mm.s_ret ?_ | refine Mm.s_retL ?_ | refine Mm.s_expr ?_ | refine Mm.s_if ?_ | refine Mm.s_par ?_ | refine Mm.s_for ?_ | refine Mm.k_rt ?_ | refine Mm.k_rn ?_ | refine Mm.k_bk ?_ | refine Mm.k_ct ?_ | refine Mm.l_nx ?_ | refine Mm.l_rt ?_ | refine Mm.b_t ?_ | refine Mm.b_f ?_ | refine Mm.b_nf ?_ | refine Mm.b_nt ?_ | refine Mm.w_bCons ?_ | refine Mm.w_bNil ?_ | refine Mm.p_gt ?_ | refine Mm.p_lt ?_ | refine Mm.p_ge ?_ | refine Mm.p_le ?_ | refine Mm.p_add ?_ | refine Mm.p_sub ?_ | refine Mm.p_neg ?_ | refine Mm.p_eq ?_ | refine Mm.p_ne ?_ | refine Mm.p_int ?_ | refine Mm.p_intB ?_ | refine Mm.p_abs ?_ | refine Mm.p_max ?_ | refine Mm.p_min ?_ | refine Mm.p_eqB ?_ | refine Mm.p_eqS ?_ | refine Mm.p_tupL ?_ | refine Mm.p_tupT ?_ | refine Mm.p_lstL ?_ | refine Mm.p_lstT ?_ | refine Mm.p_lenT ?_ | refine Mm.p_lenL ?_ | refine Mm.p_itT ?_ | refine Mm.p_itL ?_ | refine Mm.p_itS ?_ | refine Mm.p_slT ?_ | refine Mm.p_slL ?_ | refine Mm.p_ltS ?_ | refine Mm.p_geS ?_ | refine c_num ?_ | refine c_lnum ?_ | refine c_btw ?_ | refine c_tup ?_ | refine ⟨_, rfl, ?_⟩) | ((with_reducible apply Mm.w_var); exact rfl) | ((with_reducible apply Mm.w_slot); exact rfl) | ((with_reducible apply Mm.w_bName); exact rfl) | ((with_reducible apply Mm.w_lenL); exact rfl) | ((with_reducible apply Mm.w_lenD); exact rfl) | ((with_reducible apply Mm.p_ixT); exact rfl) | ((with_reducible apply Mm.p_ixL); exact rfl) | ((with_reducible apply Mm.w_bTup); exact rfl) | ((with_reducible apply Mm.w_len); exact rfl) | ((with_reducible apply Mm.w_append); exact rfl) | ((with_reducible apply Mm.w_varO); exact rfl) | ((with_reducible apply Mm.f_nx); exact rfl) | ((with_reducible apply Mm.f_rt); exact rfl) | ((with_reducible apply Mm.f_rn); exact rfl) | ((with_reducible apply Mm.f_rnL); exact rfl) | ((with_reducible refine Mm.k_nx ?_) <;> try (simp only [List.set_cons_succ, List.set_cons_zero, List.set_nil, List.cons_append, List.nil_append, List.take_succ_cons, List.take_zero, List.take_nil, List.replicate_succ, List.replicate_zero, List.length_cons, List.length_nil, List.length_set, Nat.reduceAdd, Nat.reduceSub, Mm.slotArgs, Mm.putArgs, Mm.putArg, Mm.putSlot])) | ((with_reducible apply Mm.w_bName); exact Mm.free_of rfl (by assumption)) | ((with_reducible apply Mm.w_ixC); exact rfl; exact rfl) | ((with_reducible apply Mm.w_bSubC); exact rfl; exact rfl) | ((with_reducible refine ⟨?_, ?_⟩); exact rfl) | ((with_reducible refine ⟨?_, ?_⟩); exact Mm.free_of rfl (by assumption))))
      have e : nameB (.str x) = false := by simp [nameB, h1]
      rw [e] at k; exact k _
theorem c_name (q : E1 (f ρ) fun d ρ1 => ρ1.length = ρ.length ∧ d.bulk ≤ 100000 ∧ Q (.bool (nameB d)) ρ1) : E1 (fCall m_is_name (fACons f fANil) ρ) Q :=
  w_callV (np := 1) (n := 2) (s := g_is_name) rfl (v_cons (q.mono fun d ρ1 h => v_nil ⟨h.1, name_ok h.2.1 fun _ => h.2.2⟩))
theorem c_lname (q : E1 (f ρ) fun d ρ1 => ρ1.length = ρ.length ∧ d.bulk ≤ 100000 ∧ Q (.bool (nameB d)) ρ1) : E1 (fCall m_law_is_name (fACons f fANil) ρ) Q := c_name q
def ltP (d : Dt) : Bool := match d with
  | .tuple [.str a, .str b] => strLt a b
  | _ => false
def riseB (ds : List Dt) : Bool := (List.zipWith pairD ds (cutD ds (some 1) none)).all ltP
def Strs (ds : List Dt) : Prop := ∀ d ∈ ds, ∃ x, d = .str x
theorem zip_str : ∀ {xs ys : List Dt} {d : Dt}, Strs xs → Strs ys → d ∈ List.zipWith pairD xs ys → ∃ a b, d = .tuple [.str a, .str b]
  | [], _, d, _, _, h => by simp at h
  | _ :: _, [], d, _, _, h => by simp at h
  | x :: xs, y :: ys, d, h1, h2, h => by
    rw [List.zipWith_cons_cons] at h
    rcases List.mem_cons.mp h with rfl | h
    · obtain ⟨a, rfl⟩ := h1 x (List.mem_cons_self ..)
      obtain ⟨b, rfl⟩ := h2 y (List.mem_cons_self ..)
      exact ⟨a, b, rfl⟩
    · exact zip_str (fun d m => h1 d (List.mem_cons_of_mem _ m)) (fun d m => h2 d (List.mem_cons_of_mem _ m)) h
theorem cut_mem {ds : List Dt} {lo hi : Option Int} {d : Dt} (h : d ∈ cutD ds lo hi) : d ∈ ds := List.mem_of_mem_drop (List.mem_of_mem_take h)
theorem rise_ok {ds : List Dt} (hs : Strs ds) (hl : ds.length ≤ 100000) (hd : d = .list ds ∨ d = .tuple ds) (k : ∀ ρ, Q (.bool (riseB ds)) ρ) : E1 (m_are_rising [.ro d]) Q := by
  unfold m_are_rising g_are_rising
  refine m_of rfl ?_
  (repeat (first | (with_reducible first | refine Mm.w_c ?_ | refine Mm.w_bin ?_ | refine Mm.w_isi ?_ | refine Mm.w_isi2 ?_ | refine Mm.w_un ?_ | refine Mm.w_test ?_ | refine Mm.w_chain ?_ | refine Mm.w_gAnd ?_ | refine Mm.w_gOr ?_ | refine Mm.w_gNot ?_ | refine Mm.w_yes ?_ | refine Mm.w_and ?_ | refine Mm.w_or ?_ | refine Mm.w_not ?_ | refine Mm.w_if ?_ | refine Mm.w_nil ?_ | refine Mm.w_cons ?_ | refine Mm.w_an ?_ | refine Mm.v_nil ?_ | refine Mm.v_cons ?_ | refine Mm.w_disp ?_ | refine Mm.w_tup ?_ | refine Mm.w_frz ?_ | refine Mm.w_cb ?_ | refine Mm.w_cn ?_ | refine Mm.w_items ?_ | refine Mm.w_range1 ?_ | refine Mm.w_zip ?_ | refine Mm.w_enum ?_ | refine Mm.w_oNone ?_ | refine Mm.w_oSome ?_ | refine Mm.w_slice ?_ | refine Mm.s_nx ?_ | refine Mm.s_seq ?_ | refine Mm.s_asg ?_ | refine Mm.s_setN ?_ | refine Mm.s_ret ?_ | refine Mm.s_retL ?_ | refine Mm.s_expr ?_ | refine Mm.s_if ?_ | refine Mm.s_par ?_ | refine Mm.s_for ?_ | refine Mm.k_rt ?_ | refine Mm.k_rn ?_ | refine Mm.k_bk ?_ | refine Mm.k_ct ?_ | refine Mm.l_nx ?_ | refine Mm.l_rt ?_ | refine Mm.b_t ?_ | refine Mm.b_f ?_ | refine Mm.b_nf ?_ | refine Mm.b_nt ?_ | refine Mm.w_bCons ?_ | refine Mm.w_bNil ?_ | refine Mm.p_gt ?_ | refine Mm.p_lt ?_ | refine Mm.p_ge ?_ | refine Mm.p_le ?_ | refine Mm.p_add ?_ | refine Mm.p_sub ?_ | refine Mm.p_neg ?_ | refine Mm.p_eq ?_ | refine Mm.p_ne ?_ | refine Mm.p_int ?_ | refine Mm.p_intB ?_ | refine Mm.p_abs ?_ | refine Mm.p_max ?_ | refine Mm.p_min ?_ | refine Mm.p_eqB ?_ | refine Mm.p_eqS ?_ | refine Mm.p_tupL ?_ | refine Mm.p_tupT ?_ | refine Mm.p_lstL ?_ | refine Mm.p_lstT ?_ | refine Mm.p_lenT ?_ | refine Mm.p_lenL ?_ | refine Mm.p_itT ?_ | refine Mm.p_itL ?_ | refine Mm.p_itS ?_ | refine Mm.p_slT ?_ | refine Mm.p_slL ?_ | refine Mm.p_ltS ?_ | refine Mm.p_geS ?_ | refine c_num ?_ | refine c_lnum ?_ | refine c_btw ?_ | refine c_tup ?_ | refine ⟨_, rfl, ?_⟩) | ((with_reducible apply Mm.w_var); exact rfl) | ((with_reducible apply Mm.w_slot); exact rfl) | ((with_reducible apply Mm.w_bName); exact rfl) | ((with_reducible apply Mm.w_lenL); exact rfl) | ((with_reducible apply Mm.w_lenD); exact rfl) | ((with_reducible apply Mm.p_ixT); exact rfl) | ((with_reducible apply Mm.p_ixL); exact rfl) | ((with_reducible apply Mm.w_bTup); exact rfl) | ((with_reducible apply Mm.w_len); exact rfl) | ((with_reducible apply Mm.w_append); exact rfl) | ((with_reducible apply Mm.w_varO); exact rfl) | ((with_reducible apply Mm.f_nx); exact rfl) | ((with_reducible apply Mm.f_rt); exact rfl) | ((with_reducible apply Mm.f_rn); exact rfl) | ((with_reducible apply Mm.f_rnL); exact rfl) | ((with_reducible refine Mm.k_nx ?_) <;> try (simp only [List.set_cons_succ, List.set_cons_zero, List.set_nil, List.cons_append, List.nil_append, List.take_succ_cons, List.take_zero, List.take_nil, List.replicate_succ, List.replicate_zero, List.length_cons, List.length_nil, List.length_set, Nat.reduceAdd, Nat.reduceSub, Mm.slotArgs, Mm.putArgs, Mm.putArg, Mm.putSlot])) | ((with_reducible apply Mm.w_bName); exact Mm.free_of rfl (by assumption)) | ((with_reducible apply Mm.w_ixC); exact rfl; exact rfl) | ((with_reducible apply Mm.w_bSubC); exact rfl; exact rfl) | ((with_reducible refine ⟨?_, ?_⟩); exact rfl) | ((with_reducible refine ⟨?_, ?_⟩); exact Mm.free_of rfl (by assumption))))
  refine w_lcm (fun d => .bool (ltP d)) ?_
  (repeat (first | (with_reducible first | refine Mm.w_c ?_ | refine Mm.w_bin ?_ | refine Mm.w_isi ?_ | refine Mm.w_isi2 ?_ | refine Mm.w_un ?_ | refine Mm.w_test ?_ | refine Mm.w_chain ?_ | refine Mm.w_gAnd ?_ | refine Mm.w_gOr ?_ | refine Mm.w_gNot ?_ | refine Mm.w_yes ?_ | refine Mm.w_and ?_ | refine Mm.w_or ?_ | refine Mm.w_not ?_ | refine Mm.w_if ?_ | refine Mm.w_nil ?_ | refine Mm.w_cons ?_ | refine Mm.w_an ?_ | refine Mm.v_nil ?_ | refine Mm.v_cons ?_ | refine Mm.w_disp ?_ | refine Mm.w_tup ?_ | refine Mm.w_frz ?_ | refine Mm.w_cb ?_ | refine Mm.w_cn ?_ | refine Mm.w_items ?_ | refine Mm.w_range1 ?_ | refine Mm.w_zip ?_ | refine Mm.w_enum ?_ | refine Mm.w_oNone ?_ | refine Mm.w_oSome ?_ | refine Mm.w_slice ?_ | refine Mm.s_nx ?_ | refine Mm.s_seq ?_ | refine Mm.s_asg ?_ | refine Mm.s_setN ?_ | refine Mm.s_ret ?_ | refine Mm.s_retL ?_ | refine Mm.s_expr ?_ | refine Mm.s_if ?_ | refine Mm.s_par ?_ | refine Mm.s_for ?_ | refine Mm.k_rt ?_ | refine Mm.k_rn ?_ | refine Mm.k_bk ?_ | refine Mm.k_ct ?_ | refine Mm.l_nx ?_ | refine Mm.l_rt ?_ | refine Mm.b_t ?_ | refine Mm.b_f ?_ | refine Mm.b_nf ?_ | refine Mm.b_nt ?_ | refine Mm.w_bCons ?_ | refine Mm.w_bNil ?_ | refine Mm.p_gt ?_ | refine Mm.p_lt ?_ | refine Mm.p_ge ?_ | refine Mm.p_le ?_ | refine Mm.p_add ?_ | refine Mm.p_sub ?_ | refine Mm.p_neg ?_ | refine Mm.p_eq ?_ | refine Mm.p_ne ?_ | refine Mm.p_int ?_ | refine Mm.p_intB ?_ | refine Mm.p_abs ?_ | refine Mm.p_max ?_ | refine Mm.p_min ?_ | refine Mm.p_eqB ?_ | refine Mm.p_eqS ?_ | refine Mm.p_tupL ?_ | refine Mm.p_tupT ?_ | refine Mm.p_lstL ?_ | refine Mm.p_lstT ?_ | refine Mm.p_lenT ?_ | refine Mm.p_lenL ?_ | refine Mm.p_itT ?_ | refine Mm.p_itL ?_ | refine Mm.p_itS ?_ | refine Mm.p_slT ?_ | refine Mm.p_slL ?_ | refine Mm.p_ltS ?_ | refine Mm.p_geS ?_ | refine c_num ?_ | refine c_lnum ?_ | refine c_btw ?_ | refine c_tup ?_ | refine ⟨_, rfl, ?_⟩) | ((with_reducible apply Mm.w_var); exact rfl) | ((with_reducible apply Mm.w_slot); exact rfl) | ((with_reducible apply Mm.w_bName); exact rfl) | ((with_reducible apply Mm.w_lenL); exact rfl) | ((with_reducible apply Mm.w_lenD); exact rfl) | ((with_reducible apply Mm.p_ixT); exact rfl) | ((with_reducible apply Mm.p_ixL); exact rfl) | ((with_reducible apply Mm.w_bTup); exact rfl) | ((with_reducible apply Mm.w_len); exact rfl) | ((with_reducible apply Mm.w_append); exact rfl) | ((with_reducible apply Mm.w_varO); exact rfl) | ((with_reducible apply Mm.f_nx); exact rfl) | ((with_reducible apply Mm.f_rt); exact rfl) | ((with_reducible apply Mm.f_rn); exact rfl) | ((with_reducible apply Mm.f_rnL); exact rfl) | ((with_reducible refine Mm.k_nx ?_) <;> try (simp only [List.set_cons_succ, List.set_cons_zero, List.set_nil, List.cons_append, List.nil_append, List.take_succ_cons, List.take_zero, List.take_nil, List.replicate_succ, List.replicate_zero, List.length_cons, List.length_nil, List.length_set, Nat.reduceAdd, Nat.reduceSub, Mm.slotArgs, Mm.putArgs, Mm.putArg, Mm.putSlot])) | ((with_reducible apply Mm.w_bName); exact Mm.free_of rfl (by assumption)) | ((with_reducible apply Mm.w_ixC); exact rfl; exact rfl) | ((with_reducible apply Mm.w_bSubC); exact rfl; exact rfl) | ((with_reducible refine ⟨?_, ?_⟩); exact rfl) | ((with_reducible refine ⟨?_, ?_⟩); exact Mm.free_of rfl (by assumption))))
  have hz : ∀ d ∈ List.zipWith pairD ds (cutD ds (some 1) none), ∃ a b, d = .tuple [.str a, .str b] := fun d m => zip_str hs (fun d m => hs d (cut_mem m)) m
  have hzl : (List.zipWith pairD ds (cutD ds (some 1) none)).length ≤ 100000 := by
    rw [List.length_zipWith]; omega
  rcases hd with rfl | rfl
  all_goals
    refine ⟨_, rfl, ?_⟩
    refine ⟨rfl, ds, cutD ds (some 1) none, by simp, hzl, rfl, ?_, ?_⟩
    · intro d m
      obtain ⟨a, b, rfl⟩ := hz d m
      (repeat (first | (with_reducible first | refine Mm.w_c ?_ | refine Mm.w_bin ?_ | refine Mm.w_isi ?_ | refine Mm.w_isi2 ?_ | refine Mm.w_un ?_ | refine Mm.w_test ?_ | refine Mm.w_chain ?_ | refine Mm.w_gAnd ?_ | refine Mm.w_gOr ?_ | refine Mm.w_gNot ?_ | refine Mm.w_yes ?_ | refine Mm.w_and ?_ | refine Mm.w_or ?_ | refine Mm.w_not ?_ | refine Mm.w_if ?_ | refine Mm.w_nil ?_ | refine Mm.w_cons ?_ | refine Mm.w_an ?_ | refine Mm.v_nil ?_ | refine Mm.v_cons ?_ | refine Mm.w_disp ?_ | refine Mm.w_tup ?_ | refine Mm.w_frz ?_ | refine Mm.w_cb ?_ | refine Mm.w_cn ?_ | refine Mm.w_items ?_ | refine Mm.w_range1 ?_ | refine Mm.w_zip ?_ | refine Mm.w_enum ?_ | refine Mm.w_oNone ?_ | refine Mm.w_oSome ?_ | refine Mm.w_slice ?_ | refine Mm.s_nx ?_ | refine Mm.s_seq ?_ | refine Mm.s_asg ?_ | refine Mm.s_setN ?_ | refine Mm.s_ret ?_ | refine Mm.s_retL ?_ | refine Mm.s_expr ?_ | refine Mm.s_if ?_ | refine Mm.s_par ?_ | refine Mm.s_for ?_ | refine Mm.k_rt ?_ | refine Mm.k_rn ?_ | refine Mm.k_bk ?_ | refine Mm.k_ct ?_ | refine Mm.l_nx ?_ | refine Mm.l_rt ?_ | refine Mm.b_t ?_ | refine Mm.b_f ?_ | refine Mm.b_nf ?_ | refine Mm.b_nt ?_ | refine Mm.w_bCons ?_ | refine Mm.w_bNil ?_ | refine Mm.p_gt ?_ | refine Mm.p_lt ?_ | refine Mm.p_ge ?_ | refine Mm.p_le ?_ | refine Mm.p_add ?_ | refine Mm.p_sub ?_ | refine Mm.p_neg ?_ | refine Mm.p_eq ?_ | refine Mm.p_ne ?_ | refine Mm.p_int ?_ | refine Mm.p_intB ?_ | refine Mm.p_abs ?_ | refine Mm.p_max ?_ | refine Mm.p_min ?_ | refine Mm.p_eqB ?_ | refine Mm.p_eqS ?_ | refine Mm.p_tupL ?_ | refine Mm.p_tupT ?_ | refine Mm.p_lstL ?_ | refine Mm.p_lstT ?_ | refine Mm.p_lenT ?_ | refine Mm.p_lenL ?_ | refine Mm.p_itT ?_ | refine Mm.p_itL ?_ | refine Mm.p_itS ?_ | refine Mm.p_slT ?_ | refine Mm.p_slL ?_ | refine Mm.p_ltS ?_ | refine Mm.p_geS ?_ | refine c_num ?_ | refine c_lnum ?_ | refine c_btw ?_ | refine c_tup ?_ | refine ⟨_, rfl, ?_⟩) | ((with_reducible apply Mm.w_var); exact rfl) | ((with_reducible apply Mm.w_slot); exact rfl) | ((with_reducible apply Mm.w_bName); exact rfl) | ((with_reducible apply Mm.w_lenL); exact rfl) | ((with_reducible apply Mm.w_lenD); exact rfl) | ((with_reducible apply Mm.p_ixT); exact rfl) | ((with_reducible apply Mm.p_ixL); exact rfl) | ((with_reducible apply Mm.w_bTup); exact rfl) | ((with_reducible apply Mm.w_len); exact rfl) | ((with_reducible apply Mm.w_append); exact rfl) | ((with_reducible apply Mm.w_varO); exact rfl) | ((with_reducible apply Mm.f_nx); exact rfl) | ((with_reducible apply Mm.f_rt); exact rfl) | ((with_reducible apply Mm.f_rn); exact rfl) | ((with_reducible apply Mm.f_rnL); exact rfl) | ((with_reducible refine Mm.k_nx ?_) <;> try (simp only [List.set_cons_succ, List.set_cons_zero, List.set_nil, List.cons_append, List.nil_append, List.take_succ_cons, List.take_zero, List.take_nil, List.replicate_succ, List.replicate_zero, List.length_cons, List.length_nil, List.length_set, Nat.reduceAdd, Nat.reduceSub, Mm.slotArgs, Mm.putArgs, Mm.putArg, Mm.putSlot])) | ((with_reducible apply Mm.w_bName); exact Mm.free_of rfl (by assumption)) | ((with_reducible apply Mm.w_ixC); exact rfl; exact rfl) | ((with_reducible apply Mm.w_bSubC); exact rfl; exact rfl) | ((with_reducible refine ⟨?_, ?_⟩); exact rfl) | ((with_reducible refine ⟨?_, ?_⟩); exact Mm.free_of rfl (by assumption))))
      first | exact rfl | exact ⟨rfl, rfl⟩
    · (repeat (first | (with_reducible first | refine Mm.w_c ?_ | refine Mm.w_bin ?_ | refine Mm.w_isi ?_ | refine Mm.w_isi2 ?_ | refine Mm.w_un ?_ | refine Mm.w_test ?_ | refine Mm.w_chain ?_ | refine Mm.w_gAnd ?_ | refine Mm.w_gOr ?_ | refine Mm.w_gNot ?_ | refine Mm.w_yes ?_ | refine Mm.w_and ?_ | refine Mm.w_or ?_ | refine Mm.w_not ?_ | refine Mm.w_if ?_ | refine Mm.w_nil ?_ | refine Mm.w_cons ?_ | refine Mm.w_an ?_ | refine Mm.v_nil ?_ | refine Mm.v_cons ?_ | refine Mm.w_disp ?_ | refine Mm.w_tup ?_ | refine Mm.w_frz ?_ | refine Mm.w_cb ?_ | refine Mm.w_cn ?_ | refine Mm.w_items ?_ | refine Mm.w_range1 ?_ | refine Mm.w_zip ?_ | refine Mm.w_enum ?_ | refine Mm.w_oNone ?_ | refine Mm.w_oSome ?_ | refine Mm.w_slice ?_ | refine Mm.s_nx ?_ | refine Mm.s_seq ?_ | refine Mm.s_asg ?_ | refine Mm.s_setN ?_ | refine Mm.s_ret ?_ | refine Mm.s_retL ?_ | refine Mm.s_expr ?_ | refine Mm.s_if ?_ | refine Mm.s_par ?_ | refine Mm.s_for ?_ | refine Mm.k_rt ?_ | refine Mm.k_rn ?_ | refine Mm.k_bk ?_ | refine Mm.k_ct ?_ | refine Mm.l_nx ?_ | refine Mm.l_rt ?_ | refine Mm.b_t ?_ | refine Mm.b_f ?_ | refine Mm.b_nf ?_ | refine Mm.b_nt ?_ | refine Mm.w_bCons ?_ | refine Mm.w_bNil ?_ | refine Mm.p_gt ?_ | refine Mm.p_lt ?_ | refine Mm.p_ge ?_ | refine Mm.p_le ?_ | refine Mm.p_add ?_ | refine Mm.p_sub ?_ | refine Mm.p_neg ?_ | refine Mm.p_eq ?_ | refine Mm.p_ne ?_ | refine Mm.p_int ?_ | refine Mm.p_intB ?_ | refine Mm.p_abs ?_ | refine Mm.p_max ?_ | refine Mm.p_min ?_ | refine Mm.p_eqB ?_ | refine Mm.p_eqS ?_ | refine Mm.p_tupL ?_ | refine Mm.p_tupT ?_ | refine Mm.p_lstL ?_ | refine Mm.p_lstT ?_ | refine Mm.p_lenT ?_ | refine Mm.p_lenL ?_ | refine Mm.p_itT ?_ | refine Mm.p_itL ?_ | refine Mm.p_itS ?_ | refine Mm.p_slT ?_ | refine Mm.p_slL ?_ | refine Mm.p_ltS ?_ | refine Mm.p_geS ?_ | refine c_num ?_ | refine c_lnum ?_ | refine c_btw ?_ | refine c_tup ?_ | refine ⟨_, rfl, ?_⟩) | ((with_reducible apply Mm.w_var); exact rfl) | ((with_reducible apply Mm.w_slot); exact rfl) | ((with_reducible apply Mm.w_bName); exact rfl) | ((with_reducible apply Mm.w_lenL); exact rfl) | ((with_reducible apply Mm.w_lenD); exact rfl) | ((with_reducible apply Mm.p_ixT); exact rfl) | ((with_reducible apply Mm.p_ixL); exact rfl) | ((with_reducible apply Mm.w_bTup); exact rfl) | ((with_reducible apply Mm.w_len); exact rfl) | ((with_reducible apply Mm.w_append); exact rfl) | ((with_reducible apply Mm.w_varO); exact rfl) | ((with_reducible apply Mm.f_nx); exact rfl) | ((with_reducible apply Mm.f_rt); exact rfl) | ((with_reducible apply Mm.f_rn); exact rfl) | ((with_reducible apply Mm.f_rnL); exact rfl) | ((with_reducible refine Mm.k_nx ?_) <;> try (simp only [List.set_cons_succ, List.set_cons_zero, List.set_nil, List.cons_append, List.nil_append, List.take_succ_cons, List.take_zero, List.take_nil, List.replicate_succ, List.replicate_zero, List.length_cons, List.length_nil, List.length_set, Nat.reduceAdd, Nat.reduceSub, Mm.slotArgs, Mm.putArgs, Mm.putArg, Mm.putSlot])) | ((with_reducible apply Mm.w_bName); exact Mm.free_of rfl (by assumption)) | ((with_reducible apply Mm.w_ixC); exact rfl; exact rfl) | ((with_reducible apply Mm.w_bSubC); exact rfl; exact rfl) | ((with_reducible refine ⟨?_, ?_⟩); exact rfl) | ((with_reducible refine ⟨?_, ?_⟩); exact Mm.free_of rfl (by assumption))))
      refine p_all ?_
      (repeat (first | (with_reducible first | refine Mm.w_c ?_ | refine Mm.w_bin ?_ | refine Mm.w_isi ?_ | refine Mm.w_isi2 ?_ | refine Mm.w_un ?_ | refine Mm.w_test ?_ | refine Mm.w_chain ?_ | refine Mm.w_gAnd ?_ | refine Mm.w_gOr ?_ | refine Mm.w_gNot ?_ | refine Mm.w_yes ?_ | refine Mm.w_and ?_ | refine Mm.w_or ?_ | refine Mm.w_not ?_ | refine Mm.w_if ?_ | refine Mm.w_nil ?_ | refine Mm.w_cons ?_ | refine Mm.w_an ?_ | refine Mm.v_nil ?_ | refine Mm.v_cons ?_ | refine Mm.w_disp ?_ | refine Mm.w_tup ?_ | refine Mm.w_frz ?_ | refine Mm.w_cb ?_ | refine Mm.w_cn ?_ | refine Mm.w_items ?_ | refine Mm.w_range1 ?_ | refine Mm.w_zip ?_ | refine Mm.w_enum ?_ | refine Mm.w_oNone ?_ | refine Mm.w_oSome ?_ | refine Mm.w_slice ?_ | refine Mm.s_nx ?_ | refine Mm.s_seq ?_ | refine Mm.s_asg ?_ | refine Mm.s_setN ?_ | refine Mm.s_ret ?_ | refine Mm.s_retL ?_ | refine Mm.s_expr ?_ | refine Mm.s_if ?_ | refine Mm.s_par ?_ | refine Mm.s_for ?_ | refine Mm.k_rt ?_ | refine Mm.k_rn ?_ | refine Mm.k_bk ?_ | refine Mm.k_ct ?_ | refine Mm.l_nx ?_ | refine Mm.l_rt ?_ | refine Mm.b_t ?_ | refine Mm.b_f ?_ | refine Mm.b_nf ?_ | refine Mm.b_nt ?_ | refine Mm.w_bCons ?_ | refine Mm.w_bNil ?_ | refine Mm.p_gt ?_ | refine Mm.p_lt ?_ | refine Mm.p_ge ?_ | refine Mm.p_le ?_ | refine Mm.p_add ?_ | refine Mm.p_sub ?_ | refine Mm.p_neg ?_ | refine Mm.p_eq ?_ | refine Mm.p_ne ?_ | refine Mm.p_int ?_ | refine Mm.p_intB ?_ | refine Mm.p_abs ?_ | refine Mm.p_max ?_ | refine Mm.p_min ?_ | refine Mm.p_eqB ?_ | refine Mm.p_eqS ?_ | refine Mm.p_tupL ?_ | refine Mm.p_tupT ?_ | refine Mm.p_lstL ?_ | refine Mm.p_lstT ?_ | refine Mm.p_lenT ?_ | refine Mm.p_lenL ?_ | refine Mm.p_itT ?_ | refine Mm.p_itL ?_ | refine Mm.p_itS ?_ | refine Mm.p_slT ?_ | refine Mm.p_slL ?_ | refine Mm.p_ltS ?_ | refine Mm.p_geS ?_ | refine c_num ?_ | refine c_lnum ?_ | refine c_btw ?_ | refine c_tup ?_ | refine ⟨_, rfl, ?_⟩) | ((with_reducible apply Mm.w_var); exact rfl) | ((with_reducible apply Mm.w_slot); exact rfl) | ((with_reducible apply Mm.w_bName); exact rfl) | ((with_reducible apply Mm.w_lenL); exact rfl) | ((with_reducible apply Mm.w_lenD); exact rfl) | ((with_reducible apply Mm.p_ixT); exact rfl) | ((with_reducible apply Mm.p_ixL); exact rfl) | ((with_reducible apply Mm.w_bTup); exact rfl) | ((with_reducible apply Mm.w_len); exact rfl) | ((with_reducible apply Mm.w_append); exact rfl) | ((with_reducible apply Mm.w_varO); exact rfl) | ((with_reducible apply Mm.f_nx); exact rfl) | ((with_reducible apply Mm.f_rt); exact rfl) | ((with_reducible apply Mm.f_rn); exact rfl) | ((with_reducible apply Mm.f_rnL); exact rfl) | ((with_reducible refine Mm.k_nx ?_) <;> try (simp only [List.set_cons_succ, List.set_cons_zero, List.set_nil, List.cons_append, List.nil_append, List.take_succ_cons, List.take_zero, List.take_nil, List.replicate_succ, List.replicate_zero, List.length_cons, List.length_nil, List.length_set, Nat.reduceAdd, Nat.reduceSub, Mm.slotArgs, Mm.putArgs, Mm.putArg, Mm.putSlot])) | ((with_reducible apply Mm.w_bName); exact Mm.free_of rfl (by assumption)) | ((with_reducible apply Mm.w_ixC); exact rfl; exact rfl) | ((with_reducible apply Mm.w_bSubC); exact rfl; exact rfl) | ((with_reducible refine ⟨?_, ?_⟩); exact rfl) | ((with_reducible refine ⟨?_, ?_⟩); exact Mm.free_of rfl (by assumption))))
      exact k _
theorem c_rise (q : E1 (f ρ) fun d ρ1 => ρ1.length = ρ.length ∧ ∃ ds, Strs ds ∧ ds.length ≤ 100000 ∧ (d = .list ds ∨ d = .tuple ds) ∧ Q (.bool (riseB ds)) ρ1) : E1 (fCall m_are_rising (fACons f fANil) ρ) Q :=
  w_callV (np := 1) (n := 3) (s := g_are_rising) rfl (v_cons (q.mono fun d ρ1 ⟨h1, ds, h2, h3, h4, h5⟩ => v_nil ⟨h1, rise_ok h2 h3 h4 fun _ => h5⟩))
theorem c_lrise (q : E1 (f ρ) fun d ρ1 => ρ1.length = ρ.length ∧ ∃ ds, Strs ds ∧ ds.length ≤ 100000 ∧ (d = .list ds ∨ d = .tuple ds) ∧ Q (.bool (riseB ds)) ρ1) : E1 (fCall m_law_rise (fACons f fANil) ρ) Q := c_rise q
end
end K01

namespace K01
open PySem L2 Mm
local macro_rules
  | `(tactic| decreasing_trivial_pre_omega) => `(tactic| repeat (first | (with_reducible first | refine Mm.w_c ?_ | refine Mm.w_bin ?_ | refine Mm.w_isi ?_ | refine Mm.w_isi2 ?_ | refine Mm.w_un ?_ | refine Mm.w_test ?_ | refine Mm.w_chain ?_ | refine Mm.w_gAnd ?_ | refine Mm.w_gOr ?_ | refine Mm.w_gNot ?_ | refine Mm.w_yes ?_ | refine Mm.w_and ?_ | refine Mm.w_or ?_ | refine Mm.w_not ?_ | refine Mm.w_if ?_ | refine Mm.w_nil ?_ | refine Mm.w_cons ?_ | refine Mm.w_an ?_ | refine Mm.v_nil ?_ | refine Mm.v_cons ?_ | refine Mm.w_disp ?_ | refine Mm.w_tup ?_ | refine Mm.w_frz ?_ | refine Mm.w_cb ?_ | refine Mm.w_cn ?_ | refine Mm.w_items ?_ | refine Mm.w_range1 ?_ | refine Mm.w_zip ?_ | refine Mm.w_enum ?_ | refine Mm.w_oNone ?_ | refine Mm.w_oSome ?_ | refine Mm.w_slice ?_ | refine Mm.s_nx ?_ | refine Mm.s_seq ?_ | refine Mm.s_asg ?_ | refine Mm.s_setN ?_ | refine Mm.s_ret ?_ | refine Mm.s_retL ?_ | refine Mm.s_expr ?_ | refine Mm.s_if ?_ | refine Mm.s_par ?_ | refine Mm.s_for ?_ | refine Mm.k_rt ?_ | refine Mm.k_rn ?_ | refine Mm.k_bk ?_ | refine Mm.k_ct ?_ | refine Mm.l_nx ?_ | refine Mm.l_rt ?_ | refine Mm.b_t ?_ | refine Mm.b_f ?_ | refine Mm.b_nf ?_ | refine Mm.b_nt ?_ | refine Mm.w_bCons ?_ | refine Mm.w_bNil ?_ | refine Mm.p_gt ?_ | refine Mm.p_lt ?_ | refine Mm.p_ge ?_ | refine Mm.p_le ?_ | refine Mm.p_add ?_ | refine Mm.p_sub ?_ | refine Mm.p_neg ?_ | refine Mm.p_eq ?_ | refine Mm.p_ne ?_ | refine Mm.p_int ?_ | refine Mm.p_intB ?_ | refine Mm.p_abs ?_ | refine Mm.p_max ?_ | refine Mm.p_min ?_ | refine Mm.p_eqB ?_ | refine Mm.p_eqS ?_ | refine Mm.p_tupL ?_ | refine Mm.p_tupT ?_ | refine Mm.p_lstL ?_ | refine Mm.p_lstT ?_ | refine Mm.p_lenT ?_ | refine Mm.p_lenL ?_ | refine Mm.p_itT ?_ | refine Mm.p_itL ?_ | refine Mm.p_itS ?_ | refine Mm.p_slT ?_ | refine Mm.p_slL ?_ | refine Mm.p_ltS ?_ | refine Mm.p_geS ?_ | refine c_num ?_ | refine c_lnum ?_ | refine c_btw ?_ | refine c_tup ?_ | refine c_name ?_ | refine c_lname ?_ | refine c_rise ?_ | refine c_lrise ?_ | refine ⟨_, rfl, ?_⟩) | ((with_reducible apply Mm.w_var); exact rfl) | ((with_reducible apply Mm.w_slot); exact rfl) | ((with_reducible apply Mm.w_bName); exact rfl) | ((with_reducible apply Mm.w_lenL); exact rfl) | ((with_reducible apply Mm.w_lenD); exact rfl) | ((with_reducible apply Mm.p_ixT); exact rfl) | ((with_reducible apply Mm.p_ixL); exact rfl) | ((with_reducible apply Mm.w_bTup); exact rfl) | ((with_reducible apply Mm.w_len); exact rfl) | ((with_reducible apply Mm.w_append); exact rfl) | ((with_reducible apply Mm.w_varO); exact rfl) | ((with_reducible apply Mm.f_nx); exact rfl) | ((with_reducible apply Mm.f_rt); exact rfl) | ((with_reducible apply Mm.f_rn); exact rfl) | ((with_reducible apply Mm.f_rnL); exact rfl) | ((with_reducible refine Mm.k_nx ?_) <;> try (simp only [List.set_cons_succ, List.set_cons_zero, List.set_nil, List.cons_append, List.nil_append, List.take_succ_cons, List.take_zero, List.take_nil, List.replicate_succ, List.replicate_zero, List.length_cons, List.length_nil, List.length_set, Nat.reduceAdd, Nat.reduceSub, Mm.slotArgs, Mm.putArgs, Mm.putArg, Mm.putSlot])) | ((with_reducible apply Mm.w_bName); exact Mm.free_of rfl (by assumption)) | ((with_reducible apply Mm.w_ixC); exact rfl; exact rfl) | ((with_reducible apply Mm.w_bSubC); exact rfl; exact rfl) | ((with_reducible refine ⟨?_, ?_⟩); exact rfl) | ((with_reducible refine ⟨?_, ?_⟩); exact Mm.free_of rfl (by assumption))))

theorem lay_mem {d : Dt} : ∀ {ds : List Dt}, PyData.canLayAll0 ds = true → d ∈ ds → d.canLay0 = true
  | x :: xs, h, m => by
    simp only [PyData.canLayAll0, Bool.and_eq_true] at h
    rcases List.mem_cons.mp m with rfl | m
    · exact h.1
    · exact lay_mem h.2 m
theorem depth_mem {d : Dt} : ∀ {ds : List Dt}, d ∈ ds → d.depth ≤ PyData.depthAll ds
  | x :: xs, m => by
    simp only [PyData.depthAll]
    rcases List.mem_cons.mp m with rfl | m
    · omega
    · have := depth_mem m; omega
theorem bulk_mem {d : Dt} : ∀ {ds : List Dt}, d ∈ ds → d.bulk ≤ PyData.bulkAll ds
  | x :: xs, m => by
    simp only [PyData.bulkAll]
    rcases List.mem_cons.mp m with rfl | m
    · omega
    · have := bulk_mem m; omega
structure Fine (d : Dt) : Prop where
  ok : okD d = true
  bk : d.bulk ≤ 100000
theorem Fine.mem {d : Dt} {ds : List Dt} (h : Fine (.tuple ds)) (m : d ∈ ds) : Fine d := by
  obtain ⟨h1, h2⟩ := lay_parts h.ok
  have h3 := h.bk
  simp only [PyData.canLay0, PyData.depth, PyData.bulk] at h1 h2 h3
  refine ⟨?_, Nat.le_trans (bulk_mem m) h3⟩
  show (d.canLay0 && decide (d.depth ≤ 64)) = true
  rw [Bool.and_eq_true]
  exact ⟨lay_mem h1 m, decide_eq_true (by have := depth_mem m; omega)⟩
theorem Fine.len {ds : List Dt} (h : Fine (.tuple ds)) : ds.length ≤ 100000 := by
  have h3 := h.bk
  simp only [PyData.bulk] at h3
  exact Nat.le_trans (bulk_len ds) h3
def inC (cs : List Dt) (o : Dt) : Bool := cs.any fun z => PyData.eqv z o
theorem inC_str {cs : List Dt} {o : Dt} (hs : Strs cs) (h : inC cs o = true) : ∃ x, o = .str x := by
  obtain ⟨z, m, e⟩ := List.any_eq_true.mp h
  obtain ⟨x, rfl⟩ := hs z m
  cases o <;> first | exact ⟨_, rfl⟩ | (simp [PyData.eqv] at e)
def beatB (rest : Int) (b : Dt) : Bool := match b with
  | .int i => btwB (.int i) 1 6 && decide (2 * i + 1 ≤ rest)
  | _ => false
def wayB (rest : Int) (cs : List Dt) (d : Dt) : Bool := match d with
  | .tuple [n, o, p, b] => nameB n && (inC cs o && (inC cs p && (ltP (.tuple [o, p]) && beatB rest b)))
  | _ => false
theorem way_shape (d : Dt) : (∃ n o p b, d = .tuple [n, o, p, b]) ∨ (tupB d 4 = false ∧ ∀ rest cs, wayB rest cs d = false) := by
  cases d with
  | tuple ds =>
    match ds with
    | [n, o, p, b] => exact .inl ⟨n, o, p, b, rfl⟩
    | [] => exact .inr ⟨by simp [tupB], fun _ _ => rfl⟩
    | [_] => exact .inr ⟨by simp [tupB], fun _ _ => rfl⟩
    | [_, _] => exact .inr ⟨by simp [tupB], fun _ _ => rfl⟩
    | [_, _, _] => exact .inr ⟨by simp [tupB], fun _ _ => rfl⟩
    | _ :: _ :: _ :: _ :: _ :: _ => exact .inr ⟨by (simp only [tupB, List.length_cons, beq_eq_false_iff_ne]; omega), fun _ _ => rfl⟩
  | _ => exact .inr ⟨rfl, fun _ _ => rfl⟩
section
variable {ρ : Ev} {f g h : F1} {Q : Dt → Ev → Prop} {d : Dt} {rest : Int} {cs : List Dt}
theorem way_ok (hs : Strs cs) (hc : okD (.tuple cs) = true) (hd : Fine d) (k : ∀ ρ, Q (.bool (wayB rest cs d)) ρ) : E1 (m_is_way [.ro (.int rest), .ro (.tuple cs), .ro d]) Q := by
  unfold m_is_way g_is_way
  refine m_of rfl ?_
  decreasing_trivial_pre_omega
  rcases way_shape d with ⟨n, o, p, b, rfl⟩ | ⟨e1, e2⟩
  · have fn := hd.mem (d := n) (by simp)
    have fo := hd.mem (d := o) (by simp)
    have fp := hd.mem (d := p) (by simp)
    refine b_neg rfl ?_
    decreasing_trivial_pre_omega
    refine ⟨fn.bk, ?_⟩
    decreasing_trivial_pre_omega
    by_cases h1 : nameB n = true
    · refine b_neg (by simp [h1]) ?_
      decreasing_trivial_pre_omega
      refine p_notinT fo.ok hc ?_
      decreasing_trivial_pre_omega
      by_cases h2 : inC cs o = true
      · refine b_neg (by simpa [inC] using h2) ?_
        decreasing_trivial_pre_omega
        refine p_notinT fp.ok hc ?_
        decreasing_trivial_pre_omega
        by_cases h3 : inC cs p = true
        · refine b_neg (by simpa [inC] using h3) ?_
          obtain ⟨x, rfl⟩ := inC_str hs h2
          obtain ⟨y, rfl⟩ := inC_str hs h3
          decreasing_trivial_pre_omega
          by_cases h4 : strLt x y = true
          · refine b_neg (by simp [h4]) ?_
            decreasing_trivial_pre_omega
            by_cases h5 : btwB b 1 6 = true
            · refine b_pos h5 ?_
              have : ∃ i, b = .int i := by
                cases b <;> first | exact ⟨_, rfl⟩ | (simp [btwB] at h5)
              obtain ⟨i, rfl⟩ := this
              decreasing_trivial_pre_omega
              refine p_mul (Or.inl (by decide)) ?_
              decreasing_trivial_pre_omega
              have e : wayB rest cs (.tuple [n, .str x, .str y, .int i]) = decide (2 * i + 1 ≤ rest) := by simp [wayB, h1, h2, h3, ltP, h4, beatB, h5]
              rw [e] at k; exact k _
            · refine b_neg (by simpa using h5) ?_
              decreasing_trivial_pre_omega
              have e : wayB rest cs (.tuple [n, .str x, .str y, b]) = false := by
                have : beatB rest b = false := by
                  cases b <;> first | rfl | (simp only [beatB]; simp only [Bool.not_eq_true] at h5; rw [h5]; rfl)
                simp [wayB, this]
              rw [e] at k; exact k _
          · refine b_pos (by simp [h4]) ?_
            decreasing_trivial_pre_omega
            have e : wayB rest cs (.tuple [n, .str x, .str y, b]) = false := by simp [wayB, ltP, h4]
            rw [e] at k; exact k _
        · refine b_pos (by simpa [inC] using h3) ?_
          decreasing_trivial_pre_omega
          have e : wayB rest cs (.tuple [n, o, p, b]) = false := by simp [wayB, h3]
          rw [e] at k; exact k _
      · refine b_pos (by simpa [inC] using h2) ?_
        decreasing_trivial_pre_omega
        have e : wayB rest cs (.tuple [n, o, p, b]) = false := by simp [wayB, h2]
        rw [e] at k; exact k _
    · refine b_pos (by simp [h1]) ?_
      decreasing_trivial_pre_omega
      have e : wayB rest cs (.tuple [n, o, p, b]) = false := by simp [wayB, h1]
      rw [e] at k; exact k _
  · refine b_pos (by rw [e1]; rfl) ?_
    decreasing_trivial_pre_omega
    rw [e2] at k; exact k _
theorem c_way (hs : Strs cs) (hc : okD (.tuple cs) = true) (q : E1 (f ρ) fun r ρ1 => E1 (g ρ1) fun c ρ2 => E1 (h ρ2) fun d ρ3 => ρ3.length = ρ.length ∧ r = .int rest ∧ c = .tuple cs ∧ Fine d ∧ Q (.bool (wayB rest cs d)) ρ3) : E1 (fCall m_is_way (fACons f (fACons g (fACons h fANil))) ρ) Q :=
  w_callV (np := 3) (n := 7) (s := g_is_way) rfl (v_cons (q.mono fun r ρ1 q => v_cons (q.mono fun c ρ2 q => v_cons (q.mono fun d ρ3 ⟨h1, h2, h3, h4, h5⟩ => v_nil ⟨h1, by subst h2 h3; exact way_ok hs hc h4 fun _ => h5⟩))))
theorem lway_ok (hs : Strs cs) (hc : okD (.tuple cs) = true) (hd : Fine d) (k : ∀ ρ, Q (.bool (wayB rest cs d)) ρ) : E1 (m_law_is_way [.ro (.int rest), .ro (.tuple cs), .ro d]) Q := by
  unfold m_law_is_way g_law_is_way
  refine m_of rfl ?_
  decreasing_trivial_pre_omega
  rcases way_shape d with ⟨n, o, p, b, rfl⟩ | ⟨e1, e2⟩
  · have fn := hd.mem (d := n) (by simp)
    have fo := hd.mem (d := o) (by simp)
    have fp := hd.mem (d := p) (by simp)
    refine b_neg (by simp [isiB]) ?_
    decreasing_trivial_pre_omega
    refine b_neg (by simp) ?_
    decreasing_trivial_pre_omega
    refine ⟨fn.bk, ?_⟩
    decreasing_trivial_pre_omega
    by_cases h1 : nameB n = true
    · refine b_neg (by simp [h1]) ?_
      decreasing_trivial_pre_omega
      refine p_notinT fo.ok hc ?_
      decreasing_trivial_pre_omega
      by_cases h2 : inC cs o = true
      · refine b_neg (by simpa [inC] using h2) ?_
        decreasing_trivial_pre_omega
        refine p_notinT fp.ok hc ?_
        decreasing_trivial_pre_omega
        by_cases h3 : inC cs p = true
        · refine b_neg (by simpa [inC] using h3) ?_
          obtain ⟨x, rfl⟩ := inC_str hs h2
          obtain ⟨y, rfl⟩ := inC_str hs h3
          decreasing_trivial_pre_omega
          by_cases h4 : strLt x y = true
          · refine b_neg (by simp [h4]) ?_
            decreasing_trivial_pre_omega
            by_cases h5 : numB b = true
            · refine b_pos h5 ?_
              obtain ⟨i, rfl⟩ := num_int h5
              decreasing_trivial_pre_omega
              by_cases h6 : 1 ≤ i
              · refine b_pos (by simp [h6]) ?_
                decreasing_trivial_pre_omega
                by_cases h7 : i ≤ 6
                · refine b_pos (by simp [h7]) ?_
                  decreasing_trivial_pre_omega
                  refine p_mul (Or.inl (by decide)) ?_
                  decreasing_trivial_pre_omega
                  have e : wayB rest cs (.tuple [n, .str x, .str y, .int i]) = decide (2 * i + 1 ≤ rest) := by simp [wayB, h1, h2, h3, ltP, h4, beatB, btwB, h6, h7]
                  rw [e] at k; exact k _
                · refine b_neg (by simp [h7]) ?_
                  decreasing_trivial_pre_omega
                  have e : wayB rest cs (.tuple [n, .str x, .str y, .int i]) = false := by simp [wayB, beatB, btwB, h7]
                  rw [e] at k; exact k _
              · refine b_neg (by simp [h6]) ?_
                decreasing_trivial_pre_omega
                have e : wayB rest cs (.tuple [n, .str x, .str y, .int i]) = false := by simp [wayB, beatB, btwB, h6]
                rw [e] at k; exact k _
            · refine b_neg (by simpa using h5) ?_
              decreasing_trivial_pre_omega
              have e : wayB rest cs (.tuple [n, .str x, .str y, b]) = false := by
                have : beatB rest b = false := by
                  cases b <;> first | rfl | exact absurd (num_i _) h5
                simp [wayB, this]
              rw [e] at k; exact k _
          · refine b_pos (by simp [h4]) ?_
            decreasing_trivial_pre_omega
            have e : wayB rest cs (.tuple [n, .str x, .str y, b]) = false := by simp [wayB, ltP, h4]
            rw [e] at k; exact k _
        · refine b_pos (by simpa [inC] using h3) ?_
          decreasing_trivial_pre_omega
          have e : wayB rest cs (.tuple [n, o, p, b]) = false := by simp [wayB, h3]
          rw [e] at k; exact k _
      · refine b_pos (by simpa [inC] using h2) ?_
        decreasing_trivial_pre_omega
        have e : wayB rest cs (.tuple [n, o, p, b]) = false := by simp [wayB, h2]
        rw [e] at k; exact k _
    · refine b_pos (by simp [h1]) ?_
      decreasing_trivial_pre_omega
      have e : wayB rest cs (.tuple [n, o, p, b]) = false := by simp [wayB, h1]
      rw [e] at k; exact k _
  · have e3 : isiB "tuple" d = false ∨ ∃ x, d = .tuple x := by cases d <;> simp [isiB]
    rcases e3 with e3 | ⟨x, rfl⟩
    · refine b_pos (by rw [e3]; rfl) ?_
      decreasing_trivial_pre_omega
      rw [e2] at k; exact k _
    · refine b_neg (by simp [isiB]) ?_
      decreasing_trivial_pre_omega
      refine b_pos (by rw [show ((x.length : Int) == 4) = false from e1]; rfl) ?_
      decreasing_trivial_pre_omega
      rw [e2] at k; exact k _
theorem c_lway (hs : Strs cs) (hc : okD (.tuple cs) = true) (q : E1 (f ρ) fun r ρ1 => E1 (g ρ1) fun c ρ2 => E1 (h ρ2) fun d ρ3 => ρ3.length = ρ.length ∧ r = .int rest ∧ c = .tuple cs ∧ Fine d ∧ Q (.bool (wayB rest cs d)) ρ3) : E1 (fCall m_law_is_way (fACons f (fACons g (fACons h fANil))) ρ) Q :=
  w_callV (np := 3) (n := 3) (s := g_law_is_way) rfl (v_cons (q.mono fun r ρ1 q => v_cons (q.mono fun c ρ2 q => v_cons (q.mono fun d ρ3 ⟨h1, h2, h3, h4, h5⟩ => v_nil ⟨h1, by subst h2 h3; exact lway_ok hs hc h4 fun _ => h5⟩))))
end
end K01

namespace K01
open PySem L2 Mm
local macro_rules
  | `(tactic| decreasing_trivial_pre_omega) => `(tactic| repeat (first | (with_reducible first | refine Mm.w_c ?_ | refine Mm.w_bin ?_ | refine Mm.w_isi ?_ | refine Mm.w_isi2 ?_ | refine Mm.w_un ?_ | refine Mm.w_test ?_ | refine Mm.w_chain ?_ | refine Mm.w_gAnd ?_ | refine Mm.w_gOr ?_ | refine Mm.w_gNot ?_ | refine Mm.w_yes ?_ | refine Mm.w_and ?_ | refine Mm.w_or ?_ | refine Mm.w_not ?_ | refine Mm.w_if ?_ | refine Mm.w_nil ?_ | refine Mm.w_cons ?_ | refine Mm.w_an ?_ | refine Mm.v_nil ?_ | refine Mm.v_cons ?_ | refine Mm.w_disp ?_ | refine Mm.w_tup ?_ | refine Mm.w_frz ?_ | refine Mm.w_cb ?_ | refine Mm.w_cn ?_ | refine Mm.w_items ?_ | refine Mm.w_range1 ?_ | refine Mm.w_zip ?_ | refine Mm.w_enum ?_ | refine Mm.w_oNone ?_ | refine Mm.w_oSome ?_ | refine Mm.w_slice ?_ | refine Mm.s_nx ?_ | refine Mm.s_seq ?_ | refine Mm.s_asg ?_ | refine Mm.s_setN ?_ | refine Mm.s_ret ?_ | refine Mm.s_retL ?_ | refine Mm.s_expr ?_ | refine Mm.s_if ?_ | refine Mm.s_par ?_ | refine Mm.s_for ?_ | refine Mm.k_rt ?_ | refine Mm.k_rn ?_ | refine Mm.k_bk ?_ | refine Mm.k_ct ?_ | refine Mm.l_nx ?_ | refine Mm.l_rt ?_ | refine Mm.b_t ?_ | refine Mm.b_f ?_ | refine Mm.b_nf ?_ | refine Mm.b_nt ?_ | refine Mm.w_bCons ?_ | refine Mm.w_bNil ?_ | refine Mm.p_gt ?_ | refine Mm.p_lt ?_ | refine Mm.p_ge ?_ | refine Mm.p_le ?_ | refine Mm.p_add ?_ | refine Mm.p_sub ?_ | refine Mm.p_neg ?_ | refine Mm.p_eq ?_ | refine Mm.p_ne ?_ | refine Mm.p_int ?_ | refine Mm.p_intB ?_ | refine Mm.p_abs ?_ | refine Mm.p_max ?_ | refine Mm.p_min ?_ | refine Mm.p_eqB ?_ | refine Mm.p_eqS ?_ | refine Mm.p_tupL ?_ | refine Mm.p_tupT ?_ | refine Mm.p_lstL ?_ | refine Mm.p_lstT ?_ | refine Mm.p_lenT ?_ | refine Mm.p_lenL ?_ | refine Mm.p_itT ?_ | refine Mm.p_itL ?_ | refine Mm.p_itS ?_ | refine Mm.p_slT ?_ | refine Mm.p_slL ?_ | refine Mm.p_ltS ?_ | refine Mm.p_geS ?_ | refine c_num ?_ | refine c_lnum ?_ | refine c_btw ?_ | refine c_tup ?_ | refine c_name ?_ | refine c_lname ?_ | refine c_rise ?_ | refine c_lrise ?_ | refine ⟨_, rfl, ?_⟩) | ((with_reducible apply Mm.w_var); exact rfl) | ((with_reducible apply Mm.w_slot); exact rfl) | ((with_reducible apply Mm.w_bName); exact rfl) | ((with_reducible apply Mm.w_lenL); exact rfl) | ((with_reducible apply Mm.w_lenD); exact rfl) | ((with_reducible apply Mm.p_ixT); exact rfl) | ((with_reducible apply Mm.p_ixL); exact rfl) | ((with_reducible apply Mm.w_bTup); exact rfl) | ((with_reducible apply Mm.w_len); exact rfl) | ((with_reducible apply Mm.w_append); exact rfl) | ((with_reducible apply Mm.w_varO); exact rfl) | ((with_reducible apply Mm.f_nx); exact rfl) | ((with_reducible apply Mm.f_rt); exact rfl) | ((with_reducible apply Mm.f_rn); exact rfl) | ((with_reducible apply Mm.f_rnL); exact rfl) | ((with_reducible refine Mm.k_nx ?_) <;> try (simp only [List.set_cons_succ, List.set_cons_zero, List.set_nil, List.cons_append, List.nil_append, List.take_succ_cons, List.take_zero, List.take_nil, List.replicate_succ, List.replicate_zero, List.length_cons, List.length_nil, List.length_set, Nat.reduceAdd, Nat.reduceSub, Mm.slotArgs, Mm.putArgs, Mm.putArg, Mm.putSlot])) | ((with_reducible apply Mm.w_bName); exact Mm.free_of rfl (by assumption)) | ((with_reducible apply Mm.w_ixC); exact rfl; exact rfl) | ((with_reducible apply Mm.w_bSubC); exact rfl; exact rfl) | ((with_reducible refine ⟨?_, ?_⟩); exact rfl) | ((with_reducible refine ⟨?_, ?_⟩); exact Mm.free_of rfl (by assumption))))

def unI (d : Dt) : Int := match d with
  | .int i => i
  | _ => 0
def unT (d : Dt) : List Dt := match d with
  | .tuple ds => ds
  | _ => []
def first (d : Dt) : Dt := match d with
  | .tuple (n :: _) => n
  | _ => .none
def restB (r : Int) (cs ws : List Dt) : Bool :=
  decide (1 ≤ (cs.length : Int)) && (decide ((cs.length : Int) ≤ 8) && (!decide (10 < (ws.length : Int)) && (cs.all nameB && (riseB cs && (ws.all (wayB r cs) && riseB (ws.map first))))))
def planB (d : Dt) : Bool := match d with
  | .tuple [r, c, w] => btwB r 3 24 && (isiB "tuple" c && (isiB "tuple" w && restB (unI r) (unT c) (unT w)))
  | _ => false
theorem plan_shape (d : Dt) : (∃ r c w, d = .tuple [r, c, w]) ∨ (tupB d 3 = false ∧ planB d = false) := by
  cases d with
  | tuple ds =>
    match ds with
    | [n, o, p] => exact .inl ⟨n, o, p, rfl⟩
    | [] => exact .inr ⟨by simp [tupB], rfl⟩
    | [_] => exact .inr ⟨by simp [tupB], rfl⟩
    | [_, _] => exact .inr ⟨by simp [tupB], rfl⟩
    | _ :: _ :: _ :: _ :: _ => exact .inr ⟨by (simp only [tupB, List.length_cons, beq_eq_false_iff_ne]; omega), rfl⟩
  | _ => exact .inr ⟨rfl, rfl⟩
theorem name_str {cs : List Dt} (h : cs.all nameB = true) : Strs cs := by
  intro d m
  have := List.all_eq_true.mp h d m
  cases d <;> first | exact ⟨_, rfl⟩ | (simp [nameB] at this)
theorem way_first {r : Int} {cs ws : List Dt} (h : ws.all (wayB r cs) = true) : ∀ d ∈ ws, ∃ n o p b, d = .tuple [n, o, p, b] ∧ ∃ x, n = .str x := by
  intro d m
  have e := List.all_eq_true.mp h d m
  rcases way_shape d with ⟨n, o, p, b, rfl⟩ | ⟨_, e2⟩
  · refine ⟨n, o, p, b, rfl, ?_⟩
    have hn : nameB n = true := by
      simp only [wayB, Bool.and_eq_true] at e
      exact e.1
    cases n <;> first | exact ⟨_, rfl⟩ | (simp [nameB] at hn)
  · rw [e2] at e; cases e
theorem first_str {r : Int} {cs ws : List Dt} (h : ws.all (wayB r cs) = true) : Strs (ws.map first) := by
  intro d m
  obtain ⟨w, hw, rfl⟩ := List.mem_map.mp m
  obtain ⟨n, o, p, b, rfl, x, rfl⟩ := way_first h w hw
  exact ⟨x, rfl⟩
section
variable {ρ : Ev} {f g h : F1} {Q : Dt → Ev → Prop} {d : Dt} {rest : Int} {cs : List Dt}
theorem plan_ok (hd : Fine d) (k : ∀ ρ, Q (.bool (planB d)) ρ) : E1 (m_is_plan [.ro d]) Q := by
  unfold m_is_plan g_is_plan
  refine m_of rfl ?_
  decreasing_trivial_pre_omega
  rcases plan_shape d with ⟨r, c, w, rfl⟩ | ⟨e1, e2⟩
  · have fc := hd.mem (d := c) (by simp)
    have fw := hd.mem (d := w) (by simp)
    refine b_neg rfl ?_
    decreasing_trivial_pre_omega
    by_cases h1 : btwB r 3 24 = true
    · refine b_neg (by simp [h1]) ?_
      obtain ⟨i, rfl⟩ : ∃ i, r = .int i := by
        cases r <;> first | exact ⟨_, rfl⟩ | (simp [btwB] at h1)
      decreasing_trivial_pre_omega
      have hc : isiB "tuple" c = false ∨ ∃ x, c = .tuple x := by cases c <;> simp [isiB]
      rcases hc with hc | ⟨cs, rfl⟩
      · refine b_pos (by simp [hc]) ?_
        decreasing_trivial_pre_omega
        have e : planB (.tuple [.int i, c, w]) = false := by simp [planB, hc]
        rw [e] at k; exact k _
      · refine b_neg (by simp [isiB]) ?_
        decreasing_trivial_pre_omega
        have hw : isiB "tuple" w = false ∨ ∃ x, w = .tuple x := by cases w <;> simp [isiB]
        rcases hw with hw | ⟨ws, rfl⟩
        · refine b_pos (by simp [hw]) ?_
          decreasing_trivial_pre_omega
          have e : planB (.tuple [.int i, .tuple cs, w]) = false := by simp [planB, hw]
          rw [e] at k; exact k _
        · have e0 : planB (.tuple [.int i, .tuple cs, .tuple ws]) = restB i cs ws := by simp [planB, h1, isiB, unI, unT]
          rw [e0] at k
          refine b_neg (by simp [isiB]) ?_
          decreasing_trivial_pre_omega
          by_cases h2 : 1 ≤ (cs.length : Int)
          · refine b_pos (by simpa using h2) ?_
            decreasing_trivial_pre_omega
            by_cases h3 : (cs.length : Int) ≤ 8
            · refine b_neg (by simpa using h3) ?_
              decreasing_trivial_pre_omega
              by_cases h4 : 10 < (ws.length : Int)
              · refine b_pos (by simpa using h4) ?_
                decreasing_trivial_pre_omega
                have e : restB i cs ws = false := by simp [restB, h4]
                rw [e] at k; exact k _
              · refine b_neg (by simpa using h4) ?_
                decreasing_trivial_pre_omega
                refine w_lcm (fun d => .bool (nameB d)) ?_
                decreasing_trivial_pre_omega
                refine ⟨fc.len, rfl, ?_, ?_⟩
                · intro d m
                  decreasing_trivial_pre_omega
                  refine ⟨(fc.mem m).bk, ?_⟩
                  first | exact rfl | exact ⟨rfl, rfl⟩
                · decreasing_trivial_pre_omega
                  refine p_all ?_
                  decreasing_trivial_pre_omega
                  by_cases h5 : cs.all nameB = true
                  · refine b_neg (by rw [h5]; rfl) ?_
                    have hs := name_str h5
                    decreasing_trivial_pre_omega
                    refine ⟨cs, hs, fc.len, .inr rfl, ?_⟩
                    decreasing_trivial_pre_omega
                    by_cases h6 : riseB cs = true
                    · refine b_neg (by rw [h6]; rfl) ?_
                      decreasing_trivial_pre_omega
                      refine w_lcm (fun d => .bool (wayB i cs d)) ?_
                      decreasing_trivial_pre_omega
                      refine ⟨fw.len, rfl, ?_, ?_⟩
                      · intro d m
                        decreasing_trivial_pre_omega
                        refine c_way (rest := i) (cs := cs) hs fc.ok ?_
                        decreasing_trivial_pre_omega
                        refine ⟨fw.mem m, ?_⟩
                        first | exact rfl | exact ⟨rfl, rfl⟩
                      · decreasing_trivial_pre_omega
                        refine p_all ?_
                        decreasing_trivial_pre_omega
                        by_cases h7 : ws.all (wayB i cs) = true
                        · refine b_pos h7 ?_
                          decreasing_trivial_pre_omega
                          refine w_lcm first ?_
                          decreasing_trivial_pre_omega
                          refine ⟨fw.len, rfl, ?_, ?_⟩
                          · intro d m
                            obtain ⟨n, o, p, b, rfl, _⟩ := way_first h7 d m
                            decreasing_trivial_pre_omega
                            first | exact rfl | exact ⟨rfl, rfl⟩
                          · decreasing_trivial_pre_omega
                            refine ⟨ws.map first, first_str h7, by rw [List.length_map]; exact fw.len, .inl rfl, ?_⟩
                            decreasing_trivial_pre_omega
                            have e : restB i cs ws = riseB (ws.map first) := by simp only [restB, h2, h3, h4, h5, h6, h7, decide_true, decide_false, Bool.not_false, Bool.true_and]
                            rw [e] at k; exact k _
                        · refine b_neg (by simpa using h7) ?_
                          decreasing_trivial_pre_omega
                          have e : restB i cs ws = false := by simp only [Bool.not_eq_true] at h7; simp only [restB, h7, Bool.and_false, Bool.false_and]
                          rw [e] at k; exact k _
                    · simp only [Bool.not_eq_true] at h6
                      refine b_pos (by rw [h6]; rfl) ?_
                      decreasing_trivial_pre_omega
                      have e : restB i cs ws = false := by simp only [restB, h6, Bool.and_false, Bool.false_and]
                      rw [e] at k; exact k _
                  · simp only [Bool.not_eq_true] at h5
                    refine b_pos (by rw [h5]; rfl) ?_
                    decreasing_trivial_pre_omega
                    have e : restB i cs ws = false := by simp only [restB, h5, Bool.and_false, Bool.false_and]
                    rw [e] at k; exact k _
            · refine b_pos (by simpa using h3) ?_
              decreasing_trivial_pre_omega
              have e : restB i cs ws = false := by simp only [restB, h3, decide_false, Bool.and_false, Bool.false_and]
              rw [e] at k; exact k _
          · refine b_neg (by simpa using h2) ?_
            decreasing_trivial_pre_omega
            have e : restB i cs ws = false := by simp only [restB, h2, decide_false, Bool.and_false, Bool.false_and]
            rw [e] at k; exact k _
    · refine b_pos (by simp [h1]) ?_
      decreasing_trivial_pre_omega
      have e : planB (.tuple [r, c, w]) = false := by simp [planB, h1]
      rw [e] at k; exact k _
  · refine b_pos (by rw [e1]; rfl) ?_
    decreasing_trivial_pre_omega
    rw [e2] at k; exact k _
theorem due_ok (hd : Fine d) (k : ∀ ρ, Q (.bool (planB d)) ρ) : E1 (m_law_due [.ro d]) Q := by
  unfold m_law_due g_law_due
  refine m_of rfl ?_
  decreasing_trivial_pre_omega
  rcases plan_shape d with ⟨r, c, w, rfl⟩ | ⟨e1, e2⟩
  · have fc := hd.mem (d := c) (by simp)
    have fw := hd.mem (d := w) (by simp)
    refine b_neg (by simp [isiB]) ?_
    decreasing_trivial_pre_omega
    refine b_neg (by simp) ?_
    decreasing_trivial_pre_omega
    by_cases h1 : numB r = true
    · obtain ⟨i, rfl⟩ := num_int h1
      refine b_neg (by rw [h1]; rfl) ?_
      decreasing_trivial_pre_omega
      by_cases h1a : 3 ≤ i
      · refine b_pos (by simpa using h1a) ?_
        decreasing_trivial_pre_omega
        by_cases h1b : i ≤ 24
        · refine b_neg (by simpa using h1b) ?_
          have h1 : btwB (.int i) 3 24 = true := by simp [btwB, h1a, h1b]
          decreasing_trivial_pre_omega
          have hc : isiB "tuple" c = false ∨ ∃ x, c = .tuple x := by cases c <;> simp [isiB]
          rcases hc with hc | ⟨cs, rfl⟩
          · refine b_pos (by simp [hc]) ?_
            decreasing_trivial_pre_omega
            have e : planB (.tuple [.int i, c, w]) = false := by simp [planB, hc]
            rw [e] at k; exact k _
          · refine b_neg (by simp [isiB]) ?_
            decreasing_trivial_pre_omega
            have e0 : planB (.tuple [.int i, .tuple cs, w]) = (isiB "tuple" w && restB i cs (unT w)) := by simp [planB, h1, isiB, unI, unT]
            rw [e0] at k
            by_cases h2 : 1 ≤ (cs.length : Int)
            · refine b_pos (by simpa using h2) ?_
              decreasing_trivial_pre_omega
              by_cases h3 : (cs.length : Int) ≤ 8
              · refine b_neg (by simpa using h3) ?_
                decreasing_trivial_pre_omega
                refine w_lcm (fun d => .bool (nameB d)) ?_
                decreasing_trivial_pre_omega
                refine ⟨fc.len, rfl, ?_, ?_⟩
                · intro d m
                  decreasing_trivial_pre_omega
                  refine ⟨(fc.mem m).bk, ?_⟩
                  first | exact rfl | exact ⟨rfl, rfl⟩
                · decreasing_trivial_pre_omega
                  refine p_all ?_
                  decreasing_trivial_pre_omega
                  by_cases h5 : cs.all nameB = true
                  · refine b_neg (by rw [h5]; rfl) ?_
                    have hs := name_str h5
                    decreasing_trivial_pre_omega
                    have hw : isiB "tuple" w = false ∨ ∃ x, w = .tuple x := by cases w <;> simp [isiB]
                    rcases hw with hw | ⟨ws, rfl⟩
                    · refine b_pos (by simp [hw]) ?_
                      decreasing_trivial_pre_omega
                      rw [hw] at k; exact k _
                    · refine b_neg (by simp [isiB]) ?_
                      have e1 : (isiB "tuple" (.tuple ws) && restB i cs (unT (.tuple ws))) = restB i cs ws := by simp [isiB, unT]
                      rw [e1] at k
                      decreasing_trivial_pre_omega
                      by_cases h4 : 10 < (ws.length : Int)
                      · refine b_pos (by simpa using h4) ?_
                        decreasing_trivial_pre_omega
                        have e : restB i cs ws = false := by simp [restB, h4]
                        rw [e] at k; exact k _
                      · refine b_neg (by simpa using h4) ?_
                        decreasing_trivial_pre_omega
                        refine ⟨cs, hs, fc.len, .inr rfl, ?_⟩
                        decreasing_trivial_pre_omega
                        by_cases h6 : riseB cs = true
                        · refine b_neg (by rw [h6]; rfl) ?_
                          decreasing_trivial_pre_omega
                          refine w_lcm (fun d => .bool (wayB i cs d)) ?_
                          decreasing_trivial_pre_omega
                          refine ⟨fw.len, rfl, ?_, ?_⟩
                          · intro d m
                            decreasing_trivial_pre_omega
                            refine c_lway (rest := i) (cs := cs) hs fc.ok ?_
                            decreasing_trivial_pre_omega
                            refine ⟨fw.mem m, ?_⟩
                            first | exact rfl | exact ⟨rfl, rfl⟩
                          · decreasing_trivial_pre_omega
                            refine p_all ?_
                            decreasing_trivial_pre_omega
                            by_cases h7 : ws.all (wayB i cs) = true
                            · refine b_pos h7 ?_
                              decreasing_trivial_pre_omega
                              refine w_lcm first ?_
                              decreasing_trivial_pre_omega
                              refine ⟨fw.len, rfl, ?_, ?_⟩
                              · intro d m
                                obtain ⟨n, o, p, b, rfl, _⟩ := way_first h7 d m
                                decreasing_trivial_pre_omega
                                first | exact rfl | exact ⟨rfl, rfl⟩
                              · decreasing_trivial_pre_omega
                                refine ⟨ws.map first, first_str h7, by rw [List.length_map]; exact fw.len, .inl rfl, ?_⟩
                                decreasing_trivial_pre_omega
                                have e : restB i cs ws = riseB (ws.map first) := by simp only [restB, h2, h3, h4, h5, h6, h7, decide_true, decide_false, Bool.not_false, Bool.true_and]
                                rw [e] at k; exact k _
                            · refine b_neg (by simpa using h7) ?_
                              decreasing_trivial_pre_omega
                              have e : restB i cs ws = false := by simp only [Bool.not_eq_true] at h7; simp only [restB, h7, Bool.and_false, Bool.false_and]
                              rw [e] at k; exact k _
                        · simp only [Bool.not_eq_true] at h6
                          refine b_pos (by rw [h6]; rfl) ?_
                          decreasing_trivial_pre_omega
                          have e : restB i cs ws = false := by simp only [restB, h6, Bool.and_false, Bool.false_and]
                          rw [e] at k; exact k _
                  · simp only [Bool.not_eq_true] at h5
                    refine b_pos (by rw [h5]; rfl) ?_
                    decreasing_trivial_pre_omega
                    have e : ∀ ws, restB i cs ws = false := fun ws => by simp only [restB, h5, Bool.and_false, Bool.false_and]
                    rw [e, Bool.and_false] at k; exact k _
              · refine b_pos (by simpa using h3) ?_
                decreasing_trivial_pre_omega
                have e : ∀ ws, restB i cs ws = false := fun ws => by simp only [restB, h3, decide_false, Bool.and_false, Bool.false_and]
                rw [e, Bool.and_false] at k; exact k _
            · refine b_neg (by simpa using h2) ?_
              decreasing_trivial_pre_omega
              have e : ∀ ws, restB i cs ws = false := fun ws => by simp only [restB, h2, decide_false, Bool.and_false, Bool.false_and]
              rw [e, Bool.and_false] at k; exact k _
        · refine b_pos (by simpa using h1b) ?_
          decreasing_trivial_pre_omega
          have e : planB (.tuple [.int i, c, w]) = false := by simp [planB, btwB, h1b]
          rw [e] at k; exact k _
      · refine b_neg (by simpa using h1a) ?_
        decreasing_trivial_pre_omega
        have e : planB (.tuple [.int i, c, w]) = false := by simp [planB, btwB, h1a]
        rw [e] at k; exact k _
    · refine b_pos (by simpa using h1) ?_
      decreasing_trivial_pre_omega
      have e : planB (.tuple [r, c, w]) = false := by
        have : btwB r 3 24 = false := by
          cases r <;> first | rfl | exact absurd (num_i _) h1
        simp [planB, this]
      rw [e] at k; exact k _
  · have e3 : isiB "tuple" d = false ∨ ∃ x, d = .tuple x := by cases d <;> simp [isiB]
    rcases e3 with e3 | ⟨x, rfl⟩
    · refine b_pos (by rw [e3]; rfl) ?_
      decreasing_trivial_pre_omega
      rw [e2] at k; exact k _
    · refine b_neg (by simp [isiB]) ?_
      decreasing_trivial_pre_omega
      refine b_pos (by rw [show ((x.length : Int) == 3) = false from e1]; rfl) ?_
      decreasing_trivial_pre_omega
      rw [e2] at k; exact k _
end
end K01

namespace K01
open PySem L2 Mm

section
variable {ρ : Ev} {f g h : F1} {Q : Dt → Ev → Prop} {d : Dt} {B W D : Nat}
theorem c_plan (q : E1 (f ρ) fun d ρ1 => ρ1.length = ρ.length ∧ Fine d ∧ Q (.bool (planB d)) ρ1) : E1 (fCall m_is_plan (fACons f fANil) ρ) Q :=
  w_callV (np := 1) (n := 6) (s := g_is_plan) rfl (v_cons (q.mono fun d ρ1 h => v_nil ⟨h.1, plan_ok h.2.1 fun _ => h.2.2⟩))
theorem c_due (q : E1 (f ρ) fun d ρ1 => ρ1.length = ρ.length ∧ Fine d ∧ Q (.bool (planB d)) ρ1) : E1 (fCall m_law_due (fACons f fANil) ρ) Q :=
  w_callV (np := 1) (n := 5) (s := g_law_due) rfl (v_cons (q.mono fun d ρ1 h => v_nil ⟨h.1, due_ok h.2.1 fun _ => h.2.2⟩))
theorem right_ok (h : Tm B W D d) (hb : B < 10 ^ 12) (hw : W ≤ 100000) (hD : D ≤ 64) (k : ∀ ρ, Q (.bool true) ρ) : E1 (m_law_right [.ro d]) Q := by
  have hf : Fine d := ⟨h.ok hD, Nat.le_trans h.bk hw⟩
  unfold m_law_right g_law_right
  refine m_of rfl ?_
  (repeat (first | (with_reducible first | refine Mm.w_c ?_ | refine Mm.w_bin ?_ | refine Mm.w_isi ?_ | refine Mm.w_isi2 ?_ | refine Mm.w_un ?_ | refine Mm.w_test ?_ | refine Mm.w_chain ?_ | refine Mm.w_gAnd ?_ | refine Mm.w_gOr ?_ | refine Mm.w_gNot ?_ | refine Mm.w_yes ?_ | refine Mm.w_and ?_ | refine Mm.w_or ?_ | refine Mm.w_not ?_ | refine Mm.w_if ?_ | refine Mm.w_nil ?_ | refine Mm.w_cons ?_ | refine Mm.w_an ?_ | refine Mm.v_nil ?_ | refine Mm.v_cons ?_ | refine Mm.w_disp ?_ | refine Mm.w_tup ?_ | refine Mm.w_frz ?_ | refine Mm.w_cb ?_ | refine Mm.w_cn ?_ | refine Mm.w_items ?_ | refine Mm.w_range1 ?_ | refine Mm.w_zip ?_ | refine Mm.w_enum ?_ | refine Mm.w_oNone ?_ | refine Mm.w_oSome ?_ | refine Mm.w_slice ?_ | refine Mm.s_nx ?_ | refine Mm.s_seq ?_ | refine Mm.s_asg ?_ | refine Mm.s_setN ?_ | refine Mm.s_ret ?_ | refine Mm.s_retL ?_ | refine Mm.s_expr ?_ | refine Mm.s_if ?_ | refine Mm.s_par ?_ | refine Mm.s_for ?_ | refine Mm.k_rt ?_ | refine Mm.k_rn ?_ | refine Mm.k_bk ?_ | refine Mm.k_ct ?_ | refine Mm.l_nx ?_ | refine Mm.l_rt ?_ | refine Mm.b_t ?_ | refine Mm.b_f ?_ | refine Mm.b_nf ?_ | refine Mm.b_nt ?_ | refine Mm.w_bCons ?_ | refine Mm.w_bNil ?_ | refine Mm.p_gt ?_ | refine Mm.p_lt ?_ | refine Mm.p_ge ?_ | refine Mm.p_le ?_ | refine Mm.p_add ?_ | refine Mm.p_sub ?_ | refine Mm.p_neg ?_ | refine Mm.p_eq ?_ | refine Mm.p_ne ?_ | refine Mm.p_int ?_ | refine Mm.p_intB ?_ | refine Mm.p_abs ?_ | refine Mm.p_max ?_ | refine Mm.p_min ?_ | refine Mm.p_eqB ?_ | refine Mm.p_eqS ?_ | refine Mm.p_tupL ?_ | refine Mm.p_tupT ?_ | refine Mm.p_lstL ?_ | refine Mm.p_lstT ?_ | refine Mm.p_lenT ?_ | refine Mm.p_lenL ?_ | refine Mm.p_itT ?_ | refine Mm.p_itL ?_ | refine Mm.p_itS ?_ | refine Mm.p_slT ?_ | refine Mm.p_slL ?_ | refine Mm.p_ltS ?_ | refine Mm.p_geS ?_ | refine c_due ?_ | refine c_plan ?_ | refine ⟨_, rfl, ?_⟩) | ((with_reducible apply Mm.w_var); exact rfl) | ((with_reducible apply Mm.w_slot); exact rfl) | ((with_reducible apply Mm.w_bName); exact rfl) | ((with_reducible apply Mm.w_lenL); exact rfl) | ((with_reducible apply Mm.w_lenD); exact rfl) | ((with_reducible apply Mm.p_ixT); exact rfl) | ((with_reducible apply Mm.p_ixL); exact rfl) | ((with_reducible apply Mm.w_bTup); exact rfl) | ((with_reducible apply Mm.w_len); exact rfl) | ((with_reducible apply Mm.w_append); exact rfl) | ((with_reducible apply Mm.w_varO); exact rfl) | ((with_reducible apply Mm.f_nx); exact rfl) | ((with_reducible apply Mm.f_rt); exact rfl) | ((with_reducible apply Mm.f_rn); exact rfl) | ((with_reducible apply Mm.f_rnL); exact rfl) | ((with_reducible refine Mm.k_nx ?_) <;> try (simp only [List.set_cons_succ, List.set_cons_zero, List.set_nil, List.cons_append, List.nil_append, List.take_succ_cons, List.take_zero, List.take_nil, List.replicate_succ, List.replicate_zero, List.length_cons, List.length_nil, List.length_set, Nat.reduceAdd, Nat.reduceSub, Mm.slotArgs, Mm.putArgs, Mm.putArg, Mm.putSlot])) | ((with_reducible apply Mm.w_bName); exact Mm.free_of rfl (by assumption)) | ((with_reducible apply Mm.w_ixC); exact rfl; exact rfl) | ((with_reducible apply Mm.w_bSubC); exact rfl; exact rfl) | ((with_reducible refine ⟨?_, ?_⟩); exact rfl) | ((with_reducible refine ⟨?_, ?_⟩); exact Mm.free_of rfl (by assumption))))
  refine h.repr hb hw hD ?_
  (repeat (first | (with_reducible first | refine Mm.w_c ?_ | refine Mm.w_bin ?_ | refine Mm.w_isi ?_ | refine Mm.w_isi2 ?_ | refine Mm.w_un ?_ | refine Mm.w_test ?_ | refine Mm.w_chain ?_ | refine Mm.w_gAnd ?_ | refine Mm.w_gOr ?_ | refine Mm.w_gNot ?_ | refine Mm.w_yes ?_ | refine Mm.w_and ?_ | refine Mm.w_or ?_ | refine Mm.w_not ?_ | refine Mm.w_if ?_ | refine Mm.w_nil ?_ | refine Mm.w_cons ?_ | refine Mm.w_an ?_ | refine Mm.v_nil ?_ | refine Mm.v_cons ?_ | refine Mm.w_disp ?_ | refine Mm.w_tup ?_ | refine Mm.w_frz ?_ | refine Mm.w_cb ?_ | refine Mm.w_cn ?_ | refine Mm.w_items ?_ | refine Mm.w_range1 ?_ | refine Mm.w_zip ?_ | refine Mm.w_enum ?_ | refine Mm.w_oNone ?_ | refine Mm.w_oSome ?_ | refine Mm.w_slice ?_ | refine Mm.s_nx ?_ | refine Mm.s_seq ?_ | refine Mm.s_asg ?_ | refine Mm.s_setN ?_ | refine Mm.s_ret ?_ | refine Mm.s_retL ?_ | refine Mm.s_expr ?_ | refine Mm.s_if ?_ | refine Mm.s_par ?_ | refine Mm.s_for ?_ | refine Mm.k_rt ?_ | refine Mm.k_rn ?_ | refine Mm.k_bk ?_ | refine Mm.k_ct ?_ | refine Mm.l_nx ?_ | refine Mm.l_rt ?_ | refine Mm.b_t ?_ | refine Mm.b_f ?_ | refine Mm.b_nf ?_ | refine Mm.b_nt ?_ | refine Mm.w_bCons ?_ | refine Mm.w_bNil ?_ | refine Mm.p_gt ?_ | refine Mm.p_lt ?_ | refine Mm.p_ge ?_ | refine Mm.p_le ?_ | refine Mm.p_add ?_ | refine Mm.p_sub ?_ | refine Mm.p_neg ?_ | refine Mm.p_eq ?_ | refine Mm.p_ne ?_ | refine Mm.p_int ?_ | refine Mm.p_intB ?_ | refine Mm.p_abs ?_ | refine Mm.p_max ?_ | refine Mm.p_min ?_ | refine Mm.p_eqB ?_ | refine Mm.p_eqS ?_ | refine Mm.p_tupL ?_ | refine Mm.p_tupT ?_ | refine Mm.p_lstL ?_ | refine Mm.p_lstT ?_ | refine Mm.p_lenT ?_ | refine Mm.p_lenL ?_ | refine Mm.p_itT ?_ | refine Mm.p_itL ?_ | refine Mm.p_itS ?_ | refine Mm.p_slT ?_ | refine Mm.p_slL ?_ | refine Mm.p_ltS ?_ | refine Mm.p_geS ?_ | refine c_due ?_ | refine c_plan ?_ | refine ⟨_, rfl, ?_⟩) | ((with_reducible apply Mm.w_var); exact rfl) | ((with_reducible apply Mm.w_slot); exact rfl) | ((with_reducible apply Mm.w_bName); exact rfl) | ((with_reducible apply Mm.w_lenL); exact rfl) | ((with_reducible apply Mm.w_lenD); exact rfl) | ((with_reducible apply Mm.p_ixT); exact rfl) | ((with_reducible apply Mm.p_ixL); exact rfl) | ((with_reducible apply Mm.w_bTup); exact rfl) | ((with_reducible apply Mm.w_len); exact rfl) | ((with_reducible apply Mm.w_append); exact rfl) | ((with_reducible apply Mm.w_varO); exact rfl) | ((with_reducible apply Mm.f_nx); exact rfl) | ((with_reducible apply Mm.f_rt); exact rfl) | ((with_reducible apply Mm.f_rn); exact rfl) | ((with_reducible apply Mm.f_rnL); exact rfl) | ((with_reducible refine Mm.k_nx ?_) <;> try (simp only [List.set_cons_succ, List.set_cons_zero, List.set_nil, List.cons_append, List.nil_append, List.take_succ_cons, List.take_zero, List.take_nil, List.replicate_succ, List.replicate_zero, List.length_cons, List.length_nil, List.length_set, Nat.reduceAdd, Nat.reduceSub, Mm.slotArgs, Mm.putArgs, Mm.putArg, Mm.putSlot])) | ((with_reducible apply Mm.w_bName); exact Mm.free_of rfl (by assumption)) | ((with_reducible apply Mm.w_ixC); exact rfl; exact rfl) | ((with_reducible apply Mm.w_bSubC); exact rfl; exact rfl) | ((with_reducible refine ⟨?_, ?_⟩); exact rfl) | ((with_reducible refine ⟨?_, ?_⟩); exact Mm.free_of rfl (by assumption))))
  refine ⟨hf, ?_⟩
  (repeat (first | (with_reducible first | refine Mm.w_c ?_ | refine Mm.w_bin ?_ | refine Mm.w_isi ?_ | refine Mm.w_isi2 ?_ | refine Mm.w_un ?_ | refine Mm.w_test ?_ | refine Mm.w_chain ?_ | refine Mm.w_gAnd ?_ | refine Mm.w_gOr ?_ | refine Mm.w_gNot ?_ | refine Mm.w_yes ?_ | refine Mm.w_and ?_ | refine Mm.w_or ?_ | refine Mm.w_not ?_ | refine Mm.w_if ?_ | refine Mm.w_nil ?_ | refine Mm.w_cons ?_ | refine Mm.w_an ?_ | refine Mm.v_nil ?_ | refine Mm.v_cons ?_ | refine Mm.w_disp ?_ | refine Mm.w_tup ?_ | refine Mm.w_frz ?_ | refine Mm.w_cb ?_ | refine Mm.w_cn ?_ | refine Mm.w_items ?_ | refine Mm.w_range1 ?_ | refine Mm.w_zip ?_ | refine Mm.w_enum ?_ | refine Mm.w_oNone ?_ | refine Mm.w_oSome ?_ | refine Mm.w_slice ?_ | refine Mm.s_nx ?_ | refine Mm.s_seq ?_ | refine Mm.s_asg ?_ | refine Mm.s_setN ?_ | refine Mm.s_ret ?_ | refine Mm.s_retL ?_ | refine Mm.s_expr ?_ | refine Mm.s_if ?_ | refine Mm.s_par ?_ | refine Mm.s_for ?_ | refine Mm.k_rt ?_ | refine Mm.k_rn ?_ | refine Mm.k_bk ?_ | refine Mm.k_ct ?_ | refine Mm.l_nx ?_ | refine Mm.l_rt ?_ | refine Mm.b_t ?_ | refine Mm.b_f ?_ | refine Mm.b_nf ?_ | refine Mm.b_nt ?_ | refine Mm.w_bCons ?_ | refine Mm.w_bNil ?_ | refine Mm.p_gt ?_ | refine Mm.p_lt ?_ | refine Mm.p_ge ?_ | refine Mm.p_le ?_ | refine Mm.p_add ?_ | refine Mm.p_sub ?_ | refine Mm.p_neg ?_ | refine Mm.p_eq ?_ | refine Mm.p_ne ?_ | refine Mm.p_int ?_ | refine Mm.p_intB ?_ | refine Mm.p_abs ?_ | refine Mm.p_max ?_ | refine Mm.p_min ?_ | refine Mm.p_eqB ?_ | refine Mm.p_eqS ?_ | refine Mm.p_tupL ?_ | refine Mm.p_tupT ?_ | refine Mm.p_lstL ?_ | refine Mm.p_lstT ?_ | refine Mm.p_lenT ?_ | refine Mm.p_lenL ?_ | refine Mm.p_itT ?_ | refine Mm.p_itL ?_ | refine Mm.p_itS ?_ | refine Mm.p_slT ?_ | refine Mm.p_slL ?_ | refine Mm.p_ltS ?_ | refine Mm.p_geS ?_ | refine c_due ?_ | refine c_plan ?_ | refine ⟨_, rfl, ?_⟩) | ((with_reducible apply Mm.w_var); exact rfl) | ((with_reducible apply Mm.w_slot); exact rfl) | ((with_reducible apply Mm.w_bName); exact rfl) | ((with_reducible apply Mm.w_lenL); exact rfl) | ((with_reducible apply Mm.w_lenD); exact rfl) | ((with_reducible apply Mm.p_ixT); exact rfl) | ((with_reducible apply Mm.p_ixL); exact rfl) | ((with_reducible apply Mm.w_bTup); exact rfl) | ((with_reducible apply Mm.w_len); exact rfl) | ((with_reducible apply Mm.w_append); exact rfl) | ((with_reducible apply Mm.w_varO); exact rfl) | ((with_reducible apply Mm.f_nx); exact rfl) | ((with_reducible apply Mm.f_rt); exact rfl) | ((with_reducible apply Mm.f_rn); exact rfl) | ((with_reducible apply Mm.f_rnL); exact rfl) | ((with_reducible refine Mm.k_nx ?_) <;> try (simp only [List.set_cons_succ, List.set_cons_zero, List.set_nil, List.cons_append, List.nil_append, List.take_succ_cons, List.take_zero, List.take_nil, List.replicate_succ, List.replicate_zero, List.length_cons, List.length_nil, List.length_set, Nat.reduceAdd, Nat.reduceSub, Mm.slotArgs, Mm.putArgs, Mm.putArg, Mm.putSlot])) | ((with_reducible apply Mm.w_bName); exact Mm.free_of rfl (by assumption)) | ((with_reducible apply Mm.w_ixC); exact rfl; exact rfl) | ((with_reducible apply Mm.w_bSubC); exact rfl; exact rfl) | ((with_reducible refine ⟨?_, ?_⟩); exact rfl) | ((with_reducible refine ⟨?_, ?_⟩); exact Mm.free_of rfl (by assumption))))
  refine ⟨hf, ?_⟩
  (repeat (first | (with_reducible first | refine Mm.w_c ?_ | refine Mm.w_bin ?_ | refine Mm.w_isi ?_ | refine Mm.w_isi2 ?_ | refine Mm.w_un ?_ | refine Mm.w_test ?_ | refine Mm.w_chain ?_ | refine Mm.w_gAnd ?_ | refine Mm.w_gOr ?_ | refine Mm.w_gNot ?_ | refine Mm.w_yes ?_ | refine Mm.w_and ?_ | refine Mm.w_or ?_ | refine Mm.w_not ?_ | refine Mm.w_if ?_ | refine Mm.w_nil ?_ | refine Mm.w_cons ?_ | refine Mm.w_an ?_ | refine Mm.v_nil ?_ | refine Mm.v_cons ?_ | refine Mm.w_disp ?_ | refine Mm.w_tup ?_ | refine Mm.w_frz ?_ | refine Mm.w_cb ?_ | refine Mm.w_cn ?_ | refine Mm.w_items ?_ | refine Mm.w_range1 ?_ | refine Mm.w_zip ?_ | refine Mm.w_enum ?_ | refine Mm.w_oNone ?_ | refine Mm.w_oSome ?_ | refine Mm.w_slice ?_ | refine Mm.s_nx ?_ | refine Mm.s_seq ?_ | refine Mm.s_asg ?_ | refine Mm.s_setN ?_ | refine Mm.s_ret ?_ | refine Mm.s_retL ?_ | refine Mm.s_expr ?_ | refine Mm.s_if ?_ | refine Mm.s_par ?_ | refine Mm.s_for ?_ | refine Mm.k_rt ?_ | refine Mm.k_rn ?_ | refine Mm.k_bk ?_ | refine Mm.k_ct ?_ | refine Mm.l_nx ?_ | refine Mm.l_rt ?_ | refine Mm.b_t ?_ | refine Mm.b_f ?_ | refine Mm.b_nf ?_ | refine Mm.b_nt ?_ | refine Mm.w_bCons ?_ | refine Mm.w_bNil ?_ | refine Mm.p_gt ?_ | refine Mm.p_lt ?_ | refine Mm.p_ge ?_ | refine Mm.p_le ?_ | refine Mm.p_add ?_ | refine Mm.p_sub ?_ | refine Mm.p_neg ?_ | refine Mm.p_eq ?_ | refine Mm.p_ne ?_ | refine Mm.p_int ?_ | refine Mm.p_intB ?_ | refine Mm.p_abs ?_ | refine Mm.p_max ?_ | refine Mm.p_min ?_ | refine Mm.p_eqB ?_ | refine Mm.p_eqS ?_ | refine Mm.p_tupL ?_ | refine Mm.p_tupT ?_ | refine Mm.p_lstL ?_ | refine Mm.p_lstT ?_ | refine Mm.p_lenT ?_ | refine Mm.p_lenL ?_ | refine Mm.p_itT ?_ | refine Mm.p_itL ?_ | refine Mm.p_itS ?_ | refine Mm.p_slT ?_ | refine Mm.p_slL ?_ | refine Mm.p_ltS ?_ | refine Mm.p_geS ?_ | refine c_due ?_ | refine c_plan ?_ | refine ⟨_, rfl, ?_⟩) | ((with_reducible apply Mm.w_var); exact rfl) | ((with_reducible apply Mm.w_slot); exact rfl) | ((with_reducible apply Mm.w_bName); exact rfl) | ((with_reducible apply Mm.w_lenL); exact rfl) | ((with_reducible apply Mm.w_lenD); exact rfl) | ((with_reducible apply Mm.p_ixT); exact rfl) | ((with_reducible apply Mm.p_ixL); exact rfl) | ((with_reducible apply Mm.w_bTup); exact rfl) | ((with_reducible apply Mm.w_len); exact rfl) | ((with_reducible apply Mm.w_append); exact rfl) | ((with_reducible apply Mm.w_varO); exact rfl) | ((with_reducible apply Mm.f_nx); exact rfl) | ((with_reducible apply Mm.f_rt); exact rfl) | ((with_reducible apply Mm.f_rn); exact rfl) | ((with_reducible apply Mm.f_rnL); exact rfl) | ((with_reducible refine Mm.k_nx ?_) <;> try (simp only [List.set_cons_succ, List.set_cons_zero, List.set_nil, List.cons_append, List.nil_append, List.take_succ_cons, List.take_zero, List.take_nil, List.replicate_succ, List.replicate_zero, List.length_cons, List.length_nil, List.length_set, Nat.reduceAdd, Nat.reduceSub, Mm.slotArgs, Mm.putArgs, Mm.putArg, Mm.putSlot])) | ((with_reducible apply Mm.w_bName); exact Mm.free_of rfl (by assumption)) | ((with_reducible apply Mm.w_ixC); exact rfl; exact rfl) | ((with_reducible apply Mm.w_bSubC); exact rfl; exact rfl) | ((with_reducible refine ⟨?_, ?_⟩); exact rfl) | ((with_reducible refine ⟨?_, ?_⟩); exact Mm.free_of rfl (by assumption))))
  refine ⟨hf, ?_⟩
  (repeat (first | (with_reducible first | refine Mm.w_c ?_ | refine Mm.w_bin ?_ | refine Mm.w_isi ?_ | refine Mm.w_isi2 ?_ | refine Mm.w_un ?_ | refine Mm.w_test ?_ | refine Mm.w_chain ?_ | refine Mm.w_gAnd ?_ | refine Mm.w_gOr ?_ | refine Mm.w_gNot ?_ | refine Mm.w_yes ?_ | refine Mm.w_and ?_ | refine Mm.w_or ?_ | refine Mm.w_not ?_ | refine Mm.w_if ?_ | refine Mm.w_nil ?_ | refine Mm.w_cons ?_ | refine Mm.w_an ?_ | refine Mm.v_nil ?_ | refine Mm.v_cons ?_ | refine Mm.w_disp ?_ | refine Mm.w_tup ?_ | refine Mm.w_frz ?_ | refine Mm.w_cb ?_ | refine Mm.w_cn ?_ | refine Mm.w_items ?_ | refine Mm.w_range1 ?_ | refine Mm.w_zip ?_ | refine Mm.w_enum ?_ | refine Mm.w_oNone ?_ | refine Mm.w_oSome ?_ | refine Mm.w_slice ?_ | refine Mm.s_nx ?_ | refine Mm.s_seq ?_ | refine Mm.s_asg ?_ | refine Mm.s_setN ?_ | refine Mm.s_ret ?_ | refine Mm.s_retL ?_ | refine Mm.s_expr ?_ | refine Mm.s_if ?_ | refine Mm.s_par ?_ | refine Mm.s_for ?_ | refine Mm.k_rt ?_ | refine Mm.k_rn ?_ | refine Mm.k_bk ?_ | refine Mm.k_ct ?_ | refine Mm.l_nx ?_ | refine Mm.l_rt ?_ | refine Mm.b_t ?_ | refine Mm.b_f ?_ | refine Mm.b_nf ?_ | refine Mm.b_nt ?_ | refine Mm.w_bCons ?_ | refine Mm.w_bNil ?_ | refine Mm.p_gt ?_ | refine Mm.p_lt ?_ | refine Mm.p_ge ?_ | refine Mm.p_le ?_ | refine Mm.p_add ?_ | refine Mm.p_sub ?_ | refine Mm.p_neg ?_ | refine Mm.p_eq ?_ | refine Mm.p_ne ?_ | refine Mm.p_int ?_ | refine Mm.p_intB ?_ | refine Mm.p_abs ?_ | refine Mm.p_max ?_ | refine Mm.p_min ?_ | refine Mm.p_eqB ?_ | refine Mm.p_eqS ?_ | refine Mm.p_tupL ?_ | refine Mm.p_tupT ?_ | refine Mm.p_lstL ?_ | refine Mm.p_lstT ?_ | refine Mm.p_lenT ?_ | refine Mm.p_lenL ?_ | refine Mm.p_itT ?_ | refine Mm.p_itL ?_ | refine Mm.p_itS ?_ | refine Mm.p_slT ?_ | refine Mm.p_slL ?_ | refine Mm.p_ltS ?_ | refine Mm.p_geS ?_ | refine c_due ?_ | refine c_plan ?_ | refine ⟨_, rfl, ?_⟩) | ((with_reducible apply Mm.w_var); exact rfl) | ((with_reducible apply Mm.w_slot); exact rfl) | ((with_reducible apply Mm.w_bName); exact rfl) | ((with_reducible apply Mm.w_lenL); exact rfl) | ((with_reducible apply Mm.w_lenD); exact rfl) | ((with_reducible apply Mm.p_ixT); exact rfl) | ((with_reducible apply Mm.p_ixL); exact rfl) | ((with_reducible apply Mm.w_bTup); exact rfl) | ((with_reducible apply Mm.w_len); exact rfl) | ((with_reducible apply Mm.w_append); exact rfl) | ((with_reducible apply Mm.w_varO); exact rfl) | ((with_reducible apply Mm.f_nx); exact rfl) | ((with_reducible apply Mm.f_rt); exact rfl) | ((with_reducible apply Mm.f_rn); exact rfl) | ((with_reducible apply Mm.f_rnL); exact rfl) | ((with_reducible refine Mm.k_nx ?_) <;> try (simp only [List.set_cons_succ, List.set_cons_zero, List.set_nil, List.cons_append, List.nil_append, List.take_succ_cons, List.take_zero, List.take_nil, List.replicate_succ, List.replicate_zero, List.length_cons, List.length_nil, List.length_set, Nat.reduceAdd, Nat.reduceSub, Mm.slotArgs, Mm.putArgs, Mm.putArg, Mm.putSlot])) | ((with_reducible apply Mm.w_bName); exact Mm.free_of rfl (by assumption)) | ((with_reducible apply Mm.w_ixC); exact rfl; exact rfl) | ((with_reducible apply Mm.w_bSubC); exact rfl; exact rfl) | ((with_reducible refine ⟨?_, ?_⟩); exact rfl) | ((with_reducible refine ⟨?_, ?_⟩); exact Mm.free_of rfl (by assumption))))
  refine w_lcm (fun _ => .bool true) ?_
  (repeat (first | (with_reducible first | refine Mm.w_c ?_ | refine Mm.w_bin ?_ | refine Mm.w_isi ?_ | refine Mm.w_isi2 ?_ | refine Mm.w_un ?_ | refine Mm.w_test ?_ | refine Mm.w_chain ?_ | refine Mm.w_gAnd ?_ | refine Mm.w_gOr ?_ | refine Mm.w_gNot ?_ | refine Mm.w_yes ?_ | refine Mm.w_and ?_ | refine Mm.w_or ?_ | refine Mm.w_not ?_ | refine Mm.w_if ?_ | refine Mm.w_nil ?_ | refine Mm.w_cons ?_ | refine Mm.w_an ?_ | refine Mm.v_nil ?_ | refine Mm.v_cons ?_ | refine Mm.w_disp ?_ | refine Mm.w_tup ?_ | refine Mm.w_frz ?_ | refine Mm.w_cb ?_ | refine Mm.w_cn ?_ | refine Mm.w_items ?_ | refine Mm.w_range1 ?_ | refine Mm.w_zip ?_ | refine Mm.w_enum ?_ | refine Mm.w_oNone ?_ | refine Mm.w_oSome ?_ | refine Mm.w_slice ?_ | refine Mm.s_nx ?_ | refine Mm.s_seq ?_ | refine Mm.s_asg ?_ | refine Mm.s_setN ?_ | refine Mm.s_ret ?_ | refine Mm.s_retL ?_ | refine Mm.s_expr ?_ | refine Mm.s_if ?_ | refine Mm.s_par ?_ | refine Mm.s_for ?_ | refine Mm.k_rt ?_ | refine Mm.k_rn ?_ | refine Mm.k_bk ?_ | refine Mm.k_ct ?_ | refine Mm.l_nx ?_ | refine Mm.l_rt ?_ | refine Mm.b_t ?_ | refine Mm.b_f ?_ | refine Mm.b_nf ?_ | refine Mm.b_nt ?_ | refine Mm.w_bCons ?_ | refine Mm.w_bNil ?_ | refine Mm.p_gt ?_ | refine Mm.p_lt ?_ | refine Mm.p_ge ?_ | refine Mm.p_le ?_ | refine Mm.p_add ?_ | refine Mm.p_sub ?_ | refine Mm.p_neg ?_ | refine Mm.p_eq ?_ | refine Mm.p_ne ?_ | refine Mm.p_int ?_ | refine Mm.p_intB ?_ | refine Mm.p_abs ?_ | refine Mm.p_max ?_ | refine Mm.p_min ?_ | refine Mm.p_eqB ?_ | refine Mm.p_eqS ?_ | refine Mm.p_tupL ?_ | refine Mm.p_tupT ?_ | refine Mm.p_lstL ?_ | refine Mm.p_lstT ?_ | refine Mm.p_lenT ?_ | refine Mm.p_lenL ?_ | refine Mm.p_itT ?_ | refine Mm.p_itL ?_ | refine Mm.p_itS ?_ | refine Mm.p_slT ?_ | refine Mm.p_slL ?_ | refine Mm.p_ltS ?_ | refine Mm.p_geS ?_ | refine c_due ?_ | refine c_plan ?_ | refine ⟨_, rfl, ?_⟩) | ((with_reducible apply Mm.w_var); exact rfl) | ((with_reducible apply Mm.w_slot); exact rfl) | ((with_reducible apply Mm.w_bName); exact rfl) | ((with_reducible apply Mm.w_lenL); exact rfl) | ((with_reducible apply Mm.w_lenD); exact rfl) | ((with_reducible apply Mm.p_ixT); exact rfl) | ((with_reducible apply Mm.p_ixL); exact rfl) | ((with_reducible apply Mm.w_bTup); exact rfl) | ((with_reducible apply Mm.w_len); exact rfl) | ((with_reducible apply Mm.w_append); exact rfl) | ((with_reducible apply Mm.w_varO); exact rfl) | ((with_reducible apply Mm.f_nx); exact rfl) | ((with_reducible apply Mm.f_rt); exact rfl) | ((with_reducible apply Mm.f_rn); exact rfl) | ((with_reducible apply Mm.f_rnL); exact rfl) | ((with_reducible refine Mm.k_nx ?_) <;> try (simp only [List.set_cons_succ, List.set_cons_zero, List.set_nil, List.cons_append, List.nil_append, List.take_succ_cons, List.take_zero, List.take_nil, List.replicate_succ, List.replicate_zero, List.length_cons, List.length_nil, List.length_set, Nat.reduceAdd, Nat.reduceSub, Mm.slotArgs, Mm.putArgs, Mm.putArg, Mm.putSlot])) | ((with_reducible apply Mm.w_bName); exact Mm.free_of rfl (by assumption)) | ((with_reducible apply Mm.w_ixC); exact rfl; exact rfl) | ((with_reducible apply Mm.w_bSubC); exact rfl; exact rfl) | ((with_reducible refine ⟨?_, ?_⟩); exact rfl) | ((with_reducible refine ⟨?_, ?_⟩); exact Mm.free_of rfl (by assumption))))
  refine ⟨?_, ?_⟩
  · intro z m
    have e : z = .bool (planB d) := by
      rcases List.mem_cons.mp m with e | m
      · exact e
      · rcases List.mem_cons.mp m with e | m
        · exact e
        · exact absurd m List.not_mem_nil
    rw [e]
    (repeat (first | (with_reducible first | refine Mm.w_c ?_ | refine Mm.w_bin ?_ | refine Mm.w_isi ?_ | refine Mm.w_isi2 ?_ | refine Mm.w_un ?_ | refine Mm.w_test ?_ | refine Mm.w_chain ?_ | refine Mm.w_gAnd ?_ | refine Mm.w_gOr ?_ | refine Mm.w_gNot ?_ | refine Mm.w_yes ?_ | refine Mm.w_and ?_ | refine Mm.w_or ?_ | refine Mm.w_not ?_ | refine Mm.w_if ?_ | refine Mm.w_nil ?_ | refine Mm.w_cons ?_ | refine Mm.w_an ?_ | refine Mm.v_nil ?_ | refine Mm.v_cons ?_ | refine Mm.w_disp ?_ | refine Mm.w_tup ?_ | refine Mm.w_frz ?_ | refine Mm.w_cb ?_ | refine Mm.w_cn ?_ | refine Mm.w_items ?_ | refine Mm.w_range1 ?_ | refine Mm.w_zip ?_ | refine Mm.w_enum ?_ | refine Mm.w_oNone ?_ | refine Mm.w_oSome ?_ | refine Mm.w_slice ?_ | refine Mm.s_nx ?_ | refine Mm.s_seq ?_ | refine Mm.s_asg ?_ | refine Mm.s_setN ?_ | refine Mm.s_ret ?_ | refine Mm.s_retL ?_ | refine Mm.s_expr ?_ | refine Mm.s_if ?_ | refine Mm.s_par ?_ | refine Mm.s_for ?_ | refine Mm.k_rt ?_ | refine Mm.k_rn ?_ | refine Mm.k_bk ?_ | refine Mm.k_ct ?_ | refine Mm.l_nx ?_ | refine Mm.l_rt ?_ | refine Mm.b_t ?_ | refine Mm.b_f ?_ | refine Mm.b_nf ?_ | refine Mm.b_nt ?_ | refine Mm.w_bCons ?_ | refine Mm.w_bNil ?_ | refine Mm.p_gt ?_ | refine Mm.p_lt ?_ | refine Mm.p_ge ?_ | refine Mm.p_le ?_ | refine Mm.p_add ?_ | refine Mm.p_sub ?_ | refine Mm.p_neg ?_ | refine Mm.p_eq ?_ | refine Mm.p_ne ?_ | refine Mm.p_int ?_ | refine Mm.p_intB ?_ | refine Mm.p_abs ?_ | refine Mm.p_max ?_ | refine Mm.p_min ?_ | refine Mm.p_eqB ?_ | refine Mm.p_eqS ?_ | refine Mm.p_tupL ?_ | refine Mm.p_tupT ?_ | refine Mm.p_lstL ?_ | refine Mm.p_lstT ?_ | refine Mm.p_lenT ?_ | refine Mm.p_lenL ?_ | refine Mm.p_itT ?_ | refine Mm.p_itL ?_ | refine Mm.p_itS ?_ | refine Mm.p_slT ?_ | refine Mm.p_slL ?_ | refine Mm.p_ltS ?_ | refine Mm.p_geS ?_ | refine c_due ?_ | refine c_plan ?_ | refine ⟨_, rfl, ?_⟩) | ((with_reducible apply Mm.w_var); exact rfl) | ((with_reducible apply Mm.w_slot); exact rfl) | ((with_reducible apply Mm.w_bName); exact rfl) | ((with_reducible apply Mm.w_lenL); exact rfl) | ((with_reducible apply Mm.w_lenD); exact rfl) | ((with_reducible apply Mm.p_ixT); exact rfl) | ((with_reducible apply Mm.p_ixL); exact rfl) | ((with_reducible apply Mm.w_bTup); exact rfl) | ((with_reducible apply Mm.w_len); exact rfl) | ((with_reducible apply Mm.w_append); exact rfl) | ((with_reducible apply Mm.w_varO); exact rfl) | ((with_reducible apply Mm.f_nx); exact rfl) | ((with_reducible apply Mm.f_rt); exact rfl) | ((with_reducible apply Mm.f_rn); exact rfl) | ((with_reducible apply Mm.f_rnL); exact rfl) | ((with_reducible refine Mm.k_nx ?_) <;> try (simp only [List.set_cons_succ, List.set_cons_zero, List.set_nil, List.cons_append, List.nil_append, List.take_succ_cons, List.take_zero, List.take_nil, List.replicate_succ, List.replicate_zero, List.length_cons, List.length_nil, List.length_set, Nat.reduceAdd, Nat.reduceSub, Mm.slotArgs, Mm.putArgs, Mm.putArg, Mm.putSlot])) | ((with_reducible apply Mm.w_bName); exact Mm.free_of rfl (by assumption)) | ((with_reducible apply Mm.w_ixC); exact rfl; exact rfl) | ((with_reducible apply Mm.w_bSubC); exact rfl; exact rfl) | ((with_reducible refine ⟨?_, ?_⟩); exact rfl) | ((with_reducible refine ⟨?_, ?_⟩); exact Mm.free_of rfl (by assumption))))
    refine b_pos (by simp [isiB]) ?_
    (repeat (first | (with_reducible first | refine Mm.w_c ?_ | refine Mm.w_bin ?_ | refine Mm.w_isi ?_ | refine Mm.w_isi2 ?_ | refine Mm.w_un ?_ | refine Mm.w_test ?_ | refine Mm.w_chain ?_ | refine Mm.w_gAnd ?_ | refine Mm.w_gOr ?_ | refine Mm.w_gNot ?_ | refine Mm.w_yes ?_ | refine Mm.w_and ?_ | refine Mm.w_or ?_ | refine Mm.w_not ?_ | refine Mm.w_if ?_ | refine Mm.w_nil ?_ | refine Mm.w_cons ?_ | refine Mm.w_an ?_ | refine Mm.v_nil ?_ | refine Mm.v_cons ?_ | refine Mm.w_disp ?_ | refine Mm.w_tup ?_ | refine Mm.w_frz ?_ | refine Mm.w_cb ?_ | refine Mm.w_cn ?_ | refine Mm.w_items ?_ | refine Mm.w_range1 ?_ | refine Mm.w_zip ?_ | refine Mm.w_enum ?_ | refine Mm.w_oNone ?_ | refine Mm.w_oSome ?_ | refine Mm.w_slice ?_ | refine Mm.s_nx ?_ | refine Mm.s_seq ?_ | refine Mm.s_asg ?_ | refine Mm.s_setN ?_ | refine Mm.s_ret ?_ | refine Mm.s_retL ?_ | refine Mm.s_expr ?_ | refine Mm.s_if ?_ | refine Mm.s_par ?_ | refine Mm.s_for ?_ | refine Mm.k_rt ?_ | refine Mm.k_rn ?_ | refine Mm.k_bk ?_ | refine Mm.k_ct ?_ | refine Mm.l_nx ?_ | refine Mm.l_rt ?_ | refine Mm.b_t ?_ | refine Mm.b_f ?_ | refine Mm.b_nf ?_ | refine Mm.b_nt ?_ | refine Mm.w_bCons ?_ | refine Mm.w_bNil ?_ | refine Mm.p_gt ?_ | refine Mm.p_lt ?_ | refine Mm.p_ge ?_ | refine Mm.p_le ?_ | refine Mm.p_add ?_ | refine Mm.p_sub ?_ | refine Mm.p_neg ?_ | refine Mm.p_eq ?_ | refine Mm.p_ne ?_ | refine Mm.p_int ?_ | refine Mm.p_intB ?_ | refine Mm.p_abs ?_ | refine Mm.p_max ?_ | refine Mm.p_min ?_ | refine Mm.p_eqB ?_ | refine Mm.p_eqS ?_ | refine Mm.p_tupL ?_ | refine Mm.p_tupT ?_ | refine Mm.p_lstL ?_ | refine Mm.p_lstT ?_ | refine Mm.p_lenT ?_ | refine Mm.p_lenL ?_ | refine Mm.p_itT ?_ | refine Mm.p_itL ?_ | refine Mm.p_itS ?_ | refine Mm.p_slT ?_ | refine Mm.p_slL ?_ | refine Mm.p_ltS ?_ | refine Mm.p_geS ?_ | refine c_due ?_ | refine c_plan ?_ | refine ⟨_, rfl, ?_⟩) | ((with_reducible apply Mm.w_var); exact rfl) | ((with_reducible apply Mm.w_slot); exact rfl) | ((with_reducible apply Mm.w_bName); exact rfl) | ((with_reducible apply Mm.w_lenL); exact rfl) | ((with_reducible apply Mm.w_lenD); exact rfl) | ((with_reducible apply Mm.p_ixT); exact rfl) | ((with_reducible apply Mm.p_ixL); exact rfl) | ((with_reducible apply Mm.w_bTup); exact rfl) | ((with_reducible apply Mm.w_len); exact rfl) | ((with_reducible apply Mm.w_append); exact rfl) | ((with_reducible apply Mm.w_varO); exact rfl) | ((with_reducible apply Mm.f_nx); exact rfl) | ((with_reducible apply Mm.f_rt); exact rfl) | ((with_reducible apply Mm.f_rn); exact rfl) | ((with_reducible apply Mm.f_rnL); exact rfl) | ((with_reducible refine Mm.k_nx ?_) <;> try (simp only [List.set_cons_succ, List.set_cons_zero, List.set_nil, List.cons_append, List.nil_append, List.take_succ_cons, List.take_zero, List.take_nil, List.replicate_succ, List.replicate_zero, List.length_cons, List.length_nil, List.length_set, Nat.reduceAdd, Nat.reduceSub, Mm.slotArgs, Mm.putArgs, Mm.putArg, Mm.putSlot])) | ((with_reducible apply Mm.w_bName); exact Mm.free_of rfl (by assumption)) | ((with_reducible apply Mm.w_ixC); exact rfl; exact rfl) | ((with_reducible apply Mm.w_bSubC); exact rfl; exact rfl) | ((with_reducible refine ⟨?_, ?_⟩); exact rfl) | ((with_reducible refine ⟨?_, ?_⟩); exact Mm.free_of rfl (by assumption))))
    exact ⟨by simp, rfl⟩
  · (repeat (first | (with_reducible first | refine Mm.w_c ?_ | refine Mm.w_bin ?_ | refine Mm.w_isi ?_ | refine Mm.w_isi2 ?_ | refine Mm.w_un ?_ | refine Mm.w_test ?_ | refine Mm.w_chain ?_ | refine Mm.w_gAnd ?_ | refine Mm.w_gOr ?_ | refine Mm.w_gNot ?_ | refine Mm.w_yes ?_ | refine Mm.w_and ?_ | refine Mm.w_or ?_ | refine Mm.w_not ?_ | refine Mm.w_if ?_ | refine Mm.w_nil ?_ | refine Mm.w_cons ?_ | refine Mm.w_an ?_ | refine Mm.v_nil ?_ | refine Mm.v_cons ?_ | refine Mm.w_disp ?_ | refine Mm.w_tup ?_ | refine Mm.w_frz ?_ | refine Mm.w_cb ?_ | refine Mm.w_cn ?_ | refine Mm.w_items ?_ | refine Mm.w_range1 ?_ | refine Mm.w_zip ?_ | refine Mm.w_enum ?_ | refine Mm.w_oNone ?_ | refine Mm.w_oSome ?_ | refine Mm.w_slice ?_ | refine Mm.s_nx ?_ | refine Mm.s_seq ?_ | refine Mm.s_asg ?_ | refine Mm.s_setN ?_ | refine Mm.s_ret ?_ | refine Mm.s_retL ?_ | refine Mm.s_expr ?_ | refine Mm.s_if ?_ | refine Mm.s_par ?_ | refine Mm.s_for ?_ | refine Mm.k_rt ?_ | refine Mm.k_rn ?_ | refine Mm.k_bk ?_ | refine Mm.k_ct ?_ | refine Mm.l_nx ?_ | refine Mm.l_rt ?_ | refine Mm.b_t ?_ | refine Mm.b_f ?_ | refine Mm.b_nf ?_ | refine Mm.b_nt ?_ | refine Mm.w_bCons ?_ | refine Mm.w_bNil ?_ | refine Mm.p_gt ?_ | refine Mm.p_lt ?_ | refine Mm.p_ge ?_ | refine Mm.p_le ?_ | refine Mm.p_add ?_ | refine Mm.p_sub ?_ | refine Mm.p_neg ?_ | refine Mm.p_eq ?_ | refine Mm.p_ne ?_ | refine Mm.p_int ?_ | refine Mm.p_intB ?_ | refine Mm.p_abs ?_ | refine Mm.p_max ?_ | refine Mm.p_min ?_ | refine Mm.p_eqB ?_ | refine Mm.p_eqS ?_ | refine Mm.p_tupL ?_ | refine Mm.p_tupT ?_ | refine Mm.p_lstL ?_ | refine Mm.p_lstT ?_ | refine Mm.p_lenT ?_ | refine Mm.p_lenL ?_ | refine Mm.p_itT ?_ | refine Mm.p_itL ?_ | refine Mm.p_itS ?_ | refine Mm.p_slT ?_ | refine Mm.p_slL ?_ | refine Mm.p_ltS ?_ | refine Mm.p_geS ?_ | refine c_due ?_ | refine c_plan ?_ | refine ⟨_, rfl, ?_⟩) | ((with_reducible apply Mm.w_var); exact rfl) | ((with_reducible apply Mm.w_slot); exact rfl) | ((with_reducible apply Mm.w_bName); exact rfl) | ((with_reducible apply Mm.w_lenL); exact rfl) | ((with_reducible apply Mm.w_lenD); exact rfl) | ((with_reducible apply Mm.p_ixT); exact rfl) | ((with_reducible apply Mm.p_ixL); exact rfl) | ((with_reducible apply Mm.w_bTup); exact rfl) | ((with_reducible apply Mm.w_len); exact rfl) | ((with_reducible apply Mm.w_append); exact rfl) | ((with_reducible apply Mm.w_varO); exact rfl) | ((with_reducible apply Mm.f_nx); exact rfl) | ((with_reducible apply Mm.f_rt); exact rfl) | ((with_reducible apply Mm.f_rn); exact rfl) | ((with_reducible apply Mm.f_rnL); exact rfl) | ((with_reducible refine Mm.k_nx ?_) <;> try (simp only [List.set_cons_succ, List.set_cons_zero, List.set_nil, List.cons_append, List.nil_append, List.take_succ_cons, List.take_zero, List.take_nil, List.replicate_succ, List.replicate_zero, List.length_cons, List.length_nil, List.length_set, Nat.reduceAdd, Nat.reduceSub, Mm.slotArgs, Mm.putArgs, Mm.putArg, Mm.putSlot])) | ((with_reducible apply Mm.w_bName); exact Mm.free_of rfl (by assumption)) | ((with_reducible apply Mm.w_ixC); exact rfl; exact rfl) | ((with_reducible apply Mm.w_bSubC); exact rfl; exact rfl) | ((with_reducible refine ⟨?_, ?_⟩); exact rfl) | ((with_reducible refine ⟨?_, ?_⟩); exact Mm.free_of rfl (by assumption))))
    refine p_all (G := fun _ => true) ?_
    (repeat (first | (with_reducible first | refine Mm.w_c ?_ | refine Mm.w_bin ?_ | refine Mm.w_isi ?_ | refine Mm.w_isi2 ?_ | refine Mm.w_un ?_ | refine Mm.w_test ?_ | refine Mm.w_chain ?_ | refine Mm.w_gAnd ?_ | refine Mm.w_gOr ?_ | refine Mm.w_gNot ?_ | refine Mm.w_yes ?_ | refine Mm.w_and ?_ | refine Mm.w_or ?_ | refine Mm.w_not ?_ | refine Mm.w_if ?_ | refine Mm.w_nil ?_ | refine Mm.w_cons ?_ | refine Mm.w_an ?_ | refine Mm.v_nil ?_ | refine Mm.v_cons ?_ | refine Mm.w_disp ?_ | refine Mm.w_tup ?_ | refine Mm.w_frz ?_ | refine Mm.w_cb ?_ | refine Mm.w_cn ?_ | refine Mm.w_items ?_ | refine Mm.w_range1 ?_ | refine Mm.w_zip ?_ | refine Mm.w_enum ?_ | refine Mm.w_oNone ?_ | refine Mm.w_oSome ?_ | refine Mm.w_slice ?_ | refine Mm.s_nx ?_ | refine Mm.s_seq ?_ | refine Mm.s_asg ?_ | refine Mm.s_setN ?_ | refine Mm.s_ret ?_ | refine Mm.s_retL ?_ | refine Mm.s_expr ?_ | refine Mm.s_if ?_ | refine Mm.s_par ?_ | refine Mm.s_for ?_ | refine Mm.k_rt ?_ | refine Mm.k_rn ?_ | refine Mm.k_bk ?_ | refine Mm.k_ct ?_ | refine Mm.l_nx ?_ | refine Mm.l_rt ?_ | refine Mm.b_t ?_ | refine Mm.b_f ?_ | refine Mm.b_nf ?_ | refine Mm.b_nt ?_ | refine Mm.w_bCons ?_ | refine Mm.w_bNil ?_ | refine Mm.p_gt ?_ | refine Mm.p_lt ?_ | refine Mm.p_ge ?_ | refine Mm.p_le ?_ | refine Mm.p_add ?_ | refine Mm.p_sub ?_ | refine Mm.p_neg ?_ | refine Mm.p_eq ?_ | refine Mm.p_ne ?_ | refine Mm.p_int ?_ | refine Mm.p_intB ?_ | refine Mm.p_abs ?_ | refine Mm.p_max ?_ | refine Mm.p_min ?_ | refine Mm.p_eqB ?_ | refine Mm.p_eqS ?_ | refine Mm.p_tupL ?_ | refine Mm.p_tupT ?_ | refine Mm.p_lstL ?_ | refine Mm.p_lstT ?_ | refine Mm.p_lenT ?_ | refine Mm.p_lenL ?_ | refine Mm.p_itT ?_ | refine Mm.p_itL ?_ | refine Mm.p_itS ?_ | refine Mm.p_slT ?_ | refine Mm.p_slL ?_ | refine Mm.p_ltS ?_ | refine Mm.p_geS ?_ | refine c_due ?_ | refine c_plan ?_ | refine ⟨_, rfl, ?_⟩) | ((with_reducible apply Mm.w_var); exact rfl) | ((with_reducible apply Mm.w_slot); exact rfl) | ((with_reducible apply Mm.w_bName); exact rfl) | ((with_reducible apply Mm.w_lenL); exact rfl) | ((with_reducible apply Mm.w_lenD); exact rfl) | ((with_reducible apply Mm.p_ixT); exact rfl) | ((with_reducible apply Mm.p_ixL); exact rfl) | ((with_reducible apply Mm.w_bTup); exact rfl) | ((with_reducible apply Mm.w_len); exact rfl) | ((with_reducible apply Mm.w_append); exact rfl) | ((with_reducible apply Mm.w_varO); exact rfl) | ((with_reducible apply Mm.f_nx); exact rfl) | ((with_reducible apply Mm.f_rt); exact rfl) | ((with_reducible apply Mm.f_rn); exact rfl) | ((with_reducible apply Mm.f_rnL); exact rfl) | ((with_reducible refine Mm.k_nx ?_) <;> try (simp only [List.set_cons_succ, List.set_cons_zero, List.set_nil, List.cons_append, List.nil_append, List.take_succ_cons, List.take_zero, List.take_nil, List.replicate_succ, List.replicate_zero, List.length_cons, List.length_nil, List.length_set, Nat.reduceAdd, Nat.reduceSub, Mm.slotArgs, Mm.putArgs, Mm.putArg, Mm.putSlot])) | ((with_reducible apply Mm.w_bName); exact Mm.free_of rfl (by assumption)) | ((with_reducible apply Mm.w_ixC); exact rfl; exact rfl) | ((with_reducible apply Mm.w_bSubC); exact rfl; exact rfl) | ((with_reducible refine ⟨?_, ?_⟩); exact rfl) | ((with_reducible refine ⟨?_, ?_⟩); exact Mm.free_of rfl (by assumption))))
    refine b_pos (by simp) ?_
    (repeat (first | (with_reducible first | refine Mm.w_c ?_ | refine Mm.w_bin ?_ | refine Mm.w_isi ?_ | refine Mm.w_isi2 ?_ | refine Mm.w_un ?_ | refine Mm.w_test ?_ | refine Mm.w_chain ?_ | refine Mm.w_gAnd ?_ | refine Mm.w_gOr ?_ | refine Mm.w_gNot ?_ | refine Mm.w_yes ?_ | refine Mm.w_and ?_ | refine Mm.w_or ?_ | refine Mm.w_not ?_ | refine Mm.w_if ?_ | refine Mm.w_nil ?_ | refine Mm.w_cons ?_ | refine Mm.w_an ?_ | refine Mm.v_nil ?_ | refine Mm.v_cons ?_ | refine Mm.w_disp ?_ | refine Mm.w_tup ?_ | refine Mm.w_frz ?_ | refine Mm.w_cb ?_ | refine Mm.w_cn ?_ | refine Mm.w_items ?_ | refine Mm.w_range1 ?_ | refine Mm.w_zip ?_ | refine Mm.w_enum ?_ | refine Mm.w_oNone ?_ | refine Mm.w_oSome ?_ | refine Mm.w_slice ?_ | refine Mm.s_nx ?_ | refine Mm.s_seq ?_ | refine Mm.s_asg ?_ | refine Mm.s_setN ?_ | refine Mm.s_ret ?_ | refine Mm.s_retL ?_ | refine Mm.s_expr ?_ | refine Mm.s_if ?_ | refine Mm.s_par ?_ | refine Mm.s_for ?_ | refine Mm.k_rt ?_ | refine Mm.k_rn ?_ | refine Mm.k_bk ?_ | refine Mm.k_ct ?_ | refine Mm.l_nx ?_ | refine Mm.l_rt ?_ | refine Mm.b_t ?_ | refine Mm.b_f ?_ | refine Mm.b_nf ?_ | refine Mm.b_nt ?_ | refine Mm.w_bCons ?_ | refine Mm.w_bNil ?_ | refine Mm.p_gt ?_ | refine Mm.p_lt ?_ | refine Mm.p_ge ?_ | refine Mm.p_le ?_ | refine Mm.p_add ?_ | refine Mm.p_sub ?_ | refine Mm.p_neg ?_ | refine Mm.p_eq ?_ | refine Mm.p_ne ?_ | refine Mm.p_int ?_ | refine Mm.p_intB ?_ | refine Mm.p_abs ?_ | refine Mm.p_max ?_ | refine Mm.p_min ?_ | refine Mm.p_eqB ?_ | refine Mm.p_eqS ?_ | refine Mm.p_tupL ?_ | refine Mm.p_tupT ?_ | refine Mm.p_lstL ?_ | refine Mm.p_lstT ?_ | refine Mm.p_lenT ?_ | refine Mm.p_lenL ?_ | refine Mm.p_itT ?_ | refine Mm.p_itL ?_ | refine Mm.p_itS ?_ | refine Mm.p_slT ?_ | refine Mm.p_slL ?_ | refine Mm.p_ltS ?_ | refine Mm.p_geS ?_ | refine c_due ?_ | refine c_plan ?_ | refine ⟨_, rfl, ?_⟩) | ((with_reducible apply Mm.w_var); exact rfl) | ((with_reducible apply Mm.w_slot); exact rfl) | ((with_reducible apply Mm.w_bName); exact rfl) | ((with_reducible apply Mm.w_lenL); exact rfl) | ((with_reducible apply Mm.w_lenD); exact rfl) | ((with_reducible apply Mm.p_ixT); exact rfl) | ((with_reducible apply Mm.p_ixL); exact rfl) | ((with_reducible apply Mm.w_bTup); exact rfl) | ((with_reducible apply Mm.w_len); exact rfl) | ((with_reducible apply Mm.w_append); exact rfl) | ((with_reducible apply Mm.w_varO); exact rfl) | ((with_reducible apply Mm.f_nx); exact rfl) | ((with_reducible apply Mm.f_rt); exact rfl) | ((with_reducible apply Mm.f_rn); exact rfl) | ((with_reducible apply Mm.f_rnL); exact rfl) | ((with_reducible refine Mm.k_nx ?_) <;> try (simp only [List.set_cons_succ, List.set_cons_zero, List.set_nil, List.cons_append, List.nil_append, List.take_succ_cons, List.take_zero, List.take_nil, List.replicate_succ, List.replicate_zero, List.length_cons, List.length_nil, List.length_set, Nat.reduceAdd, Nat.reduceSub, Mm.slotArgs, Mm.putArgs, Mm.putArg, Mm.putSlot])) | ((with_reducible apply Mm.w_bName); exact Mm.free_of rfl (by assumption)) | ((with_reducible apply Mm.w_ixC); exact rfl; exact rfl) | ((with_reducible apply Mm.w_bSubC); exact rfl; exact rfl) | ((with_reducible refine ⟨?_, ?_⟩); exact rfl) | ((with_reducible refine ⟨?_, ?_⟩); exact Mm.free_of rfl (by assumption))))
    refine h.repr hb hw hD ?_
    (repeat (first | (with_reducible first | refine Mm.w_c ?_ | refine Mm.w_bin ?_ | refine Mm.w_isi ?_ | refine Mm.w_isi2 ?_ | refine Mm.w_un ?_ | refine Mm.w_test ?_ | refine Mm.w_chain ?_ | refine Mm.w_gAnd ?_ | refine Mm.w_gOr ?_ | refine Mm.w_gNot ?_ | refine Mm.w_yes ?_ | refine Mm.w_and ?_ | refine Mm.w_or ?_ | refine Mm.w_not ?_ | refine Mm.w_if ?_ | refine Mm.w_nil ?_ | refine Mm.w_cons ?_ | refine Mm.w_an ?_ | refine Mm.v_nil ?_ | refine Mm.v_cons ?_ | refine Mm.w_disp ?_ | refine Mm.w_tup ?_ | refine Mm.w_frz ?_ | refine Mm.w_cb ?_ | refine Mm.w_cn ?_ | refine Mm.w_items ?_ | refine Mm.w_range1 ?_ | refine Mm.w_zip ?_ | refine Mm.w_enum ?_ | refine Mm.w_oNone ?_ | refine Mm.w_oSome ?_ | refine Mm.w_slice ?_ | refine Mm.s_nx ?_ | refine Mm.s_seq ?_ | refine Mm.s_asg ?_ | refine Mm.s_setN ?_ | refine Mm.s_ret ?_ | refine Mm.s_retL ?_ | refine Mm.s_expr ?_ | refine Mm.s_if ?_ | refine Mm.s_par ?_ | refine Mm.s_for ?_ | refine Mm.k_rt ?_ | refine Mm.k_rn ?_ | refine Mm.k_bk ?_ | refine Mm.k_ct ?_ | refine Mm.l_nx ?_ | refine Mm.l_rt ?_ | refine Mm.b_t ?_ | refine Mm.b_f ?_ | refine Mm.b_nf ?_ | refine Mm.b_nt ?_ | refine Mm.w_bCons ?_ | refine Mm.w_bNil ?_ | refine Mm.p_gt ?_ | refine Mm.p_lt ?_ | refine Mm.p_ge ?_ | refine Mm.p_le ?_ | refine Mm.p_add ?_ | refine Mm.p_sub ?_ | refine Mm.p_neg ?_ | refine Mm.p_eq ?_ | refine Mm.p_ne ?_ | refine Mm.p_int ?_ | refine Mm.p_intB ?_ | refine Mm.p_abs ?_ | refine Mm.p_max ?_ | refine Mm.p_min ?_ | refine Mm.p_eqB ?_ | refine Mm.p_eqS ?_ | refine Mm.p_tupL ?_ | refine Mm.p_tupT ?_ | refine Mm.p_lstL ?_ | refine Mm.p_lstT ?_ | refine Mm.p_lenT ?_ | refine Mm.p_lenL ?_ | refine Mm.p_itT ?_ | refine Mm.p_itL ?_ | refine Mm.p_itS ?_ | refine Mm.p_slT ?_ | refine Mm.p_slL ?_ | refine Mm.p_ltS ?_ | refine Mm.p_geS ?_ | refine c_due ?_ | refine c_plan ?_ | refine ⟨_, rfl, ?_⟩) | ((with_reducible apply Mm.w_var); exact rfl) | ((with_reducible apply Mm.w_slot); exact rfl) | ((with_reducible apply Mm.w_bName); exact rfl) | ((with_reducible apply Mm.w_lenL); exact rfl) | ((with_reducible apply Mm.w_lenD); exact rfl) | ((with_reducible apply Mm.p_ixT); exact rfl) | ((with_reducible apply Mm.p_ixL); exact rfl) | ((with_reducible apply Mm.w_bTup); exact rfl) | ((with_reducible apply Mm.w_len); exact rfl) | ((with_reducible apply Mm.w_append); exact rfl) | ((with_reducible apply Mm.w_varO); exact rfl) | ((with_reducible apply Mm.f_nx); exact rfl) | ((with_reducible apply Mm.f_rt); exact rfl) | ((with_reducible apply Mm.f_rn); exact rfl) | ((with_reducible apply Mm.f_rnL); exact rfl) | ((with_reducible refine Mm.k_nx ?_) <;> try (simp only [List.set_cons_succ, List.set_cons_zero, List.set_nil, List.cons_append, List.nil_append, List.take_succ_cons, List.take_zero, List.take_nil, List.replicate_succ, List.replicate_zero, List.length_cons, List.length_nil, List.length_set, Nat.reduceAdd, Nat.reduceSub, Mm.slotArgs, Mm.putArgs, Mm.putArg, Mm.putSlot])) | ((with_reducible apply Mm.w_bName); exact Mm.free_of rfl (by assumption)) | ((with_reducible apply Mm.w_ixC); exact rfl; exact rfl) | ((with_reducible apply Mm.w_bSubC); exact rfl; exact rfl) | ((with_reducible refine ⟨?_, ?_⟩); exact rfl) | ((with_reducible refine ⟨?_, ?_⟩); exact Mm.free_of rfl (by assumption))))
    rw [decide_eq_true rfl]
    exact k _
end
end K01

namespace K01
open PySem L2 Mm
local macro_rules
  | `(tactic| decreasing_trivial_pre_omega) => `(tactic| repeat (first | (with_reducible first | refine Mm.w_c ?_ | refine Mm.w_bin ?_ | refine Mm.w_isi ?_ | refine Mm.w_isi2 ?_ | refine Mm.w_un ?_ | refine Mm.w_test ?_ | refine Mm.w_chain ?_ | refine Mm.w_gAnd ?_ | refine Mm.w_gOr ?_ | refine Mm.w_gNot ?_ | refine Mm.w_yes ?_ | refine Mm.w_and ?_ | refine Mm.w_or ?_ | refine Mm.w_not ?_ | refine Mm.w_if ?_ | refine Mm.w_nil ?_ | refine Mm.w_cons ?_ | refine Mm.w_an ?_ | refine Mm.v_nil ?_ | refine Mm.v_cons ?_ | refine Mm.w_disp ?_ | refine Mm.w_tup ?_ | refine Mm.w_frz ?_ | refine Mm.w_cb ?_ | refine Mm.w_cn ?_ | refine Mm.w_items ?_ | refine Mm.w_range1 ?_ | refine Mm.w_zip ?_ | refine Mm.w_enum ?_ | refine Mm.w_oNone ?_ | refine Mm.w_oSome ?_ | refine Mm.w_slice ?_ | refine Mm.s_nx ?_ | refine Mm.s_seq ?_ | refine Mm.s_asg ?_ | refine Mm.s_setN ?_ | refine Mm.s_ret ?_ | refine Mm.s_retL ?_ | refine Mm.s_expr ?_ | refine Mm.s_if ?_ | refine Mm.s_par ?_ | refine Mm.s_for ?_ | refine Mm.k_rt ?_ | refine Mm.k_rn ?_ | refine Mm.k_bk ?_ | refine Mm.k_ct ?_ | refine Mm.l_nx ?_ | refine Mm.l_rt ?_ | refine Mm.b_t ?_ | refine Mm.b_f ?_ | refine Mm.b_nf ?_ | refine Mm.b_nt ?_ | refine Mm.w_bCons ?_ | refine Mm.w_bNil ?_ | refine Mm.p_gt ?_ | refine Mm.p_lt ?_ | refine Mm.p_ge ?_ | refine Mm.p_le ?_ | refine Mm.p_add ?_ | refine Mm.p_sub ?_ | refine Mm.p_neg ?_ | refine Mm.p_eq ?_ | refine Mm.p_ne ?_ | refine Mm.p_int ?_ | refine Mm.p_intB ?_ | refine Mm.p_abs ?_ | refine Mm.p_max ?_ | refine Mm.p_min ?_ | refine Mm.p_eqB ?_ | refine Mm.p_eqS ?_ | refine Mm.p_tupL ?_ | refine Mm.p_tupT ?_ | refine Mm.p_lstL ?_ | refine Mm.p_lstT ?_ | refine Mm.p_lenT ?_ | refine Mm.p_lenL ?_ | refine Mm.p_itT ?_ | refine Mm.p_itL ?_ | refine Mm.p_itS ?_ | refine Mm.p_slT ?_ | refine Mm.p_slL ?_ | refine Mm.p_ltS ?_ | refine Mm.p_geS ?_ | refine c_lnum ?_ | refine ⟨_, rfl, ?_⟩) | ((with_reducible apply Mm.w_var); exact rfl) | ((with_reducible apply Mm.w_slot); exact rfl) | ((with_reducible apply Mm.w_bName); exact rfl) | ((with_reducible apply Mm.w_lenL); exact rfl) | ((with_reducible apply Mm.w_lenD); exact rfl) | ((with_reducible apply Mm.p_ixT); exact rfl) | ((with_reducible apply Mm.p_ixL); exact rfl) | ((with_reducible apply Mm.w_bTup); exact rfl) | ((with_reducible apply Mm.w_len); exact rfl) | ((with_reducible apply Mm.w_append); exact rfl) | ((with_reducible apply Mm.w_varO); exact rfl) | ((with_reducible apply Mm.f_nx); exact rfl) | ((with_reducible apply Mm.f_rt); exact rfl) | ((with_reducible apply Mm.f_rn); exact rfl) | ((with_reducible apply Mm.f_rnL); exact rfl) | ((with_reducible refine Mm.k_nx ?_) <;> try (simp only [List.set_cons_succ, List.set_cons_zero, List.set_nil, List.cons_append, List.nil_append, List.take_succ_cons, List.take_zero, List.take_nil, List.replicate_succ, List.replicate_zero, List.length_cons, List.length_nil, List.length_set, Nat.reduceAdd, Nat.reduceSub, Mm.slotArgs, Mm.putArgs, Mm.putArg, Mm.putSlot])) | ((with_reducible apply Mm.w_bName); exact Mm.free_of rfl (by assumption)) | ((with_reducible apply Mm.w_ixC); exact rfl; exact rfl) | ((with_reducible apply Mm.w_bSubC); exact rfl; exact rfl) | ((with_reducible refine ⟨?_, ?_⟩); exact rfl) | ((with_reducible refine ⟨?_, ?_⟩); exact Mm.free_of rfl (by assumption)) | ((with_reducible apply w_draw); exact rfl)))


section
variable {ρ : Ev} {i : Nat} {f g h : F1} {A : FA} {Q : Dt → Ev → Prop} {d : Dt} {B W D k : Nat} {t : Int × Int × Int}
theorem w_callT {np n : Nat} {s : FS} {m : FM} (hm : m = mOf np n s) (v : isVal ρ[i]? = true)
    (h : V1 A ρ fun ds ρ1 => ρ1.length = ρ.length ∧ ∃ p t, ρ1[i]? = some (tp p t) ∧ E1 (m (tp true t :: ds.map .ro)) fun d ρ2 => ∃ t' rest, ρ2 = tp true t' :: rest ∧ Q d (ρ1.set i (tp p t'))) :
    E1 (fCall m (fASlot i A) ρ) Q := by
  obtain ⟨as, ρ1, e1, ds, e2, hl, p, t, e3, d, ρ2, e4, t', rest, rfl, q⟩ := h
  obtain ⟨h1, h2, h3, h4⟩ := vals_own (ρ := ρ1) e2
  obtain ⟨_, _, _, h5⟩ := vals_own (ρ := ρ1.set i (tp p t')) e2
  have hk : ds.length ≤ rest.length := by
    rw [hm] at e4
    have := mOf_len e4
    simpa using this
  refine w_call (w_slot v ⟨as, ρ1, e1, ?_, tp true t :: ds.map .ro, ?_, d, _, e4, ρ1.set i (tp p t'), ?_, by rw [List.length_set]; exact hl, q⟩)
  · show (ownIx ρ1 (.slot i :: as)).Nodup
    simp only [ownIx, e3, h1]
    simp
  · simp [argSlots, argSlot, e3, slotIn, h2]
  · show backs (.slot i :: as) (tp true t' :: rest) ρ1 = _
    simp only [backs, e3]
    exact h5 rest hk
theorem t_non : Tm B W D .none := ⟨rfl, Nat.zero_le _, Nat.zero_le _⟩
theorem t_bl {b : Bool} : Tm B W D (.bool b) := ⟨rfl, Nat.zero_le _, Nat.zero_le _⟩
theorem t_int {i : Int} (h : i.natAbs ≤ B) : Tm B W D (.int i) := ⟨decide_eq_true h, Nat.zero_le _, Nat.zero_le _⟩
theorem t_str {x : Str} (h : asc x = true) (hl : x.length ≤ W) : Tm B W D (.str x) := ⟨h, hl, Nat.zero_le _⟩
theorem Tm.s {x : Str} (h : Tm B W D (.str x)) : asc x = true ∧ x.length ≤ W := ⟨h.lv, h.bk⟩
theorem Tm.n {x : Int} (h : Tm B W D (.int x)) : x.natAbs ≤ B := of_decide_eq_true h.lv
theorem leaf_ok (hd : Tm B W D d) (hB : B < 10 ^ 11) (hW : W ≤ 90000) (hT : Tok (k + 2) t)
    (q : ∀ d' t' rest, Tm (B + 10 ^ 9) (W + 20) (D + 1) d' → Tok k t' → Q d' (tp true t' :: rest)) :
    E1 (m_law_leaf [tp true t, .ro d]) Q := by
  unfold m_law_leaf g_law_leaf
  refine m_of rfl ?_
  decreasing_trivial_pre_omega
  refine ⟨_, _, _, rfl, rfl, by decide, by decide, hT, fun r t1 r0 r1 hT1 => ?_⟩
  decreasing_trivial_pre_omega
  by_cases h0 : r = 0
  · refine b_pos (by simpa using h0) ?_
    decreasing_trivial_pre_omega
    refine ⟨_, _, _, rfl, rfl, by decide, by decide, hT1, fun r t2 r0 r1 hT2 => ?_⟩
    refine p_ixM ⟨r0, by simpa using r1⟩ ?_
    intro z hz
    decreasing_trivial_pre_omega
    refine q _ t2 _ ?_ hT2
    revert z
    (repeat' (refine List.forall_mem_cons.2 ⟨?_, ?_⟩)) <;> first | (exact fun _ h => absurd h List.not_mem_nil) | (first | exact t_non | exact t_bl | exact t_int (by omega) | exact t_str (by decide) (Nat.le_trans (by decide : _ ≤ 20) (by omega)) | exact t_str (by assumption) (by assumption) | exact t_str (And.left (by assumption)) (by assumption) | exact (Ts.nil (W := 0) (D := 0)).tup.le rfl (by omega) (by omega) | exact (Ts.nil (W := 0) (D := 0)).lst.le rfl (by omega) (by omega) | assumption | exact ((Ts.cons (W := 0) (V := 0) (D := 0) (t_int (by omega)) Ts.nil).tup).le rfl (by omega) (by omega) | exact ((Ts.cons (W := 0) (V := 1) (D := 0) (t_int (by omega)) (Ts.cons (W := 0) (V := 0) (D := 0) (t_int (by omega)) Ts.nil)).tup).le rfl (by omega) (by omega) | exact ((Ts.cons (W := 0) (V := 2) (D := 0) (t_int (by omega)) (Ts.cons (W := 0) (V := 1) (D := 0) (t_int (by omega)) (Ts.cons (W := 0) (V := 0) (D := 0) (t_int (by omega)) Ts.nil))).tup).le rfl (by omega) (by omega) | exact ((Ts.cons (W := 0) (V := 0) (D := 0) (t_int (by omega)) Ts.nil).lst).le rfl (by omega) (by omega) | exact ((Ts.cons (W := 0) (V := 1) (D := 0) (t_int (by omega)) (Ts.cons (W := 0) (V := 0) (D := 0) (t_int (by omega)) Ts.nil)).lst).le rfl (by omega) (by omega) | exact ((Ts.cons (W := 0) (V := 2) (D := 0) (t_int (by omega)) (Ts.cons (W := 0) (V := 1) (D := 0) (t_int (by omega)) (Ts.cons (W := 0) (V := 0) (D := 0) (t_int (by omega)) Ts.nil))).lst).le rfl (by omega) (by omega))
  · refine b_neg (by simpa using h0) ?_
    decreasing_trivial_pre_omega
    have hr : 0 ≤ r - 1 ∧ r - 1 < 7 := by omega
    by_cases h1 : numB d = true
    · refine b_pos h1 ?_
      obtain ⟨a, rfl⟩ := num_int h1
      have ha := hd.n
      decreasing_trivial_pre_omega
      have hlog : a.natAbs.log2 < 1920 := by
        by_cases h0 : a.natAbs = 0
        · rw [h0]; decide
        · have h2 : a.natAbs < 2 ^ 40 := Nat.lt_of_lt_of_le (Nat.lt_of_le_of_lt ha hB) (by decide)
          have := (Nat.log2_lt h0).mpr h2
          omega
      refine p_str hlog ?_
      decreasing_trivial_pre_omega
      refine p_pow (by decide) ?_
      decreasing_trivial_pre_omega
      refine p_ixM hr ?_
      intro z hz
      decreasing_trivial_pre_omega
      refine q _ t1 _ ?_ (hT1.le (by omega))
      revert z
      have hs := asc_int (i := a) (by omega)
      have hs2 : ((toString a : String) : Str).length ≤ W + 20 := by have := hs.2; omega
      have e9 : ((10 : Int) ^ (9 : Int).toNat) = 1000000000 := by decide
      rw [e9]
      (repeat' (refine List.forall_mem_cons.2 ⟨?_, ?_⟩)) <;> first | (exact fun _ h => absurd h List.not_mem_nil) | (first | exact t_non | exact t_bl | exact t_int (by omega) | exact t_str (by decide) (Nat.le_trans (by decide : _ ≤ 20) (by omega)) | exact t_str (by assumption) (by assumption) | exact t_str (And.left (by assumption)) (by assumption) | exact (Ts.nil (W := 0) (D := 0)).tup.le rfl (by omega) (by omega) | exact (Ts.nil (W := 0) (D := 0)).lst.le rfl (by omega) (by omega) | assumption | exact ((Ts.cons (W := 0) (V := 0) (D := 0) (t_int (by omega)) Ts.nil).tup).le rfl (by omega) (by omega) | exact ((Ts.cons (W := 0) (V := 1) (D := 0) (t_int (by omega)) (Ts.cons (W := 0) (V := 0) (D := 0) (t_int (by omega)) Ts.nil)).tup).le rfl (by omega) (by omega) | exact ((Ts.cons (W := 0) (V := 2) (D := 0) (t_int (by omega)) (Ts.cons (W := 0) (V := 1) (D := 0) (t_int (by omega)) (Ts.cons (W := 0) (V := 0) (D := 0) (t_int (by omega)) Ts.nil))).tup).le rfl (by omega) (by omega) | exact ((Ts.cons (W := 0) (V := 0) (D := 0) (t_int (by omega)) Ts.nil).lst).le rfl (by omega) (by omega) | exact ((Ts.cons (W := 0) (V := 1) (D := 0) (t_int (by omega)) (Ts.cons (W := 0) (V := 0) (D := 0) (t_int (by omega)) Ts.nil)).lst).le rfl (by omega) (by omega) | exact ((Ts.cons (W := 0) (V := 2) (D := 0) (t_int (by omega)) (Ts.cons (W := 0) (V := 1) (D := 0) (t_int (by omega)) (Ts.cons (W := 0) (V := 0) (D := 0) (t_int (by omega)) Ts.nil))).lst).le rfl (by omega) (by omega))
    · refine b_neg (by simpa using h1) ?_
      decreasing_trivial_pre_omega
      have e : isiB "str" d = false ∨ ∃ x, d = .str x := by cases d <;> simp [isiB]
      rcases e with e | ⟨x, rfl⟩
      · refine b_neg e ?_
        decreasing_trivial_pre_omega
        refine p_ixM hr ?_
        intro z hz
        decreasing_trivial_pre_omega
        refine q _ t1 _ ?_ (hT1.le (by omega))
        revert z
        (repeat' (refine List.forall_mem_cons.2 ⟨?_, ?_⟩)) <;> first | (exact fun _ h => absurd h List.not_mem_nil) | (first | exact t_non | exact t_bl | exact t_int (by omega) | exact t_str (by decide) (Nat.le_trans (by decide : _ ≤ 20) (by omega)) | exact t_str (by assumption) (by assumption) | exact t_str (And.left (by assumption)) (by assumption) | exact (Ts.nil (W := 0) (D := 0)).tup.le rfl (by omega) (by omega) | exact (Ts.nil (W := 0) (D := 0)).lst.le rfl (by omega) (by omega) | assumption | exact ((Ts.cons (W := 0) (V := 0) (D := 0) (t_int (by omega)) Ts.nil).tup).le rfl (by omega) (by omega) | exact ((Ts.cons (W := 0) (V := 1) (D := 0) (t_int (by omega)) (Ts.cons (W := 0) (V := 0) (D := 0) (t_int (by omega)) Ts.nil)).tup).le rfl (by omega) (by omega) | exact ((Ts.cons (W := 0) (V := 2) (D := 0) (t_int (by omega)) (Ts.cons (W := 0) (V := 1) (D := 0) (t_int (by omega)) (Ts.cons (W := 0) (V := 0) (D := 0) (t_int (by omega)) Ts.nil))).tup).le rfl (by omega) (by omega) | exact ((Ts.cons (W := 0) (V := 0) (D := 0) (t_int (by omega)) Ts.nil).lst).le rfl (by omega) (by omega) | exact ((Ts.cons (W := 0) (V := 1) (D := 0) (t_int (by omega)) (Ts.cons (W := 0) (V := 0) (D := 0) (t_int (by omega)) Ts.nil)).lst).le rfl (by omega) (by omega) | exact ((Ts.cons (W := 0) (V := 2) (D := 0) (t_int (by omega)) (Ts.cons (W := 0) (V := 1) (D := 0) (t_int (by omega)) (Ts.cons (W := 0) (V := 0) (D := 0) (t_int (by omega)) Ts.nil))).lst).le rfl (by omega) (by omega))
      · refine b_pos (by simp [isiB]) ?_
        have hx := hd.s
        have hl := hx.2
        have ea : ("a" : Str).length = 1 := rfl
        have eA : ("A" : Str).length = 1 := rfl
        decreasing_trivial_pre_omega
        refine p_addS (by omega) ?_
        decreasing_trivial_pre_omega
        refine p_slS (by omega) ?_
        decreasing_trivial_pre_omega
        refine p_addS (by omega) ?_
        decreasing_trivial_pre_omega
        refine p_up (by omega) ?_
        decreasing_trivial_pre_omega
        refine p_ixM hr ?_
        intro z hz
        decreasing_trivial_pre_omega
        refine q _ t1 _ ?_ (hT1.le (by omega))
        revert z
        have h1 := asc_app hx.1 (show asc "a" = true by decide)
        have h2 := asc_app (show asc "A" = true by decide) hx.1
        have h3 := asc_cut (some 1) none hx.1
        have h4 := asc_upper hx.1
        have l1 : (x ++ ("a" : Str)).length ≤ W + 20 := by rw [len_app]; omega
        have l2 : (("A" : Str) ++ x).length ≤ W + 20 := by rw [len_app]; omega
        have l3 : (cutS x (some 1) none).length ≤ W + 20 := by omega
        have l4 : (Txt.upper x).length ≤ W + 20 := by omega
        have l5 : Tm (B + 10 ^ 9) (W + 20) (D + 1) (.list [.str x]) := ((Ts.cons (W := W) (V := 0) (D := 0) (t_str hx.1 hl) Ts.nil).lst).le rfl (by omega) (by omega)
        (repeat' (refine List.forall_mem_cons.2 ⟨?_, ?_⟩)) <;> first | (exact fun _ h => absurd h List.not_mem_nil) | (first | exact t_non | exact t_bl | exact t_int (by omega) | exact t_str (by decide) (Nat.le_trans (by decide : _ ≤ 20) (by omega)) | exact t_str (by assumption) (by assumption) | exact t_str (And.left (by assumption)) (by assumption) | exact (Ts.nil (W := 0) (D := 0)).tup.le rfl (by omega) (by omega) | exact (Ts.nil (W := 0) (D := 0)).lst.le rfl (by omega) (by omega) | assumption | exact ((Ts.cons (W := 0) (V := 0) (D := 0) (t_int (by omega)) Ts.nil).tup).le rfl (by omega) (by omega) | exact ((Ts.cons (W := 0) (V := 1) (D := 0) (t_int (by omega)) (Ts.cons (W := 0) (V := 0) (D := 0) (t_int (by omega)) Ts.nil)).tup).le rfl (by omega) (by omega) | exact ((Ts.cons (W := 0) (V := 2) (D := 0) (t_int (by omega)) (Ts.cons (W := 0) (V := 1) (D := 0) (t_int (by omega)) (Ts.cons (W := 0) (V := 0) (D := 0) (t_int (by omega)) Ts.nil))).tup).le rfl (by omega) (by omega) | exact ((Ts.cons (W := 0) (V := 0) (D := 0) (t_int (by omega)) Ts.nil).lst).le rfl (by omega) (by omega) | exact ((Ts.cons (W := 0) (V := 1) (D := 0) (t_int (by omega)) (Ts.cons (W := 0) (V := 0) (D := 0) (t_int (by omega)) Ts.nil)).lst).le rfl (by omega) (by omega) | exact ((Ts.cons (W := 0) (V := 2) (D := 0) (t_int (by omega)) (Ts.cons (W := 0) (V := 1) (D := 0) (t_int (by omega)) (Ts.cons (W := 0) (V := 0) (D := 0) (t_int (by omega)) Ts.nil))).lst).le rfl (by omega) (by omega))
end
end K01

namespace K01
open PySem L2 Mm
local macro_rules
  | `(tactic| decreasing_trivial_pre_omega) => `(tactic| repeat (first | (with_reducible first | refine Mm.w_c ?_ | refine Mm.w_bin ?_ | refine Mm.w_isi ?_ | refine Mm.w_isi2 ?_ | refine Mm.w_un ?_ | refine Mm.w_test ?_ | refine Mm.w_chain ?_ | refine Mm.w_gAnd ?_ | refine Mm.w_gOr ?_ | refine Mm.w_gNot ?_ | refine Mm.w_yes ?_ | refine Mm.w_and ?_ | refine Mm.w_or ?_ | refine Mm.w_not ?_ | refine Mm.w_if ?_ | refine Mm.w_nil ?_ | refine Mm.w_cons ?_ | refine Mm.w_an ?_ | refine Mm.v_nil ?_ | refine Mm.v_cons ?_ | refine Mm.w_disp ?_ | refine Mm.w_tup ?_ | refine Mm.w_frz ?_ | refine Mm.w_cb ?_ | refine Mm.w_cn ?_ | refine Mm.w_items ?_ | refine Mm.w_range1 ?_ | refine Mm.w_zip ?_ | refine Mm.w_enum ?_ | refine Mm.w_oNone ?_ | refine Mm.w_oSome ?_ | refine Mm.w_slice ?_ | refine Mm.s_nx ?_ | refine Mm.s_seq ?_ | refine Mm.s_asg ?_ | refine Mm.s_setN ?_ | refine Mm.s_ret ?_ | refine Mm.s_retL ?_ | refine Mm.s_expr ?_ | refine Mm.s_if ?_ | refine Mm.s_par ?_ | refine Mm.s_for ?_ | refine Mm.k_rt ?_ | refine Mm.k_rn ?_ | refine Mm.k_bk ?_ | refine Mm.k_ct ?_ | refine Mm.l_nx ?_ | refine Mm.l_rt ?_ | refine Mm.b_t ?_ | refine Mm.b_f ?_ | refine Mm.b_nf ?_ | refine Mm.b_nt ?_ | refine Mm.w_bCons ?_ | refine Mm.w_bNil ?_ | refine Mm.p_gt ?_ | refine Mm.p_lt ?_ | refine Mm.p_ge ?_ | refine Mm.p_le ?_ | refine Mm.p_add ?_ | refine Mm.p_sub ?_ | refine Mm.p_neg ?_ | refine Mm.p_eq ?_ | refine Mm.p_ne ?_ | refine Mm.p_int ?_ | refine Mm.p_intB ?_ | refine Mm.p_abs ?_ | refine Mm.p_max ?_ | refine Mm.p_min ?_ | refine Mm.p_eqB ?_ | refine Mm.p_eqS ?_ | refine Mm.p_tupL ?_ | refine Mm.p_tupT ?_ | refine Mm.p_lstL ?_ | refine Mm.p_lstT ?_ | refine Mm.p_lenT ?_ | refine Mm.p_lenL ?_ | refine Mm.p_itT ?_ | refine Mm.p_itL ?_ | refine Mm.p_itS ?_ | refine Mm.p_slT ?_ | refine Mm.p_slL ?_ | refine Mm.p_ltS ?_ | refine Mm.p_geS ?_ | refine c_lnum ?_ | refine ⟨_, rfl, ?_⟩) | ((with_reducible apply Mm.w_var); exact rfl) | ((with_reducible apply Mm.w_slot); exact rfl) | ((with_reducible apply Mm.w_bName); exact rfl) | ((with_reducible apply Mm.w_lenL); exact rfl) | ((with_reducible apply Mm.w_lenD); exact rfl) | ((with_reducible apply Mm.p_ixT); exact rfl) | ((with_reducible apply Mm.p_ixL); exact rfl) | ((with_reducible apply Mm.w_bTup); exact rfl) | ((with_reducible apply Mm.w_len); exact rfl) | ((with_reducible apply Mm.w_append); exact rfl) | ((with_reducible apply Mm.w_varO); exact rfl) | ((with_reducible apply Mm.f_nx); exact rfl) | ((with_reducible apply Mm.f_rt); exact rfl) | ((with_reducible apply Mm.f_rn); exact rfl) | ((with_reducible apply Mm.f_rnL); exact rfl) | ((with_reducible refine Mm.k_nx ?_) <;> try (simp only [List.set_cons_succ, List.set_cons_zero, List.set_nil, List.cons_append, List.nil_append, List.take_succ_cons, List.take_zero, List.take_nil, List.replicate_succ, List.replicate_zero, List.length_cons, List.length_nil, List.length_set, Nat.reduceAdd, Nat.reduceSub, Mm.slotArgs, Mm.putArgs, Mm.putArg, Mm.putSlot])) | ((with_reducible apply Mm.w_bName); exact Mm.free_of rfl (by assumption)) | ((with_reducible apply Mm.w_ixC); exact rfl; exact rfl) | ((with_reducible apply Mm.w_bSubC); exact rfl; exact rfl) | ((with_reducible refine ⟨?_, ?_⟩); exact rfl) | ((with_reducible refine ⟨?_, ?_⟩); exact Mm.free_of rfl (by assumption)) | ((with_reducible apply w_draw); exact rfl)))


theorem Ts.cutD {B W D : Nat} {ds : List Dt} (lo hi : Option Int) (h : Ts B W D ds) : Ts B W D (cutD ds lo hi) := by
  unfold Mm.cutD
  obtain ⟨_, W2, e, _, h2⟩ := Ts.cut (HT.sIx ds.length 0 lo) h
  obtain ⟨W3, _, e3, h3, _⟩ := Ts.cut (HT.sIx ds.length ds.length hi - HT.sIx ds.length 0 lo) h2
  exact h3.le (by omega) (Nat.le_refl _)
section
variable {ρ : Ev} {i : Nat} {f g h : F1} {A : FA} {Q : Dt → Ev → Prop} {d : Dt} {B W D k : Nat} {t : Int × Int × Int}
theorem row_oktup {ds : List Dt} (hd : Tm B W D (.tuple ds)) (hB : 1 ≤ B) (hW : W ≤ 20000) (hT : Tok (k + 3) t)
    (q : ∀ d' t' rest, Tm B (4 * W + 20) (D + 2) d' → Tok k t' → Q d' (tp true t' :: rest)) :
    E1 (m_law_row_bent [tp true t, .ro (.tuple ds)]) Q := by
  unfold m_law_row_bent g_law_row_bent
  refine m_of rfl ?_
  obtain ⟨hs, hD⟩ := hd.untup
  have hl := hs.len
  decreasing_trivial_pre_omega
  refine ⟨_, _, _, rfl, rfl, by omega, by omega, hT, fun r t1 r0 r1 hT1 => ?_⟩
  decreasing_trivial_pre_omega
  refine ⟨_, _, _, rfl, rfl, by omega, by omega, hT1, fun st t2 s0 s1 hT2 => ?_⟩
  decreasing_trivial_pre_omega
  have F := hs.cutD none (some r)
  have He := hs.cutD (some r) (some (r + 1))
  have Bk := hs.cutD (some (r + 1)) none
  have B1 := Bk.cutD none (some 1)
  have B2 := Bk.cutD (some 1) none
  have Fl := F.len
  have Hl := He.len
  have Bl := Bk.len
  have B1l := B1.len
  have B2l := B2.len
  by_cases h5 : st = 5
  · refine b_pos (by simpa using h5) ?_
    decreasing_trivial_pre_omega
    refine b_pos (by simp [isiB]) ?_
    decreasing_trivial_pre_omega
    exact q _ _ _ (hs.lst.le rfl (by omega) (by omega)) (hT2.le (by omega))
  · refine b_neg (by simpa using h5) ?_
    decreasing_trivial_pre_omega
    by_cases h4 : st = 4
    · refine b_pos (by simpa using h4) ?_
      decreasing_trivial_pre_omega
      refine ⟨_, _, _, rfl, rfl, by decide, by decide, hT2, fun x t3 x0 x1 hT3 => ?_⟩
      refine p_ixM ⟨x0, by simpa using x1⟩ ?_
      intro z hz
      have hz' : Tm B 6 1 z := by
        revert z
        (repeat' (refine List.forall_mem_cons.2 ⟨?_, ?_⟩)) <;> first | (exact fun _ h => absurd h List.not_mem_nil) | (first | exact t_non | exact t_bl | exact t_int (by omega) | exact t_str (by decide) (Nat.le_trans (by decide : _ ≤ 20) (by omega)) | exact t_str (by assumption) (by assumption) | exact t_str (And.left (by assumption)) (by assumption) | exact (Ts.nil (W := 0) (D := 0)).tup.le rfl (by omega) (by omega) | exact (Ts.nil (W := 0) (D := 0)).lst.le rfl (by omega) (by omega) | assumption | exact ((Ts.cons (W := 0) (V := 0) (D := 0) (t_int (by omega)) Ts.nil).tup).le rfl (by omega) (by omega) | exact ((Ts.cons (W := 0) (V := 1) (D := 0) (t_int (by omega)) (Ts.cons (W := 0) (V := 0) (D := 0) (t_int (by omega)) Ts.nil)).tup).le rfl (by omega) (by omega) | exact ((Ts.cons (W := 0) (V := 2) (D := 0) (t_int (by omega)) (Ts.cons (W := 0) (V := 1) (D := 0) (t_int (by omega)) (Ts.cons (W := 0) (V := 0) (D := 0) (t_int (by omega)) Ts.nil))).tup).le rfl (by omega) (by omega) | exact ((Ts.cons (W := 0) (V := 0) (D := 0) (t_int (by omega)) Ts.nil).lst).le rfl (by omega) (by omega) | exact ((Ts.cons (W := 0) (V := 1) (D := 0) (t_int (by omega)) (Ts.cons (W := 0) (V := 0) (D := 0) (t_int (by omega)) Ts.nil)).lst).le rfl (by omega) (by omega) | exact ((Ts.cons (W := 0) (V := 2) (D := 0) (t_int (by omega)) (Ts.cons (W := 0) (V := 1) (D := 0) (t_int (by omega)) (Ts.cons (W := 0) (V := 0) (D := 0) (t_int (by omega)) Ts.nil))).lst).le rfl (by omega) (by omega))
      decreasing_trivial_pre_omega
      refine b_pos (by simp [isiB]) ?_
      decreasing_trivial_pre_omega
      have Z : Ts B 7 1 [z] := (Ts.cons hz' (Ts.nil (W := 0))).le (by omega) (by omega)
      have F' := F.le (Nat.le_refl _) (show D - 1 ≤ D + 1 by omega)
      have He' := He.le (Nat.le_refl _) (show D - 1 ≤ D + 1 by omega)
      have Bk' := Bk.le (Nat.le_refl _) (show D - 1 ≤ D + 1 by omega)
      have Z' := Z.le (Nat.le_refl _) (show 1 ≤ D + 1 by omega)
      refine p_addT (by simp only [List.length_append, List.length_cons, List.length_nil]; omega) ?_
      decreasing_trivial_pre_omega
      refine p_addT (by simp only [List.length_append, List.length_cons, List.length_nil]; omega) ?_
      decreasing_trivial_pre_omega
      refine p_addT (by simp only [List.length_append, List.length_cons, List.length_nil]; omega) ?_
      decreasing_trivial_pre_omega
      exact q _ _ _ ((((F'.app Z').app He').app Bk').tup.le rfl (by omega) (by omega)) hT3
    · refine b_neg (by simpa using h4) ?_
      decreasing_trivial_pre_omega
      by_cases h1 : st = 1
      · refine b_pos (by simpa using h1) ?_
        decreasing_trivial_pre_omega
        refine p_addT (by omega) ?_
        decreasing_trivial_pre_omega
        refine p_addT (by simp only [List.length_append]; omega) ?_
        decreasing_trivial_pre_omega
        refine p_addT (by simp only [List.length_append]; omega) ?_
        decreasing_trivial_pre_omega
        exact q _ _ _ ((((F.app He).app He).app Bk).tup.le rfl (by omega) (by omega)) (hT2.le (by omega))
      · refine b_neg (by simpa using h1) ?_
        decreasing_trivial_pre_omega
        refine p_addT (by omega) ?_
        decreasing_trivial_pre_omega
        refine p_addT (by omega) ?_
        decreasing_trivial_pre_omega
        refine p_addT (by simp only [List.length_append]; omega) ?_
        decreasing_trivial_pre_omega
        refine p_addT (by simp only [List.length_append]; omega) ?_
        decreasing_trivial_pre_omega
        refine p_ixM ⟨s0, by simp only [List.length_cons, List.length_nil]; omega⟩ ?_
        intro z hz
        decreasing_trivial_pre_omega
        refine q _ _ _ ?_ (hT2.le (by omega))
        revert z
        (repeat' (refine List.forall_mem_cons.2 ⟨?_, ?_⟩)) <;> first | (exact fun _ h => absurd h List.not_mem_nil) | exact (F.app Bk).tup.le rfl (by omega) (by omega) | exact F.tup.le rfl (by omega) (by omega) | exact (((F.app B1).app He).app B2).tup.le rfl (by omega) (by omega)
theorem row_oklst {ds : List Dt} (hd : Tm B W D (.list ds)) (hB : 1 ≤ B) (hW : W ≤ 20000) (hT : Tok (k + 3) t)
    (q : ∀ d' t' rest, Tm B (4 * W + 20) (D + 2) d' → Tok k t' → Q d' (tp true t' :: rest)) :
    E1 (m_law_row_bent [tp true t, .ro (.list ds)]) Q := by
  unfold m_law_row_bent g_law_row_bent
  refine m_of rfl ?_
  obtain ⟨hs, hD⟩ := hd.unlst
  have hl := hs.len
  decreasing_trivial_pre_omega
  refine ⟨_, _, _, rfl, rfl, by omega, by omega, hT, fun r t1 r0 r1 hT1 => ?_⟩
  decreasing_trivial_pre_omega
  refine ⟨_, _, _, rfl, rfl, by omega, by omega, hT1, fun st t2 s0 s1 hT2 => ?_⟩
  decreasing_trivial_pre_omega
  have F := hs.cutD none (some r)
  have He := hs.cutD (some r) (some (r + 1))
  have Bk := hs.cutD (some (r + 1)) none
  have B1 := Bk.cutD none (some 1)
  have B2 := Bk.cutD (some 1) none
  have Fl := F.len
  have Hl := He.len
  have Bl := Bk.len
  have B1l := B1.len
  have B2l := B2.len
  by_cases h5 : st = 5
  · refine b_pos (by simpa using h5) ?_
    decreasing_trivial_pre_omega
    refine b_neg (by simp [isiB]) ?_
    decreasing_trivial_pre_omega
    exact q _ _ _ (hs.tup.le rfl (by omega) (by omega)) (hT2.le (by omega))
  · refine b_neg (by simpa using h5) ?_
    decreasing_trivial_pre_omega
    by_cases h4 : st = 4
    · refine b_pos (by simpa using h4) ?_
      decreasing_trivial_pre_omega
      refine ⟨_, _, _, rfl, rfl, by decide, by decide, hT2, fun x t3 x0 x1 hT3 => ?_⟩
      refine p_ixM ⟨x0, by simpa using x1⟩ ?_
      intro z hz
      have hz' : Tm B 6 1 z := by
        revert z
        (repeat' (refine List.forall_mem_cons.2 ⟨?_, ?_⟩)) <;> first | (exact fun _ h => absurd h List.not_mem_nil) | (first | exact t_non | exact t_bl | exact t_int (by omega) | exact t_str (by decide) (Nat.le_trans (by decide : _ ≤ 20) (by omega)) | exact t_str (by assumption) (by assumption) | exact t_str (And.left (by assumption)) (by assumption) | exact (Ts.nil (W := 0) (D := 0)).tup.le rfl (by omega) (by omega) | exact (Ts.nil (W := 0) (D := 0)).lst.le rfl (by omega) (by omega) | assumption | exact ((Ts.cons (W := 0) (V := 0) (D := 0) (t_int (by omega)) Ts.nil).tup).le rfl (by omega) (by omega) | exact ((Ts.cons (W := 0) (V := 1) (D := 0) (t_int (by omega)) (Ts.cons (W := 0) (V := 0) (D := 0) (t_int (by omega)) Ts.nil)).tup).le rfl (by omega) (by omega) | exact ((Ts.cons (W := 0) (V := 2) (D := 0) (t_int (by omega)) (Ts.cons (W := 0) (V := 1) (D := 0) (t_int (by omega)) (Ts.cons (W := 0) (V := 0) (D := 0) (t_int (by omega)) Ts.nil))).tup).le rfl (by omega) (by omega) | exact ((Ts.cons (W := 0) (V := 0) (D := 0) (t_int (by omega)) Ts.nil).lst).le rfl (by omega) (by omega) | exact ((Ts.cons (W := 0) (V := 1) (D := 0) (t_int (by omega)) (Ts.cons (W := 0) (V := 0) (D := 0) (t_int (by omega)) Ts.nil)).lst).le rfl (by omega) (by omega) | exact ((Ts.cons (W := 0) (V := 2) (D := 0) (t_int (by omega)) (Ts.cons (W := 0) (V := 1) (D := 0) (t_int (by omega)) (Ts.cons (W := 0) (V := 0) (D := 0) (t_int (by omega)) Ts.nil))).lst).le rfl (by omega) (by omega))
      decreasing_trivial_pre_omega
      refine b_neg (by simp [isiB]) ?_
      decreasing_trivial_pre_omega
      have Z : Ts B 7 1 [z] := (Ts.cons hz' (Ts.nil (W := 0))).le (by omega) (by omega)
      have F' := F.le (Nat.le_refl _) (show D - 1 ≤ D + 1 by omega)
      have He' := He.le (Nat.le_refl _) (show D - 1 ≤ D + 1 by omega)
      have Bk' := Bk.le (Nat.le_refl _) (show D - 1 ≤ D + 1 by omega)
      have Z' := Z.le (Nat.le_refl _) (show 1 ≤ D + 1 by omega)
      refine p_addL (by simp only [List.length_append, List.length_cons, List.length_nil]; omega) ?_
      decreasing_trivial_pre_omega
      refine p_addL (by simp only [List.length_append, List.length_cons, List.length_nil]; omega) ?_
      decreasing_trivial_pre_omega
      refine p_addL (by simp only [List.length_append, List.length_cons, List.length_nil]; omega) ?_
      decreasing_trivial_pre_omega
      exact q _ _ _ ((((F'.app Z').app He').app Bk').lst.le rfl (by omega) (by omega)) hT3
    · refine b_neg (by simpa using h4) ?_
      decreasing_trivial_pre_omega
      by_cases h1 : st = 1
      · refine b_pos (by simpa using h1) ?_
        decreasing_trivial_pre_omega
        refine p_addL (by omega) ?_
        decreasing_trivial_pre_omega
        refine p_addL (by simp only [List.length_append]; omega) ?_
        decreasing_trivial_pre_omega
        refine p_addL (by simp only [List.length_append]; omega) ?_
        decreasing_trivial_pre_omega
        exact q _ _ _ ((((F.app He).app He).app Bk).lst.le rfl (by omega) (by omega)) (hT2.le (by omega))
      · refine b_neg (by simpa using h1) ?_
        decreasing_trivial_pre_omega
        refine p_addL (by omega) ?_
        decreasing_trivial_pre_omega
        refine p_addL (by omega) ?_
        decreasing_trivial_pre_omega
        refine p_addL (by simp only [List.length_append]; omega) ?_
        decreasing_trivial_pre_omega
        refine p_addL (by simp only [List.length_append]; omega) ?_
        decreasing_trivial_pre_omega
        refine p_ixM ⟨s0, by simp only [List.length_cons, List.length_nil]; omega⟩ ?_
        intro z hz
        decreasing_trivial_pre_omega
        refine q _ _ _ ?_ (hT2.le (by omega))
        revert z
        (repeat' (refine List.forall_mem_cons.2 ⟨?_, ?_⟩)) <;> first | (exact fun _ h => absurd h List.not_mem_nil) | exact (F.app Bk).lst.le rfl (by omega) (by omega) | exact F.lst.le rfl (by omega) (by omega) | exact (((F.app B1).app He).app B2).lst.le rfl (by omega) (by omega)
theorem c_leaf (v : isVal ρ[i]? = true) (h : E1 (f ρ) fun d ρ1 => ρ1.length = ρ.length ∧ ∃ p t B W D k, ρ1[i]? = some (tp p t) ∧ Tm B W D d ∧ B < 10 ^ 11 ∧ W ≤ 90000 ∧ Tok (k + 2) t ∧ ∀ d' t', Tm (B + 10 ^ 9) (W + 20) (D + 1) d' → Tok k t' → Q d' (ρ1.set i (tp p t'))) :
    E1 (fCall m_law_leaf (fASlot i (fACons f fANil)) ρ) Q :=
  w_callT (np := 2) (n := 3) (s := g_law_leaf) rfl v (v_cons (h.mono fun d ρ1 ⟨hl, p, t, B, W, D, k, h1, h2, h3, h4, h5, h6⟩ => v_nil ⟨hl, p, t, h1, leaf_ok h2 h3 h4 h5 fun d' t' rest a b => ⟨t', rest, rfl, h6 d' t' a b⟩⟩))
theorem c_row (v : isVal ρ[i]? = true) (h : E1 (f ρ) fun d ρ1 => ρ1.length = ρ.length ∧ ∃ p t B W D k, ρ1[i]? = some (tp p t) ∧ Tm B W D d ∧ ((∃ ds, d = .tuple ds) ∨ ∃ ds, d = .list ds) ∧ 1 ≤ B ∧ W ≤ 20000 ∧ Tok (k + 3) t ∧ ∀ d' t', Tm B (4 * W + 20) (D + 2) d' → Tok k t' → Q d' (ρ1.set i (tp p t'))) :
    E1 (fCall m_law_row_bent (fASlot i (fACons f fANil)) ρ) Q :=
  w_callT (np := 2) (n := 9) (s := g_law_row_bent) rfl v (v_cons (h.mono fun d ρ1 ⟨hl, p, t, B, W, D, k, h1, h2, h3, h4, h5, h6, h7⟩ => v_nil ⟨hl, p, t, h1, by
    rcases h3 with ⟨ds, rfl⟩ | ⟨ds, rfl⟩
    · exact row_oktup h2 h4 h5 h6 fun d' t' rest a b => ⟨t', rest, rfl, h7 d' t' a b⟩
    · exact row_oklst h2 h4 h5 h6 fun d' t' rest a b => ⟨t', rest, rfl, h7 d' t' a b⟩⟩))
end
end K01

namespace K01
open PySem L2 Mm
local macro_rules
  | `(tactic| decreasing_trivial_pre_omega) => `(tactic| repeat (first | (with_reducible first | refine Mm.w_c ?_ | refine Mm.w_bin ?_ | refine Mm.w_isi ?_ | refine Mm.w_isi2 ?_ | refine Mm.w_un ?_ | refine Mm.w_test ?_ | refine Mm.w_chain ?_ | refine Mm.w_gAnd ?_ | refine Mm.w_gOr ?_ | refine Mm.w_gNot ?_ | refine Mm.w_yes ?_ | refine Mm.w_and ?_ | refine Mm.w_or ?_ | refine Mm.w_not ?_ | refine Mm.w_if ?_ | refine Mm.w_nil ?_ | refine Mm.w_cons ?_ | refine Mm.w_an ?_ | refine Mm.v_nil ?_ | refine Mm.v_cons ?_ | refine Mm.w_disp ?_ | refine Mm.w_tup ?_ | refine Mm.w_frz ?_ | refine Mm.w_cb ?_ | refine Mm.w_cn ?_ | refine Mm.w_items ?_ | refine Mm.w_range1 ?_ | refine Mm.w_zip ?_ | refine Mm.w_enum ?_ | refine Mm.w_oNone ?_ | refine Mm.w_oSome ?_ | refine Mm.w_slice ?_ | refine Mm.s_nx ?_ | refine Mm.s_seq ?_ | refine Mm.s_asg ?_ | refine Mm.s_setN ?_ | refine Mm.s_ret ?_ | refine Mm.s_retL ?_ | refine Mm.s_expr ?_ | refine Mm.s_if ?_ | refine Mm.s_par ?_ | refine Mm.s_for ?_ | refine Mm.k_rt ?_ | refine Mm.k_rn ?_ | refine Mm.k_bk ?_ | refine Mm.k_ct ?_ | refine Mm.l_nx ?_ | refine Mm.l_rt ?_ | refine Mm.b_t ?_ | refine Mm.b_f ?_ | refine Mm.b_nf ?_ | refine Mm.b_nt ?_ | refine Mm.w_bCons ?_ | refine Mm.w_bNil ?_ | refine Mm.p_gt ?_ | refine Mm.p_lt ?_ | refine Mm.p_ge ?_ | refine Mm.p_le ?_ | refine Mm.p_add ?_ | refine Mm.p_sub ?_ | refine Mm.p_neg ?_ | refine Mm.p_eq ?_ | refine Mm.p_ne ?_ | refine Mm.p_int ?_ | refine Mm.p_intB ?_ | refine Mm.p_abs ?_ | refine Mm.p_max ?_ | refine Mm.p_min ?_ | refine Mm.p_eqB ?_ | refine Mm.p_eqS ?_ | refine Mm.p_tupL ?_ | refine Mm.p_tupT ?_ | refine Mm.p_lstL ?_ | refine Mm.p_lstT ?_ | refine Mm.p_lenT ?_ | refine Mm.p_lenL ?_ | refine Mm.p_itT ?_ | refine Mm.p_itL ?_ | refine Mm.p_itS ?_ | refine Mm.p_slT ?_ | refine Mm.p_slL ?_ | refine Mm.p_ltS ?_ | refine Mm.p_geS ?_ | refine c_lnum ?_ | refine ⟨_, rfl, ?_⟩) | ((with_reducible apply Mm.w_var); exact rfl) | ((with_reducible apply Mm.w_slot); exact rfl) | ((with_reducible apply Mm.w_bName); exact rfl) | ((with_reducible apply Mm.w_lenL); exact rfl) | ((with_reducible apply Mm.w_lenD); exact rfl) | ((with_reducible apply Mm.p_ixT); exact rfl) | ((with_reducible apply Mm.p_ixL); exact rfl) | ((with_reducible apply Mm.w_bTup); exact rfl) | ((with_reducible apply Mm.w_len); exact rfl) | ((with_reducible apply Mm.w_append); exact rfl) | ((with_reducible apply Mm.w_varO); exact rfl) | ((with_reducible apply Mm.f_nx); exact rfl) | ((with_reducible apply Mm.f_rt); exact rfl) | ((with_reducible apply Mm.f_rn); exact rfl) | ((with_reducible apply Mm.f_rnL); exact rfl) | ((with_reducible refine Mm.k_nx ?_) <;> try (simp only [List.set_cons_succ, List.set_cons_zero, List.set_nil, List.cons_append, List.nil_append, List.take_succ_cons, List.take_zero, List.take_nil, List.replicate_succ, List.replicate_zero, List.length_cons, List.length_nil, List.length_set, Nat.reduceAdd, Nat.reduceSub, Mm.slotArgs, Mm.putArgs, Mm.putArg, Mm.putSlot])) | ((with_reducible apply Mm.w_bName); exact Mm.free_of rfl (by assumption)) | ((with_reducible apply Mm.w_ixC); exact rfl; exact rfl) | ((with_reducible apply Mm.w_bSubC); exact rfl; exact rfl) | ((with_reducible refine ⟨?_, ?_⟩); exact rfl) | ((with_reducible refine ⟨?_, ?_⟩); exact Mm.free_of rfl (by assumption)) | ((with_reducible apply w_draw); exact rfl)))


theorem leaf_shape (d : Dt) : (∃ ds, d = .tuple ds) ∨ (∃ ds, d = .list ds) ∨ (isiB "tuple" d || isiB "list" d) = false := by
  cases d <;> first | exact .inl ⟨_, rfl⟩ | exact .inr (.inl ⟨_, rfl⟩) | exact .inr (.inr (by simp [isiB]))
theorem isi2T {ds : List Dt} : (isiB "tuple" (.tuple ds) || isiB "list" (.tuple ds)) = true := by simp [isiB]
theorem isi2L {ds : List Dt} : (isiB "tuple" (.list ds) || isiB "list" (.list ds)) = true := by simp [isiB]
section
variable {ρ : Ev} {i : Nat} {f g h : F1} {A : FA} {B k : Nat}
theorem bent_ok (hB : 1 ≤ B) (hB' : B < 10 ^ 11) : ∀ (n deep : Nat), deep < n → ∀ {Q : Dt → Ev → Prop} {d : Dt} {W D : Nat} {t : Int × Int × Int}, Tm B W D d → W ≤ 20000 → Tok (k + 5 * (deep + 1)) t →
    (∀ d' t' rest, Tm (B + 10 ^ 9) (4 * W + 20 + (2 * W + 1) * deep) (D + 2) d' → Tok k t' → Q d' (tp true t' :: rest)) →
    E1 (m_law_bent n [tp true t, .ro d, .ro (.int deep)]) Q := by
  intro n
  induction n with
  | zero => exact fun deep h => absurd h (Nat.not_lt_zero _)
  | succ n ih =>
    intro deep hdn Q d W D t hd hW hT q
    have q2 : ∀ d' t' rest, Tm B (4 * W + 20) (D + 2) d' → Tok k t' → Q d' (tp true t' :: rest) := fun d' t' rest a b => q d' t' rest (a.up (Nat.le_add_right ..) (Nat.le_add_right ..) (Nat.le_refl _)) b
    unfold m_law_bent g_law_bent
    refine m_of rfl ?_
    decreasing_trivial_pre_omega
    rcases leaf_shape d with ⟨ds, rfl⟩ | ⟨ds, rfl⟩ | e
    · obtain ⟨hs, hD⟩ := hd.untup
      have hl := hs.len
      refine b_neg (by rw [isi2T]; rfl) ?_
      decreasing_trivial_pre_omega
      by_cases h0 : ds.length = 0
      · refine b_pos (by simpa using h0) ?_
        decreasing_trivial_pre_omega
        refine c_row rfl ?_
        decreasing_trivial_pre_omega
        refine ⟨_, _, B, W, D, k, rfl, hd, .inl ⟨_, rfl⟩, hB, hW, hT.le (by omega), fun d' t' a b => ?_⟩
        decreasing_trivial_pre_omega
        exact q2 _ _ _ a b
      · refine b_neg (by simpa using h0) ?_
        decreasing_trivial_pre_omega
        by_cases h1 : (deep : Int) = 0
        · refine b_pos (by simpa using h1) ?_
          decreasing_trivial_pre_omega
          refine c_row rfl ?_
          decreasing_trivial_pre_omega
          refine ⟨_, _, B, W, D, k, rfl, hd, .inl ⟨_, rfl⟩, hB, hW, hT.le (by omega), fun d' t' a b => ?_⟩
          decreasing_trivial_pre_omega
          exact q2 _ _ _ a b
        · refine b_neg (by simpa using h1) ?_
          obtain ⟨dp, rfl⟩ : ∃ dp, deep = dp + 1 := ⟨deep - 1, by omega⟩
          decreasing_trivial_pre_omega
          refine ⟨_, _, _, rfl, rfl, by decide, by decide, (show Tok (k + 9 + 5 * dp + 1) t from hT.le (by omega)), fun r t1 r0 r1 hT1 => ?_⟩
          decreasing_trivial_pre_omega
          by_cases h2 : r = 0
          · refine b_pos (by simpa using h2) ?_
            decreasing_trivial_pre_omega
            refine c_row rfl ?_
            decreasing_trivial_pre_omega
            refine ⟨_, _, B, W, D, k, rfl, hd, .inl ⟨_, rfl⟩, hB, hW, hT1.le (by omega), fun d' t' a b => ?_⟩
            decreasing_trivial_pre_omega
            exact q2 _ _ _ a b
          · refine b_neg (by simpa using h2) ?_
            decreasing_trivial_pre_omega
            refine ⟨_, _, _, rfl, rfl, by decide, by decide, (show Tok (k + 8 + 5 * dp + 1 - 1 + 1) t1 from hT1.le (by omega)), fun s t2 s0 s1 hT2 => ?_⟩
            decreasing_trivial_pre_omega
            have fin : ∀ (at_ : Int) (t3 : Int × Int × Int), 0 ≤ at_ → at_ < ds.length → Tok (k + 5 * (dp + 1)) t3 → E1 (fCall (m_law_bent n) (fASlot 0 (fACons (fBin dIx (fVar 1) (fVar 3)) (fACons (fBin dSub (fVar 2) (fC (.int 1))) fANil))) [tp true t3, .ro (.tuple ds), .ro (.int ((dp + 1 : Nat) : Int)), .ro (.int at_), .no]) (fun d ρ1 => Ok (bName 4 d ρ1) fun ρ2 => SeqK (fun ρ1 => Ok
  (gRet (fBin dAdd (fBin dAdd (fSlice (fVar 1) oNone (oSome (fVar 3))) (fIf (fTest (fIsi "tuple" (fVar 1))) (fTup (fACons (fVar 4) fANil)) (fFrz (fDisp (fACons (fVar 4) fANil))))) (fSlice (fVar 1) (oSome (fBin dAdd (fVar 3) (fC (.int 1)))) oNone)) ρ1) (FinK [tp true t, .ro (.tuple ds), .ro (.int ((dp + 1 : Nat) : Int))] Q)) (FinK [tp true t, .ro (.tuple ds), .ro (.int ((dp + 1 : Nat) : Int))] Q) (Out.nx ρ2)) := by
              intro at_ t3 a0 a1 hT3
              obtain ⟨n', rfl⟩ : ∃ n', n = n' + 1 := ⟨n - 1, by omega⟩
              decreasing_trivial_pre_omega
              refine w_callT (np := 3) (n := 5) (s := g_law_bent (m_law_bent n')) rfl rfl ?_
              decreasing_trivial_pre_omega
              refine p_ixM ⟨a0, a1⟩ ?_
              intro x hx
              have hx' := (hs.mem hx)
              decreasing_trivial_pre_omega
              refine ⟨_, _, rfl, ?_⟩
              show E1 (m_law_bent (n' + 1) [tp true t3, .ro x, .ro (.int (((dp + 1 : Nat) : Int) - 1))]) _
              rw [show (((dp + 1 : Nat) : Int) - 1) = (dp : Int) by omega]
              refine ih dp (by omega) hx' (by omega) hT3 ?_
              intro x2 t4 rest hx2 hT4
              refine ⟨t4, rest, rfl, ?_⟩
              decreasing_trivial_pre_omega
              have F := hs.cutD none (some at_)
              have Bk := hs.cutD (some (at_ + 1)) none
              have Fl := F.len
              have Bl := Bk.len
              refine b_pos (by simp [isiB]) ?_
              decreasing_trivial_pre_omega
              have F' := F.up (Nat.le_add_right B (10 ^ 9)) (Nat.le_refl _) (show D - 1 ≤ D + 1 by omega)
              have Bk' := Bk.up (Nat.le_add_right B (10 ^ 9)) (Nat.le_refl _) (show D - 1 ≤ D + 1 by omega)
              have Z := Ts.cons (hx2.le rfl (Nat.le_refl _) (show D - 1 + 2 ≤ D + 1 by omega)) (Ts.nil (W := 0))
              have h8 : (4 * (W - 1) + 20 + (2 * (W - 1) + 1) * dp) + 1 + 2 * W ≤ 4 * W + 20 + (2 * W + 1) * (dp + 1) := by
                have : (2 * (W - 1) + 1) * dp ≤ (2 * W + 1) * dp := Nat.mul_le_mul_right _ (by omega)
                rw [Nat.mul_add]
                omega
              refine p_addT (by simp only [List.length_append, List.length_cons, List.length_nil]; omega) ?_
              decreasing_trivial_pre_omega
              refine p_addT (by simp only [List.length_append, List.length_cons, List.length_nil]; omega) ?_
              decreasing_trivial_pre_omega
              exact q _ _ _ (((F'.app Z).app Bk').tup.le rfl (by omega) (by omega)) hT4
            by_cases h3 : s = 0
            · refine b_pos (by simpa using h3) ?_
              decreasing_trivial_pre_omega
              exact fin _ _ (by omega) (by omega) (hT2.le (by omega))
            · refine b_neg (by simpa using h3) ?_
              decreasing_trivial_pre_omega
              refine ⟨_, _, _, rfl, rfl, by omega, by omega, (show Tok (k + 5 * (dp + 1) + 1) t2 from hT2.le (by omega)), fun a t3 a0 a1 hT3 => ?_⟩
              decreasing_trivial_pre_omega
              exact fin _ _ a0 a1 hT3
    · obtain ⟨hs, hD⟩ := hd.unlst
      have hl := hs.len
      refine b_neg (by rw [isi2L]; rfl) ?_
      decreasing_trivial_pre_omega
      by_cases h0 : ds.length = 0
      · refine b_pos (by simpa using h0) ?_
        decreasing_trivial_pre_omega
        refine c_row rfl ?_
        decreasing_trivial_pre_omega
        refine ⟨_, _, B, W, D, k, rfl, hd, .inr ⟨_, rfl⟩, hB, hW, hT.le (by omega), fun d' t' a b => ?_⟩
        decreasing_trivial_pre_omega
        exact q2 _ _ _ a b
      · refine b_neg (by simpa using h0) ?_
        decreasing_trivial_pre_omega
        by_cases h1 : (deep : Int) = 0
        · refine b_pos (by simpa using h1) ?_
          decreasing_trivial_pre_omega
          refine c_row rfl ?_
          decreasing_trivial_pre_omega
          refine ⟨_, _, B, W, D, k, rfl, hd, .inr ⟨_, rfl⟩, hB, hW, hT.le (by omega), fun d' t' a b => ?_⟩
          decreasing_trivial_pre_omega
          exact q2 _ _ _ a b
        · refine b_neg (by simpa using h1) ?_
          obtain ⟨dp, rfl⟩ : ∃ dp, deep = dp + 1 := ⟨deep - 1, by omega⟩
          decreasing_trivial_pre_omega
          refine ⟨_, _, _, rfl, rfl, by decide, by decide, (show Tok (k + 9 + 5 * dp + 1) t from hT.le (by omega)), fun r t1 r0 r1 hT1 => ?_⟩
          decreasing_trivial_pre_omega
          by_cases h2 : r = 0
          · refine b_pos (by simpa using h2) ?_
            decreasing_trivial_pre_omega
            refine c_row rfl ?_
            decreasing_trivial_pre_omega
            refine ⟨_, _, B, W, D, k, rfl, hd, .inr ⟨_, rfl⟩, hB, hW, hT1.le (by omega), fun d' t' a b => ?_⟩
            decreasing_trivial_pre_omega
            exact q2 _ _ _ a b
          · refine b_neg (by simpa using h2) ?_
            decreasing_trivial_pre_omega
            refine ⟨_, _, _, rfl, rfl, by decide, by decide, (show Tok (k + 8 + 5 * dp + 1 - 1 + 1) t1 from hT1.le (by omega)), fun s t2 s0 s1 hT2 => ?_⟩
            decreasing_trivial_pre_omega
            have fin : ∀ (at_ : Int) (t3 : Int × Int × Int), 0 ≤ at_ → at_ < ds.length → Tok (k + 5 * (dp + 1)) t3 → E1 (fCall (m_law_bent n) (fASlot 0 (fACons (fBin dIx (fVar 1) (fVar 3)) (fACons (fBin dSub (fVar 2) (fC (.int 1))) fANil))) [tp true t3, .ro (.list ds), .ro (.int ((dp + 1 : Nat) : Int)), .ro (.int at_), .no]) (fun d ρ1 => Ok (bName 4 d ρ1) fun ρ2 => SeqK (fun ρ1 => Ok
  (gRet (fBin dAdd (fBin dAdd (fSlice (fVar 1) oNone (oSome (fVar 3))) (fIf (fTest (fIsi "tuple" (fVar 1))) (fTup (fACons (fVar 4) fANil)) (fFrz (fDisp (fACons (fVar 4) fANil))))) (fSlice (fVar 1) (oSome (fBin dAdd (fVar 3) (fC (.int 1)))) oNone)) ρ1) (FinK [tp true t, .ro (.list ds), .ro (.int ((dp + 1 : Nat) : Int))] Q)) (FinK [tp true t, .ro (.list ds), .ro (.int ((dp + 1 : Nat) : Int))] Q) (Out.nx ρ2)) := by
              intro at_ t3 a0 a1 hT3
              obtain ⟨n', rfl⟩ : ∃ n', n = n' + 1 := ⟨n - 1, by omega⟩
              decreasing_trivial_pre_omega
              refine w_callT (np := 3) (n := 5) (s := g_law_bent (m_law_bent n')) rfl rfl ?_
              decreasing_trivial_pre_omega
              refine p_ixM ⟨a0, a1⟩ ?_
              intro x hx
              have hx' := (hs.mem hx)
              decreasing_trivial_pre_omega
              refine ⟨_, _, rfl, ?_⟩
              show E1 (m_law_bent (n' + 1) [tp true t3, .ro x, .ro (.int (((dp + 1 : Nat) : Int) - 1))]) _
              rw [show (((dp + 1 : Nat) : Int) - 1) = (dp : Int) by omega]
              refine ih dp (by omega) hx' (by omega) hT3 ?_
              intro x2 t4 rest hx2 hT4
              refine ⟨t4, rest, rfl, ?_⟩
              decreasing_trivial_pre_omega
              have F := hs.cutD none (some at_)
              have Bk := hs.cutD (some (at_ + 1)) none
              have Fl := F.len
              have Bl := Bk.len
              refine b_neg (by simp [isiB]) ?_
              decreasing_trivial_pre_omega
              have F' := F.up (Nat.le_add_right B (10 ^ 9)) (Nat.le_refl _) (show D - 1 ≤ D + 1 by omega)
              have Bk' := Bk.up (Nat.le_add_right B (10 ^ 9)) (Nat.le_refl _) (show D - 1 ≤ D + 1 by omega)
              have Z := Ts.cons (hx2.le rfl (Nat.le_refl _) (show D - 1 + 2 ≤ D + 1 by omega)) (Ts.nil (W := 0))
              have h8 : (4 * (W - 1) + 20 + (2 * (W - 1) + 1) * dp) + 1 + 2 * W ≤ 4 * W + 20 + (2 * W + 1) * (dp + 1) := by
                have : (2 * (W - 1) + 1) * dp ≤ (2 * W + 1) * dp := Nat.mul_le_mul_right _ (by omega)
                rw [Nat.mul_add]
                omega
              refine p_addL (by simp only [List.length_append, List.length_cons, List.length_nil]; omega) ?_
              decreasing_trivial_pre_omega
              refine p_addL (by simp only [List.length_append, List.length_cons, List.length_nil]; omega) ?_
              decreasing_trivial_pre_omega
              exact q _ _ _ (((F'.app Z).app Bk').lst.le rfl (by omega) (by omega)) hT4
            by_cases h3 : s = 0
            · refine b_pos (by simpa using h3) ?_
              decreasing_trivial_pre_omega
              exact fin _ _ (by omega) (by omega) (hT2.le (by omega))
            · refine b_neg (by simpa using h3) ?_
              decreasing_trivial_pre_omega
              refine ⟨_, _, _, rfl, rfl, by omega, by omega, (show Tok (k + 5 * (dp + 1) + 1) t2 from hT2.le (by omega)), fun a t3 a0 a1 hT3 => ?_⟩
              decreasing_trivial_pre_omega
              exact fin _ _ a0 a1 hT3
    · refine b_pos (by rw [e]; rfl) ?_
      decreasing_trivial_pre_omega
      refine c_leaf rfl ?_
      decreasing_trivial_pre_omega
      refine ⟨_, _, B, W, D, k, rfl, hd, hB', by omega, hT.le (by omega), fun d' t' a b => ?_⟩
      decreasing_trivial_pre_omega
      exact q _ _ _ (a.up (Nat.le_refl _) (by omega) (by omega)) b
end
end K01

namespace K01
open PySem L2 Mm
local macro_rules
  | `(tactic| decreasing_trivial_pre_omega) => `(tactic| repeat (first | (with_reducible first | refine Mm.w_c ?_ | refine Mm.w_bin ?_ | refine Mm.w_isi ?_ | refine Mm.w_isi2 ?_ | refine Mm.w_un ?_ | refine Mm.w_test ?_ | refine Mm.w_chain ?_ | refine Mm.w_gAnd ?_ | refine Mm.w_gOr ?_ | refine Mm.w_gNot ?_ | refine Mm.w_yes ?_ | refine Mm.w_and ?_ | refine Mm.w_or ?_ | refine Mm.w_not ?_ | refine Mm.w_if ?_ | refine Mm.w_nil ?_ | refine Mm.w_cons ?_ | refine Mm.w_an ?_ | refine Mm.v_nil ?_ | refine Mm.v_cons ?_ | refine Mm.w_disp ?_ | refine Mm.w_tup ?_ | refine Mm.w_frz ?_ | refine Mm.w_cb ?_ | refine Mm.w_cn ?_ | refine Mm.w_items ?_ | refine Mm.w_range1 ?_ | refine Mm.w_zip ?_ | refine Mm.w_enum ?_ | refine Mm.w_oNone ?_ | refine Mm.w_oSome ?_ | refine Mm.w_slice ?_ | refine Mm.s_nx ?_ | refine Mm.s_seq ?_ | refine Mm.s_asg ?_ | refine Mm.s_setN ?_ | refine Mm.s_ret ?_ | refine Mm.s_retL ?_ | refine Mm.s_expr ?_ | refine Mm.s_if ?_ | refine Mm.s_par ?_ | refine Mm.s_for ?_ | refine Mm.k_rt ?_ | refine Mm.k_rn ?_ | refine Mm.k_bk ?_ | refine Mm.k_ct ?_ | refine Mm.l_nx ?_ | refine Mm.l_rt ?_ | refine Mm.b_t ?_ | refine Mm.b_f ?_ | refine Mm.b_nf ?_ | refine Mm.b_nt ?_ | refine Mm.w_bCons ?_ | refine Mm.w_bNil ?_ | refine Mm.p_gt ?_ | refine Mm.p_lt ?_ | refine Mm.p_ge ?_ | refine Mm.p_le ?_ | refine Mm.p_add ?_ | refine Mm.p_sub ?_ | refine Mm.p_neg ?_ | refine Mm.p_eq ?_ | refine Mm.p_ne ?_ | refine Mm.p_int ?_ | refine Mm.p_intB ?_ | refine Mm.p_abs ?_ | refine Mm.p_max ?_ | refine Mm.p_min ?_ | refine Mm.p_eqB ?_ | refine Mm.p_eqS ?_ | refine Mm.p_tupL ?_ | refine Mm.p_tupT ?_ | refine Mm.p_lstL ?_ | refine Mm.p_lstT ?_ | refine Mm.p_lenT ?_ | refine Mm.p_lenL ?_ | refine Mm.p_itT ?_ | refine Mm.p_itL ?_ | refine Mm.p_itS ?_ | refine Mm.p_slT ?_ | refine Mm.p_slL ?_ | refine Mm.p_ltS ?_ | refine Mm.p_geS ?_ | refine c_lnum ?_ | refine ⟨_, rfl, ?_⟩) | ((with_reducible apply Mm.w_var); exact rfl) | ((with_reducible apply Mm.w_slot); exact rfl) | ((with_reducible apply Mm.w_bName); exact rfl) | ((with_reducible apply Mm.w_lenL); exact rfl) | ((with_reducible apply Mm.w_lenD); exact rfl) | ((with_reducible apply Mm.p_ixT); exact rfl) | ((with_reducible apply Mm.p_ixL); exact rfl) | ((with_reducible apply Mm.w_bTup); exact rfl) | ((with_reducible apply Mm.w_len); exact rfl) | ((with_reducible apply Mm.w_append); exact rfl) | ((with_reducible apply Mm.w_varO); exact rfl) | ((with_reducible apply Mm.f_nx); exact rfl) | ((with_reducible apply Mm.f_rt); exact rfl) | ((with_reducible apply Mm.f_rn); exact rfl) | ((with_reducible apply Mm.f_rnL); exact rfl) | ((with_reducible refine Mm.k_nx ?_) <;> try (simp only [List.set_cons_succ, List.set_cons_zero, List.set_nil, List.cons_append, List.nil_append, List.take_succ_cons, List.take_zero, List.take_nil, List.replicate_succ, List.replicate_zero, List.length_cons, List.length_nil, List.length_set, Nat.reduceAdd, Nat.reduceSub, Mm.slotArgs, Mm.putArgs, Mm.putArg, Mm.putSlot])) | ((with_reducible apply Mm.w_bName); exact Mm.free_of rfl (by assumption)) | ((with_reducible apply Mm.w_ixC); exact rfl; exact rfl) | ((with_reducible apply Mm.w_bSubC); exact rfl; exact rfl) | ((with_reducible refine ⟨?_, ?_⟩); exact rfl) | ((with_reducible refine ⟨?_, ?_⟩); exact Mm.free_of rfl (by assumption)) | ((with_reducible apply w_draw); exact rfl)))


abbrev abc : Str := "abcdefghijklmnopqrstuvwxyz"
theorem abc_len : abc.length = 26 := by decide
theorem abc_asc : asc abc = true := by decide
def Nm (x : Str) : Prop := asc x = true ∧ x.length ≤ 8
def Nms (ds : List Dt) : Prop := ∀ d ∈ ds, ∃ x, d = .str x ∧ Nm x
theorem asc_one {x : Str} {i : Nat} {c : Nat} (h : asc x = true) (e : x.cps.toList[i]? = some c) : asc ⟨#[c]⟩ = true := by
  rw [asc_mem] at *
  intro d hd
  have : d = c := by simpa using hd
  subst this
  exact h _ (List.mem_of_getElem? e)
theorem join_facts {ys : List Str} (h : ∀ y ∈ ys, asc y = true ∧ y.length = 1) : asc (Txt.join "" ys) = true ∧ (Txt.join "" ys).length = ys.length ∧ (ys.map (·.length)).sum = ys.length := by
  have e := join_cps ys
  refine ⟨?_, ?_, ?_⟩
  · rw [asc_mem, e]
    intro c hc
    obtain ⟨l, hl, hc⟩ := List.mem_flatten.mp hc
    obtain ⟨y, hy, rfl⟩ := List.mem_map.mp hl
    exact asc_mem.mp (h y hy).1 c hc
  · show (Txt.join "" ys).cps.toList.length = _
    rw [e, List.length_flatten, List.map_map]
    induction ys with
    | nil => rfl
    | cons y ys ih =>
      rw [List.map_cons, List.sum_cons, ih (fun z hz => h z (List.mem_cons_of_mem _ hz)) (join_cps ys), List.length_cons]
      have : (List.length ∘ fun x : Str => x.cps.toList) y = 1 := (h y (List.mem_cons_self ..)).2
      rw [this]; omega
  · clear e
    induction ys with
    | nil => rfl
    | cons y ys ih =>
      rw [List.map_cons, List.sum_cons, ih (fun z hz => h z (List.mem_cons_of_mem _ hz)), List.length_cons, (h y (List.mem_cons_self ..)).2]; omega
theorem cut_len {x : Str} {a : Int} (h0 : 0 ≤ a) (h1 : a ≤ x.length) : (cutS x none (some a)).length = a.toNat ∧ (cutS x (some a) none).length = x.length - a.toNat := by
  have e : (x.cps.toList.length) = x.length := rfl
  have ea : HT.sIx x.length x.length (some a) = a.toNat := by
    unfold HT.sIx
    simp only
    rw [if_neg (by omega)]
    omega
  have ea0 : HT.sIx x.length 0 (some a) = a.toNat := ea
  refine ⟨?_, ?_⟩
  · show (List.toArray _).size = _
    rw [List.size_toArray, List.length_take, List.length_drop, ea]
    show min (a.toNat - 0) (x.length - 0) = _
    omega
  · show (List.toArray _).size = _
    rw [List.size_toArray, List.length_take, List.length_drop, ea0]
    show min (x.length - a.toNat) (x.length - a.toNat) = _
    omega
theorem mul_facts {x : Str} {j : Int} (h : 0 ≤ j ∧ j ≤ 1) (hx : asc x = true) : asc (Txt.mul x j) = true ∧ (Txt.mul x j).length ≤ x.length := by
  have : j = 0 ∨ j = 1 := by omega
  rcases this with rfl | rfl
  · exact ⟨rfl, Nat.zero_le _⟩
  · have e : Txt.mul x 1 = x := rfl
    rw [e]; exact ⟨hx, Nat.le_refl _⟩
theorem ok_asc {x : Str} (h : asc x = true) : okD (.str x) = true := Tm.ok (B := 0) (W := x.length) (D := 0) ⟨h, Nat.le_refl _, Nat.zero_le _⟩ (by decide)
section
variable {ρ : Ev} {i : Nat} {f g h : F1} {A : FA} {Q : Dt → Ev → Prop} {d : Dt} {B W D k : Nat} {t : Int × Int × Int}
theorem names_ok {many : Nat} (hm : many ≤ 1000) (hT : Tok (k + 11) t)
    (q : ∀ ds t' rest, ds.length = many → Nms ds → Tok k t' → Q (.list ds) (tp true t' :: rest)) :
    E1 (m_law_names [tp true t, .ro (.int many)]) Q := by
  unfold m_law_names g_law_names
  refine m_of rfl ?_
  decreasing_trivial_pre_omega
  refine ⟨_, _, _, rfl, rfl, by decide, by decide, hT, fun sh t1 s0 s1 hT1 => ?_⟩
  decreasing_trivial_pre_omega
  refine w_lc ?_
  decreasing_trivial_pre_omega
  refine ⟨_, _, _, rfl, rfl, by decide, by decide, hT1, fun n t2 n0 n1 hT2 => ?_⟩
  decreasing_trivial_pre_omega
  refine ⟨by omega, by omega, ?_⟩
  refine ⟨by rw [range_len]; omega, ?_⟩
  refine E1.mono (lc_ix (J := fun i xs ρ => ∃ t s5 ys, ρ = [tp true t, .ro (.int many), .ro (.str abc), .ro (.int sh), .no, s5, .no, .no, .no, .no, .no, .no, .no] ∧ Tok (k + 9 - i) t ∧ xs = ys.map .str ∧ ys.length = i ∧ (∀ y ∈ ys, asc y = true ∧ y.length = 1)) _ ?_ _ ⟨t2, .no, [], rfl, hT2, rfl, rfl, fun y h => absurd h List.not_mem_nil⟩) ?_
  · rintro i d xs ρ hd ⟨t3, s5, ys, rfl, hT3, rfl, rfl, hy⟩
    have hd := range_get hd
    decreasing_trivial_pre_omega
    refine ⟨_, _, _, rfl, rfl, by decide, by decide, (show Tok (k + 9 - (ys.length + 1) + 1) t3 from hT3.le (by omega)), fun c t4 c0 c1 hT4 => ?_⟩
    refine p_ixStr (by decide) ⟨c0, by rw [abc_len]; exact c1⟩ ?_
    intro c hc
    decreasing_trivial_pre_omega
    refine ⟨t4, _, ys ++ [⟨#[c]⟩], rfl, hT4, by simp, by simp, ?_⟩
    intro y hy'
    rcases List.mem_append.mp hy' with m | m
    · exact hy y m
    · rw [List.mem_singleton.mp m]
      exact ⟨asc_one abc_asc hc, rfl⟩
  rintro xs ρ2 ⟨t3, s5, ys, rfl, hT3, rfl, hyl, hy⟩
  rw [range_len] at hT3 hyl
  refine ⟨_, rfl, ?_⟩
  obtain ⟨j1, j2, j3⟩ := join_facts hy
  decreasing_trivial_pre_omega
  refine p_join (by rw [j3]; show _ + _ * 0 ≤ _; omega) ?_
  generalize Txt.join "" ys = stem at j1 j2
  have hst : stem.length ≤ 7 := by omega
  have hT3 : Tok (k + 2) t3 := hT3.le (by omega)
  decreasing_trivial_pre_omega
  refine p_lenS (by omega) ?_
  decreasing_trivial_pre_omega
  refine ⟨_, _, _, rfl, rfl, by omega, by omega, hT3, fun a t4 a0 a1 hT4 => ?_⟩
  decreasing_trivial_pre_omega
  refine ⟨_, _, _, rfl, rfl, by decide, by decide, hT4, fun s t5 s0 s1 hT5 => ?_⟩
  refine p_ixM ⟨s0, by simpa using s1⟩ ?_
  intro z hz
  obtain ⟨st, rfl, st0, st1⟩ : ∃ st, z = .int st ∧ 0 ≤ st ∧ st ≤ 25 := by
    simp only [List.mem_cons, List.not_mem_nil, or_false] at hz
    rcases hz with rfl | rfl | rfl
    · exact ⟨_, rfl, by decide, by decide⟩
    · exact ⟨_, rfl, by decide, by decide⟩
    · exact ⟨_, rfl, by decide, by decide⟩
  decreasing_trivial_pre_omega
  refine p_slS (by omega) ?_
  decreasing_trivial_pre_omega
  refine p_slS (by omega) ?_
  decreasing_trivial_pre_omega
  have hcl := cut_len (x := stem) a0 (by omega)
  have hh := asc_cut none (some a) j1
  have ht := asc_cut (some a) none j1
  generalize cutS stem none (some a) = head at hcl hh
  generalize cutS stem (some a) none = tail at hcl ht
  refine ⟨by omega, by omega, ?_⟩
  refine loop_ix (J := fun i ρ => ∃ xs s5 s11 s12, ρ = [tp true t5, .ro (.int many), .ro (.str abc), .ro (.int sh), .ro (.str stem), s5, .ro (.int a), .ro (.int st), .own false (.lst xs), .ro (.str head), .ro (.str tail), s11, s12] ∧ FreeS s5 ∧ FreeS s11 ∧ FreeS s12 ∧ xs.length = i ∧ Nms xs) _ ?_ ?_ _ ⟨[], .no, .no, .no, rfl, .no, .no, .no, rfl, fun d h => absurd h List.not_mem_nil⟩
  · rintro i d ρ hd ⟨xs, s5, s11, s12, rfl, f5, f11, f12, rfl, hn⟩
    obtain ⟨hi, rfl⟩ := range_get hd
    have hi : xs.length < many := by simpa using hi
    decreasing_trivial_pre_omega
    refine p_lenS (by omega) ?_
    decreasing_trivial_pre_omega
    refine p_mod (by decide) ?_
    decreasing_trivial_pre_omega
    refine p_neS (ok_asc ht.1) (ok_asc rfl) ?_
    decreasing_trivial_pre_omega
    have m3 := modP (i := sh + a + stem.length) (n := 3) (by decide)
    refine p_mul (Or.inl ⟨by omega, by omega⟩) ?_
    obtain ⟨w, ew, w0, w1⟩ : ∃ w, ((sh + a + stem.length) % 3 * (if (!PyData.eqv (.str tail) (.str "")) = true then (1 : Int) else 0)) = w ∧ 0 ≤ w ∧ w < 3 := by
      split
      · exact ⟨_, rfl, by omega, by omega⟩
      · exact ⟨_, rfl, by omega, by omega⟩
    rw [ew]
    decreasing_trivial_pre_omega
    refine p_div ⟨by decide, by decide⟩ ?_
    decreasing_trivial_pre_omega
    refine p_ixM ⟨w0, by simpa using w1⟩ ?_
    intro z hz
    obtain ⟨m, rfl⟩ : ∃ m, z = .int m := by
      simp only [List.mem_cons, List.not_mem_nil, or_false] at hz
      rcases hz with rfl | rfl | rfl <;> exact ⟨_, rfl⟩
    refine p_mul (Or.inl ⟨by omega, by omega⟩) ?_
    decreasing_trivial_pre_omega
    refine p_mod (by decide) ?_
    have m26 := modP (i := sh + st * m) (n := 26) (by decide)
    refine p_ixStr (by decide) ⟨m26.1, by rw [abc_len]; exact m26.2⟩ ?_
    intro c hc
    have hc1 := asc_one abc_asc hc
    have hc2 : (⟨#[c]⟩ : Str).length = 1 := rfl
    decreasing_trivial_pre_omega
    refine p_addS (by omega) ?_
    decreasing_trivial_pre_omega
    refine p_mod (by decide) ?_
    have mk2 := modP (i := 0 + (xs.length : Int)) (n := 2) (by decide)
    refine p_mulS ⟨mk2.1, by omega⟩ ?_
    have hmul := mul_facts (x := tail) ⟨mk2.1, by omega⟩ ht.1
    decreasing_trivial_pre_omega
    refine p_lenS (by omega) ?_
    decreasing_trivial_pre_omega
    refine p_mod (by omega) ?_
    decreasing_trivial_pre_omega
    refine p_slS (by omega) ?_
    have hsl := asc_cut none (some ((0 + (xs.length : Int)) % ((tail.length : Int) + 1))) ht.1
    decreasing_trivial_pre_omega
    refine p_ixM ⟨w0, by simpa using w1⟩ ?_
    intro z hz
    obtain ⟨u, rfl, u0, u1⟩ : ∃ u, z = .str u ∧ asc u = true ∧ u.length ≤ tail.length := by
      simp only [List.mem_cons, List.not_mem_nil, or_false] at hz
      rcases hz with rfl | rfl | rfl
      · exact ⟨_, rfl, ht.1, Nat.le_refl _⟩
      · exact ⟨_, rfl, hmul.1, hmul.2⟩
      · exact ⟨_, rfl, hsl.1, hsl.2⟩
    refine p_addS (by rw [len_app]; omega) ?_
    decreasing_trivial_pre_omega
    refine ⟨_, _, rfl, by omega, ?_⟩
    decreasing_trivial_pre_omega
    refine ⟨_, _, _, _, rfl, .ro, .ro, .ro, by simp, ?_⟩
    intro d hd
    rcases List.mem_append.mp hd with m | m
    · exact hn d m
    · rw [List.mem_singleton.mp m]
      exact ⟨_, rfl, asc_app (asc_app hh.1 hc1) u0, by rw [len_app, len_app]; omega⟩
  · rintro ρ ⟨xs, s5, s11, s12, rfl, f5, f11, f12, hxl, hn⟩
    rw [range_len] at hxl
    decreasing_trivial_pre_omega
    exact q _ _ _ (by simpa using hxl) hn hT5
theorem part_ok {ds : List Dt} {many : Nat} (hm : many ≤ ds.length) (hl : ds.length ≤ 1000) {P : Dt → Prop} (hP : ∀ d ∈ ds, P d) (hT : Tok (k + many) t)
    (q : ∀ es t' rest, es.length = many → (∀ d ∈ es, P d) → Tok k t' → Q (.list es) (tp true t' :: rest)) :
    E1 (m_law_part [tp true t, .ro (.list ds), .ro (.int many)]) Q := by
  unfold m_law_part g_law_part
  refine m_of rfl ?_
  decreasing_trivial_pre_omega
  refine w_lc ?_
  decreasing_trivial_pre_omega
  refine ⟨by omega, by omega, ?_⟩
  refine ⟨by rw [range_len]; omega, ?_⟩
  refine E1.mono (lc_ix (J := fun i xs ρ => ∃ t s4 ys, ρ = [tp true t, .ro (.list ds), .ro (.int many), .own false (.lst ys), s4] ∧ Tok (k + many - i) t ∧ xs.length = i ∧ ys.length + i = ds.length ∧ (∀ y ∈ xs, P y) ∧ ∀ y ∈ ys, P y) _ ?_ _ ⟨t, .no, ds, rfl, hT, rfl, rfl, fun y h => absurd h List.not_mem_nil, hP⟩) ?_
  · rintro i d xs ρ hd ⟨t3, s4, ys, rfl, hT3, rfl, hyl, hx, hy⟩
    have hd := range_get hd
    have hd1 : xs.length < many := by simpa using hd.1
    decreasing_trivial_pre_omega
    refine w_popAt rfl ?_
    decreasing_trivial_pre_omega
    refine ⟨_, _, _, rfl, rfl, by omega, by omega, (show Tok (k + many - (xs.length + 1) + 1) t3 from hT3.le (by omega)), fun r t4 r0 r1 hT4 => ?_⟩
    have hr : r.toNat < ys.length := by omega
    refine ⟨_, ys, _, ys[r.toNat], rfl, rfl, r0, by omega, List.getElem?_eq_getElem hr, ?_⟩
    refine ⟨t4, _, _, rfl, hT4, by simp, by rw [List.length_eraseIdx, if_pos hr]; omega, ?_, fun y hy' => hy y (List.mem_of_mem_eraseIdx hy')⟩
    intro y hy'
    rcases List.mem_append.mp hy' with m | m
    · exact hx y m
    · rw [List.mem_singleton.mp m]
      exact hy _ (List.getElem_mem hr)
  · rintro xs ρ2 ⟨t3, s4, ys, rfl, hT3, hxl, hyl, hx, hy⟩
    rw [range_len] at hT3 hxl
    refine ⟨_, rfl, ?_⟩
    decreasing_trivial_pre_omega
    exact q _ _ _ (by simpa using hxl) hx (hT3.le (by omega))
end
end K01

namespace K01
open PySem L2 Mm
local macro_rules
  | `(tactic| decreasing_trivial_pre_omega) => `(tactic| repeat (first | (with_reducible first | refine Mm.w_c ?_ | refine Mm.w_bin ?_ | refine Mm.w_isi ?_ | refine Mm.w_isi2 ?_ | refine Mm.w_un ?_ | refine Mm.w_test ?_ | refine Mm.w_chain ?_ | refine Mm.w_gAnd ?_ | refine Mm.w_gOr ?_ | refine Mm.w_gNot ?_ | refine Mm.w_yes ?_ | refine Mm.w_and ?_ | refine Mm.w_or ?_ | refine Mm.w_not ?_ | refine Mm.w_if ?_ | refine Mm.w_nil ?_ | refine Mm.w_cons ?_ | refine Mm.w_an ?_ | refine Mm.v_nil ?_ | refine Mm.v_cons ?_ | refine Mm.w_disp ?_ | refine Mm.w_tup ?_ | refine Mm.w_frz ?_ | refine Mm.w_cb ?_ | refine Mm.w_cn ?_ | refine Mm.w_items ?_ | refine Mm.w_range1 ?_ | refine Mm.w_zip ?_ | refine Mm.w_enum ?_ | refine Mm.w_oNone ?_ | refine Mm.w_oSome ?_ | refine Mm.w_slice ?_ | refine Mm.s_nx ?_ | refine Mm.s_seq ?_ | refine Mm.s_asg ?_ | refine Mm.s_setN ?_ | refine Mm.s_ret ?_ | refine Mm.s_retL ?_ | refine Mm.s_expr ?_ | refine Mm.s_if ?_ | refine Mm.s_par ?_ | refine Mm.s_for ?_ | refine Mm.k_rt ?_ | refine Mm.k_rn ?_ | refine Mm.k_bk ?_ | refine Mm.k_ct ?_ | refine Mm.l_nx ?_ | refine Mm.l_rt ?_ | refine Mm.b_t ?_ | refine Mm.b_f ?_ | refine Mm.b_nf ?_ | refine Mm.b_nt ?_ | refine Mm.w_bCons ?_ | refine Mm.w_bNil ?_ | refine Mm.p_gt ?_ | refine Mm.p_lt ?_ | refine Mm.p_ge ?_ | refine Mm.p_le ?_ | refine Mm.p_add ?_ | refine Mm.p_sub ?_ | refine Mm.p_neg ?_ | refine Mm.p_eq ?_ | refine Mm.p_ne ?_ | refine Mm.p_int ?_ | refine Mm.p_intB ?_ | refine Mm.p_abs ?_ | refine Mm.p_max ?_ | refine Mm.p_min ?_ | refine Mm.p_eqB ?_ | refine Mm.p_eqS ?_ | refine Mm.p_tupL ?_ | refine Mm.p_tupT ?_ | refine Mm.p_lstL ?_ | refine Mm.p_lstT ?_ | refine Mm.p_lenT ?_ | refine Mm.p_lenL ?_ | refine Mm.p_itT ?_ | refine Mm.p_itL ?_ | refine Mm.p_itS ?_ | refine Mm.p_slT ?_ | refine Mm.p_slL ?_ | refine Mm.p_ltS ?_ | refine Mm.p_geS ?_ | refine c_lnum ?_ | refine ⟨_, rfl, ?_⟩) | ((with_reducible apply Mm.w_var); exact rfl) | ((with_reducible apply Mm.w_slot); exact rfl) | ((with_reducible apply Mm.w_bName); exact rfl) | ((with_reducible apply Mm.w_lenL); exact rfl) | ((with_reducible apply Mm.w_lenD); exact rfl) | ((with_reducible apply Mm.p_ixT); exact rfl) | ((with_reducible apply Mm.p_ixL); exact rfl) | ((with_reducible apply Mm.w_bTup); exact rfl) | ((with_reducible apply Mm.w_len); exact rfl) | ((with_reducible apply Mm.w_append); exact rfl) | ((with_reducible apply Mm.w_varO); exact rfl) | ((with_reducible apply Mm.f_nx); exact rfl) | ((with_reducible apply Mm.f_rt); exact rfl) | ((with_reducible apply Mm.f_rn); exact rfl) | ((with_reducible apply Mm.f_rnL); exact rfl) | ((with_reducible refine Mm.k_nx ?_) <;> try (simp only [List.set_cons_succ, List.set_cons_zero, List.set_nil, List.cons_append, List.nil_append, List.take_succ_cons, List.take_zero, List.take_nil, List.replicate_succ, List.replicate_zero, List.length_cons, List.length_nil, List.length_set, Nat.reduceAdd, Nat.reduceSub, Mm.slotArgs, Mm.putArgs, Mm.putArg, Mm.putSlot])) | ((with_reducible apply Mm.w_bName); exact Mm.free_of rfl (by assumption)) | ((with_reducible apply Mm.w_ixC); exact rfl; exact rfl) | ((with_reducible apply Mm.w_bSubC); exact rfl; exact rfl) | ((with_reducible refine ⟨?_, ?_⟩); exact rfl) | ((with_reducible refine ⟨?_, ?_⟩); exact Mm.free_of rfl (by assumption)) | ((with_reducible apply w_draw); exact rfl)))


theorem strs_map : ∀ {ds : List Dt}, (∀ d ∈ ds, ∃ x : Str, d = .str x) → ∃ xs : List Str, ds = xs.map .str
  | [], _ => ⟨[], rfl⟩
  | d :: ds, h => by
    obtain ⟨x, rfl⟩ := h d (List.mem_cons_self ..)
    obtain ⟨xs, rfl⟩ := strs_map fun d m => h d (List.mem_cons_of_mem _ m)
    exact ⟨x :: xs, rfl⟩
theorem p_sorted {ds : List Dt} {QD : List Dt → Prop} (h : ∀ d ∈ ds, ∃ x : Str, d = .str x) (hl : ds.length < 64) (k : ∀ es : List Dt, es.length = ds.length → (∀ e ∈ es, e ∈ ds) → QD es) : Ok (dSorted [.list ds]) QD := by
  obtain ⟨xs, rfl⟩ := strs_map h
  rw [List.length_map] at hl k
  refine ⟨(sortS xs).map .str, ?_, k _ ?_ ?_⟩
  · unfold dSorted
    simp only [strsOf_map]
    rw [if_pos hl]
  · rw [List.length_map, (sortS_perm xs).length_eq]
  · intro e he
    obtain ⟨x, hx, rfl⟩ := List.mem_map.mp he
    exact List.mem_map.mpr ⟨x, (sortS_perm xs).mem_iff.mp hx, rfl⟩
theorem Nms.str {ds : List Dt} (h : Nms ds) : ∀ d ∈ ds, ∃ x : Str, d = .str x := fun d m => (h d m).imp fun x h => h.1
theorem Nms.cut {ds : List Dt} (h : Nms ds) (lo hi : Option Int) : Nms (cutD ds lo hi) := fun d m => h d (cut_mem m)
theorem cutD_len {ds : List Dt} {a b : Int} (h0 : 0 ≤ a) (h1 : a ≤ b) (h2 : b ≤ ds.length) : (cutD ds none (some b)).length = b.toNat ∧ (cutD ds (some a) (some b)).length = b.toNat - a.toNat := by
  have eb : ∀ d, HT.sIx ds.length d (some b) = b.toNat := fun d => by
    unfold HT.sIx
    simp only
    rw [if_neg (by omega)]
    omega
  have ea : ∀ d, HT.sIx ds.length d (some a) = a.toNat := fun d => by
    unfold HT.sIx
    simp only
    rw [if_neg (by omega)]
    omega
  unfold cutD
  rw [List.length_take, List.length_take, List.length_drop, List.length_drop, eb, ea]
  refine ⟨?_, ?_⟩
  · show min (b.toNat - 0) (ds.length - 0) = _
    omega
  · omega
section
variable {ρ : Ev} {i : Nat} {f g h : F1} {A : FA} {Q : Dt → Ev → Prop} {d : Dt} {B W D k : Nat} {t : Int × Int × Int}
theorem c_names {many : Nat} (v : isVal ρ[i]? = true) (hm : many ≤ 1000) (h : ∃ p t k, ρ[i]? = some (tp p t) ∧ Tok (k + 11) t ∧ ∀ ds t', ds.length = many → Nms ds → Tok k t' → Q (.list ds) (ρ.set i (tp p t'))) :
    E1 (fCall m_law_names (fASlot i (fACons (fC (.int many)) fANil)) ρ) Q := by
  obtain ⟨p, t, k, h1, h2, h3⟩ := h
  exact w_callT (np := 2) (n := 13) (s := g_law_names) rfl v (v_cons (w_c (v_nil ⟨rfl, p, t, h1, names_ok hm h2 fun ds t' rest a b c => ⟨t', rest, rfl, h3 ds t' a b c⟩⟩)))
theorem c_part (v : isVal ρ[i]? = true) (h : E1 (f ρ) fun d ρ1 => E1 (g ρ1) fun e ρ2 => ρ2.length = ρ.length ∧ ∃ p t ds many, ∃ P : Dt → Prop, ∃ k, ρ2[i]? = some (tp p t) ∧ d = .list ds ∧ e = .int (many : Nat) ∧ many ≤ ds.length ∧ ds.length ≤ 1000 ∧ (∀ d ∈ ds, P d) ∧ Tok (k + many) t ∧ ∀ es t', es.length = many → (∀ d ∈ es, P d) → Tok k t' → Q (.list es) (ρ2.set i (tp p t'))) :
    E1 (fCall m_law_part (fASlot i (fACons f (fACons g fANil))) ρ) Q :=
  w_callT (np := 3) (n := 5) (s := g_law_part) rfl v (v_cons (h.mono fun d ρ1 q => v_cons (q.mono fun e ρ2 ⟨hl, p, t, ds, many, P, k, h1, h2, h3, h4, h5, h6, h7, h8⟩ => v_nil ⟨hl, p, t, h1, by
    subst h2 h3
    exact part_ok h4 h5 h6 h7 fun es t' rest a b c => ⟨t', rest, rfl, h8 es t' a b c⟩⟩)))
theorem lplan_ok (hT : Tok (k + 100) t)
    (q : ∀ ds t' rest, Tm 100 403 3 (.tuple ds) → Tok k t' → Q (.tuple ds) (tp true t' :: rest)) :
    E1 (m_law_plan [tp true t]) Q := by
  unfold m_law_plan g_law_plan
  refine m_of rfl ?_
  decreasing_trivial_pre_omega
  refine ⟨_, _, _, rfl, rfl, by decide, by decide, hT, fun a t1 a0 a1 hT1 => ?_⟩
  decreasing_trivial_pre_omega
  refine ⟨_, _, _, rfl, rfl, by decide, by decide, hT1, fun b t2 b0 b1 hT2 => ?_⟩
  refine p_ixM ⟨b0, by simpa using b1⟩ ?_
  intro z hz
  obtain ⟨many, rfl, m0, m1⟩ : ∃ m, z = .int m ∧ 1 ≤ m ∧ m ≤ 9 := by
    simp only [List.mem_cons, List.not_mem_nil, or_false] at hz
    rcases hz with rfl | rfl | rfl | rfl
    · exact ⟨_, rfl, by omega, by omega⟩
    · exact ⟨_, rfl, by omega, by omega⟩
    · exact ⟨_, rfl, by omega, by omega⟩
    · exact ⟨_, rfl, by omega, by omega⟩
  decreasing_trivial_pre_omega
  refine c_names (many := 22) rfl (by decide) ⟨_, t2, k + 87, rfl, hT2.le (by omega), fun names t3 hnl hn hT3 => ?_⟩
  decreasing_trivial_pre_omega
  refine ⟨_, _, _, rfl, rfl, by decide, by decide, hT3, fun a t4 a0 a1 hT4 => ?_⟩
  decreasing_trivial_pre_omega
  refine ⟨_, _, _, rfl, rfl, by decide, by decide, hT4, fun b t5 b0 b1 hT5 => ?_⟩
  refine p_ixM ⟨b0, by simpa using b1⟩ ?_
  intro z hz
  obtain ⟨rest, rfl, r0, r1⟩ : ∃ m, z = .int m ∧ 2 ≤ m ∧ m ≤ 25 := by
    simp only [List.mem_cons, List.not_mem_nil, or_false] at hz
    rcases hz with rfl | rfl | rfl | rfl | rfl | rfl
    all_goals exact ⟨_, rfl, by omega, by omega⟩
  decreasing_trivial_pre_omega
  have hcl := (cutD_len (ds := names) (a := 0) (b := many) (by omega) (by omega) (by omega)).1
  refine p_sorted (hn.cut _ _).str (by omega) ?_
  intro cs csl csm
  have hcs : Nms cs := fun d m => hn.cut none (some many) d (csm d m)
  rw [hcl] at csl
  decreasing_trivial_pre_omega
  refine p_div ⟨by decide, by decide⟩ ?_
  decreasing_trivial_pre_omega
  refine ⟨_, _, _, rfl, rfl, by decide, by decide, hT5, fun e t6 e0 e1 hT6 => ?_⟩
  decreasing_trivial_pre_omega
  obtain ⟨top, et, o0, o1⟩ : ∃ top, ((if (if (rest - 1) / 2 > 1 then (rest - 1) / 2 else 1) < 6 then (if (rest - 1) / 2 > 1 then (rest - 1) / 2 else 1) else 6) + (if (e == 0) = true then (1 : Int) else 0)) = top ∧ 1 ≤ top ∧ top ≤ 7 := by
    refine ⟨_, rfl, ?_, ?_⟩ <;> (repeat' split) <;> omega
  rw [et]
  refine ⟨_, _, _, rfl, rfl, by decide, by decide, hT6, fun a t7 a0 a1 hT7 => ?_⟩
  decreasing_trivial_pre_omega
  refine ⟨_, _, _, rfl, rfl, by decide, by decide, hT7, fun b t8 b0 b1 hT8 => ?_⟩
  refine p_ixM ⟨b0, by simpa using b1⟩ ?_
  intro z hz
  obtain ⟨wn, rfl, wn0, wn1⟩ : ∃ m, z = .int m ∧ 0 ≤ m ∧ m ≤ 11 := by
    simp only [List.mem_cons, List.not_mem_nil, or_false] at hz
    rcases hz with rfl | rfl | rfl | rfl
    all_goals exact ⟨_, rfl, by omega, by omega⟩
  decreasing_trivial_pre_omega
  have hwl := (cutD_len (ds := names) (a := 9) (b := 9 + wn) (by omega) (by omega) (by omega)).2
  refine p_sorted (hn.cut _ _).str (by omega) ?_
  intro ns nsl nsm
  have hns : Nms ns := fun d m => hn.cut (some 9) (some (9 + wn)) d (nsm d m)
  rw [hwl] at nsl
  decreasing_trivial_pre_omega
  refine loop_ix (J := fun i ρ => ∃ t s4 ws s7 s8, ρ = [tp true t, .ro (.int many), .ro (.list names), .ro (.int rest), s4, .own false (.lst ws), .ro (.int top), s7, s8] ∧ (s4 = .own false (.lst cs) ∨ s4 = .ro (.list cs)) ∧ FreeS s7 ∧ FreeS s8 ∧ Tok (k + 82 - 4 * i) t ∧ ws.length ≤ i ∧ ∀ w ∈ ws, Tm 100 28 1 w) _ ?_ ?_ _ ⟨t8, _, [], _, _, rfl, .inl rfl, .no, .no, hT8, Nat.le_refl _, fun d h => absurd h List.not_mem_nil⟩
  · rintro i d ρ hd ⟨t, s4, ws, s7, s8, rfl, h4, f7, f8, hT, hwl, hw⟩
    obtain ⟨nm, rfl, hnm⟩ := hns d (List.mem_of_getElem? hd)
    have hi : i < 11 := by
      have := (List.getElem?_eq_some_iff.mp hd).1
      omega
    decreasing_trivial_pre_omega
    by_cases h1 : 1 < many
    · refine b_pos (by simpa using h1) ?_
      decreasing_trivial_pre_omega
      refine c_part rfl ?_
      rcases h4 with rfl | rfl
      all_goals
        decreasing_trivial_pre_omega
        refine ⟨_, t, cs, 2, fun d => ∃ x, d = .str x ∧ Nm x, k + 82 - 4 * i - 2, rfl, rfl, rfl, by omega, by omega, hcs, hT.le (by omega), fun es t' esl esm hT' => ?_⟩
        decreasing_trivial_pre_omega
        refine p_sorted (fun d m => (esm d m).imp fun x h => h.1) (by omega) ?_
        intro ps psl psm
        obtain ⟨p0, p1, rfl⟩ : ∃ a b, ps = [a, b] := by
          match ps, psl.trans esl with
          | [a, b], _ => exact ⟨a, b, rfl⟩
        obtain ⟨x0, rfl, n0⟩ := esm p0 (psm p0 (by simp))
        obtain ⟨x1, rfl, n1⟩ := esm p1 (psm p1 (by simp))
        decreasing_trivial_pre_omega
        refine ⟨_, _, _, rfl, rfl, by omega, by omega, (show Tok (k + 82 - 4 * i - 3 + 1) t' from hT'.le (by omega)), fun b t1 b0 b1 hT1 => ?_⟩
        decreasing_trivial_pre_omega
        refine ⟨_, _, _, rfl, rfl, by decide, by decide, (show Tok (k + 82 - 4 * i - 4 + 1) t1 from hT1.le (by omega)), fun e t2 e0 e1 hT2 => ?_⟩
        refine p_ixM ⟨e0, by simpa using e1⟩ ?_
        intro z hz
        obtain ⟨bt, rfl, bt0, bt1⟩ : ∃ m, z = .int m ∧ 1 ≤ m ∧ m ≤ 7 := by
          simp only [List.mem_cons, List.not_mem_nil, or_false] at hz
          rcases hz with rfl | rfl
          all_goals exact ⟨_, rfl, by omega, by omega⟩
        decreasing_trivial_pre_omega
        refine ⟨_, _, rfl, by omega, ?_⟩
        decreasing_trivial_pre_omega
        refine ⟨t2, _, _, _, _, rfl, .inr rfl, .ro, .ro, hT2.le (by omega), by rw [List.length_append]; simp only [List.length_cons, List.length_nil]; omega, ?_⟩
        intro w hw'
        rcases List.mem_append.mp hw' with m | m
        · exact hw w m
        · rw [List.mem_singleton.mp m]
          exact ((Ts.cons (t_str hnm.1 hnm.2) (Ts.cons (t_str n0.1 n0.2) (Ts.cons (t_str n1.1 n1.2) (Ts.cons (W := 0) (V := 0) (D := 0) (t_int (by omega)) Ts.nil)))).tup).le rfl (by omega) (by omega)
    · refine b_neg (by simpa using h1) ?_
      decreasing_trivial_pre_omega
      exact ⟨t, s4, ws, _, s8, rfl, h4, .ro, f8, hT.le (by omega), by omega, hw⟩
  · rintro ρ ⟨t, s4, ws, s7, s8, rfl, h4, f7, f8, hT, hwl, hw⟩
    have hW := Ts.of_mem hw
    have hC := Ts.of_mem (B := 100) (W := 8) (D := 0) (xs := cs) fun d m => by
      obtain ⟨x, rfl, h⟩ := hcs d m
      exact t_str h.1 h.2
    have fin : Tm 100 403 3 (.tuple [.int rest, .tuple cs, .tuple ws]) := ((Ts.cons (W := 0) (D := 2) (t_int (by omega)) (Ts.cons (W := 81) (hC.tup.le rfl (by omega) (by omega)) (Ts.cons (W := 319) (V := 0) (hW.tup.le rfl (by omega) (by omega)) Ts.nil))).tup).le rfl (by omega) (by omega)
    rcases h4 with rfl | rfl
    all_goals
      decreasing_trivial_pre_omega
      exact q _ t _ fin (hT.le (by omega))
theorem c_plan' (v : isVal ρ[i]? = true) (h : ∃ p t k, ρ[i]? = some (tp p t) ∧ Tok (k + 100) t ∧ ∀ ds t', Tm 100 403 3 (.tuple ds) → Tok k t' → Q (.tuple ds) (ρ.set i (tp p t'))) :
    E1 (fCall m_law_plan (fASlot i fANil) ρ) Q := by
  obtain ⟨p, t, k, h1, h2, h3⟩ := h
  exact w_callT (np := 1) (n := 9) (s := g_law_plan) rfl v (v_nil ⟨rfl, p, t, h1, lplan_ok h2 fun ds t' rest a b => ⟨t', rest, rfl, h3 ds t' a b⟩⟩)
end
end K01

namespace K01
open PySem L2 Mm
local macro_rules
  | `(tactic| decreasing_trivial_pre_omega) => `(tactic| repeat (first | (with_reducible first | refine Mm.w_c ?_ | refine Mm.w_bin ?_ | refine Mm.w_isi ?_ | refine Mm.w_isi2 ?_ | refine Mm.w_un ?_ | refine Mm.w_test ?_ | refine Mm.w_chain ?_ | refine Mm.w_gAnd ?_ | refine Mm.w_gOr ?_ | refine Mm.w_gNot ?_ | refine Mm.w_yes ?_ | refine Mm.w_and ?_ | refine Mm.w_or ?_ | refine Mm.w_not ?_ | refine Mm.w_if ?_ | refine Mm.w_nil ?_ | refine Mm.w_cons ?_ | refine Mm.w_an ?_ | refine Mm.v_nil ?_ | refine Mm.v_cons ?_ | refine Mm.w_disp ?_ | refine Mm.w_tup ?_ | refine Mm.w_frz ?_ | refine Mm.w_cb ?_ | refine Mm.w_cn ?_ | refine Mm.w_items ?_ | refine Mm.w_range1 ?_ | refine Mm.w_zip ?_ | refine Mm.w_enum ?_ | refine Mm.w_oNone ?_ | refine Mm.w_oSome ?_ | refine Mm.w_slice ?_ | refine Mm.s_nx ?_ | refine Mm.s_seq ?_ | refine Mm.s_asg ?_ | refine Mm.s_setN ?_ | refine Mm.s_ret ?_ | refine Mm.s_retL ?_ | refine Mm.s_expr ?_ | refine Mm.s_if ?_ | refine Mm.s_par ?_ | refine Mm.s_for ?_ | refine Mm.k_rt ?_ | refine Mm.k_rn ?_ | refine Mm.k_bk ?_ | refine Mm.k_ct ?_ | refine Mm.l_nx ?_ | refine Mm.l_rt ?_ | refine Mm.b_t ?_ | refine Mm.b_f ?_ | refine Mm.b_nf ?_ | refine Mm.b_nt ?_ | refine Mm.w_bCons ?_ | refine Mm.w_bNil ?_ | refine Mm.p_gt ?_ | refine Mm.p_lt ?_ | refine Mm.p_ge ?_ | refine Mm.p_le ?_ | refine Mm.p_add ?_ | refine Mm.p_sub ?_ | refine Mm.p_neg ?_ | refine Mm.p_eq ?_ | refine Mm.p_ne ?_ | refine Mm.p_int ?_ | refine Mm.p_intB ?_ | refine Mm.p_abs ?_ | refine Mm.p_max ?_ | refine Mm.p_min ?_ | refine Mm.p_eqB ?_ | refine Mm.p_eqS ?_ | refine Mm.p_tupL ?_ | refine Mm.p_tupT ?_ | refine Mm.p_lstL ?_ | refine Mm.p_lstT ?_ | refine Mm.p_lenT ?_ | refine Mm.p_lenL ?_ | refine Mm.p_itT ?_ | refine Mm.p_itL ?_ | refine Mm.p_itS ?_ | refine Mm.p_slT ?_ | refine Mm.p_slL ?_ | refine Mm.p_ltS ?_ | refine Mm.p_geS ?_ | refine c_lnum ?_ | refine ⟨_, rfl, ?_⟩) | ((with_reducible apply Mm.w_var); exact rfl) | ((with_reducible apply Mm.w_slot); exact rfl) | ((with_reducible apply Mm.w_bName); exact rfl) | ((with_reducible apply Mm.w_lenL); exact rfl) | ((with_reducible apply Mm.w_lenD); exact rfl) | ((with_reducible apply Mm.p_ixT); exact rfl) | ((with_reducible apply Mm.p_ixL); exact rfl) | ((with_reducible apply Mm.w_bTup); exact rfl) | ((with_reducible apply Mm.w_len); exact rfl) | ((with_reducible apply Mm.w_append); exact rfl) | ((with_reducible apply Mm.w_varO); exact rfl) | ((with_reducible apply Mm.f_nx); exact rfl) | ((with_reducible apply Mm.f_rt); exact rfl) | ((with_reducible apply Mm.f_rn); exact rfl) | ((with_reducible apply Mm.f_rnL); exact rfl) | ((with_reducible refine Mm.k_nx ?_) <;> try (simp only [List.set_cons_succ, List.set_cons_zero, List.set_nil, List.cons_append, List.nil_append, List.take_succ_cons, List.take_zero, List.take_nil, List.replicate_succ, List.replicate_zero, List.length_cons, List.length_nil, List.length_set, Nat.reduceAdd, Nat.reduceSub, Mm.slotArgs, Mm.putArgs, Mm.putArg, Mm.putSlot])) | ((with_reducible apply Mm.w_bName); exact Mm.free_of rfl (by assumption)) | ((with_reducible apply Mm.w_ixC); exact rfl; exact rfl) | ((with_reducible apply Mm.w_bSubC); exact rfl; exact rfl) | ((with_reducible refine ⟨?_, ?_⟩); exact rfl) | ((with_reducible refine ⟨?_, ?_⟩); exact Mm.free_of rfl (by assumption)) | ((with_reducible apply w_draw); exact rfl)))


def Ints (ds : List Dt) : Prop := ∀ d ∈ ds, ∃ i, d = .int i
section
variable {ρ : Ev} {i : Nat} {f g h : F1} {A : FA} {Q : Dt → Ev → Prop} {QL : List Dt → Ev → Prop} {d : Dt} {B W D k : Nat} {t : Int × Int × Int}
theorem tape_ok {cs : List Dt} {kk : Int} (hc : Ints cs) (h0 : 0 ≤ kk) (h1 : kk ≤ 100) (q : ∀ t rest, Tok 9000000 t → QL [.int t.1, .int t.2.1, .int t.2.2] rest) : E1 (m_law_tape [.ro (.list cs), .ro (.int kk)]) QL := by
  unfold m_law_tape g_law_tape
  refine m_ofN rfl ?_
  have hb : ∀ b : Bool, (0 : Int) ≤ (if b = true then 1 else 0) ∧ (if b = true then (1 : Int) else 0) ≤ 1 := fun b => by cases b <;> decide
  decreasing_trivial_pre_omega
  by_cases hk : kk < (cs.length : Int)
  · refine b_pos (by simpa using hk) ?_
    decreasing_trivial_pre_omega
    refine p_ixM ⟨h0, hk⟩ ?_
    intro z hz
    obtain ⟨c, rfl⟩ := hc z hz
    decreasing_trivial_pre_omega
    refine p_pow (by decide) ?_
    decreasing_trivial_pre_omega
    refine p_mul (Or.inr ⟨Int.lt_of_lt_of_le (by decide) (hb _).1, Int.lt_of_le_of_lt (hb _).2 (by decide)⟩) ?_
    decreasing_trivial_pre_omega
    refine p_mod (by decide) ?_
    decreasing_trivial_pre_omega
    refine p_mul (Or.inl (by decide)) ?_
    decreasing_trivial_pre_omega
    refine q (_, _, 0) _ ⟨?_, ?_, ?_, Int.le_refl _, by show (0 : Int) + 9000000 ≤ 10000000; decide⟩
    · refine Int.mul_nonneg ?_ (hb _).1
      split <;> omega
    · show 0 ≤ _ % _ + _ * kk + 17
      omega
    · show _ % _ + _ * kk + 17 < _
      omega
  · refine b_neg (by simpa using hk) ?_
    decreasing_trivial_pre_omega
    refine p_pow (by decide) ?_
    decreasing_trivial_pre_omega
    refine p_mul (Or.inr ⟨Int.lt_of_lt_of_le (by decide) (hb _).1, Int.lt_of_le_of_lt (hb _).2 (by decide)⟩) ?_
    decreasing_trivial_pre_omega
    refine p_mod (by decide) ?_
    decreasing_trivial_pre_omega
    refine p_mul (Or.inl (by decide)) ?_
    decreasing_trivial_pre_omega
    refine q (_, _, 0) _ ⟨?_, ?_, ?_, Int.le_refl _, by show (0 : Int) + 9000000 ≤ 10000000; decide⟩
    · refine Int.mul_nonneg ?_ (hb _).1
      split <;> omega
    · show 0 ≤ _ % _ + _ * kk + 17
      omega
    · show _ % _ + _ * kk + 17 < _
      omega
theorem cut_ints (ns : List Int) (lo hi : Option Int) : Ints (cutD (ns.map .int) lo hi) := fun d m => by
  obtain ⟨i, _, rfl⟩ := List.mem_map.mp (cut_mem m)
  exact ⟨i, rfl⟩
theorem cut4 (xs : List Dt) : (cutD xs none (some 4)).length = min 4 xs.length ∧ (cutD xs (some 4) (some 63)).length = min 63 xs.length - min 4 xs.length := by
  have e : ∀ d (n : Nat), HT.sIx xs.length d (some (n : Int)) = min n xs.length := fun d n => HT.sIx_nat _ _ _
  have e4 := e xs.length 4
  have e4' := e 0 4
  have e63 := e xs.length 63
  have f4 : ((4 : Nat) : Int) = 4 := rfl
  have f63 : ((63 : Nat) : Int) = 63 := rfl
  rw [f4] at e4 e4'
  rw [f63] at e63
  unfold cutD
  rw [List.length_take, List.length_take, List.length_drop, List.length_drop, e4, e4', e63]
  refine ⟨?_, ?_⟩
  · show min (_ - 0) (_ - 0) = _
    omega
  · omega
theorem folded_ok {ns : List Int} (q : ∀ cs r rest, Ints cs → cs.length ≤ 4 → Q (.list cs) (.scr ns :: r :: rest)) : E1 (m_law_folded [.scr ns, .ro (.int 4)]) Q := by
  unfold m_law_folded g_law_folded
  refine m_of rfl ?_
  decreasing_trivial_pre_omega
  refine w_sliceS rfl ?_
  decreasing_trivial_pre_omega
  refine w_sliceS rfl ?_
  decreasing_trivial_pre_omega
  obtain ⟨l1, l2⟩ := cut4 (ns.map PyData.int)
  refine loop_ix (J := fun i ρ => ∃ cs s3 s4, ρ = [.scr ns, .ro (.int 4), .own false (.lst cs), s3, s4] ∧ FreeS s3 ∧ FreeS s4 ∧ Ints cs ∧ cs.length = min 4 (ns.map PyData.int).length) _ ?_ ?_ _ ⟨_, _, _, rfl, .no, .no, cut_ints _ _ _, l1⟩
  · rintro i d ρ hd ⟨cs, s3, s4, rfl, f3, f4, hi, hl⟩
    obtain ⟨x, hx, rfl⟩ := enumD_get hd
    obtain ⟨c, rfl⟩ := cut_ints _ _ _ x (List.mem_of_getElem? hx)
    have hc4 : cs.length = 4 := by
      have := (List.getElem?_eq_some_iff.mp hx).1
      omega
    unfold pairD
    decreasing_trivial_pre_omega
    refine w_ixS rfl ?_
    decreasing_trivial_pre_omega
    have m4 := modP (i := ((0 + i : Nat) : Int)) (n := 4) (by decide)
    refine p_mod (by decide) ?_
    have hj : (((0 + i : Nat) : Int) % 4).toNat < cs.length := by omega
    have hix : ixN cs.length (((0 + i : Nat) : Int) % 4) = some (((0 + i : Nat) : Int) % 4).toNat := by
      unfold ixN
      rw [if_pos m4.1, if_pos (by omega)]
    obtain ⟨e, he⟩ := hi _ (List.getElem_mem hj)
    refine ⟨_, cs, _, rfl, rfl, .int e, ?_, ?_⟩
    · unfold atI
      rw [hix]
      show cs[_]? = _
      rw [List.getElem?_eq_getElem hj, he]
    decreasing_trivial_pre_omega
    have hi63 : i < 63 := by
      have := (List.getElem?_eq_some_iff.mp hx).1
      omega
    refine p_mul (Or.inr ⟨by omega, by omega⟩) ?_
    decreasing_trivial_pre_omega
    refine w_bSub rfl ?_
    decreasing_trivial_pre_omega
    refine p_mod (by decide) ?_
    refine ⟨_, cs, _, _, rfl, rfl, hix, ?_⟩
    refine ⟨_, _, _, rfl, .ro, .ro, ?_, by rw [List.length_set]; exact hl⟩
    intro d hd
    rcases List.mem_or_eq_of_mem_set hd with m | rfl
    · exact hi d m
    · exact ⟨_, rfl⟩
  · rintro ρ ⟨cs, s3, s4, rfl, f3, f4, hi, hl⟩
    decreasing_trivial_pre_omega
    exact q _ _ _ hi (by omega)
theorem c_bent (v : isVal ρ[i]? = true) (h : E1 (f ρ) fun d ρ1 => ρ1.length = ρ.length ∧ ∃ p t B W D k, ρ1[i]? = some (tp p t) ∧ Tm B W D d ∧ 1 ≤ B ∧ B < 10 ^ 11 ∧ W ≤ 20000 ∧ Tok (k + 25) t ∧ ∀ d' t', Tm (B + 10 ^ 9) (12 * W + 24) (D + 2) d' → Tok k t' → Q d' (ρ1.set i (tp p t'))) :
    E1 (fCall (m_law_bent 6) (fASlot i (fACons f (fACons (fC (.int 4)) fANil))) ρ) Q :=
  w_callT (np := 3) (n := 5) (s := g_law_bent (m_law_bent 5)) rfl v (v_cons (h.mono fun d ρ1 ⟨hl, p, t, B, W, D, k, h1, h2, h3, h4, h5, h6, h7⟩ => v_cons (w_c (v_nil ⟨hl, p, t, h1, bent_ok h3 h4 6 4 (by decide) h2 h5 h6 fun d' t' rest a b => ⟨t', rest, rfl, h7 d' t' (a.le rfl (by omega) (Nat.le_refl _)) b⟩⟩))))
theorem c_right (h : E1 (f ρ) fun d ρ1 => ρ1.length = ρ.length ∧ ∃ B W D, Tm B W D d ∧ B < 10 ^ 12 ∧ W ≤ 100000 ∧ D ≤ 64 ∧ Q (.bool true) ρ1) :
    E1 (fCall m_law_right (fACons f fANil) ρ) Q :=
  w_callV (np := 1) (n := 5) (s := g_law_right) rfl (v_cons (h.mono fun d ρ1 ⟨hl, B, W, D, h1, h2, h3, h4, h5⟩ => v_nil ⟨hl, right_ok h1 h2 h3 h4 fun _ => h5⟩))
theorem c_folded {ns : List Int} (h : ρ[0]? = some (.scr ns)) (q : ∀ cs, Ints cs → cs.length ≤ 4 → Q (.list cs) ρ) : E1 (fCall m_law_folded (fASlot 0 (fACons (fC (.int 4)) fANil)) ρ) Q := by
  refine w_call (w_slot (by rw [h]; rfl) (w_cons (w_c (w_nil ⟨?_, [.scr ns, .ro (.int 4)], ?_, ?_⟩))))
  · simp [ownIx, h]
  · simp [argSlots, argSlot, h, slotIn]
  · refine folded_ok fun cs r rest h1 h2 => ⟨ρ, ?_, rfl, q cs h1 h2⟩
    simp [backs, h]
theorem odd_ok : ∀ d ∈ ([.none, .bool true, .str "", .int 7, .tuple [], .list [], .tuple [.int 3, .tuple [.str "a"], .tuple []], .tuple [.int 3, .tuple [], .tuple []], .tuple [.int 3, .tuple [.str "a", .str "a"], .tuple []], .tuple [.bool true, .tuple [.str "a"], .tuple []]] : List Dt), lvs 100 d = true ∧ d.bulk ≤ 100 ∧ d.depth ≤ 5 := by decide +kernel
theorem law_ok (ns : List Int) : E1 (m_law [.scr ns]) fun d _ => d = .bool true := by
  unfold m_law g_law
  refine m_of rfl ?_
  decreasing_trivial_pre_omega
  refine c_folded rfl ?_
  intro cs hc hcl
  decreasing_trivial_pre_omega
  refine ⟨by split <;> omega, by split <;> omega, ?_⟩
  refine loop_ix (J := fun i ρ => ∃ s2 s3 s4 s5 s6 s7 s8, ρ = [.scr ns, .ro (.list cs), s2, s3, s4, s5, s6, s7, s8] ∧ FreeS s2 ∧ FreeS s3 ∧ FreeS s4 ∧ FreeS s5 ∧ FreeS s6 ∧ FreeS s7 ∧ FreeS s8) _ ?_ ?_ _ ⟨_, _, _, _, _, _, _, rfl, .no, .no, .no, .no, .no, .no, .no⟩
  · rintro i d ρ hd ⟨s2, s3, s4, s5, s6, s7, s8, rfl, f2, f3, f4, f5, f6, f7, f8⟩
    obtain ⟨hi, rfl⟩ := range_get hd
    have hi4 : i < 100 := by
      have : (if (cs.length : Int) > 1 then (cs.length : Int) else 1) ≤ 4 := by split <;> omega
      omega
    decreasing_trivial_pre_omega
    refine w_callNV (np := 2) (n := 3) (s := g_law_tape) rfl ?_
    decreasing_trivial_pre_omega
    refine tape_ok (kk := 0 + (i : Int)) hc (by omega) (by omega) fun t rest hT => ?_
    decreasing_trivial_pre_omega
    refine ⟨by omega, by omega, ?_⟩
    refine loop_ix (J := fun j ρ => ∃ t s4 s5 s6 s7, ρ = [.scr ns, .ro (.list cs), .ro (.int (0 + i)), tp false t, s4, s5, s6, s7, s8] ∧ FreeS s4 ∧ FreeS s5 ∧ FreeS s6 ∧ FreeS s7 ∧ Tok (9000000 - 600 * j) t) _ ?_ ?_ _ ⟨t, _, _, _, _, rfl, f4, f5, f6, f7, hT⟩
    · rintro j d ρ hd ⟨t, s4, s5, s6, s7, rfl, f4, f5, f6, f7, hT⟩
      obtain ⟨hj, rfl⟩ := range_get hd
      have hj3 : j < 3 := hj
      decreasing_trivial_pre_omega
      refine c_plan' rfl ⟨_, t, 9000000 - 600 * j - 100, rfl, hT.le (by omega), fun ds t' hp hT' => ?_⟩
      decreasing_trivial_pre_omega
      refine c_right ?_
      decreasing_trivial_pre_omega
      refine ⟨_, _, _, hp, by decide, by decide, by decide, ?_⟩
      decreasing_trivial_pre_omega
      refine c_right ?_
      decreasing_trivial_pre_omega
      refine ⟨_, _, _, (hp.untup.1.lst), by decide, by decide, by decide, ?_⟩
      decreasing_trivial_pre_omega
      refine ⟨by omega, by omega, ?_⟩
      refine loop_ix (J := fun l ρ => ∃ t s6 s7, ρ = [.scr ns, .ro (.list cs), .ro (.int (0 + i)), tp false t, .ro (.int (0 + j)), .ro (.tuple ds), s6, s7, s8] ∧ FreeS s6 ∧ FreeS s7 ∧ Tok (9000000 - 600 * j - 100 - 51 * l) t) _ ?_ ?_ _ ⟨t', _, _, rfl, f6, f7, hT'⟩
      · rintro l d ρ hd ⟨t, s6, s7, rfl, f6, f7, hT⟩
        obtain ⟨hl, rfl⟩ := range_get hd
        have hl8 : l < 8 := hl
        decreasing_trivial_pre_omega
        refine c_bent rfl ?_
        decreasing_trivial_pre_omega
        refine ⟨_, t, _, _, _, 9000000 - 600 * j - 100 - 51 * l - 25, rfl, hp, by decide, by decide, by decide, hT.le (by omega), fun d1 t1 hd1 hT1 => ?_⟩
        decreasing_trivial_pre_omega
        refine ⟨_, _, _, rfl, rfl, by decide, by decide, (show Tok (9000000 - 600 * j - 100 - 51 * l - 26 + 1) t1 from hT1.le (by omega)), fun r t2 r0 r1 hT2 => ?_⟩
        decreasing_trivial_pre_omega
        by_cases h0 : r = 0
        · refine b_pos (by simpa using h0) ?_
          decreasing_trivial_pre_omega
          refine c_bent rfl ?_
          decreasing_trivial_pre_omega
          refine ⟨_, t2, _, _, _, 9000000 - 600 * j - 100 - 51 * l - 51, rfl, hd1, by decide, by decide, by decide, hT2.le (by omega), fun d2 t3 hd2 hT3 => ?_⟩
          decreasing_trivial_pre_omega
          refine c_right ?_
          decreasing_trivial_pre_omega
          refine ⟨_, _, _, hd2, by decide, by decide, by decide, ?_⟩
          decreasing_trivial_pre_omega
          exact ⟨t3, _, _, rfl, .ro, .ro, hT3.le (by omega)⟩
        · refine b_neg (by simpa using h0) ?_
          decreasing_trivial_pre_omega
          refine c_right ?_
          decreasing_trivial_pre_omega
          refine ⟨_, _, _, hd1, by decide, by decide, by decide, ?_⟩
          decreasing_trivial_pre_omega
          exact ⟨t2, _, _, rfl, .ro, .ro, hT2.le (by omega)⟩
      · rintro ρ ⟨t, s6, s7, rfl, f6, f7, hT⟩
        rw [range_len] at hT
        decreasing_trivial_pre_omega
        exact ⟨t, _, _, _, _, rfl, .ro, .ro, f6, f7, hT.le (by have : (8 : Int).toNat = 8 := rfl; omega)⟩
    · rintro ρ ⟨t, s4, s5, s6, s7, rfl, f4, f5, f6, f7, hT⟩
      decreasing_trivial_pre_omega
      refine loop_ix (J := fun l ρ => ∃ s7 s8, ρ = [.scr ns, .ro (.list cs), .ro (.int (0 + i)), tp false t, s4, s5, s6, s7, s8] ∧ FreeS s7 ∧ FreeS s8) _ ?_ ?_ _ ⟨_, _, rfl, f7, .ro⟩
      · rintro l d ρ hd ⟨s7, s8, rfl, f7, f8⟩
        have hm := odd_ok d (List.mem_of_getElem? hd)
        decreasing_trivial_pre_omega
        refine c_right ?_
        decreasing_trivial_pre_omega
        refine ⟨_, _, _, ⟨hm.1, hm.2.1, hm.2.2⟩, by decide, by decide, by decide, ?_⟩
        decreasing_trivial_pre_omega
        exact ⟨_, _, rfl, .ro, f8⟩
      · rintro ρ ⟨s7, s8, rfl, f7, f8⟩
        decreasing_trivial_pre_omega
        exact ⟨_, _, _, _, _, _, _, rfl, .ro, .own, f4, f5, f6, f7, f8⟩
  · rintro ρ ⟨s2, s3, s4, s5, s6, s7, s8, rfl, f2, f3, f4, f5, f6, f7, f8⟩
    decreasing_trivial_pre_omega
    rfl
end
end K01

namespace K01
open PySem L2 PySem.Spec PyProof.Rows Mm
theorem law_ends (ns : List Int) : ∃ r, m_law [.scr ns] = some (.bool true, r) := by
  obtain ⟨d, r, h1, h2⟩ := law_ok ns
  exact ⟨r, by rw [h1, h2]⟩
set_option maxHeartbeats 16000000 in
theorem all_mk {P : Program} {w : World} {K : PySem.W.Frag} {h : Heap} {mg : Str → Option Value} {fa : Addr} (X : K.In h) (G : h.Ns mainGlobals mg) (hfa : mg "law" = some (.ref fa))
  {f_is_number : Addr} {od_is_number an_is_number : Option Addr} {sl_is_number : Array (Option Value)} {oc_is_number kV_is_number dc_is_number pm_is_number cd_is_number ct_is_number : Value}
  {f_is_between : Addr} {od_is_between an_is_between : Option Addr} {sl_is_between : Array (Option Value)} {oc_is_between kV_is_between dc_is_between pm_is_between cd_is_between ct_is_between : Value}
  {f_is_name : Addr} {od_is_name an_is_name : Option Addr} {sl_is_name : Array (Option Value)} {oc_is_name kV_is_name dc_is_name pm_is_name cd_is_name ct_is_name : Value}
  {f_is_tuple_of : Addr} {od_is_tuple_of an_is_tuple_of : Option Addr} {sl_is_tuple_of : Array (Option Value)} {oc_is_tuple_of kV_is_tuple_of dc_is_tuple_of pm_is_tuple_of cd_is_tuple_of ct_is_tuple_of : Value}
  {f_are_rising : Addr} {od_are_rising an_are_rising : Option Addr} {sl_are_rising : Array (Option Value)} {oc_are_rising kV_are_rising dc_are_rising pm_are_rising cd_are_rising ct_are_rising : Value}
  {f_is_way : Addr} {od_is_way an_is_way : Option Addr} {sl_is_way : Array (Option Value)} {oc_is_way kV_is_way dc_is_way pm_is_way cd_is_way ct_is_way : Value}
  {f_is_plan : Addr} {od_is_plan an_is_plan : Option Addr} {sl_is_plan : Array (Option Value)} {oc_is_plan kV_is_plan dc_is_plan pm_is_plan cd_is_plan ct_is_plan : Value}
  {f_law_tape : Addr} {od_law_tape an_law_tape : Option Addr} {sl_law_tape : Array (Option Value)} {oc_law_tape kV_law_tape dc_law_tape pm_law_tape cd_law_tape ct_law_tape : Value}
  {f_law_draw : Addr} {od_law_draw an_law_draw : Option Addr} {sl_law_draw : Array (Option Value)} {oc_law_draw kV_law_draw dc_law_draw pm_law_draw cd_law_draw ct_law_draw : Value}
  {f_law_folded : Addr} {od_law_folded an_law_folded : Option Addr} {sl_law_folded : Array (Option Value)} {oc_law_folded kV_law_folded dc_law_folded pm_law_folded cd_law_folded ct_law_folded : Value}
  {f_law_names : Addr} {od_law_names an_law_names : Option Addr} {sl_law_names : Array (Option Value)} {oc_law_names kV_law_names dc_law_names pm_law_names cd_law_names ct_law_names : Value}
  {f_law_part : Addr} {od_law_part an_law_part : Option Addr} {sl_law_part : Array (Option Value)} {oc_law_part kV_law_part dc_law_part pm_law_part cd_law_part ct_law_part : Value}
  {f_law_is_number : Addr} {od_law_is_number an_law_is_number : Option Addr} {sl_law_is_number : Array (Option Value)} {oc_law_is_number kV_law_is_number dc_law_is_number pm_law_is_number cd_law_is_number ct_law_is_number : Value}
  {f_law_leaf : Addr} {od_law_leaf an_law_leaf : Option Addr} {sl_law_leaf : Array (Option Value)} {oc_law_leaf kV_law_leaf dc_law_leaf pm_law_leaf cd_law_leaf ct_law_leaf : Value}
  {f_law_row_bent : Addr} {od_law_row_bent an_law_row_bent : Option Addr} {sl_law_row_bent : Array (Option Value)} {oc_law_row_bent kV_law_row_bent dc_law_row_bent pm_law_row_bent cd_law_row_bent ct_law_row_bent : Value}
  {f_law_bent : Addr} {od_law_bent an_law_bent : Option Addr} {sl_law_bent : Array (Option Value)} {oc_law_bent kV_law_bent dc_law_bent pm_law_bent cd_law_bent ct_law_bent : Value}
  {f_law_is_name : Addr} {od_law_is_name an_law_is_name : Option Addr} {sl_law_is_name : Array (Option Value)} {oc_law_is_name kV_law_is_name dc_law_is_name pm_law_is_name cd_law_is_name ct_law_is_name : Value}
  {f_law_rise : Addr} {od_law_rise an_law_rise : Option Addr} {sl_law_rise : Array (Option Value)} {oc_law_rise kV_law_rise dc_law_rise pm_law_rise cd_law_rise ct_law_rise : Value}
  {f_law_is_way : Addr} {od_law_is_way an_law_is_way : Option Addr} {sl_law_is_way : Array (Option Value)} {oc_law_is_way kV_law_is_way dc_law_is_way pm_law_is_way cd_law_is_way ct_law_is_way : Value}
  {f_law_due : Addr} {od_law_due an_law_due : Option Addr} {sl_law_due : Array (Option Value)} {oc_law_due kV_law_due dc_law_due pm_law_due cd_law_due ct_law_due : Value}
  {f_law_plan : Addr} {od_law_plan an_law_plan : Option Addr} {sl_law_plan : Array (Option Value)} {oc_law_plan kV_law_plan dc_law_plan pm_law_plan cd_law_plan ct_law_plan : Value}
  {f_law_right : Addr} {od_law_right an_law_right : Option Addr} {sl_law_right : Array (Option Value)} {oc_law_right kV_law_right dc_law_right pm_law_right cd_law_right ct_law_right : Value}
  {f_law : Addr} {od_law an_law : Option Addr} {sl_law : Array (Option Value)} {oc_law kV_law dc_law pm_law cd_law ct_law : Value}
  {t_CALLERS : PySem.Tok}
  {t_WAYS : PySem.Tok}
  {t_BEATS : PySem.Tok}
  {t_REST : PySem.Tok}
  {t_LEAST_REST : PySem.Tok}
  {t_MOST_SIGNS : PySem.Tok}
  {t_SMALL_SIGNS : PySem.Tok}
  (a_is_number : PySem.W.nsIn K mainGlobals "is_number" = some (some (.ref f_is_number))) (l_is_number : K.lookup f_is_number = some ⟨oc_is_number, od_is_number, .func (PySem.W.fnOf "is_number" "is_number" (defArgs s_is_number) (defBody s_is_number) (defScope s_is_number) .none kV_is_number dc_is_number pm_is_number an_is_number cd_is_number ct_is_number), sl_is_number⟩) (c_is_number : PySem.W.codeIn K cd_is_number "is_number" = true) (k_is_number : PySem.W.keepIn K (.ref f_is_number) = true)
  (a_is_between : PySem.W.nsIn K mainGlobals "is_between" = some (some (.ref f_is_between))) (l_is_between : K.lookup f_is_between = some ⟨oc_is_between, od_is_between, .func (PySem.W.fnOf "is_between" "is_between" (defArgs s_is_between) (defBody s_is_between) (defScope s_is_between) .none kV_is_between dc_is_between pm_is_between an_is_between cd_is_between ct_is_between), sl_is_between⟩) (c_is_between : PySem.W.codeIn K cd_is_between "is_between" = true) (k_is_between : PySem.W.keepIn K (.ref f_is_between) = true)
  (a_is_name : PySem.W.nsIn K mainGlobals "is_name" = some (some (.ref f_is_name))) (l_is_name : K.lookup f_is_name = some ⟨oc_is_name, od_is_name, .func (PySem.W.fnOf "is_name" "is_name" (defArgs s_is_name) (defBody s_is_name) (defScope s_is_name) .none kV_is_name dc_is_name pm_is_name an_is_name cd_is_name ct_is_name), sl_is_name⟩) (c_is_name : PySem.W.codeIn K cd_is_name "is_name" = true) (k_is_name : PySem.W.keepIn K (.ref f_is_name) = true)
  (a_is_tuple_of : PySem.W.nsIn K mainGlobals "is_tuple_of" = some (some (.ref f_is_tuple_of))) (l_is_tuple_of : K.lookup f_is_tuple_of = some ⟨oc_is_tuple_of, od_is_tuple_of, .func (PySem.W.fnOf "is_tuple_of" "is_tuple_of" (defArgs s_is_tuple_of) (defBody s_is_tuple_of) (defScope s_is_tuple_of) .none kV_is_tuple_of dc_is_tuple_of pm_is_tuple_of an_is_tuple_of cd_is_tuple_of ct_is_tuple_of), sl_is_tuple_of⟩) (c_is_tuple_of : PySem.W.codeIn K cd_is_tuple_of "is_tuple_of" = true) (k_is_tuple_of : PySem.W.keepIn K (.ref f_is_tuple_of) = true)
  (a_are_rising : PySem.W.nsIn K mainGlobals "are_rising" = some (some (.ref f_are_rising))) (l_are_rising : K.lookup f_are_rising = some ⟨oc_are_rising, od_are_rising, .func (PySem.W.fnOf "are_rising" "are_rising" (defArgs s_are_rising) (defBody s_are_rising) (defScope s_are_rising) .none kV_are_rising dc_are_rising pm_are_rising an_are_rising cd_are_rising ct_are_rising), sl_are_rising⟩) (c_are_rising : PySem.W.codeIn K cd_are_rising "are_rising" = true) (k_are_rising : PySem.W.keepIn K (.ref f_are_rising) = true)
  (a_is_way : PySem.W.nsIn K mainGlobals "is_way" = some (some (.ref f_is_way))) (l_is_way : K.lookup f_is_way = some ⟨oc_is_way, od_is_way, .func (PySem.W.fnOf "is_way" "is_way" (defArgs s_is_way) (defBody s_is_way) (defScope s_is_way) .none kV_is_way dc_is_way pm_is_way an_is_way cd_is_way ct_is_way), sl_is_way⟩) (c_is_way : PySem.W.codeIn K cd_is_way "is_way" = true) (k_is_way : PySem.W.keepIn K (.ref f_is_way) = true)
  (a_is_plan : PySem.W.nsIn K mainGlobals "is_plan" = some (some (.ref f_is_plan))) (l_is_plan : K.lookup f_is_plan = some ⟨oc_is_plan, od_is_plan, .func (PySem.W.fnOf "is_plan" "is_plan" (defArgs s_is_plan) (defBody s_is_plan) (defScope s_is_plan) .none kV_is_plan dc_is_plan pm_is_plan an_is_plan cd_is_plan ct_is_plan), sl_is_plan⟩) (c_is_plan : PySem.W.codeIn K cd_is_plan "is_plan" = true) (k_is_plan : PySem.W.keepIn K (.ref f_is_plan) = true)
  (a_law_tape : PySem.W.nsIn K mainGlobals "_law_tape" = some (some (.ref f_law_tape))) (l_law_tape : K.lookup f_law_tape = some ⟨oc_law_tape, od_law_tape, .func (PySem.W.fnOf "_law_tape" "_law_tape" (defArgs s_law_tape) (defBody s_law_tape) (defScope s_law_tape) .none kV_law_tape dc_law_tape pm_law_tape an_law_tape cd_law_tape ct_law_tape), sl_law_tape⟩) (c_law_tape : PySem.W.codeIn K cd_law_tape "_law_tape" = true) (k_law_tape : PySem.W.keepIn K (.ref f_law_tape) = true)
  (a_law_draw : PySem.W.nsIn K mainGlobals "_law_draw" = some (some (.ref f_law_draw))) (l_law_draw : K.lookup f_law_draw = some ⟨oc_law_draw, od_law_draw, .func (PySem.W.fnOf "_law_draw" "_law_draw" (defArgs s_law_draw) (defBody s_law_draw) (defScope s_law_draw) .none kV_law_draw dc_law_draw pm_law_draw an_law_draw cd_law_draw ct_law_draw), sl_law_draw⟩) (c_law_draw : PySem.W.codeIn K cd_law_draw "_law_draw" = true) (k_law_draw : PySem.W.keepIn K (.ref f_law_draw) = true)
  (a_law_folded : PySem.W.nsIn K mainGlobals "_law_folded" = some (some (.ref f_law_folded))) (l_law_folded : K.lookup f_law_folded = some ⟨oc_law_folded, od_law_folded, .func (PySem.W.fnOf "_law_folded" "_law_folded" (defArgs s_law_folded) (defBody s_law_folded) (defScope s_law_folded) .none kV_law_folded dc_law_folded pm_law_folded an_law_folded cd_law_folded ct_law_folded), sl_law_folded⟩) (c_law_folded : PySem.W.codeIn K cd_law_folded "_law_folded" = true) (k_law_folded : PySem.W.keepIn K (.ref f_law_folded) = true)
  (a_law_names : PySem.W.nsIn K mainGlobals "_law_names" = some (some (.ref f_law_names))) (l_law_names : K.lookup f_law_names = some ⟨oc_law_names, od_law_names, .func (PySem.W.fnOf "_law_names" "_law_names" (defArgs s_law_names) (defBody s_law_names) (defScope s_law_names) .none kV_law_names dc_law_names pm_law_names an_law_names cd_law_names ct_law_names), sl_law_names⟩) (c_law_names : PySem.W.codeIn K cd_law_names "_law_names" = true) (k_law_names : PySem.W.keepIn K (.ref f_law_names) = true)
  (a_law_part : PySem.W.nsIn K mainGlobals "_law_part" = some (some (.ref f_law_part))) (l_law_part : K.lookup f_law_part = some ⟨oc_law_part, od_law_part, .func (PySem.W.fnOf "_law_part" "_law_part" (defArgs s_law_part) (defBody s_law_part) (defScope s_law_part) .none kV_law_part dc_law_part pm_law_part an_law_part cd_law_part ct_law_part), sl_law_part⟩) (c_law_part : PySem.W.codeIn K cd_law_part "_law_part" = true) (k_law_part : PySem.W.keepIn K (.ref f_law_part) = true)
  (a_law_is_number : PySem.W.nsIn K mainGlobals "_law_is_number" = some (some (.ref f_law_is_number))) (l_law_is_number : K.lookup f_law_is_number = some ⟨oc_law_is_number, od_law_is_number, .func (PySem.W.fnOf "_law_is_number" "_law_is_number" (defArgs s_law_is_number) (defBody s_law_is_number) (defScope s_law_is_number) .none kV_law_is_number dc_law_is_number pm_law_is_number an_law_is_number cd_law_is_number ct_law_is_number), sl_law_is_number⟩) (c_law_is_number : PySem.W.codeIn K cd_law_is_number "_law_is_number" = true) (k_law_is_number : PySem.W.keepIn K (.ref f_law_is_number) = true)
  (a_law_leaf : PySem.W.nsIn K mainGlobals "_law_leaf" = some (some (.ref f_law_leaf))) (l_law_leaf : K.lookup f_law_leaf = some ⟨oc_law_leaf, od_law_leaf, .func (PySem.W.fnOf "_law_leaf" "_law_leaf" (defArgs s_law_leaf) (defBody s_law_leaf) (defScope s_law_leaf) .none kV_law_leaf dc_law_leaf pm_law_leaf an_law_leaf cd_law_leaf ct_law_leaf), sl_law_leaf⟩) (c_law_leaf : PySem.W.codeIn K cd_law_leaf "_law_leaf" = true) (k_law_leaf : PySem.W.keepIn K (.ref f_law_leaf) = true)
  (a_law_row_bent : PySem.W.nsIn K mainGlobals "_law_row_bent" = some (some (.ref f_law_row_bent))) (l_law_row_bent : K.lookup f_law_row_bent = some ⟨oc_law_row_bent, od_law_row_bent, .func (PySem.W.fnOf "_law_row_bent" "_law_row_bent" (defArgs s_law_row_bent) (defBody s_law_row_bent) (defScope s_law_row_bent) .none kV_law_row_bent dc_law_row_bent pm_law_row_bent an_law_row_bent cd_law_row_bent ct_law_row_bent), sl_law_row_bent⟩) (c_law_row_bent : PySem.W.codeIn K cd_law_row_bent "_law_row_bent" = true) (k_law_row_bent : PySem.W.keepIn K (.ref f_law_row_bent) = true)
  (a_law_bent : PySem.W.nsIn K mainGlobals "_law_bent" = some (some (.ref f_law_bent))) (l_law_bent : K.lookup f_law_bent = some ⟨oc_law_bent, od_law_bent, .func (PySem.W.fnOf "_law_bent" "_law_bent" (defArgs s_law_bent) (defBody s_law_bent) (defScope s_law_bent) .none kV_law_bent dc_law_bent pm_law_bent an_law_bent cd_law_bent ct_law_bent), sl_law_bent⟩) (c_law_bent : PySem.W.codeIn K cd_law_bent "_law_bent" = true) (k_law_bent : PySem.W.keepIn K (.ref f_law_bent) = true)
  (a_law_is_name : PySem.W.nsIn K mainGlobals "_law_is_name" = some (some (.ref f_law_is_name))) (l_law_is_name : K.lookup f_law_is_name = some ⟨oc_law_is_name, od_law_is_name, .func (PySem.W.fnOf "_law_is_name" "_law_is_name" (defArgs s_law_is_name) (defBody s_law_is_name) (defScope s_law_is_name) .none kV_law_is_name dc_law_is_name pm_law_is_name an_law_is_name cd_law_is_name ct_law_is_name), sl_law_is_name⟩) (c_law_is_name : PySem.W.codeIn K cd_law_is_name "_law_is_name" = true) (k_law_is_name : PySem.W.keepIn K (.ref f_law_is_name) = true)
  (a_law_rise : PySem.W.nsIn K mainGlobals "_law_rise" = some (some (.ref f_law_rise))) (l_law_rise : K.lookup f_law_rise = some ⟨oc_law_rise, od_law_rise, .func (PySem.W.fnOf "_law_rise" "_law_rise" (defArgs s_law_rise) (defBody s_law_rise) (defScope s_law_rise) .none kV_law_rise dc_law_rise pm_law_rise an_law_rise cd_law_rise ct_law_rise), sl_law_rise⟩) (c_law_rise : PySem.W.codeIn K cd_law_rise "_law_rise" = true) (k_law_rise : PySem.W.keepIn K (.ref f_law_rise) = true)
  (a_law_is_way : PySem.W.nsIn K mainGlobals "_law_is_way" = some (some (.ref f_law_is_way))) (l_law_is_way : K.lookup f_law_is_way = some ⟨oc_law_is_way, od_law_is_way, .func (PySem.W.fnOf "_law_is_way" "_law_is_way" (defArgs s_law_is_way) (defBody s_law_is_way) (defScope s_law_is_way) .none kV_law_is_way dc_law_is_way pm_law_is_way an_law_is_way cd_law_is_way ct_law_is_way), sl_law_is_way⟩) (c_law_is_way : PySem.W.codeIn K cd_law_is_way "_law_is_way" = true) (k_law_is_way : PySem.W.keepIn K (.ref f_law_is_way) = true)
  (a_law_due : PySem.W.nsIn K mainGlobals "_law_due" = some (some (.ref f_law_due))) (l_law_due : K.lookup f_law_due = some ⟨oc_law_due, od_law_due, .func (PySem.W.fnOf "_law_due" "_law_due" (defArgs s_law_due) (defBody s_law_due) (defScope s_law_due) .none kV_law_due dc_law_due pm_law_due an_law_due cd_law_due ct_law_due), sl_law_due⟩) (c_law_due : PySem.W.codeIn K cd_law_due "_law_due" = true) (k_law_due : PySem.W.keepIn K (.ref f_law_due) = true)
  (a_law_plan : PySem.W.nsIn K mainGlobals "_law_plan" = some (some (.ref f_law_plan))) (l_law_plan : K.lookup f_law_plan = some ⟨oc_law_plan, od_law_plan, .func (PySem.W.fnOf "_law_plan" "_law_plan" (defArgs s_law_plan) (defBody s_law_plan) (defScope s_law_plan) .none kV_law_plan dc_law_plan pm_law_plan an_law_plan cd_law_plan ct_law_plan), sl_law_plan⟩) (c_law_plan : PySem.W.codeIn K cd_law_plan "_law_plan" = true) (k_law_plan : PySem.W.keepIn K (.ref f_law_plan) = true)
  (a_law_right : PySem.W.nsIn K mainGlobals "_law_right" = some (some (.ref f_law_right))) (l_law_right : K.lookup f_law_right = some ⟨oc_law_right, od_law_right, .func (PySem.W.fnOf "_law_right" "_law_right" (defArgs s_law_right) (defBody s_law_right) (defScope s_law_right) .none kV_law_right dc_law_right pm_law_right an_law_right cd_law_right ct_law_right), sl_law_right⟩) (c_law_right : PySem.W.codeIn K cd_law_right "_law_right" = true) (k_law_right : PySem.W.keepIn K (.ref f_law_right) = true)
  (a_law : PySem.W.nsIn K mainGlobals "law" = some (some (.ref f_law))) (l_law : K.lookup f_law = some ⟨oc_law, od_law, .func (PySem.W.fnOf "law" "law" (defArgs s_law) (defBody s_law) (defScope s_law) .none kV_law dc_law pm_law an_law cd_law ct_law), sl_law⟩) (c_law : PySem.W.codeIn K cd_law "law" = true) (k_law : PySem.W.keepIn K (.ref f_law) = true)
  (z_abs : PySem.W.nsIn K mainGlobals "abs" = some none)
  (z_all : PySem.W.nsIn K mainGlobals "all" = some none)
  (z_bool : PySem.W.nsIn K mainGlobals "bool" = some none)
  (z_enumerate : PySem.W.nsIn K mainGlobals "enumerate" = some none)
  (z_int : PySem.W.nsIn K mainGlobals "int" = some none)
  (z_isinstance : PySem.W.nsIn K mainGlobals "isinstance" = some none)
  (z_len : PySem.W.nsIn K mainGlobals "len" = some none)
  (z_list : PySem.W.nsIn K mainGlobals "list" = some none)
  (z_max : PySem.W.nsIn K mainGlobals "max" = some none)
  (z_min : PySem.W.nsIn K mainGlobals "min" = some none)
  (z_range : PySem.W.nsIn K mainGlobals "range" = some none)
  (z_repr : PySem.W.nsIn K mainGlobals "repr" = some none)
  (z_sorted : PySem.W.nsIn K mainGlobals "sorted" = some none)
  (z_str : PySem.W.nsIn K mainGlobals "str" = some none)
  (z_tuple : PySem.W.nsIn K mainGlobals "tuple" = some none)
  (z_zip : PySem.W.nsIn K mainGlobals "zip" = some none)
  (q_CALLERS : PySem.W.nsIn K mainGlobals "CALLERS" = some (some (.int 8 t_CALLERS)))
  (q_WAYS : PySem.W.nsIn K mainGlobals "WAYS" = some (some (.int 10 t_WAYS)))
  (q_BEATS : PySem.W.nsIn K mainGlobals "BEATS" = some (some (.int 6 t_BEATS)))
  (q_REST : PySem.W.nsIn K mainGlobals "REST" = some (some (.int 24 t_REST)))
  (q_LEAST_REST : PySem.W.nsIn K mainGlobals "LEAST_REST" = some (some (.int 3 t_LEAST_REST)))
  (q_MOST_SIGNS : PySem.W.nsIn K mainGlobals "MOST_SIGNS" = some (some (.int 8 t_MOST_SIGNS)))
  (q_SMALL_SIGNS : PySem.W.nsIn K mainGlobals "SMALL_SIGNS" = some (some (.str "abcdefghijklmnopqrstuvwxyz" t_SMALL_SIGNS))) :
  ∃ fd : FuncData, (∀ (s : Shared) (v : Value), BindsTo s fd ⟨[v], []⟩ [("script", v)]) ∧ ∀ base : Heap, K.In base → base.Ns mainGlobals mg → FnG P w K mg base 9 fa fd ["script"] (spM K m_law) := by
  have e := hfa.symm.trans (PySem.W.mg_of X G a_law)
  cases e
  have T : Txt mg := ⟨PySem.W.mg_none_of X G z_abs, PySem.W.mg_none_of X G z_all, PySem.W.mg_none_of X G z_bool, PySem.W.mg_none_of X G z_enumerate, PySem.W.mg_none_of X G z_int, PySem.W.mg_none_of X G z_isinstance, PySem.W.mg_none_of X G z_len, PySem.W.mg_none_of X G z_list, PySem.W.mg_none_of X G z_max, PySem.W.mg_none_of X G z_min, PySem.W.mg_none_of X G z_range, PySem.W.mg_none_of X G z_repr, PySem.W.mg_none_of X G z_sorted, PySem.W.mg_none_of X G z_str, PySem.W.mg_none_of X G z_tuple, PySem.W.mg_none_of X G z_zip, ⟨t_CALLERS, PySem.W.mg_of X G q_CALLERS⟩, ⟨t_WAYS, PySem.W.mg_of X G q_WAYS⟩, ⟨t_BEATS, PySem.W.mg_of X G q_BEATS⟩, ⟨t_REST, PySem.W.mg_of X G q_REST⟩, ⟨t_LEAST_REST, PySem.W.mg_of X G q_LEAST_REST⟩, ⟨t_MOST_SIGNS, PySem.W.mg_of X G q_MOST_SIGNS⟩, ⟨t_SMALL_SIGNS, PySem.W.mg_of X G q_SMALL_SIGNS⟩⟩
  have F_is_number := fun_mk (st := s_is_number) l_is_number c_is_number k_is_number
  have D_is_number : Df K mg "is_number" s_is_number ["thing"] f_is_number _ := ⟨F_is_number, PySem.W.mg_of X G a_is_number, F_is_number.binds (ps := ["thing"]) fun _ _ _ _ _ _ us hl => match us, hl with | [_], _ => rfl⟩
  have F_is_between := fun_mk (st := s_is_between) l_is_between c_is_between k_is_between
  have D_is_between : Df K mg "is_between" s_is_between ["thing", "least", "most"] f_is_between _ := ⟨F_is_between, PySem.W.mg_of X G a_is_between, F_is_between.binds (ps := ["thing", "least", "most"]) fun _ _ _ _ _ _ us hl => match us, hl with | [_, _, _], _ => rfl⟩
  have F_is_name := fun_mk (st := s_is_name) l_is_name c_is_name k_is_name
  have D_is_name : Df K mg "is_name" s_is_name ["thing"] f_is_name _ := ⟨F_is_name, PySem.W.mg_of X G a_is_name, F_is_name.binds (ps := ["thing"]) fun _ _ _ _ _ _ us hl => match us, hl with | [_], _ => rfl⟩
  have F_is_tuple_of := fun_mk (st := s_is_tuple_of) l_is_tuple_of c_is_tuple_of k_is_tuple_of
  have D_is_tuple_of : Df K mg "is_tuple_of" s_is_tuple_of ["thing", "many"] f_is_tuple_of _ := ⟨F_is_tuple_of, PySem.W.mg_of X G a_is_tuple_of, F_is_tuple_of.binds (ps := ["thing", "many"]) fun _ _ _ _ _ _ us hl => match us, hl with | [_, _], _ => rfl⟩
  have F_are_rising := fun_mk (st := s_are_rising) l_are_rising c_are_rising k_are_rising
  have D_are_rising : Df K mg "are_rising" s_are_rising ["things"] f_are_rising _ := ⟨F_are_rising, PySem.W.mg_of X G a_are_rising, F_are_rising.binds (ps := ["things"]) fun _ _ _ _ _ _ us hl => match us, hl with | [_], _ => rfl⟩
  have F_is_way := fun_mk (st := s_is_way) l_is_way c_is_way k_is_way
  have D_is_way : Df K mg "is_way" s_is_way ["rest", "callers", "thing"] f_is_way _ := ⟨F_is_way, PySem.W.mg_of X G a_is_way, F_is_way.binds (ps := ["rest", "callers", "thing"]) fun _ _ _ _ _ _ us hl => match us, hl with | [_, _, _], _ => rfl⟩
  have F_is_plan := fun_mk (st := s_is_plan) l_is_plan c_is_plan k_is_plan
  have D_is_plan : Df K mg "is_plan" s_is_plan ["thing"] f_is_plan _ := ⟨F_is_plan, PySem.W.mg_of X G a_is_plan, F_is_plan.binds (ps := ["thing"]) fun _ _ _ _ _ _ us hl => match us, hl with | [_], _ => rfl⟩
  have kb_is_plan : ∀ (s : Shared) (ws : List Value), ws.length = 1 → BindsTo s (PySem.W.fnOf "is_plan" "is_plan" (defArgs s_is_plan) (defBody s_is_plan) (defScope s_is_plan) .none kV_is_plan dc_is_plan pm_is_plan an_is_plan cd_is_plan ct_is_plan) ⟨[], List.zip ["thing"] ws⟩ (List.zip ["thing"] ws) := fun s ws hl => match ws, hl with | [_], _ => .of_eq rfl
  have F_law_tape := fun_mk (st := s_law_tape) l_law_tape c_law_tape k_law_tape
  have D_law_tape : Df K mg "_law_tape" s_law_tape ["script", "k"] f_law_tape _ := ⟨F_law_tape, PySem.W.mg_of X G a_law_tape, F_law_tape.binds (ps := ["script", "k"]) fun _ _ _ _ _ _ us hl => match us, hl with | [_, _], _ => rfl⟩
  have F_law_draw := fun_mk (st := s_law_draw) l_law_draw c_law_draw k_law_draw
  have D_law_draw : Df K mg "_law_draw" s_law_draw ["tape", "many"] f_law_draw _ := ⟨F_law_draw, PySem.W.mg_of X G a_law_draw, F_law_draw.binds (ps := ["tape", "many"]) fun _ _ _ _ _ _ us hl => match us, hl with | [_, _], _ => rfl⟩
  have F_law_folded := fun_mk (st := s_law_folded) l_law_folded c_law_folded k_law_folded
  have D_law_folded : Df K mg "_law_folded" s_law_folded ["script", "many"] f_law_folded _ := ⟨F_law_folded, PySem.W.mg_of X G a_law_folded, F_law_folded.binds (ps := ["script", "many"]) fun _ _ _ _ _ _ us hl => match us, hl with | [_, _], _ => rfl⟩
  have F_law_names := fun_mk (st := s_law_names) l_law_names c_law_names k_law_names
  have D_law_names : Df K mg "_law_names" s_law_names ["tape", "many"] f_law_names _ := ⟨F_law_names, PySem.W.mg_of X G a_law_names, F_law_names.binds (ps := ["tape", "many"]) fun _ _ _ _ _ _ us hl => match us, hl with | [_, _], _ => rfl⟩
  have F_law_part := fun_mk (st := s_law_part) l_law_part c_law_part k_law_part
  have D_law_part : Df K mg "_law_part" s_law_part ["tape", "some", "many"] f_law_part _ := ⟨F_law_part, PySem.W.mg_of X G a_law_part, F_law_part.binds (ps := ["tape", "some", "many"]) fun _ _ _ _ _ _ us hl => match us, hl with | [_, _, _], _ => rfl⟩
  have F_law_is_number := fun_mk (st := s_law_is_number) l_law_is_number c_law_is_number k_law_is_number
  have D_law_is_number : Df K mg "_law_is_number" s_law_is_number ["a_thing"] f_law_is_number _ := ⟨F_law_is_number, PySem.W.mg_of X G a_law_is_number, F_law_is_number.binds (ps := ["a_thing"]) fun _ _ _ _ _ _ us hl => match us, hl with | [_], _ => rfl⟩
  have F_law_leaf := fun_mk (st := s_law_leaf) l_law_leaf c_law_leaf k_law_leaf
  have D_law_leaf : Df K mg "_law_leaf" s_law_leaf ["tape", "a_thing"] f_law_leaf _ := ⟨F_law_leaf, PySem.W.mg_of X G a_law_leaf, F_law_leaf.binds (ps := ["tape", "a_thing"]) fun _ _ _ _ _ _ us hl => match us, hl with | [_, _], _ => rfl⟩
  have F_law_row_bent := fun_mk (st := s_law_row_bent) l_law_row_bent c_law_row_bent k_law_row_bent
  have D_law_row_bent : Df K mg "_law_row_bent" s_law_row_bent ["tape", "a_thing"] f_law_row_bent _ := ⟨F_law_row_bent, PySem.W.mg_of X G a_law_row_bent, F_law_row_bent.binds (ps := ["tape", "a_thing"]) fun _ _ _ _ _ _ us hl => match us, hl with | [_, _], _ => rfl⟩
  have F_law_bent := fun_mk (st := s_law_bent) l_law_bent c_law_bent k_law_bent
  have D_law_bent : Df K mg "_law_bent" s_law_bent ["tape", "a_thing", "deep"] f_law_bent _ := ⟨F_law_bent, PySem.W.mg_of X G a_law_bent, F_law_bent.binds (ps := ["tape", "a_thing", "deep"]) fun _ _ _ _ _ _ us hl => match us, hl with | [_, _, _], _ => rfl⟩
  have F_law_is_name := fun_mk (st := s_law_is_name) l_law_is_name c_law_is_name k_law_is_name
  have D_law_is_name : Df K mg "_law_is_name" s_law_is_name ["a_thing"] f_law_is_name _ := ⟨F_law_is_name, PySem.W.mg_of X G a_law_is_name, F_law_is_name.binds (ps := ["a_thing"]) fun _ _ _ _ _ _ us hl => match us, hl with | [_], _ => rfl⟩
  have F_law_rise := fun_mk (st := s_law_rise) l_law_rise c_law_rise k_law_rise
  have D_law_rise : Df K mg "_law_rise" s_law_rise ["names"] f_law_rise _ := ⟨F_law_rise, PySem.W.mg_of X G a_law_rise, F_law_rise.binds (ps := ["names"]) fun _ _ _ _ _ _ us hl => match us, hl with | [_], _ => rfl⟩
  have F_law_is_way := fun_mk (st := s_law_is_way) l_law_is_way c_law_is_way k_law_is_way
  have D_law_is_way : Df K mg "_law_is_way" s_law_is_way ["rest", "callers", "a_thing"] f_law_is_way _ := ⟨F_law_is_way, PySem.W.mg_of X G a_law_is_way, F_law_is_way.binds (ps := ["rest", "callers", "a_thing"]) fun _ _ _ _ _ _ us hl => match us, hl with | [_, _, _], _ => rfl⟩
  have F_law_due := fun_mk (st := s_law_due) l_law_due c_law_due k_law_due
  have D_law_due : Df K mg "_law_due" s_law_due ["a_thing"] f_law_due _ := ⟨F_law_due, PySem.W.mg_of X G a_law_due, F_law_due.binds (ps := ["a_thing"]) fun _ _ _ _ _ _ us hl => match us, hl with | [_], _ => rfl⟩
  have F_law_plan := fun_mk (st := s_law_plan) l_law_plan c_law_plan k_law_plan
  have D_law_plan : Df K mg "_law_plan" s_law_plan ["tape"] f_law_plan _ := ⟨F_law_plan, PySem.W.mg_of X G a_law_plan, F_law_plan.binds (ps := ["tape"]) fun _ _ _ _ _ _ us hl => match us, hl with | [_], _ => rfl⟩
  have F_law_right := fun_mk (st := s_law_right) l_law_right c_law_right k_law_right
  have D_law_right : Df K mg "_law_right" s_law_right ["a_thing"] f_law_right _ := ⟨F_law_right, PySem.W.mg_of X G a_law_right, F_law_right.binds (ps := ["a_thing"]) fun _ _ _ _ _ _ us hl => match us, hl with | [_], _ => rfl⟩
  have F_law := fun_mk (st := s_law) l_law c_law k_law
  have D_law : Df K mg "law" s_law ["script"] fa _ := ⟨F_law, PySem.W.mg_of X G a_law, F_law.binds (ps := ["script"]) fun _ _ _ _ _ _ us hl => match us, hl with | [_], _ => rfl⟩
  refine ⟨PySem.W.fnOf "law" "law" (defArgs s_law) (defBody s_law) (defScope s_law) .none kV_law dc_law pm_law an_law cd_law ct_law, fun s v => .of_eq rfl, fun base _ _ => ?_⟩
  have G_is_number := ok_is_number (P := P) (w := w) (base := base) T D_is_number
  have G_is_between := ok_is_between (P := P) (w := w) (base := base) T D_is_between D_is_number G_is_number
  have G_is_name := ok_is_name (P := P) (w := w) (base := base) T D_is_name
  have G_is_tuple_of := ok_is_tuple_of (P := P) (w := w) (base := base) T D_is_tuple_of
  have G_are_rising := ok_are_rising (P := P) (w := w) (base := base) T D_are_rising
  have G_is_way := ok_is_way (P := P) (w := w) (base := base) T D_is_way D_is_tuple_of G_is_tuple_of D_is_between G_is_between D_is_name G_is_name
  have G_is_plan := ok_is_plan (P := P) (w := w) (base := base) T D_is_plan D_is_tuple_of G_is_tuple_of D_are_rising G_are_rising D_is_between G_is_between D_is_way G_is_way D_is_name G_is_name
  have G_law_tape := ok_law_tape (P := P) (w := w) (base := base) T D_law_tape
  have G_law_draw := ok_law_draw (P := P) (w := w) (base := base) T D_law_draw
  have G_law_folded := ok_law_folded (P := P) (w := w) (base := base) T D_law_folded
  have G_law_names := ok_law_names (P := P) (w := w) (base := base) T D_law_names D_law_draw G_law_draw
  have G_law_part := ok_law_part (P := P) (w := w) (base := base) T D_law_part D_law_draw G_law_draw
  have G_law_is_number := ok_law_is_number (P := P) (w := w) (base := base) T D_law_is_number
  have G_law_leaf := ok_law_leaf (P := P) (w := w) (base := base) T D_law_leaf D_law_draw G_law_draw D_law_is_number G_law_is_number
  have G_law_row_bent := ok_law_row_bent (P := P) (w := w) (base := base) T D_law_row_bent D_law_draw G_law_draw
  have G_law_bent := ok_law_bent (P := P) (w := w) (base := base) T D_law_bent D_law_leaf G_law_leaf D_law_row_bent G_law_row_bent D_law_draw G_law_draw
  have G_law_is_name := ok_law_is_name (P := P) (w := w) (base := base) T D_law_is_name
  have G_law_rise := ok_law_rise (P := P) (w := w) (base := base) T D_law_rise
  have G_law_is_way := ok_law_is_way (P := P) (w := w) (base := base) T D_law_is_way D_law_is_number G_law_is_number D_law_is_name G_law_is_name
  have G_law_due := ok_law_due (P := P) (w := w) (base := base) T D_law_due D_law_rise G_law_rise D_law_is_number G_law_is_number D_law_is_way G_law_is_way D_law_is_name G_law_is_name
  have G_law_plan := ok_law_plan (P := P) (w := w) (base := base) T D_law_plan D_law_names G_law_names D_law_draw G_law_draw D_law_part G_law_part
  have G_law_right := ok_law_right (P := P) (w := w) (base := base) T D_law_right D_law_due G_law_due D_is_plan G_is_plan kb_is_plan
  exact ok_law (P := P) (w := w) (base := base) T D_law D_law_folded G_law_folded D_law_tape G_law_tape D_law_plan G_law_plan D_law_bent G_law_bent D_law_right G_law_right D_law_draw G_law_draw
end K01
open PySem PySem.W PyProof.Rows
set_option maxRecDepth 100000 in
set_option maxHeartbeats 0 in
theorem PySem.Challenge.cw_hoarseheath_k01_plans_or_not_holds : PySem.Challenge.rw_hoarseheath_k01_plans_or_not.Holds := by
  w_on; o_law; k_head; (case hw => w_witness2)
  k_fill
  refine Mm.walk_M (l := PySem.Challenge.rw_hoarseheath_k01_plans_or_not) (n := 63) (k := 9) (x := "script") (m := K01.m_law) rfl (by decide) rfl ⟨rfl, by decide, by decide⟩ (fun w h Y => PySem.W.kIn_of Y) ?F (fun ns _ => K01.law_ends ns)
  case F =>
    intro w mg fa h KX G hmg
    refine' K01.all_mk (P := PySem.Challenge.pw_hoarseheath_k01_plans_or_not) KX G hmg ?a_is_number ?l_is_number ?c_is_number ?k_is_number ?a_is_between ?l_is_between ?c_is_between ?k_is_between ?a_is_name ?l_is_name ?c_is_name ?k_is_name ?a_is_tuple_of ?l_is_tuple_of ?c_is_tuple_of ?k_is_tuple_of ?a_are_rising ?l_are_rising ?c_are_rising ?k_are_rising ?a_is_way ?l_is_way ?c_is_way ?k_is_way ?a_is_plan ?l_is_plan ?c_is_plan ?k_is_plan ?a_law_tape ?l_law_tape ?c_law_tape ?k_law_tape ?a_law_draw ?l_law_draw ?c_law_draw ?k_law_draw ?a_law_folded ?l_law_folded ?c_law_folded ?k_law_folded ?a_law_names ?l_law_names ?c_law_names ?k_law_names ?a_law_part ?l_law_part ?c_law_part ?k_law_part ?a_law_is_number ?l_law_is_number ?c_law_is_number ?k_law_is_number ?a_law_leaf ?l_law_leaf ?c_law_leaf ?k_law_leaf ?a_law_row_bent ?l_law_row_bent ?c_law_row_bent ?k_law_row_bent ?a_law_bent ?l_law_bent ?c_law_bent ?k_law_bent ?a_law_is_name ?l_law_is_name ?c_law_is_name ?k_law_is_name ?a_law_rise ?l_law_rise ?c_law_rise ?k_law_rise ?a_law_is_way ?l_law_is_way ?c_law_is_way ?k_law_is_way ?a_law_due ?l_law_due ?c_law_due ?k_law_due ?a_law_plan ?l_law_plan ?c_law_plan ?k_law_plan ?a_law_right ?l_law_right ?c_law_right ?k_law_right ?a_law ?l_law ?c_law ?k_law ?z_abs ?z_all ?z_bool ?z_enumerate ?z_int ?z_isinstance ?z_len ?z_list ?z_max ?z_min ?z_range ?z_repr ?z_sorted ?z_str ?z_tuple ?z_zip ?q_CALLERS ?q_WAYS ?q_BEATS ?q_REST ?q_LEAST_REST ?q_MOST_SIGNS ?q_SMALL_SIGNS
    (case a_is_number => k_is); (case l_is_number => k_is); (case c_is_number => k_is); (case k_is_number => k_is); (case a_is_between => k_is); (case l_is_between => k_is); (case c_is_between => k_is); (case k_is_between => k_is); (case a_is_name => k_is); (case l_is_name => k_is); (case c_is_name => k_is); (case k_is_name => k_is); (case a_is_tuple_of => k_is); (case l_is_tuple_of => k_is); (case c_is_tuple_of => k_is); (case k_is_tuple_of => k_is); (case a_are_rising => k_is); (case l_are_rising => k_is); (case c_are_rising => k_is); (case k_are_rising => k_is); (case a_is_way => k_is); (case l_is_way => k_is); (case c_is_way => k_is); (case k_is_way => k_is); (case a_is_plan => k_is); (case l_is_plan => k_is); (case c_is_plan => k_is); (case k_is_plan => k_is); (case a_law_tape => k_is); (case l_law_tape => k_is); (case c_law_tape => k_is); (case k_law_tape => k_is); (case a_law_draw => k_is); (case l_law_draw => k_is); (case c_law_draw => k_is); (case k_law_draw => k_is); (case a_law_folded => k_is); (case l_law_folded => k_is); (case c_law_folded => k_is); (case k_law_folded => k_is); (case a_law_names => k_is); (case l_law_names => k_is); (case c_law_names => k_is); (case k_law_names => k_is); (case a_law_part => k_is); (case l_law_part => k_is); (case c_law_part => k_is); (case k_law_part => k_is); (case a_law_is_number => k_is); (case l_law_is_number => k_is); (case c_law_is_number => k_is); (case k_law_is_number => k_is); (case a_law_leaf => k_is); (case l_law_leaf => k_is); (case c_law_leaf => k_is); (case k_law_leaf => k_is); (case a_law_row_bent => k_is); (case l_law_row_bent => k_is); (case c_law_row_bent => k_is); (case k_law_row_bent => k_is); (case a_law_bent => k_is); (case l_law_bent => k_is); (case c_law_bent => k_is); (case k_law_bent => k_is); (case a_law_is_name => k_is); (case l_law_is_name => k_is); (case c_law_is_name => k_is); (case k_law_is_name => k_is); (case a_law_rise => k_is); (case l_law_rise => k_is); (case c_law_rise => k_is); (case k_law_rise => k_is); (case a_law_is_way => k_is); (case l_law_is_way => k_is); (case c_law_is_way => k_is); (case k_law_is_way => k_is); (case a_law_due => k_is); (case l_law_due => k_is); (case c_law_due => k_is); (case k_law_due => k_is); (case a_law_plan => k_is); (case l_law_plan => k_is); (case c_law_plan => k_is); (case k_law_plan => k_is); (case a_law_right => k_is); (case l_law_right => k_is); (case c_law_right => k_is); (case k_law_right => k_is); (case a_law => k_is); (case l_law => k_is); (case c_law => k_is); (case k_law => k_is); (case z_abs => k_is); (case z_all => k_is); (case z_bool => k_is); (case z_enumerate => k_is); (case z_int => k_is); (case z_isinstance => k_is); (case z_len => k_is); (case z_list => k_is); (case z_max => k_is); (case z_min => k_is); (case z_range => k_is); (case z_repr => k_is); (case z_sorted => k_is); (case z_str => k_is); (case z_tuple => k_is); (case z_zip => k_is); (case q_CALLERS => k_is); (case q_WAYS => k_is); (case q_BEATS => k_is); (case q_REST => k_is); (case q_LEAST_REST => k_is); (case q_MOST_SIGNS => k_is); (case q_SMALL_SIGNS => k_is)
