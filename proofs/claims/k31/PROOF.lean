import PyProof.Rows.All
import Wide.All
import OpenK.AllK
import Wide.FinOn
import HandS.ForMost
import HandS.Exc
import HandS.TryOnly
import HandS.ExcOwn
import HandS.WordsExc
import HandS.Deep
import HandS.IsInst
import HandS.Wide
import HandS.Text
import HandS.TupAny
import HandS.Small
import HandS.Iter
import PyProof.Rows.EnumRows
import KE.GoesMore
import PyProof.Rows.KernelRfl
import HandS.Flow
import HandS.HotCalls
import HandS.ExcIs
import HandS.SetFor
import PyProof.ExcBaseAll.ValueError
import HandS.Style
import PyProof.Rows.StrRev
import PySem.Challenge.RW_strikesheet_k31_ribbons_of_no_text
set_option Elab.async false
set_option linter.all false
set_option maxRecDepth 100000
set_option maxHeartbeats 4000000
/-! a small logic of plain data over HandS: what a def's names hold, told as data (PyData) or as things of its own; judgements EV, NV, TV, SV -/
namespace G
open PySem PySem.Spec PyProof.Rows L2

/-! ### growth of the heap: F what never changes, H all -/
structure Gw (F H F' H' : Hp) : Prop where
  ff : Same F F'
  hh : Same H H'
  fh : Same F' H'
  new : ∀ b, H b ≠ none → F' b = F b
structure Fr (F0 Kp F H : Hp) : Prop where
  ff : Same F0 F
  fh : Same F H
  kh : Same Kp H
  new : ∀ b, F0 b = none → Kp b ≠ none → F b = none
theorem same_ne {H H' : Hp} (s : Same H H') {b : Addr} (h : H b ≠ none) : H' b ≠ none := by
  cases e : H b with
  | none => exact absurd e h
  | some o =>
    rw [s b o e]
    simp
theorem same_none {H H' : Hp} (s : Same H H') {b : Addr} (h : H' b = none) : H b = none := by
  cases e : H b with
  | none => rfl
  | some o =>
    rw [s b o e] at h
    cases h
theorem same_upd {H : Hp} {p : Addr} {o : HO} (h : H p = none) : Same H (upd H p o) := fun b x e => by
  rw [upd_ne (ne_of_none e h)]
  exact e
theorem same_upd2 {F H : Hp} {p : Addr} {o : HO} (s : Same F H) (h : F p = none) : Same F (upd H p o) := fun b x e => by
  rw [upd_ne (ne_of_none e h)]
  exact s b x e
theorem same_both {F H : Hp} {p : Addr} {o : HO} (s : Same F H) (h : H p = none) : Same (upd F p o) (upd H p o) := fun b x e => by
  by_cases hb : b = p
  · subst hb
    rw [upd_same] at e ⊢
    exact e
  · rw [upd_ne hb] at e ⊢
    exact s b x e
theorem Gw.refl {F H : Hp} (s : Same F H) : Gw F H F H := ⟨Same.refl F, Same.refl H, s, fun _ _ => rfl⟩
theorem Gw.trans {F H F1 H1 F2 H2 : Hp} (a : Gw F H F1 H1) (b : Gw F1 H1 F2 H2) : Gw F H F2 H2 :=
  ⟨a.ff.trans b.ff, a.hh.trans b.hh, b.fh, fun c h => (b.new c (same_ne a.hh h)).trans (a.new c h)⟩
/-- a new object that never changes -/
theorem Gw.alloc {F H : Hp} {p : Addr} {o : HO} (s : Same F H) (h : H p = none) : Gw F H (upd F p o) (upd H p o) :=
  ⟨same_upd (same_none s h), same_upd h, same_both s h, fun b hb => upd_ne fun e => hb (e ▸ h)⟩
/-- a new object of one's own -/
theorem Gw.own {F H : Hp} {p : Addr} {o : HO} (s : Same F H) (h : H p = none) : Gw F H F (upd H p o) :=
  ⟨Same.refl F, same_upd h, same_upd2 s (same_none s h), fun _ _ => rfl⟩
theorem Fr.grow {F0 Kp F H F' H' : Hp} (f : Fr F0 Kp F H) (g : Gw F H F' H') : Fr F0 Kp F' H' :=
  ⟨f.ff.trans g.ff, g.fh, f.kh.trans g.hh, fun b h0 hk => (g.new b (same_ne f.kh hk)).trans (f.new b h0 hk)⟩

mutual
theorem dp_mono {K : PySem.W.Frag} {F F' : Hp} (s : Same F F') : ∀ (d : PyData) (v : V), Dp K F v d → Dp K F' v d
  | .none, _, h => by cases h; exact .non
  | .bool b, _, h => by cases h; exact .bl b
  | .int i, _, h => by cases h; exact .int i
  | .str x, _, h => by cases h; exact .str x
  | .list ds, _, h => by
    cases h with
    | lst hs ha => exact .lst (s.seq hs) (dpall_mono s ds _ ha)
  | .tuple ds, _, h => by
    cases h with
    | tup hs ha =>
      refine .tup ?_ (dpall_mono s ds _ ha)
      rcases hs with (hs | ⟨o, hs⟩) | hs
      · exact .inl (.inl (s _ _ hs))
      · exact .inl (.inr ⟨o, s _ _ hs⟩)
      · exact .inr hs
  | .dict _, _, h => by cases h
theorem dpall_mono {K : PySem.W.Frag} {F F' : Hp} (s : Same F F') : ∀ (ds : List PyData) (vs : List V), DpAll K F vs ds → DpAll K F' vs ds
  | [], _, h => by cases h; exact .nil
  | d :: ds, _, h => by
    cases h with
    | cons h1 h2 => exact .cons (dp_mono s d _ h1) (dpall_mono s ds _ h2)
end

/-! ### what a name holds -/
structure OwnP where
  at_ : Hp → Hp → List Addr → V → Prop
  stay : ∀ F F' H H' fp v, at_ F H fp v → Same F F' → (∀ b ∈ fp, H' b = H b) → at_ F' H' fp v
  dom : ∀ F H fp v, at_ F H fp v → ∀ b ∈ fp, H b ≠ none
inductive Cl where
  | un
  | val (d : PyData)
  | own (o : OwnP)
  | raw (v : V)
def Cl.At (K : PySem.W.Frag) (F H : Hp) (fp : List Addr) : Cl → Option V → Prop
  | .un, _ => fp = []
  | .val d, ov => fp = [] ∧ ∃ v, ov = some v ∧ Dp K F v d
  | .own o, ov => ∃ v, ov = some v ∧ o.at_ F H fp v
  | .raw v, ov => fp = [] ∧ ov = some v
theorem Cl.At.grow {K : PySem.W.Frag} {F H F' H' : Hp} {fp : List Addr} {c : Cl} {ov : Option V} (h : c.At K F H fp ov) (s : Same F F') (k : ∀ b ∈ fp, H' b = H b) : c.At K F' H' fp ov := by
  cases c with
  | un => exact h
  | val d =>
    obtain ⟨e, v, e2, h⟩ := h
    exact ⟨e, v, e2, dp_mono s d v h⟩
  | own o =>
    obtain ⟨v, e, h⟩ := h
    exact ⟨v, e, o.stay _ _ _ _ _ _ h s k⟩
  | raw v => exact h
theorem Cl.At.dom {K : PySem.W.Frag} {F H : Hp} {fp : List Addr} {c : Cl} {ov : Option V} (h : c.At K F H fp ov) : ∀ b ∈ fp, H b ≠ none := by
  cases c with
  | un =>
    have h : fp = [] := h
    subst h
    intro b hb
    cases hb
  | val d =>
    obtain ⟨e, _⟩ := h
    subst e
    intro b hb
    cases hb
  | own o =>
    obtain ⟨v, e, h⟩ := h
    exact o.dom _ _ _ _ h
  | raw v =>
    obtain ⟨e, _⟩ := h
    subst e
    intro b hb
    cases hb

structure HoldF (K : PySem.W.Frag) (Kp : Hp) (ρ : List Cl) (σ : L2.St) (F H : Hp) (fp : Nat → List Addr) : Prop where
  at_ : ∀ (i : Nat) (c : Cl) (ov : Option V), ρ[i]? = some c → σ[i]? = some ov → c.At K F H (fp i) ov
  out : ∀ i, ∀ b ∈ fp i, F b = none ∧ Kp b = none
  dis : ∀ i j, i ≠ j → ∀ b ∈ fp i, b ∉ fp j
  far : ∀ i, ρ.length ≤ i → fp i = []
structure Hold (K : PySem.W.Frag) (F0 Kp : Hp) (ρ : List Cl) (σ : L2.St) (F H : Hp) : Prop where
  fr : Fr F0 Kp F H
  len : σ.length = ρ.length
  ex : ∃ fp, HoldF K Kp ρ σ F H fp
section
variable {K : PySem.W.Frag} {F0 Kp F H F' H' : Hp} {ρ τ : List Cl} {σ ts : L2.St}
theorem HoldF.dom {fp : Nat → List Addr} (h : HoldF K Kp ρ σ F H fp) (hl : σ.length = ρ.length) : ∀ i, ∀ b ∈ fp i, H b ≠ none := fun i b hb => by
  by_cases hi : i < ρ.length
  · have hi' : i < σ.length := by omega
    exact (h.at_ i _ _ (List.getElem?_eq_getElem hi) (List.getElem?_eq_getElem hi')).dom b hb
  · rw [h.far i (by omega)] at hb
    cases hb
theorem Hold.grow (h : Hold K F0 Kp ρ σ F H) (g : Gw F H F' H') : Hold K F0 Kp ρ σ F' H' := by
  obtain ⟨fr, len, fp, e⟩ := h
  have dm := e.dom len
  refine ⟨fr.grow g, len, fp, fun i c ov hc ho => (e.at_ i c ov hc ho).grow g.ff fun b hb => ?_, fun i b hb => ?_, e.dis, e.far⟩
  · cases q : H b with
    | none => exact absurd q (dm i b hb)
    | some o => exact g.hh b o q
  · obtain ⟨e1, e2⟩ := e.out i b hb
    exact ⟨(g.new b (dm i b hb)).trans e1, e2⟩
theorem Hold.val {i : Nat} {d : PyData} (h : Hold K F0 Kp ρ σ F H) (hi : ρ[i]? = some (.val d)) : ∃ v, σ[i]? = some (some v) ∧ Dp K F v d := by
  obtain ⟨fr, len, fp, e⟩ := h
  have h1 := (List.getElem?_eq_some_iff.mp hi).1
  have h2 : i < σ.length := by omega
  obtain ⟨_, v, ev, hd⟩ := e.at_ i _ _ hi (List.getElem?_eq_getElem h2)
  exact ⟨v, by rw [List.getElem?_eq_getElem h2, ev], hd⟩
theorem Hold.raw {i : Nat} {v : V} (h : Hold K F0 Kp ρ σ F H) (hi : ρ[i]? = some (.raw v)) : σ[i]? = some (some v) := by
  obtain ⟨fr, len, fp, e⟩ := h
  have h1 := (List.getElem?_eq_some_iff.mp hi).1
  have h2 : i < σ.length := by omega
  obtain ⟨_, ev⟩ := e.at_ i _ _ hi (List.getElem?_eq_getElem h2)
  rw [List.getElem?_eq_getElem h2, ev]
/-- one more name, holding c -/
theorem Hold.push {c : Cl} {v : V} {fc : List Addr} (h : Hold K F0 Kp ρ σ F H) (hc : c.At K F H fc (some v)) (ho : ∀ b ∈ fc, F b = none ∧ Kp b = none)
    (hd : ∀ fp, HoldF K Kp ρ σ F H fp → ∀ i, ∀ b ∈ fp i, b ∉ fc) : Hold K F0 Kp (ρ ++ [c]) (σ ++ [some v]) F H := by
  obtain ⟨fr, len, fp, e⟩ := h
  have hd' := hd fp e
  refine ⟨fr, by simp [len], fun i => if i = ρ.length then fc else fp i, fun i c' ov h1 h2 => ?_, fun i b hb => ?_, fun i j hij b hb hb2 => ?_, fun i hi => ?_⟩
  · by_cases hi : i = ρ.length
    · subst hi
      rw [List.getElem?_append_right (Nat.le_refl _), Nat.sub_self] at h1
      rw [← len, List.getElem?_append_right (Nat.le_refl _), Nat.sub_self] at h2
      cases h1
      cases h2
      simpa using hc
    · have hlt : i < ρ.length := by
        have := (List.getElem?_eq_some_iff.mp h1).1
        simp at this
        omega
      rw [List.getElem?_append_left hlt] at h1
      rw [List.getElem?_append_left (by omega)] at h2
      simpa [hi] using e.at_ i c' ov h1 h2
  · by_cases hi : i = ρ.length
    · simp [hi] at hb
      exact ho b hb
    · simp [hi] at hb
      exact e.out i b hb
  · by_cases hi : i = ρ.length
    · by_cases hj : j = ρ.length
      · omega
      · simp [hi] at hb
        simp [hj] at hb2
        exact hd' j b hb2 hb
    · by_cases hj : j = ρ.length
      · simp [hi] at hb
        simp [hj] at hb2
        exact hd' i b hb hb2
      · simp [hi] at hb
        simp [hj] at hb2
        exact e.dis i j hij b hb hb2
  · simp at hi
    rw [if_neg (by omega)]
    exact e.far i (by omega)
theorem Hold.pushV {d : PyData} {v : V} (h : Hold K F0 Kp ρ σ F H) (hd : Dp K F v d) : Hold K F0 Kp (ρ ++ [.val d]) (σ ++ [some v]) F H :=
  h.push (fc := []) ⟨rfl, v, rfl, hd⟩ (fun b hb => by cases hb) fun _ _ _ _ _ hb => by cases hb
theorem Hold.pushR {v : V} (h : Hold K F0 Kp ρ σ F H) : Hold K F0 Kp (ρ ++ [.raw v]) (σ ++ [some v]) F H :=
  h.push (fc := []) ⟨rfl, rfl⟩ (fun b hb => by cases hb) fun _ _ _ _ _ hb => by cases hb
/-- a fresh thing of one's own: grown from (F, H), its addresses unknown to H -/
theorem Hold.pushO {o : OwnP} {v : V} {fc : List Addr} (h : Hold K F0 Kp ρ σ F H) (g : Gw F H F' H') (hc : o.at_ F' H' fc v) (hn : ∀ b ∈ fc, H b = none ∧ F' b = none) :
    Hold K F0 Kp (ρ ++ [.own o]) (σ ++ [some v]) F' H' := by
  have h' := h.grow g
  obtain ⟨fr, len, fp, e⟩ := h
  have dm := e.dom len
  obtain ⟨fr', len', _⟩ := id h'
  have e' : HoldF K Kp ρ σ F' H' fp := by
    refine ⟨fun i c ov hc ho => (e.at_ i c ov hc ho).grow g.ff fun b hb => ?_, fun i b hb => ?_, e.dis, e.far⟩
    · cases q : H b with
      | none => exact absurd q (dm i b hb)
      | some o => exact g.hh b o q
    · obtain ⟨e1, e2⟩ := e.out i b hb
      exact ⟨(g.new b (dm i b hb)).trans e1, e2⟩
  refine ⟨fr', by simp [len], fun i => if i = ρ.length then fc else fp i, fun i c' ov h1 h2 => ?_, fun i b hb => ?_, fun i j hij b hb hb2 => ?_, fun i hi => ?_⟩
  · by_cases hi : i = ρ.length
    · subst hi
      rw [List.getElem?_append_right (Nat.le_refl _), Nat.sub_self] at h1
      rw [← len, List.getElem?_append_right (Nat.le_refl _), Nat.sub_self] at h2
      cases h1
      cases h2
      simp
      exact ⟨v, rfl, hc⟩
    · have hlt : i < ρ.length := by
        have := (List.getElem?_eq_some_iff.mp h1).1
        simp at this
        omega
      rw [List.getElem?_append_left hlt] at h1
      rw [List.getElem?_append_left (by omega)] at h2
      simpa [hi] using e'.at_ i c' ov h1 h2
  · by_cases hi : i = ρ.length
    · simp [hi] at hb
      exact ⟨(hn b hb).2, same_none fr.kh (hn b hb).1⟩
    · simp [hi] at hb
      exact e'.out i b hb
  · by_cases hi : i = ρ.length
    · by_cases hj : j = ρ.length
      · omega
      · simp [hi] at hb
        simp [hj] at hb2
        exact dm j b hb2 (hn b hb).1
    · by_cases hj : j = ρ.length
      · simp [hi] at hb
        simp [hj] at hb2
        exact dm i b hb (hn b hb2).1
      · simp [hi] at hb
        simp [hj] at hb2
        exact e.dis i j hij b hb hb2
  · simp at hi
    rw [if_neg (by omega)]
    exact e.far i (by omega)
/-- the last one goes to place i -/
theorem Hold.move {c : Cl} {ov : Option V} {i : Nat} (h : Hold K F0 Kp (ρ ++ [c]) (σ ++ [ov]) F H) (hi : i < ρ.length) : Hold K F0 Kp (ρ.set i c) (σ.set i ov) F H := by
  obtain ⟨fr, len, fp, e⟩ := h
  have len' : σ.length = ρ.length := by simpa using len
  refine ⟨fr, by simp [len'], fun j => if j = i then fp ρ.length else if j < ρ.length then fp j else [], fun j c' ov' h1 h2 => ?_, fun j b hb => ?_, fun j k hjk b hb hb2 => ?_, fun j hj => ?_⟩
  · by_cases hj : j = i
    · subst hj
      rw [List.getElem?_set_self hi] at h1
      rw [List.getElem?_set_self (by omega)] at h2
      cases h1
      cases h2
      simp
      exact e.at_ ρ.length c ov (by simp) (by rw [← len']; simp)
    · rw [List.getElem?_set_ne (Ne.symm hj)] at h1
      rw [List.getElem?_set_ne (Ne.symm hj)] at h2
      have hlt := (List.getElem?_eq_some_iff.mp h1).1
      have hlt2 := (List.getElem?_eq_some_iff.mp h2).1
      simp [hj, hlt]
      exact e.at_ j c' ov' (by rw [List.getElem?_append_left hlt]; exact h1) (by rw [List.getElem?_append_left hlt2]; exact h2)
  · by_cases hj : j = i
    · simp [hj] at hb
      exact e.out _ b hb
    · by_cases hl : j < ρ.length
      · simp [hj, hl] at hb
        exact e.out _ b hb
      · simp [hj, hl] at hb
  · have idx : ∀ j, b ∈ (if j = i then fp ρ.length else if j < ρ.length then fp j else []) → ∃ m, b ∈ fp m ∧ (m = ρ.length ∧ j = i ∨ m = j ∧ j ≠ i ∧ j < ρ.length) := fun j hb => by
      by_cases hj : j = i
      · simp [hj] at hb
        exact ⟨_, hb, .inl ⟨rfl, hj⟩⟩
      · by_cases hl : j < ρ.length
        · simp [hj, hl] at hb
          exact ⟨j, hb, .inr ⟨rfl, hj, hl⟩⟩
        · simp [hj, hl] at hb
    obtain ⟨m1, b1, q1⟩ := idx j hb
    obtain ⟨m2, b2, q2⟩ := idx k hb2
    refine e.dis m1 m2 ?_ b b1 b2
    rcases q1 with ⟨a1, a2⟩ | ⟨a1, a2, a3⟩ <;> rcases q2 with ⟨c1, c2⟩ | ⟨c1, c2, c3⟩ <;> omega
  · simp at hj
    rw [if_neg (by omega), if_neg (by omega)]
theorem Hold.left (h : Hold K F0 Kp (ρ ++ τ) (σ ++ ts) F H) (hl : σ.length = ρ.length) : Hold K F0 Kp ρ σ F H := by
  obtain ⟨fr, len, fp, e⟩ := h
  refine ⟨fr, hl, fun j => if j < ρ.length then fp j else [], fun j c ov h1 h2 => ?_, fun j b hb => ?_, fun j k hjk b hb hb2 => ?_, fun j hj => ?_⟩
  · have hlt := (List.getElem?_eq_some_iff.mp h1).1
    have hlt2 := (List.getElem?_eq_some_iff.mp h2).1
    simp [hlt]
    exact e.at_ j c ov (by rw [List.getElem?_append_left hlt]; exact h1) (by rw [List.getElem?_append_left hlt2]; exact h2)
  · by_cases hl : j < ρ.length
    · simp [hl] at hb
      exact e.out _ b hb
    · simp [hl] at hb
  · by_cases hl : j < ρ.length
    · by_cases hl2 : k < ρ.length
      · simp [hl] at hb
        simp [hl2] at hb2
        exact e.dis j k hjk b hb hb2
      · simp [hl2] at hb2
    · simp [hl] at hb
  · rw [if_neg (by omega)]
/-- a place's thing exchanged for another one: c' in the place of c, over the same or fewer addresses, the rest standing -/
theorem Hold.swap {c c' : Cl} {i : Nat} {ov' : Option V} (h : Hold K F0 Kp ρ σ F H) (hi : ρ[i]? = some c) (hF : Fr F0 Kp F' H') (sF : Same F F')
    (step : ∀ (fp : Nat → List Addr) ov, HoldF K Kp ρ σ F H fp → σ[i]? = some ov → c.At K F H (fp i) ov → ∃ fc, c'.At K F' H' fc ov' ∧ (∀ b ∈ fc, F' b = none ∧ Kp b = none) ∧
      (∀ b ∈ fc, b ∈ fp i ∨ H b = none) ∧ ∀ j, j ≠ i → ∀ b ∈ fp j, H' b = H b ∧ F' b = none) : Hold K F0 Kp (ρ.set i c') (σ.set i ov') F' H' := by
  obtain ⟨fr, len, fp, e⟩ := h
  have dm := e.dom len
  have h1 := (List.getElem?_eq_some_iff.mp hi).1
  have h2 : i < σ.length := by omega
  obtain ⟨fc, q1, q2, q3, q4⟩ := step fp _ e (List.getElem?_eq_getElem h2) (e.at_ i _ _ hi (List.getElem?_eq_getElem h2))
  refine ⟨hF, by simp [len], fun j => if j = i then fc else fp j, fun j c2 ov2 e1 e2 => ?_, fun j b hb => ?_, fun j k hjk b hb hb2 => ?_, fun j hj => ?_⟩
  · by_cases hj : j = i
    · subst hj
      rw [List.getElem?_set_self h1] at e1
      rw [List.getElem?_set_self h2] at e2
      cases e1
      cases e2
      simpa using q1
    · rw [List.getElem?_set_ne (Ne.symm hj)] at e1
      rw [List.getElem?_set_ne (Ne.symm hj)] at e2
      simp [hj]
      exact (e.at_ j c2 ov2 e1 e2).grow sF fun b hb => (q4 j hj b hb).1
  · by_cases hj : j = i
    · simp [hj] at hb
      exact q2 b hb
    · simp [hj] at hb
      exact ⟨(q4 j hj b hb).2, (e.out j b hb).2⟩
  · by_cases hj : j = i
    · by_cases hk : k = i
      · omega
      · simp [hj] at hb
        simp [hk] at hb2
        rcases q3 b hb with z | z
        · exact e.dis i k (by omega) b z hb2
        · exact dm k b hb2 z
    · by_cases hk : k = i
      · simp [hj] at hb
        simp [hk] at hb2
        rcases q3 b hb2 with z | z
        · exact e.dis i j (by omega) b z hb
        · exact dm j b hb z
      · simp [hj] at hb
        simp [hk] at hb2
        exact e.dis j k hjk b hb hb2
  · simp at hj
    rw [if_neg (by omega)]
    exact e.far j hj
theorem set_self {α : Type} {l : List α} {i : Nat} {x : α} (h : l[i]? = some x) : l.set i x = l := by
  apply List.ext_getElem?
  intro j
  by_cases hj : j = i
  · subst hj
    rw [List.getElem?_set_self (List.getElem?_eq_some_iff.mp h).1, h]
  · rw [List.getElem?_set_ne (Ne.symm hj)]
/-- forgetting -/
inductive Wk : List Cl → List Cl → Prop
  | nil : Wk [] []
  | keep {c : Cl} {r s : List Cl} : Wk r s → Wk (c :: r) (c :: s)
  | drop {c : Cl} {r s : List Cl} : Wk r s → Wk (c :: r) (.un :: s)
theorem Wk.get : ∀ {ρ ρ' : List Cl}, Wk ρ ρ' → ρ'.length = ρ.length ∧ ∀ (i : Nat) (c : Cl), ρ'[i]? = some c → c = Cl.un ∨ ρ[i]? = some c
  | _, _, .nil => ⟨rfl, fun _ _ h => .inr h⟩
  | _, _, .keep w => ⟨by simp [(Wk.get w).1], fun i c h => by
    cases i with
    | zero => exact .inr h
    | succ i => exact (Wk.get w).2 i c h⟩
  | _, _, .drop w => ⟨by simp [(Wk.get w).1], fun i c h => by
    cases i with
    | zero => exact .inl (Option.some.inj h).symm
    | succ i => exact (Wk.get w).2 i c h⟩
theorem Wk.refl : ∀ ρ : List Cl, Wk ρ ρ
  | [] => .nil
  | _ :: r => .keep (Wk.refl r)
theorem Hold.weak {ρ' : List Cl} (h : Hold K F0 Kp ρ σ F H) (w : Wk ρ ρ') : Hold K F0 Kp ρ' σ F H := by
  classical
  obtain ⟨fr, len, fp, e⟩ := h
  obtain ⟨wl, wg⟩ := w.get
  refine ⟨fr, by omega, fun i => if ρ'[i]? = some Cl.un ∨ ρ'.length ≤ i then [] else fp i, fun i c ov h1 h2 => ?_, fun i b hb => ?_, fun i j hij b hb hb2 => ?_, fun i hi => ?_⟩
  · by_cases hc : c = .un
    · subst hc
      rw [if_pos (.inl h1)]
      exact (rfl : ([] : List Addr) = [])
    · have hn : ¬ (ρ'[i]? = some Cl.un ∨ ρ'.length ≤ i) := fun z => by
        rcases z with z | z
        · rw [h1] at z
          exact hc (Option.some.inj z)
        · have := (List.getElem?_eq_some_iff.mp h1).1
          omega
      rw [if_neg hn]
      rcases wg i c h1 with z | z
      · exact absurd z hc
      · exact e.at_ i c ov z h2
  · split at hb
    · cases hb
    · exact e.out i b hb
  · split at hb
    · cases hb
    · split at hb2
      · cases hb2
      · exact e.dis i j hij b hb hb2
  · rw [if_pos (.inr hi)]
end
end G

namespace L2
open PySem PySem.Spec PyProof.Rows
section
variable {K : PySem.W.Frag} {F H F' H' : Hp} {v : V} {d : PyData} {vs : List V} {ds : List PyData}
theorem DpAll.len : ∀ {vs : List V} {ds : List PyData}, DpAll K F vs ds → vs.length = ds.length
  | _, _, .nil => rfl
  | _, _, .cons _ t => congrArg (· + 1) (DpAll.len t)
theorem DpAll.app : ∀ {vs : List V} {ds : List PyData} {ws : List V} {es : List PyData}, DpAll K F vs ds → DpAll K F ws es → DpAll K F (vs ++ ws) (ds ++ es)
  | _, _, _, _, .nil, h => h
  | _, _, _, _, .cons h t, h2 => .cons h (DpAll.app t h2)
theorem DpAll.get : ∀ {vs : List V} {ds : List PyData} {i : Nat} {d : PyData}, DpAll K F vs ds → ds[i]? = some d → ∃ v, vs[i]? = some v ∧ Dp K F v d
  | _, _, _, _, .nil, h => by simp at h
  | _, _, 0, _, .cons h t, e => by
    simp at e
    subst e
    exact ⟨_, rfl, h⟩
  | _, _, i + 1, _, .cons h t, e => by
    obtain ⟨v, h1, h2⟩ := DpAll.get (i := i) t (by simpa using e)
    exact ⟨v, by simpa using h1, h2⟩
theorem DpAll.get2 : ∀ {vs : List V} {ds : List PyData} {i : Nat} {v : V}, DpAll K F vs ds → vs[i]? = some v → ∃ d, ds[i]? = some d ∧ Dp K F v d
  | _, _, _, _, .nil, h => by simp at h
  | _, _, 0, _, .cons h t, e => by
    simp at e
    subst e
    exact ⟨_, rfl, h⟩
  | _, _, i + 1, _, .cons h t, e => by
    obtain ⟨v, h1, h2⟩ := DpAll.get2 (i := i) t (by simpa using e)
    exact ⟨v, by simpa using h1, h2⟩
theorem DpAll.set : ∀ {vs : List V} {ds : List PyData} {i : Nat} {v : V} {d : PyData}, DpAll K F vs ds → Dp K F v d → DpAll K F (vs.set i v) (ds.set i d)
  | _, _, _, _, _, .nil, _ => .nil
  | _, _, 0, _, _, .cons _ t, h => .cons h t
  | _, _, i + 1, _, _, .cons h t, h2 => .cons h (DpAll.set (i := i) t h2)
theorem DpAll.take : ∀ {vs : List V} {ds : List PyData} (n : Nat), DpAll K F vs ds → DpAll K F (vs.take n) (ds.take n)
  | _, _, 0, _ => by simp; exact .nil
  | _, _, n + 1, .nil => .nil
  | _, _, n + 1, .cons h t => .cons h (DpAll.take n t)
theorem DpAll.drop : ∀ {vs : List V} {ds : List PyData} (n : Nat), DpAll K F vs ds → DpAll K F (vs.drop n) (ds.drop n)
  | _, _, 0, h => h
  | _, _, n + 1, .nil => .nil
  | _, _, n + 1, .cons h t => DpAll.drop n t
theorem DpAll.rev {vs : List V} {ds : List PyData} (h : DpAll K F vs ds) : DpAll K F vs.reverse ds.reverse := by
  induction h using DpAll.rec (motive_1 := fun _ _ _ => True) with
  | nil => exact .nil
  | cons h t _ ih =>
    rw [List.reverse_cons, List.reverse_cons]
    exact ih.app (.cons h .nil)
  | _ => trivial
theorem Dp.int_inv {i : Int} (h : Dp K F v (.int i)) : v = .int i := by cases h; rfl
theorem Dp.bool_inv {b : Bool} (h : Dp K F v (.bool b)) : v = .bl b := by cases h; rfl
theorem Dp.str_inv {x : Str} (h : Dp K F v (.str x)) : v = .str x := by cases h; rfl
theorem Dp.none_inv (h : Dp K F v .none) : v = .non := by cases h; rfl
theorem Dp.list_inv (h : Dp K F v (.list ds)) : ∃ a vs, v = .ref a ∧ SqL K F a vs ∧ DpAll K F vs ds := by
  cases h with
  | lst a b => exact ⟨_, _, rfl, a, b⟩
theorem Dp.tuple_inv (h : Dp K F v (.tuple ds)) : ∃ a vs, v = .ref a ∧ SqT K F a vs ∧ DpAll K F vs ds := by
  cases h with
  | tup a b => exact ⟨_, _, rfl, a, b⟩
end
end L2
namespace G
open PySem PySem.Spec PyProof.Rows L2


/-! ### the syntax's own looks, once -/
def notStar : Expr → Bool
  | .Starred _ _ => false
  | _ => true
theorem star_cons {e : Expr} {es : List Expr} {env : Env} (h : notStar e = true) : starEach (e :: es) env = (false, eval e env) :: starEach es env := by
  cases e <;> first | rfl | cases h
theorem star_nil {env : Env} : starEach [] env = [] := rfl
theorem star1 {e : Expr} {env : Env} (h : notStar e = true) : starEach [e] env = [(false, eval e env)] := by rw [star_cons h, star_nil]
theorem star2 {e a : Expr} {env : Env} (h : notStar e = true) (h2 : notStar a = true) : starEach [e, a] env = [(false, eval e env), (false, eval a env)] := by rw [star_cons h, star_cons h2, star_nil]
def notStars : List Expr → Bool
  | [] => true
  | e :: es => notStar e && notStars es
theorem star_any {pos : Pos} {env : Env} : ∀ {es : List Expr}, notStars es = true → (backTo pos (starEach es env)).any (·.1) = false
  | [], _ => rfl
  | e :: es, h => by
    have h' : notStar e = true ∧ notStars es = true := by
      have h2 : (notStar e && notStars es) = true := h
      simpa using h2
    rw [star_cons h'.1]
    show (false || (backTo pos (starEach es env)).any (·.1)) = false
    rw [star_any h'.2]
    rfl
def notComp : Expr → Bool
  | .ListComp _ _ _ _ => false
  | .SetComp _ _ _ _ => false
  | .DictComp _ _ _ _ _ => false
  | _ => true
theorem swaps_no {e : Expr} {t : Option Expr} {n : Nat} {env : Env} (h : notComp e = true) : swapsWith e t n env = pure false := by
  cases e <;> first | rfl | cases h
theorem swaps_sole {e t : Expr} {n : Nat} {env : Env} (h : notComp e = true) : swapsWithSole [t] e n env = pure false := swaps_no h
def notSlice : Expr → Bool
  | .Slice _ _ _ _ => false
  | _ => true
theorem plain_ix {b : Expr} (h : notSlice b = true) : PlainIx b := fun o i => by
  cases b <;> first | rfl | cases h
def notSet : Expr → Bool
  | .Set _ _ _ => false
  | _ => true
theorem folded_no {e : Expr} {env : Env} (h : notSet e = true) : ∀ x, foldedSetIterable e env x = pure x := fun x => by
  cases e <;> first | rfl | cases h
def plainT : Expr → Bool
  | .BoolOp _ _ _ => false
  | .UnaryOp _ _ _ => false
  | .Compare _ _ _ _ => false
  | .IfExp _ _ _ _ => false
  | .NamedExpr _ _ _ => false
  | .Constant _ _ _ => false
  | _ => true
theorem plain_tru {e : Expr} {env : Env} (h : plainT e = true) : ∀ whole, isTrue e env whole = (do let v ← whole; standAt e.pos; holding [v] (truthy v)) := fun whole => by
  cases e <;> first | rfl | cases h

/-! ### the context; canonical readings -/
structure Cc where
  X : Cx
  F0 : Hp
  Kp : Hp
  W : WX
abbrev Cc.H (c : Cc) (ρ : List Cl) (σ : L2.St) (F H : Hp) : Prop := Hold c.X.K c.F0 c.Kp ρ σ F H

def wpE (X : Cx) (e : Expr) : TE := fun σ H Q => ∀ pins s, Inv X pins σ H s → wpAny (model X.prog X.w) X.A (eval e X.env) (EP X pins σ Q) X.xe s
def wpT (X : Cx) (e : Expr) : TT := fun σ H Q => ∀ pins s, Inv X pins σ H s → wpAny (model X.prog X.w) X.A (isTrue e X.env (eval e X.env)) (TP X pins σ Q) X.xe s
def wpW (X : Cx) (e : Expr) : TT := fun σ H Q => ∀ whole pins s, Inv X pins σ H s → wpAny (model X.prog X.w) X.A (isTrue e X.env whole) (TP X pins σ Q) X.xe s
def wpA (X : Cx) (es : List Expr) : TA := fun σ H Q => ∀ pos pins s, Inv X pins σ H s → wpAny (model X.prog X.w) X.A (spliced (backTo pos (starEach es X.env))) (AP X pins σ Q) X.xe s
def wpS (X : Cx) (st : Stmt) : TS := fun D σ H => ∀ pins s, Inv X pins σ H s → wpAny (model X.prog X.w) X.A (exec st X.env) (SP X pins D) X.xe s
def wpSs (X : Cx) (st : List Stmt) : TS := fun D σ H => ∀ pins s, Inv X pins σ H s → wpAny (model X.prog X.w) X.A (execs st X.env) (SP X pins D) X.xe s
def wpG (X : Cx) (tg : Expr) : TG := fun v σ H Q => ∀ pins s u, Inv X pins σ H s → RelV v u → wpAny (model X.prog X.w) X.A (assign tg X.env u) (fun _ s' => ∃ σ' H', Inv X pins σ' H' s' ∧ Q σ' H') X.xe s
def wpGs (X : Cx) (ts : List Expr) : TGs := fun vs σ H Q => ∀ pins s us, Inv X pins σ H s → Vals vs us → wpAny (model X.prog X.w) X.A (assignInOrder ((assignEach ts X.env).map (·.2)) us) (fun _ s' => ∃ σ' H', Inv X pins σ' H' s' ∧ Q σ' H') X.xe s
def wpI (X : Cx) (tg iter : Expr) : TI := fun σ H R => ∀ pins s, Inv X pins σ H s → wpAny (model X.prog X.w) X.A (eval iter X.env) (fun v s1 => wpAny (model X.prog X.w) X.A (pyIter v) (PIE X pins σ tg R) X.xe s1) X.xe s
section
variable {X : Cx} {e : Expr} {es : List Expr} {st : Stmt} {sts : List Stmt} {tg iter : Expr} {σ : L2.St} {H : Hp}
theorem pe_wp : PE X e (wpE X e) := ⟨fun pins s _ _ _ I h => h pins s I⟩
theorem pt_wp : PT X e (wpT X e) := ⟨fun pins s _ _ _ I h => h pins s I⟩
theorem pw_wp : PW X e (wpW X e) := ⟨fun wh pins s _ _ _ I h => h wh pins s I⟩
theorem pa_wp : PA X es (wpA X es) := ⟨fun pos pins s _ _ _ I h => h pos pins s I⟩
theorem ps_wp : PS X st (wpS X st) := ⟨fun pins s _ _ _ I h => h pins s I⟩
theorem pss_wp : PSs X sts (wpSs X sts) := ⟨fun pins s _ _ _ I h => h pins s I⟩
theorem pg_wp : PG X tg (wpG X tg) := ⟨fun pins s _ _ _ u _ I r h => h pins s u I r⟩
theorem pgs_wp : PGs X es (wpGs X es) := ⟨fun pins s _ _ _ us _ I r h => h pins s us I r⟩
theorem pi_wp : PI X tg iter (wpI X tg iter) := ⟨fun pins s _ _ _ I h => h pins s I⟩
theorem wpE_of {t : TE} {Q : VK} (h : PE X e t) (q : t σ H Q) : wpE X e σ H Q := fun pins s I => h.run pins s σ H Q I q
theorem wpT_of {t : TT} {Q : Bool → Hp → Prop} (h : PT X e t) (q : t σ H Q) : wpT X e σ H Q := fun pins s I => h.run pins s σ H Q I q
theorem wpW_of {t : TT} {Q : Bool → Hp → Prop} (h : PW X e t) (q : t σ H Q) : wpW X e σ H Q := fun wh pins s I => h.run wh pins s σ H Q I q
theorem wpA_of {t : TA} {Q : List V → Hp → Prop} (h : PA X es t) (q : t σ H Q) : wpA X es σ H Q := fun pos pins s I => h.run pos pins s σ H Q I q
theorem wpS_of {t : TS} {D : Ends} (h : PS X st t) (q : t D σ H) : wpS X st D σ H := fun pins s I => h.run pins s σ H D I q
theorem wpSs_of {t : TS} {D : Ends} (h : PSs X sts t) (q : t D σ H) : wpSs X sts D σ H := fun pins s I => h.run pins s σ H D I q
theorem wpG_of {t : TG} {v : V} {Q : L2.St → Hp → Prop} (h : PG X tg t) (q : t v σ H Q) : wpG X tg v σ H Q := fun pins s u I r => h.run pins s σ H v u Q I r q
theorem wpGs_of {t : TGs} {vs : List V} {Q : L2.St → Hp → Prop} (h : PGs X es t) (q : t vs σ H Q) : wpGs X es vs σ H Q := fun pins s us I r => h.run pins s σ H vs us Q I r q
theorem wpI_of {t : TI} {R : It → Hp → Prop} (h : PI X tg iter t) (q : t σ H R) : wpI X tg iter σ H R := fun pins s I => h.run pins s σ H R I q
end

/-! ### a borrowed look: data, or a list of one's own as it stands -/
def Bo (K : PySem.W.Frag) (F H : Hp) (v : V) (d : PyData) : Prop := Dp K F v d ∨ ∃ a vs ds, v = .ref a ∧ d = .list ds ∧ H a = some (.lst vs) ∧ DpAll K F vs ds
inductive BoAll (K : PySem.W.Frag) (F H : Hp) : List V → List PyData → Prop
  | nil : BoAll K F H [] []
  | cons {v : V} {vs : List V} {d : PyData} {ds : List PyData} : Bo K F H v d → BoAll K F H vs ds → BoAll K F H (v :: vs) (d :: ds)
section
variable {K : PySem.W.Frag} {F H F' H' : Hp} {v : V} {d : PyData} {vs : List V} {ds : List PyData}
theorem Bo.of (h : Dp K F v d) : Bo K F H v d := .inl h
theorem Bo.grow (h : Bo K F H v d) (g : Gw F H F' H') : Bo K F' H' v d := by
  rcases h with h | ⟨a, vs, ds, e1, e2, h1, h2⟩
  · exact .inl (dp_mono g.ff d v h)
  · exact .inr ⟨a, vs, ds, e1, e2, g.hh _ _ h1, dpall_mono g.ff ds vs h2⟩
theorem BoAll.grow : ∀ {vs : List V} {ds : List PyData}, BoAll K F H vs ds → Gw F H F' H' → BoAll K F' H' vs ds
  | _, _, .nil, _ => .nil
  | _, _, .cons h t, g => .cons (h.grow g) (t.grow g)
theorem BoAll.of : ∀ {vs : List V} {ds : List PyData}, DpAll K F vs ds → BoAll K F H vs ds
  | _, _, .nil => .nil
  | _, _, .cons h t => .cons (.inl h) (BoAll.of t)
theorem Bo.int_inv {i : Int} (h : Bo K F H v (.int i)) : v = .int i := by
  rcases h with h | ⟨_, _, _, _, e, _⟩
  · exact h.int_inv
  · cases e
theorem Bo.bool_inv {b : Bool} (h : Bo K F H v (.bool b)) : v = .bl b := by
  rcases h with h | ⟨_, _, _, _, e, _⟩
  · exact h.bool_inv
  · cases e
theorem Bo.str_inv {x : Str} (h : Bo K F H v (.str x)) : v = .str x := by
  rcases h with h | ⟨_, _, _, _, e, _⟩
  · exact h.str_inv
  · cases e
theorem Bo.none_inv (h : Bo K F H v .none) : v = .non := by
  rcases h with h | ⟨_, _, _, _, e, _⟩
  · exact h.none_inv
  · cases e
theorem sqT_mono (s : Same F H) {a : Addr} {xs : List V} (h : SqT K F a xs) : SqT K H a xs := by
  rcases h with (h | ⟨o, h⟩) | h
  · exact .inl (.inl (s _ _ h))
  · exact .inl (.inr ⟨o, s _ _ h⟩)
  · exact .inr h
theorem Bo.tuple_inv (s : Same F H) (h : Bo K F H v (.tuple ds)) : ∃ a vs, v = .ref a ∧ SqT K H a vs ∧ DpAll K F vs ds := by
  rcases h with h | ⟨_, _, _, _, e, _⟩
  · obtain ⟨a, vs, e, h1, h2⟩ := h.tuple_inv
    exact ⟨a, vs, e, sqT_mono s h1, h2⟩
  · cases e
theorem Bo.list_inv (s : Same F H) (h : Bo K F H v (.list ds)) : ∃ a vs, v = .ref a ∧ SqL K H a vs ∧ DpAll K F vs ds := by
  rcases h with h | ⟨a, vs, ds', e1, e, h1, h2⟩
  · obtain ⟨a, vs, e, h1, h2⟩ := h.list_inv
    exact ⟨a, vs, e, s.seq h1, h2⟩
  · cases e
    exact ⟨a, vs, e1, .of h1, h2⟩
/-- over the whole heap it is data -/
theorem Bo.dp (s : Same F H) (h : Bo K F H v d) : Dp K H v d := by
  rcases h with h | ⟨a, vs, ds, e1, e2, h1, h2⟩
  · exact dp_mono s d v h
  · subst e1 e2
    exact .lst (.of h1) (dpall_mono s ds vs h2)
end

/-! ### a list of one's own -/
def oL (K : PySem.W.Frag) (ds : List PyData) : OwnP where
  at_ := fun F H fp v => ∃ a vs, v = .ref a ∧ fp = [a] ∧ H a = some (.lst vs) ∧ DpAll K F vs ds
  stay := fun F F' H H' fp v ⟨a, vs, e1, e2, h1, h2⟩ s k => ⟨a, vs, e1, e2, by rw [k a (by rw [e2]; simp)]; exact h1, dpall_mono s ds vs h2⟩
  dom := fun F H fp v ⟨a, vs, e1, e2, h1, h2⟩ b hb => by
    rw [e2] at hb
    have e : b = a := by simpa using hb
    subst e
    rw [h1]
    simp

/-! ### judgements of expressions -/
structure EV (c : Cc) (ρ : List Cl) (e : Expr) (d : PyData) : Prop where
  run : ∀ σ F H, c.H ρ σ F H → ∀ Q : VK, (∀ v F' H', Gw F H F' H' → Dp c.X.K F' v d → Q v H') → wpE c.X e σ H Q
structure BV (c : Cc) (ρ : List Cl) (e : Expr) (d : PyData) : Prop where
  run : ∀ σ F H, c.H ρ σ F H → ∀ Q : VK, (∀ v F' H', Gw F H F' H' → Bo c.X.K F' H' v d → Q v H') → wpE c.X e σ H Q
structure NV (c : Cc) (ρ : List Cl) (e : Expr) (o : OwnP) : Prop where
  run : ∀ σ F H, c.H ρ σ F H → ∀ Q : VK, (∀ v F' H' fc, Gw F H F' H' → o.at_ F' H' fc v → (∀ b ∈ fc, H b = none ∧ F' b = none) → Q v H') → wpE c.X e σ H Q
structure TV (c : Cc) (ρ : List Cl) (e : Expr) (b : Bool) : Prop where
  run : ∀ σ F H, c.H ρ σ F H → ∀ Q : Bool → Hp → Prop, (∀ F' H', Gw F H F' H' → Q b H') → wpT c.X e σ H Q
structure WV (c : Cc) (ρ : List Cl) (e : Expr) (b : Bool) : Prop where
  run : ∀ σ F H, c.H ρ σ F H → ∀ Q : Bool → Hp → Prop, (∀ F' H', Gw F H F' H' → Q b H') → wpW c.X e σ H Q
structure EA (c : Cc) (ρ : List Cl) (es : List Expr) (ds : List PyData) : Prop where
  run : ∀ σ F H, c.H ρ σ F H → ∀ Q : List V → Hp → Prop, (∀ vs F' H', Gw F H F' H' → DpAll c.X.K F' vs ds → Q vs H') → wpA c.X es σ H Q
structure BA (c : Cc) (ρ : List Cl) (es : List Expr) (ds : List PyData) : Prop where
  run : ∀ σ F H, c.H ρ σ F H → ∀ Q : List V → Hp → Prop, (∀ vs F' H', Gw F H F' H' → BoAll c.X.K F' H' vs ds → Q vs H') → wpA c.X es σ H Q

/-! ### operations on data -/
def OpB (K : PySem.W.Frag) (r : R2) (d1 d2 d : PyData) : Prop := ∀ F H x y, Same F H → Bo K F H x d1 → Bo K F H y d2 → ∀ Q : VK, (∀ v F' H', Gw F H F' H' → Dp K F' v d → Q v H') → r x y H Q
def OpN (K : PySem.W.Frag) (r : R2) (d1 d2 : PyData) (o : OwnP) : Prop := ∀ F H x y, Same F H → Bo K F H x d1 → Bo K F H y d2 → ∀ Q : VK, (∀ v F' H' fc, Gw F H F' H' → o.at_ F' H' fc v → (∀ b ∈ fc, H b = none ∧ F' b = none) → Q v H') → r x y H Q
def UnB (K : PySem.W.Frag) (r : V → Hp → VK → Prop) (d1 d : PyData) : Prop := ∀ F H x, Same F H → Bo K F H x d1 → ∀ Q : VK, (∀ v F' H', Gw F H F' H' → Dp K F' v d → Q v H') → r x H Q
def CallB (K : PySem.W.Frag) (r : List V → Hp → VK → Prop) (ds : List PyData) (d : PyData) : Prop := ∀ F H xs, Same F H → BoAll K F H xs ds → ∀ Q : VK, (∀ v F' H', Gw F H F' H' → Dp K F' v d → Q v H') → r xs H Q
def CallN (K : PySem.W.Frag) (r : List V → Hp → VK → Prop) (ds : List PyData) (o : OwnP) : Prop := ∀ F H xs, Same F H → BoAll K F H xs ds → ∀ Q : VK, (∀ v F' H' fc, Gw F H F' H' → o.at_ F' H' fc v → (∀ b ∈ fc, H b = none ∧ F' b = none) → Q v H') → r xs H Q
/-- no new object: the answer stands -/
theorem opb_now {K : PySem.W.Frag} {r : R2} {d1 d2 d : PyData} (h : ∀ F H x y, Same F H → Bo K F H x d1 → Bo K F H y d2 → ∀ Q : VK, (∀ v, Dp K F v d → Q v H) → r x y H Q) : OpB K r d1 d2 d :=
  fun F H x y s hx hy Q q => h F H x y s hx hy Q fun v hv => q v F H (Gw.refl s) hv

section
variable {c : Cc} {ρ : List Cl} {e a b : Expr} {d d1 d2 d3 : PyData} {pos : Pos} {K : PySem.W.Frag}
theorem ev_is {d' : PyData} (h : EV c ρ e d) (q : d = d') : EV c ρ e d' := q ▸ h
theorem bv_ev (h : EV c ρ e d) : BV c ρ e d := ⟨fun σ F H hh Q q => h.run σ F H hh Q fun v F' H' g hd => q v F' H' g (.inl hd)⟩
/-- a new list of one's own may be left alone for ever -/
theorem ev_nv {ds : List PyData} (h : NV c ρ e (oL c.X.K ds)) : EV c ρ e (.list ds) := ⟨fun σ F H hh Q q => h.run σ F H hh Q fun v F' H' fc g ⟨p, vs, e1, e2, h1, h2⟩ hn => by
  subst e1 e2
  have hp := hn p (by simp)
  refine q (.ref p) (upd F' p (.lst vs)) H' ⟨g.ff.trans (same_upd hp.2), g.hh, fun x o ho => ?_, fun x hx => ?_⟩ (.lst (.of upd_same) (dpall_mono (same_upd hp.2) ds vs h2))
  · by_cases hx : x = p
    · subst hx
      rw [upd_same] at ho
      rw [← ho]
      exact h1
    · rw [upd_ne hx] at ho
      exact g.fh x o ho
  · rw [upd_ne (fun (e : x = p) => hx (by rw [e]; exact hp.1))]
    exact g.new x hx⟩
theorem bv_nv {ds : List PyData} (h : NV c ρ e (oL c.X.K ds)) : BV c ρ e (.list ds) := bv_ev (ev_nv h)

theorem ev_name {i : Nat} {x : Str} (h : ρ[i]? = some (.val d) := by rfl) (hN : c.X.N[i]? = some x := by rfl) (hv : Vis c.X.env.scope x := by first | exact Or.inl rfl | exact Or.inr (Or.inl rfl) | exact Or.inr (Or.inr rfl))
    (hd : (x == ("__debug__" : Str)) = false := by decide) (hcd : (x == ("__classdict__" : Str)) = false := by decide) : EV c ρ (.Name x pos) d := ⟨fun σ F H hh Q q => by
  obtain ⟨v, h1, h2⟩ := hh.val h
  exact wpE_of (pe_var hN hv hd hcd) ⟨v, h1, q v F H (Gw.refl hh.fr.fh) h2⟩⟩
theorem bv_own {i : Nat} {x : Str} {ds : List PyData} (h : ρ[i]? = some (.own (oL c.X.K ds)) := by rfl) (hN : c.X.N[i]? = some x := by rfl) (hv : Vis c.X.env.scope x := by first | exact Or.inl rfl | exact Or.inr (Or.inl rfl) | exact Or.inr (Or.inr rfl))
    (hd : (x == ("__debug__" : Str)) = false := by decide) (hcd : (x == ("__classdict__" : Str)) = false := by decide) : BV c ρ (.Name x pos) (.list ds) := ⟨fun σ F H hh Q q => by
  obtain ⟨fr, len, fp, ee⟩ := id hh
  have h1 := (List.getElem?_eq_some_iff.mp h).1
  have h2 : i < σ.length := by omega
  obtain ⟨v, ev, p, vs, e1, e2, h3, h4⟩ := ee.at_ i _ _ h (List.getElem?_eq_getElem h2)
  refine wpE_of (pe_var hN hv hd hcd) ⟨v, by rw [List.getElem?_eq_getElem h2, ev], q v F H (Gw.refl fr.fh) (.inr ⟨p, vs, ds, e1, rfl, h3, h4⟩)⟩⟩
theorem ev_int {i : Int} {j} : EV c ρ (.Constant (.int i) j pos) (.int i) := ⟨fun σ F H hh Q q => wpE_of pe_int (q _ F H (Gw.refl hh.fr.fh) (.int i))⟩
theorem ev_bool {b : Bool} {j} : EV c ρ (.Constant (.bool b) j pos) (.bool b) := ⟨fun σ F H hh Q q => wpE_of pe_bl (q _ F H (Gw.refl hh.fr.fh) (.bl b))⟩
theorem ev_none {j} : EV c ρ (.Constant .none j pos) .none := ⟨fun σ F H hh Q q => wpE_of pe_non (q _ F H (Gw.refl hh.fr.fh) .non)⟩
theorem ev_str {x : Str} {j} : EV c ρ (.Constant (.str x) j pos) (.str x) := ⟨fun σ F H hh Q q => wpE_of pe_str (q _ F H (Gw.refl hh.fr.fh) (.str x))⟩
/-- a constant of the module -/
theorem ev_glob {x : Str} {v : V} {u : Value} (hm : c.X.mg x = some u) (r : RelV v u) (hd : ∀ F, Dp c.X.K F v d) (hg : Gl c.X x := by rfl) (hdb : (x == ("__debug__" : Str)) = false := by decide) : EV c ρ (.Name x pos) d := ⟨fun σ F H hh Q q =>
  wpE_of (pe_glob hg hm r hdb) (q v F H (Gw.refl hh.fr.fh) (hd F))⟩
theorem ev_bin {op : Operator} {r : R2} (ho : OpR c.X (binaryOp op) r) (ha : BV c ρ a d1) (hb : BV c ρ b d2) (hr : OpB c.X.K r d1 d2 d) : EV c ρ (.BinOp a op b pos) d := ⟨fun σ F H hh Q q =>
  wpE_of (pe_op ho pe_wp pe_wp) (ha.run σ F H hh _ fun v F1 H1 g1 b1 => hb.run σ F1 H1 (hh.grow g1) _ fun u F2 H2 g2 b2 => hr F2 H2 v u g2.fh (b1.grow g2) b2 Q fun z F3 H3 g3 hz => q z F3 H3 ((g1.trans g2).trans g3) hz)⟩
theorem nv_bin {op : Operator} {r : R2} {o : OwnP} (ho : OpR c.X (binaryOp op) r) (ha : BV c ρ a d1) (hb : BV c ρ b d2) (hr : OpN c.X.K r d1 d2 o) : NV c ρ (.BinOp a op b pos) o := ⟨fun σ F H hh Q q =>
  wpE_of (pe_op ho pe_wp pe_wp) (ha.run σ F H hh _ fun v F1 H1 g1 b1 => hb.run σ F1 H1 (hh.grow g1) _ fun u F2 H2 g2 b2 => hr F2 H2 v u g2.fh (b1.grow g2) b2 Q fun z F3 H3 fc g3 hz hn =>
    q z F3 H3 fc ((g1.trans g2).trans g3) hz fun x hx => ⟨same_none (g1.trans g2).hh (hn x hx).1, (hn x hx).2⟩)⟩
theorem ev_un {op : UnaryOp} {r : V → Hp → VK → Prop} (ho : UnR c.X (unaryOp op) r) (ha : BV c ρ a d1) (hr : UnB c.X.K r d1 d) : EV c ρ (.UnaryOp op a pos) d := ⟨fun σ F H hh Q q =>
  wpE_of (pe_un ho pe_wp) (ha.run σ F H hh _ fun v F1 H1 g1 b1 => hr F1 H1 v g1.fh b1 Q fun z F3 H3 g3 hz => q z F3 H3 (g1.trans g3) hz)⟩
theorem ev_cmp {op : CmpOp} {r : R2} (ho : OpR c.X (compareOp op) r) (ha : BV c ρ a d1) (hb : BV c ρ b d2) (hr : OpB c.X.K r d1 d2 d) (hm : behindInMarks op b = false := by first | exact nomark _ | rfl) : EV c ρ (.Compare a [op] [b] pos) d := ⟨fun σ F H hh Q q =>
  wpE_of (pe_cmpR ho pe_wp pe_wp hm) (ha.run σ F H hh _ fun v F1 H1 g1 b1 => hb.run σ F1 H1 (hh.grow g1) _ fun u F2 H2 g2 b2 => hr F2 H2 v u g2.fh (b1.grow g2) b2 Q fun z F3 H3 g3 hz => q z F3 H3 ((g1.trans g2).trans g3) hz)⟩
theorem tv_cmp {op : CmpOp} {r : R2} {k : Bool} (ho : OpR c.X (compareOp op) r) (ha : BV c ρ a d1) (hb : BV c ρ b d2) (hr : OpB c.X.K r d1 d2 (.bool k)) (hm : behindInMarks op b = false := by first | exact nomark _ | rfl) : TV c ρ (.Compare a [op] [b] pos) k := ⟨fun σ F H hh Q q =>
  wpT_of (pt_cmpR ho pe_wp pe_wp hm) (ha.run σ F H hh _ fun v F1 H1 g1 b1 => hb.run σ F1 H1 (hh.grow g1) _ fun u F2 H2 g2 b2 => hr F2 H2 v u g2.fh (b1.grow g2) b2 _ fun z F3 H3 g3 hz => ⟨k, hz.bool_inv, q F3 H3 ((g1.trans g2).trans g3)⟩)⟩
theorem ev_chain {op op' : CmpOp} {r r' : R2} {k k' : Bool} {e3 : Expr} (ho : OpR c.X (compareOp op) r) (ho' : OpR c.X (compareOp op') r') (ha : BV c ρ a d1) (hb : BV c ρ b d2) (hc : BV c ρ e3 d3) (hr : OpB c.X.K r d1 d2 (.bool k)) (hr' : OpB c.X.K r' d2 d3 (.bool k'))
    (hm : lastMarks [op, op'] [b, e3] = false := by with_unfolding_all rfl) : EV c ρ (.Compare a [op, op'] [b, e3] pos) (.bool (k && k')) := ⟨fun σ F H hh Q q =>
  wpE_of (pe_chain ho ho' pe_wp pe_wp pe_wp hm) (ha.run σ F H hh _ fun v F1 H1 g1 b1 => hb.run σ F1 H1 (hh.grow g1) _ fun u F2 H2 g2 b2 => hr F2 H2 v u g2.fh (b1.grow g2) b2 _ fun z F3 H3 g3 hz => ⟨k, hz.bool_inv, by
    cases k with
    | false => exact q _ F3 H3 ((g1.trans g2).trans g3) (.bl false)
    | true => exact hc.run σ F3 H3 (hh.grow ((g1.trans g2).trans g3)) _ fun w F4 H4 g4 b4 => hr' F4 H4 u w g4.fh (b2.grow (g3.trans g4)) b4 Q fun z F5 H5 g5 hz => q z F5 H5 ((((g1.trans g2).trans g3).trans g4).trans g5) hz⟩)⟩
theorem tv_chain {op op' : CmpOp} {r r' : R2} {k k' : Bool} {e3 : Expr} (ho : OpR c.X (compareOp op) r) (ho' : OpR c.X (compareOp op') r') (ha : BV c ρ a d1) (hb : BV c ρ b d2) (hc : BV c ρ e3 d3) (hr : OpB c.X.K r d1 d2 (.bool k)) (hr' : OpB c.X.K r' d2 d3 (.bool k'))
    (hm : lastMarks [op, op'] [b, e3] = false := by with_unfolding_all rfl) : TV c ρ (.Compare a [op, op'] [b, e3] pos) (k && k') := ⟨fun σ F H hh Q q =>
  wpT_of (pt_chain ho ho' pe_wp pe_wp pe_wp hm) (ha.run σ F H hh _ fun v F1 H1 g1 b1 => hb.run σ F1 H1 (hh.grow g1) _ fun u F2 H2 g2 b2 => hr F2 H2 v u g2.fh (b1.grow g2) b2 _ fun z F3 H3 g3 hz => ⟨k, hz.bool_inv, by
    cases k with
    | false => exact ⟨false, rfl, q F3 H3 ((g1.trans g2).trans g3)⟩
    | true => exact hc.run σ F3 H3 (hh.grow ((g1.trans g2).trans g3)) _ fun w F4 H4 g4 b4 => hr' F4 H4 u w g4.fh (b2.grow (g3.trans g4)) b4 _ fun z F5 H5 g5 hz => ⟨k', hz.bool_inv, q F5 H5 ((((g1.trans g2).trans g3).trans g4).trans g5)⟩⟩)⟩
theorem tv_is {k k' : Bool} (h : TV c ρ e k) (q : k = k') : TV c ρ e k' := q ▸ h
/-- a value that is a truth -/
theorem tv_ev {k : Bool} (h : EV c ρ e (.bool k)) (he : ∀ whole, isTrue e c.X.env whole = (do let v ← whole; standAt e.pos; holding [v] (truthy v)) := by exact plain_tru rfl) : TV c ρ e k := ⟨fun σ F H hh Q q =>
  wpT_of (pt_val pe_wp he) (h.run σ F H hh _ fun v F1 H1 g1 b1 => ⟨k, b1.bool_inv, q F1 H1 g1⟩)⟩
theorem tv_wv {k : Bool} (h : WV c ρ e k) : TV c ρ e k := ⟨fun σ F H hh Q q => wpT_of pw_wp.pt (h.run σ F H hh Q q)⟩
theorem wv_and1 {k : Bool} (h : TV c ρ a k) : WV c ρ (.BoolOp .And [a] pos) k := ⟨fun σ F H hh Q q => wpW_of (pw_and1 pt_wp) (h.run σ F H hh Q q)⟩
theorem wv_or1 {k : Bool} (h : TV c ρ a k) : WV c ρ (.BoolOp .Or [a] pos) k := ⟨fun σ F H hh Q q => wpW_of (pw_or1 pt_wp) (h.run σ F H hh Q q)⟩
theorem wv_and {k k' : Bool} {rest : List Expr} (h : TV c ρ a k) (h2 : k = true → WV c ρ (.BoolOp .And (b :: rest) pos) k') : WV c ρ (.BoolOp .And (a :: b :: rest) pos) (k && k') := ⟨fun σ F H hh Q q =>
  wpW_of (pw_and pt_wp pw_wp) (h.run σ F H hh _ fun F1 H1 g1 => by
    cases k with
    | true => exact (h2 rfl).run σ F1 H1 (hh.grow g1) Q fun F2 H2 g2 => q F2 H2 (g1.trans g2)
    | false => exact q F1 H1 g1)⟩
theorem wv_or {k k' : Bool} {rest : List Expr} (h : TV c ρ a k) (h2 : k = false → WV c ρ (.BoolOp .Or (b :: rest) pos) k') : WV c ρ (.BoolOp .Or (a :: b :: rest) pos) (k || k') := ⟨fun σ F H hh Q q =>
  wpW_of (pw_or pt_wp pw_wp) (h.run σ F H hh _ fun F1 H1 g1 => by
    cases k with
    | true => exact q F1 H1 g1
    | false => exact (h2 rfl).run σ F1 H1 (hh.grow g1) Q fun F2 H2 g2 => q F2 H2 (g1.trans g2))⟩
theorem tv_not {k : Bool} (h : TV c ρ a k) : TV c ρ (.UnaryOp .Not a pos) (!k) := ⟨fun σ F H hh Q q => wpT_of (pt_not pt_wp) (h.run σ F H hh _ fun F1 H1 g1 => q F1 H1 g1)⟩
theorem ev_one {op} (h : EV c ρ a d) : EV c ρ (.BoolOp op [a] pos) d := ⟨fun σ F H hh Q q => wpE_of (pe_one pe_wp) (h.run σ F H hh Q q)⟩
theorem ev_and {k k' : Bool} {rest : List Expr} (h : EV c ρ a (.bool k)) (h2 : k = true → EV c ρ (.BoolOp .And (b :: rest) pos) (.bool k')) : EV c ρ (.BoolOp .And (a :: b :: rest) pos) (.bool (k && k')) := ⟨fun σ F H hh Q q =>
  wpE_of (pe_and pe_wp pe_wp) (h.run σ F H hh _ fun v F1 H1 g1 b1 => ⟨k, b1.bool_inv, by
    cases k with
    | true => exact (h2 rfl).run σ F1 H1 (hh.grow g1) Q fun v F2 H2 g2 => q v F2 H2 (g1.trans g2)
    | false => exact q _ F1 H1 g1 (.bl false)⟩)⟩
theorem ev_or {k k' : Bool} {rest : List Expr} (h : EV c ρ a (.bool k)) (h2 : k = false → EV c ρ (.BoolOp .Or (b :: rest) pos) (.bool k')) : EV c ρ (.BoolOp .Or (a :: b :: rest) pos) (.bool (k || k')) := ⟨fun σ F H hh Q q =>
  wpE_of (pe_or pe_wp pe_wp) (h.run σ F H hh _ fun v F1 H1 g1 b1 => ⟨k, b1.bool_inv, by
    cases k with
    | true => exact q _ F1 H1 g1 (.bl true)
    | false => exact (h2 rfl).run σ F1 H1 (hh.grow g1) Q fun v F2 H2 g2 => q v F2 H2 (g1.trans g2)⟩)⟩
theorem ev_not {k : Bool} (h : EV c ρ a (.bool k)) : EV c ρ (.UnaryOp .Not a pos) (.bool (!k)) := ⟨fun σ F H hh Q q =>
  wpE_of (pe_not pe_wp) (h.run σ F H hh _ fun v F1 H1 g1 b1 => ⟨k, b1.bool_inv, q _ F1 H1 g1 (.bl _)⟩)⟩
theorem ev_if {k : Bool} {t : Expr} (ht : TV c ρ t k) (h1 : k = true → EV c ρ a d) (h2 : k = false → EV c ρ b d) : EV c ρ (.IfExp t a b pos) d := ⟨fun σ F H hh Q q =>
  wpE_of (pe_ifExp pt_wp pe_wp pe_wp) (ht.run σ F H hh _ fun F1 H1 g1 => by
    cases k with
    | true => exact (h1 rfl).run σ F1 H1 (hh.grow g1) Q fun v F2 H2 g2 => q v F2 H2 (g1.trans g2)
    | false => exact (h2 rfl).run σ F1 H1 (hh.grow g1) Q fun v F2 H2 g2 => q v F2 H2 (g1.trans g2))⟩
theorem ev_ite {k : Bool} {t : Expr} (ht : TV c ρ t k) (h1 : k = true → EV c ρ a d1) (h2 : k = false → EV c ρ b d2) : EV c ρ (.IfExp t a b pos) (if k = true then d1 else d2) :=
  ev_if ht (fun h => by rw [if_pos h]; exact h1 h) fun h => by rw [h]; exact h2 h
theorem ev_iteI {k : Bool} {t : Expr} {i j : Int} (ht : TV c ρ t k) (h1 : k = true → EV c ρ a (.int i)) (h2 : k = false → EV c ρ b (.int j)) : EV c ρ (.IfExp t a b pos) (.int (if k = true then i else j)) :=
  ev_if ht (fun h => by rw [if_pos h]; exact h1 h) fun h => by rw [h]; exact h2 h
theorem ev_iteS {k : Bool} {t : Expr} {i j : Str} (ht : TV c ρ t k) (h1 : k = true → EV c ρ a (.str i)) (h2 : k = false → EV c ρ b (.str j)) : EV c ρ (.IfExp t a b pos) (.str (if k = true then i else j)) :=
  ev_if ht (fun h => by rw [if_pos h]; exact h1 h) fun h => by rw [h]; exact h2 h
theorem ev_ix {r : R2} (hr : IxR c.X r) (ha : BV c ρ a d1) (hb : BV c ρ b d2) (ho : OpB c.X.K r d1 d2 d) (hs : PlainIx b := by exact plain_ix rfl) : EV c ρ (.Subscript a b pos) d := ⟨fun σ F H hh Q q =>
  wpE_of (pe_ix hr pe_wp pe_wp hs) (ha.run σ F H hh _ fun v F1 H1 g1 b1 => hb.run σ F1 H1 (hh.grow g1) _ fun u F2 H2 g2 b2 => ho F2 H2 v u g2.fh (b1.grow g2) b2 Q fun z F3 H3 g3 hz => q z F3 H3 ((g1.trans g2).trans g3) hz)⟩

/-! argument lists, displays -/
theorem ea_nil : EA c ρ [] [] := ⟨fun σ F H hh Q q => wpA_of pa_nil (q [] F H (Gw.refl hh.fr.fh) .nil)⟩
theorem ea_cons {es : List Expr} {ds : List PyData} (h : EV c ρ e d) (hr : EA c ρ es ds) (hs : starEach (e :: es) c.X.env = (false, eval e c.X.env) :: starEach es c.X.env := by exact star_cons rfl) : EA c ρ (e :: es) (d :: ds) := ⟨fun σ F H hh Q q =>
  wpA_of (pa_cons pe_wp pa_wp hs) (h.run σ F H hh _ fun v F1 H1 g1 b1 => hr.run σ F1 H1 (hh.grow g1) _ fun vs F2 H2 g2 b2 => q (v :: vs) F2 H2 (g1.trans g2) (.cons (dp_mono g2.ff d v b1) b2))⟩
theorem ba_nil : BA c ρ [] [] := ⟨fun σ F H hh Q q => wpA_of pa_nil (q [] F H (Gw.refl hh.fr.fh) .nil)⟩
theorem ba_cons {es : List Expr} {ds : List PyData} (h : BV c ρ e d) (hr : BA c ρ es ds) (hs : starEach (e :: es) c.X.env = (false, eval e c.X.env) :: starEach es c.X.env := by exact star_cons rfl) : BA c ρ (e :: es) (d :: ds) := ⟨fun σ F H hh Q q =>
  wpA_of (pa_cons pe_wp pa_wp hs) (h.run σ F H hh _ fun v F1 H1 g1 b1 => hr.run σ F1 H1 (hh.grow g1) _ fun vs F2 H2 g2 b2 => q (v :: vs) F2 H2 (g1.trans g2) (.cons (b1.grow g2) b2))⟩
theorem ev_tup {es : List Expr} {ds : List PyData} {x1} (h : EA c ρ es ds) (hl : ds.length ≤ sizeLine := by first | decide | (rw [sizeLine_eq]; simp; done)) : EV c ρ (.Tuple es x1 pos) (.tuple ds) := ⟨fun σ F H hh Q q =>
  wpE_of (pe_tup pa_wp) (h.run σ F H hh _ fun vs F1 H1 g1 b1 => ⟨by rw [b1.len]; exact hl, fun p hp => q (.ref p) (upd F1 p (.tup vs)) _ (g1.trans (Gw.alloc g1.fh hp)) (.tup (.of upd_same) (dpall_mono (same_upd (same_none g1.fh hp)) ds vs b1))⟩)⟩
theorem nv_lst {es : List Expr} {ds : List PyData} (h : EA c ρ es ds) (hl : ds.length ≤ sizeLine := by first | decide | (rw [sizeLine_eq]; simp; done)) : NV c ρ (.List es pos) (oL c.X.K ds) := ⟨fun σ F H hh Q q =>
  wpE_of (pe_lst pa_wp) (h.run σ F H hh _ fun vs F1 H1 g1 b1 => ⟨by rw [b1.len]; exact hl, fun p hp => q (.ref p) F1 _ [p] (g1.trans (Gw.own g1.fh hp)) ⟨p, vs, rfl, rfl, upd_same, b1⟩ fun b hb => by
    have e : b = p := by simpa using hb
    subst e
    exact ⟨same_none g1.hh hp, same_none g1.fh hp⟩⟩)⟩
/-! calls of built-ins -/
theorem ev_callB {x : Str} {id : String} {es : List Expr} {ds : List PyData} {r : List V → Hp → VK → Prop} {p : Pos} (hc : CallR c.X (.builtin id) r) (hm : c.X.mg x = none) (ha : BA c ρ (e :: es) ds) (hr : CallB c.X.K r ds d) (hg : Gl c.X x := by rfl)
    (hv : bootBuiltins x = some (.builtin id) := by decide +kernel) (hn : x ≠ "__name__" := by decide) (hdb : (x == ("__debug__" : Str)) = false := by decide)
    (he : starEach (e :: es) c.X.env = (false, eval e c.X.env) :: starEach es c.X.env := by exact star_cons rfl) (hpl : (backTo pos (starEach es c.X.env)).any (·.1) = false := by exact star_any rfl) : EV c ρ (.Call (.Name x p) (e :: es) [] pos) d := ⟨fun σ F H hh Q q =>
  wpE_of (pe_callB hc hg hm hv pa_wp hn hdb he hpl) (ha.run σ F H hh _ fun vs F1 H1 g1 b1 => hr F1 H1 vs g1.fh b1 Q fun z F3 H3 g3 hz => q z F3 H3 (g1.trans g3) hz)⟩
theorem nv_callB {x : Str} {id : String} {es : List Expr} {ds : List PyData} {r : List V → Hp → VK → Prop} {p : Pos} {o : OwnP} (hc : CallR c.X (.builtin id) r) (hm : c.X.mg x = none) (ha : BA c ρ (e :: es) ds) (hr : CallN c.X.K r ds o) (hg : Gl c.X x := by rfl)
    (hv : bootBuiltins x = some (.builtin id) := by decide +kernel) (hn : x ≠ "__name__" := by decide) (hdb : (x == ("__debug__" : Str)) = false := by decide)
    (he : starEach (e :: es) c.X.env = (false, eval e c.X.env) :: starEach es c.X.env := by exact star_cons rfl) (hpl : (backTo pos (starEach es c.X.env)).any (·.1) = false := by exact star_any rfl) : NV c ρ (.Call (.Name x p) (e :: es) [] pos) o := ⟨fun σ F H hh Q q =>
  wpE_of (pe_callB hc hg hm hv pa_wp hn hdb he hpl) (ha.run σ F H hh _ fun vs F1 H1 g1 b1 => hr F1 H1 vs g1.fh b1 Q fun z F3 H3 fc g3 hz hn => q z F3 H3 fc (g1.trans g3) hz fun x hx => ⟨same_none g1.hh (hn x hx).1, (hn x hx).2⟩)⟩
theorem ev_callTy {x : Str} {T : String} {es : List Expr} {ds : List PyData} {r : List V → Hp → VK → Prop} {p : Pos} (hc : CallR c.X (.type T) r) (hm : c.X.mg x = none) (ha : BA c ρ (e :: es) ds) (hr : CallB c.X.K r ds d) (hg : Gl c.X x := by rfl)
    (hv : bootBuiltins x = some (.type T) := by decide +kernel) (hn : x ≠ "__name__" := by decide) (hdb : (x == ("__debug__" : Str)) = false := by decide)
    (he : starEach (e :: es) c.X.env = (false, eval e c.X.env) :: starEach es c.X.env := by exact star_cons rfl) (hpl : (backTo pos (starEach es c.X.env)).any (·.1) = false := by exact star_any rfl) : EV c ρ (.Call (.Name x p) (e :: es) [] pos) d := ⟨fun σ F H hh Q q =>
  wpE_of (pe_callTy hc hg hm hv pa_wp hn hdb he hpl) (ha.run σ F H hh _ fun vs F1 H1 g1 b1 => hr F1 H1 vs g1.fh b1 Q fun z F3 H3 g3 hz => q z F3 H3 (g1.trans g3) hz)⟩
theorem nv_callTy {x : Str} {T : String} {es : List Expr} {ds : List PyData} {r : List V → Hp → VK → Prop} {p : Pos} {o : OwnP} (hc : CallR c.X (.type T) r) (hm : c.X.mg x = none) (ha : BA c ρ (e :: es) ds) (hr : CallN c.X.K r ds o) (hg : Gl c.X x := by rfl)
    (hv : bootBuiltins x = some (.type T) := by decide +kernel) (hn : x ≠ "__name__" := by decide) (hdb : (x == ("__debug__" : Str)) = false := by decide)
    (he : starEach (e :: es) c.X.env = (false, eval e c.X.env) :: starEach es c.X.env := by exact star_cons rfl) (hpl : (backTo pos (starEach es c.X.env)).any (·.1) = false := by exact star_any rfl) : NV c ρ (.Call (.Name x p) (e :: es) [] pos) o := ⟨fun σ F H hh Q q =>
  wpE_of (pe_callTy hc hg hm hv pa_wp hn hdb he hpl) (ha.run σ F H hh _ fun vs F1 H1 g1 b1 => hr F1 H1 vs g1.fh b1 Q fun z F3 H3 fc g3 hz hn => q z F3 H3 fc (g1.trans g3) hz fun x hx => ⟨same_none g1.hh (hn x hx).1, (hn x hx).2⟩)⟩
end
end G

namespace G
open PySem PySem.Spec PyProof.Rows L2

theorem blt_lt {i n : Nat} (h : Nat.blt i n = true) : i < n := by simpa [Nat.blt_eq] using h

/-! ### statements -/
inductive Out where
  | next (ρ : List Cl)
  | brk (ρ : List Cl)
  | cont (ρ : List Cl)
  | ret (r : Cl) (ρ : List Cl)
  | exc (cls : Value) (x : Option (List (Str × V))) (ρ : List Cl)
/-- an exception's own dict -/
def excD (x : Option (List (Str × V))) (d : Option Addr) (H : Hp) : Prop := match x with
  | none => d = none
  | some fs => ∃ a, d = some a ∧ H a = some (.xd fs)
def okO (c : Cc) (F : Hp) (D : Ends) : Out → Prop
  | .next ρ => ∀ σ F' H', Same F F' → c.H ρ σ F' H' → D.nx σ H'
  | .brk ρ => ∀ σ F' H', Same F F' → c.H ρ σ F' H' → D.bk σ H'
  | .cont ρ => ∀ σ F' H', Same F F' → c.H ρ σ F' H' → D.ct σ H'
  | .ret r ρ => ∀ σ v F' H', Same F F' → σ.length = ρ.length → c.H (ρ ++ [r]) (σ ++ [some v]) F' H' → D.rt v H'
  | .exc cls x ρ => ∀ σ F' H' d, Same F F' → c.H ρ σ F' H' → excD x d H' → c.W cls d σ H'
structure S1 (c : Cc) (ρ : List Cl) (st : Stmt) (P : Out → Prop) : Prop where
  run : ∀ σ F H (D : Ends), c.H ρ σ F H → (∀ o, P o → okO c F D o) → wpS c.X st D σ H
structure SV (c : Cc) (ρ : List Cl) (sts : List Stmt) (P : Out → Prop) : Prop where
  run : ∀ σ F H (D : Ends), c.H ρ σ F H → (∀ o, P o → okO c F D o) → wpSs c.X sts D σ H
def Kt (c : Cc) (rest : List Stmt) (P : Out → Prop) : Out → Prop
  | .next ρ => SV c ρ rest P
  | .brk ρ => P (.brk ρ)
  | .cont ρ => P (.cont ρ)
  | .ret r ρ => P (.ret r ρ)
  | .exc cls x ρ => P (.exc cls x ρ)
theorem okO.mono {c : Cc} {F F1 : Hp} {D : Ends} {o : Out} (s : Same F F1) (h : okO c F D o) : okO c F1 D o := by
  cases o with
  | next ρ => exact fun σ F' H' s' => h σ F' H' (s.trans s')
  | brk ρ => exact fun σ F' H' s' => h σ F' H' (s.trans s')
  | cont ρ => exact fun σ F' H' s' => h σ F' H' (s.trans s')
  | ret r ρ => exact fun σ v F' H' s' => h σ v F' H' (s.trans s')
  | exc cls x ρ => exact fun σ F' H' d s' => h σ F' H' d (s.trans s')
section
variable {c : Cc} {ρ : List Cl} {P : Out → Prop} {st : Stmt} {rest : List Stmt} {e : Expr} {d : PyData} {pos : Pos}
theorem S1.imp {P' : Out → Prop} (h : S1 c ρ st P) (k : ∀ o, P o → P' o) : S1 c ρ st P' := ⟨fun σ F H D hh q => h.run σ F H D hh fun o ho => q o (k o ho)⟩
theorem SV.imp {P' : Out → Prop} (h : SV c ρ rest P) (k : ∀ o, P o → P' o) : SV c ρ rest P' := ⟨fun σ F H D hh q => h.run σ F H D hh fun o ho => q o (k o ho)⟩
theorem SV.weak {ρ' : List Cl} (h : SV c ρ' rest P) (w : Wk ρ ρ') : SV c ρ rest P := ⟨fun σ F H D hh q => h.run σ F H D (hh.weak w) q⟩
theorem sv_nil (h : P (.next ρ)) : SV c ρ [] P := ⟨fun σ F H D hh q => wpSs_of pss_nil (q _ h σ F H (Same.refl F) hh)⟩
theorem sv_cons (h : S1 c ρ st (Kt c rest P)) : SV c ρ (st :: rest) P := ⟨fun σ F H D hh q => wpSs_of (pss_cons ps_wp pss_wp) (h.run σ F H { D with nx := fun σ H => wpSs c.X rest D σ H } hh fun o ho => by
  cases o with
  | next ρ' => exact fun σ' F' H' s' hh' => ho.run σ' F' H' D hh' fun o ho => (q o ho).mono s'
  | brk ρ => exact q _ ho
  | cont ρ => exact q _ ho
  | ret r ρ => exact q _ ho
  | exc cls x ρ => exact q _ ho)⟩
theorem sv_one (h : S1 c ρ st P) : SV c ρ [st] P := ⟨fun σ F H D hh q => wpSs_of (pss_one ps_wp) (h.run σ F H D hh q)⟩
/-- a word between -/
theorem sv_cut (Mid : List Cl → Prop) (h : S1 c ρ st (fun o => match o with | .next ρ' => Mid ρ' | .brk ρ => P (.brk ρ) | .cont ρ => P (.cont ρ) | .ret r ρ => P (.ret r ρ) | .exc cls x ρ => P (.exc cls x ρ)))
    (k : ∀ ρ', Mid ρ' → SV c ρ' rest P) : SV c ρ (st :: rest) P := sv_cons (h.imp fun o ho => by
  cases o with
  | next ρ' => exact k ρ' ho
  | brk ρ => exact ho
  | cont ρ => exact ho
  | ret r ρ => exact ho
  | exc cls x ρ => exact ho)
theorem s1_pass (h : P (.next ρ)) : S1 c ρ (.Pass pos) P := ⟨fun σ F H D hh q => wpS_of ps_pass (q _ h σ F H (Same.refl F) hh)⟩
theorem s1_break (h : P (.brk ρ)) : S1 c ρ (.Break pos) P := ⟨fun σ F H D hh q => wpS_of ps_break (q _ h σ F H (Same.refl F) hh)⟩
theorem s1_continue (h : P (.cont ρ)) : S1 c ρ (.Continue pos) P := ⟨fun σ F H D hh q => wpS_of ps_continue (q _ h σ F H (Same.refl F) hh)⟩
theorem s1_doc {x j pos'} (h : P (.next ρ)) : S1 c ρ (.Expr (.Constant (.str x) j pos) pos') P := ⟨fun σ F H D hh q => wpS_of ps_doc (q _ h σ F H (Same.refl F) hh)⟩
theorem s1_expr (he : EV c ρ e d) (h : P (.next ρ)) (hs : swapsWith e none pos.line c.X.env = pure false := by exact swaps_no rfl) : S1 c ρ (.Expr e pos) P := ⟨fun σ F H D hh q =>
  wpS_of (ps_expr pe_wp hs) (he.run σ F H hh _ fun v F1 H1 g1 b1 => q _ h σ F1 H1 g1.ff (hh.grow g1))⟩
theorem s1_ret (he : EV c ρ e d) (h : P (.ret (.val d) ρ)) : S1 c ρ (.Return (some e) pos) P := ⟨fun σ F H D hh q =>
  wpS_of (ps_ret pe_wp) (he.run σ F H hh _ fun v F1 H1 g1 b1 => q _ h σ v F1 H1 g1.ff hh.len ((hh.grow g1).pushV b1))⟩
theorem s1_retO {o : OwnP} (he : NV c ρ e o) (h : P (.ret (.own o) ρ)) : S1 c ρ (.Return (some e) pos) P := ⟨fun σ F H D hh q =>
  wpS_of (ps_ret pe_wp) (he.run σ F H hh _ fun v F1 H1 fc g1 b1 hn => q _ h σ v F1 H1 g1.ff hh.len (hh.pushO g1 b1 hn))⟩
/-- return of a name that holds a list of one's own -/
theorem s1_retOwn {i : Nat} {x : Str} {p' : Pos} {o : OwnP} (h1 : ρ[i]? = some (.own o)) (h : P (.ret (.own o) (ρ.set i .un))) (hN : c.X.N[i]? = some x := by rfl) (hv : Vis c.X.env.scope x := by first | exact Or.inl rfl | exact Or.inr (Or.inl rfl) | exact Or.inr (Or.inr rfl))
    (hd : (x == ("__debug__" : Str)) = false := by decide) (hcd : (x == ("__classdict__" : Str)) = false := by decide) : S1 c ρ (.Return (some (.Name x p')) pos) P := ⟨fun σ F H D hh q => by
  obtain ⟨fr, len, fp, e⟩ := id hh
  have hi := (List.getElem?_eq_some_iff.mp h1).1
  have h2 : i < σ.length := by omega
  obtain ⟨v, ev, hat⟩ := e.at_ i _ _ h1 (List.getElem?_eq_getElem h2)
  have hσ : σ[i]? = some (some v) := by rw [List.getElem?_eq_getElem h2, ev]
  refine wpS_of (ps_ret (pe_var hN hv hd hcd)) ⟨v, hσ, q _ h σ v F H (Same.refl F) (by simp [len]) ?_⟩
  refine ⟨fr, by simp [len], fun j => if j = ρ.length then fp i else if j = i then [] else fp j, fun j k ov e1 e2 => ?_, fun j b hb => ?_, fun j k hjk b hb hb2 => ?_, fun j hj => ?_⟩
  · by_cases hj : j = ρ.length
    · subst hj
      rw [List.getElem?_append_right (by simp)] at e1
      rw [← len, List.getElem?_append_right (Nat.le_refl _), Nat.sub_self] at e2
      simp at e1
      cases e1
      cases e2
      simp
      exact ⟨v, rfl, hat⟩
    · have hlt : j < ρ.length := by
        have := (List.getElem?_eq_some_iff.mp e1).1
        simp at this
        omega
      rw [List.getElem?_append_left (by simpa using hlt)] at e1
      rw [List.getElem?_append_left (by omega)] at e2
      simp only [hj, if_false]
      by_cases hji : j = i
      · subst hji
        rw [List.getElem?_set_self hlt] at e1
        cases e1
        simp
        exact (rfl : ([] : List Addr) = [])
      · rw [List.getElem?_set_ne (Ne.symm hji)] at e1
        simp only [hji, if_false]
        exact e.at_ j k ov e1 e2
  · split at hb
    · exact e.out _ b hb
    · split at hb
      · cases hb
      · exact e.out _ b hb
  · have idx : ∀ j, b ∈ (if j = ρ.length then fp i else if j = i then [] else fp j) → ∃ m, b ∈ fp m ∧ ((m = i ∧ j = ρ.length) ∨ (m = j ∧ j ≠ i ∧ j ≠ ρ.length)) := fun j hb => by
      split at hb
      · rename_i hj
        exact ⟨_, hb, .inl ⟨rfl, hj⟩⟩
      · rename_i hj
        split at hb
        · cases hb
        · rename_i hji
          exact ⟨j, hb, .inr ⟨rfl, hji, hj⟩⟩
    obtain ⟨m1, b1, q1⟩ := idx j hb
    obtain ⟨m2, b2, q2⟩ := idx k hb2
    refine e.dis m1 m2 ?_ b b1 b2
    rcases q1 with ⟨a1, a2⟩ | ⟨a1, a2, a3⟩ <;> rcases q2 with ⟨c1, c2⟩ | ⟨c1, c2, c3⟩ <;> omega
  · simp at hj
    rw [if_neg (by omega), if_neg (by omega)]
    exact e.far j (by omega)⟩
theorem s1_retN (h : P (.ret (.val .none) ρ)) : S1 c ρ (.Return none pos) P := ⟨fun σ F H D hh q =>
  wpS_of ps_retN (q _ h σ .non F H (Same.refl F) hh.len (hh.pushV .non))⟩
theorem s1_if {t : Expr} {a b : List Stmt} {k : Bool} (ht : TV c ρ t k) (h1 : k = true → SV c ρ a P) (h2 : k = false → SV c ρ b P) : S1 c ρ (.If t a b pos) P := ⟨fun σ F H D hh q =>
  wpS_of (ps_if pt_wp pss_wp pss_wp) (ht.run σ F H hh _ fun F1 H1 g1 => by
    cases k with
    | true => exact (h1 rfl).run σ F1 H1 D (hh.grow g1) fun o ho => (q o ho).mono g1.ff
    | false => exact (h2 rfl).run σ F1 H1 D (hh.grow g1) fun o ho => (q o ho).mono g1.ff)⟩
/-- name = e -/
theorem s1_set {i : Nat} {x : Str} {p' : Pos} (hN : c.X.N.Nodup) (he : EV c ρ e d) (h : P (.next (ρ.set i (.val d)))) (hi : c.X.N[i]? = some x := by rfl) (hx : Loc c.X.env.scope x := by first | exact Or.inl rfl | exact Or.inr rfl) (hl : Nat.blt i ρ.length = true := by rfl)
    (hs : swapsWith e (some (.Name x p')) pos.line c.X.env = pure false := by exact swaps_no rfl) (hf : c.X.fn x = true ∨ c.X.env.scope.names.lookup x = some .local := by first | exact .inl rfl | exact .inr rfl | assumption) : S1 c ρ (.Assign [.Name x p'] e pos) P := ⟨fun σ F H D hh q =>
  wpS_of (ps_set hN hi hx pe_wp hs hf) (he.run σ F H hh _ fun v F1 H1 g1 b1 => q _ h (σ.set i (some v)) F1 H1 g1.ff (((hh.grow g1).pushV b1).move (blt_lt hl)))⟩
/-- the same, the value given a letter of its own -/
theorem s1_setG {α : Type} {i : Nat} {x : Str} {p' : Pos} (f : α → PyData) {v : α} (hN : c.X.N.Nodup) (he : EV c ρ e (f v)) (h : ∀ v', v' = v → P (.next (ρ.set i (.val (f v'))))) (hi : c.X.N[i]? = some x := by rfl) (hx : Loc c.X.env.scope x := by first | exact Or.inl rfl | exact Or.inr rfl) (hl : Nat.blt i ρ.length = true := by rfl)
    (hs : swapsWith e (some (.Name x p')) pos.line c.X.env = pure false := by exact swaps_no rfl) (hf : c.X.fn x = true ∨ c.X.env.scope.names.lookup x = some .local := by first | exact .inl rfl | exact .inr rfl | assumption) : S1 c ρ (.Assign [.Name x p'] e pos) P := s1_set hN he (h v rfl) hi hx hl hs hf
theorem s1_setO {i : Nat} {x : Str} {p' : Pos} {o : OwnP} (hN : c.X.N.Nodup) (he : NV c ρ e o) (h : P (.next (ρ.set i (.own o)))) (hi : c.X.N[i]? = some x := by rfl) (hx : Loc c.X.env.scope x := by first | exact Or.inl rfl | exact Or.inr rfl) (hl : Nat.blt i ρ.length = true := by rfl)
    (hs : swapsWith e (some (.Name x p')) pos.line c.X.env = pure false := by exact swaps_no rfl) (hf : c.X.fn x = true ∨ c.X.env.scope.names.lookup x = some .local := by first | exact .inl rfl | exact .inr rfl | assumption) : S1 c ρ (.Assign [.Name x p'] e pos) P := ⟨fun σ F H D hh q =>
  wpS_of (ps_set hN hi hx pe_wp hs hf) (he.run σ F H hh _ fun v F1 H1 fc g1 b1 hn => q _ h (σ.set i (some v)) F1 H1 g1.ff ((hh.pushO g1 b1 hn).move (blt_lt hl)))⟩
/-- name op= e -/
def IpB (K : PySem.W.Frag) (r : TIp) (d1 d2 d : PyData) : Prop := ∀ F H x y, Same F H → Bo K F H x d1 → Bo K F H y d2 → ∀ Q : VK, (∀ v F' H', Gw F H F' H' → Dp K F' v d → Q v H') → r x y H Q
theorem s1_aug {i : Nat} {x : Str} {p' : Pos} {op : Operator} {ti : TIp} {d1 d2 : PyData} (hN : c.X.N.Nodup) (ho : PIp c.X op ti) (he : EV c ρ e d2) (hr : IpB c.X.K ti d1 d2 d) (h : P (.next (ρ.set i (.val d)))) (h1 : ρ[i]? = some (.val d1) := by rfl) (hi : c.X.N[i]? = some x := by rfl)
    (hx : Loc c.X.env.scope x := by first | exact Or.inl rfl | exact Or.inr rfl) (hf : c.X.fn x = true ∨ c.X.env.scope.names.lookup x = some .local := by first | exact .inl rfl | exact .inr rfl | assumption) : S1 c ρ (.AugAssign (.Name x p') op e pos) P := ⟨fun σ F H D hh q => by
  obtain ⟨v, e1, h2⟩ := hh.val h1
  have hl := (List.getElem?_eq_some_iff.mp h1).1
  exact wpS_of (ps_aug hN hi hx pe_wp ho hf) ⟨v, e1, he.run σ F H hh _ fun u F1 H1 g1 b1 => hr F1 H1 v u g1.fh (.inl (dp_mono g1.ff _ v h2)) (.inl b1) _ fun z F2 H2 g2 b2 => q _ h (σ.set i (some z)) F2 H2 (g1.trans g2).ff (((hh.grow (g1.trans g2)).pushV b2).move hl)⟩⟩
/-- a list of one's own is left alone from now on -/
theorem sv_freeze {i : Nat} {ds : List PyData} (h1 : ρ[i]? = some (.own (oL c.X.K ds))) (h : SV c (ρ.set i (.val (.list ds))) rest P) : SV c ρ rest P := ⟨fun σ F H D hh q => by
  obtain ⟨fr, len, fp, ee⟩ := id hh
  have hl := (List.getElem?_eq_some_iff.mp h1).1
  have h2 : i < σ.length := by omega
  obtain ⟨v, ev, p, vs, e1, e2, h3, h4⟩ := ee.at_ i _ _ h1 (List.getElem?_eq_getElem h2)
  have hp := ee.out i p (by rw [e2]; simp)
  have s : Same F (upd F p (.lst vs)) := same_upd hp.1
  have hfr : Fr c.F0 c.Kp (upd F p (.lst vs)) H := ⟨fr.ff.trans s, fun x o ho => by
    by_cases hx : x = p
    · subst hx
      rw [upd_same] at ho
      rw [← ho]
      exact h3
    · rw [upd_ne hx] at ho
      exact fr.fh x o ho, fr.kh, fun b h0 hk => by
    rw [upd_ne (fun (e : b = p) => hk (by rw [e]; exact hp.2))]
    exact fr.new b h0 hk⟩
  have hh2 : c.H (ρ.set i (.val (.list ds))) (σ.set i (some v)) (upd F p (.lst vs)) H := hh.swap h1 hfr s fun fp' ov hF ho hc => by
    obtain ⟨v', ev', p', vs', e1', e2', h3', h4'⟩ := hc
    have eo : ov = some v := by
      rw [List.getElem?_eq_getElem h2, ev] at ho
      exact (Option.some.inj ho).symm
    subst eo
    cases ev'
    subst e1
    cases e1'
    rw [h3] at h3'
    cases h3'
    refine ⟨[], ⟨rfl, _, rfl, .lst (.of upd_same) (dpall_mono s ds vs h4)⟩, (fun b hb => by cases hb), (fun b hb => by cases hb), fun j hj b hb => ⟨rfl, ?_⟩⟩
    have hb2 : b ≠ p := fun e => hF.dis j i hj b hb (by rw [e2', e]; simp)
    rw [upd_ne hb2]
    exact (hF.out j b hb).1
  have eσ : σ.set i (some v) = σ := set_self (by rw [List.getElem?_eq_getElem h2, ev])
  rw [eσ] at hh2
  exact h.run σ _ H D hh2 fun o ho => (q o ho).mono s⟩

/-! ### targets -/
structure GV (c : Cc) (ρ : List Cl) (tg : Expr) (d : PyData) (js : List Nat) (ρ' : List Cl) : Prop where
  run : ∀ σ F H v, c.H ρ σ F H → Dp c.X.K F v d → ∀ Q : L2.St → Hp → Prop, (∀ σ', c.H ρ' σ' F H → (∀ vs : List Nat, (∀ j ∈ js, j ∈ vs) → wipe σ' vs = wipe σ vs) → Q σ' H) → wpG c.X tg v σ H Q
structure GVs (c : Cc) (ρ : List Cl) (ts : List Expr) (ds : List PyData) (js : List Nat) (ρ' : List Cl) : Prop where
  run : ∀ σ F H vs, c.H ρ σ F H → DpAll c.X.K F vs ds → ∀ Q : L2.St → Hp → Prop, (∀ σ', c.H ρ' σ' F H → (∀ vs : List Nat, (∀ j ∈ js, j ∈ vs) → wipe σ' vs = wipe σ vs) → Q σ' H) → wpGs c.X ts vs σ H Q
theorem wipe_at (σ : L2.St) : ∀ (vs : List Nat) (i : Nat), (wipe σ vs)[i]? = if i ∈ vs then (σ[i]?).map (fun _ => (none : Option V)) else σ[i]?
  | [], i => by simp [wipe]
  | v :: vs, i => by
    unfold wipe
    by_cases hi : v = i
    · subst hi
      rw [List.getElem?_set_self', wipe_at σ vs v]
      simp
      split
      · cases σ[v]? <;> rfl
      · rfl
    · rw [List.getElem?_set_ne hi, wipe_at σ vs i]
      have e : (i ∈ v :: vs) ↔ i ∈ vs := by simp [Ne.symm hi]
      simp only [e]
theorem wipe_set {σ : L2.St} {j : Nat} {x : Option V} {vs : List Nat} (h : j ∈ vs) : wipe (σ.set j x) vs = wipe σ vs := by
  apply List.ext_getElem?
  intro i
  rw [wipe_at, wipe_at]
  by_cases hi : i = j
  · subst hi
    rw [if_pos h, if_pos h, List.getElem?_set_self']
    cases σ[i]? <;> rfl
  · rw [List.getElem?_set_ne (Ne.symm hi)]
theorem wipe_wipe {σ : L2.St} {vs : List Nat} : wipe (wipe σ vs) vs = wipe σ vs := by
  apply List.ext_getElem?
  intro i
  rw [wipe_at, wipe_at]
  by_cases hi : i ∈ vs
  · rw [if_pos hi, if_pos hi]
    cases σ[i]? <;> rfl
  · rw [if_neg hi]
theorem gv_name {i : Nat} {x : Str} (hN : c.X.N.Nodup) (hi : c.X.N[i]? = some x := by rfl) (hx : Loc c.X.env.scope x := by first | exact Or.inl rfl | exact Or.inr rfl) (hl : Nat.blt i ρ.length = true := by rfl)
    (hf : c.X.fn x = true ∨ c.X.env.scope.names.lookup x = some .local := by first | exact .inl rfl | exact .inr rfl | assumption) : GV c ρ (.Name x pos) d [i] (ρ.set i (.val d)) := ⟨fun σ F H v hh hd Q q =>
  wpG_of (pg_name hN hi hx hf) (q _ ((hh.pushV hd).move (blt_lt hl)) fun vs hv => wipe_set (hv i (by simp)))⟩
theorem gvs_nil : GVs c ρ [] [] [] ρ := ⟨fun σ F H vs hh hd Q q => by
  cases hd
  exact wpGs_of pgs_nil ⟨rfl, q σ hh fun _ _ => rfl⟩⟩
theorem gvs_cons {t : Expr} {ts : List Expr} {ds : List PyData} {js ks : List Nat} {ρ1 ρ2 : List Cl} (h1 : GV c ρ t d js ρ1) (h2 : GVs c ρ1 ts ds ks ρ2)
    (hs : (assignEach (t :: ts) c.X.env).map (·.2) = assign t c.X.env :: (assignEach ts c.X.env).map (·.2) := by rfl) : GVs c ρ (t :: ts) (d :: ds) (js ++ ks) ρ2 := ⟨fun σ F H vs hh hd Q q => by
  cases hd with
  | cons hd1 hd2 =>
    refine wpGs_of (pgs_cons pg_wp pgs_wp hs) ⟨_, _, rfl, h1.run σ F H _ hh hd1 _ fun σ1 hh1 w1 => h2.run σ1 F H _ hh1 hd2 Q fun σ2 hh2 w2 => q σ2 hh2 fun vs hv => ?_⟩
    rw [w2 vs fun j hj => hv j (List.mem_append_right _ hj), w1 vs fun j hj => hv j (List.mem_append_left _ hj)]⟩
theorem gv_tup {es : List Expr} {ds : List PyData} {js : List Nat} {ρ' : List Cl} {k : Nat} (hc : c.X.calm = true) (h : GVs c ρ es ds js ρ') (hn : (assignEach es c.X.env).length = ds.length := by rfl) (hst : (assignEach es c.X.env).findIdx? (·.1) = none := by rfl) :
    GV c ρ (.Tuple es k pos) (.tuple ds) js ρ' := ⟨fun σ F H v hh hd Q q => by
  obtain ⟨a, vs, e1, h1, h2⟩ := hd.tuple_inv
  exact wpG_of (pg_tup hc pgs_wp hn hst) ⟨a, vs, e1, sqT_mono hh.fr.fh h1, h2.len, h.run σ F H vs hh h2 Q q⟩⟩
/-- (a, b) = e -/
theorem s1_unpack {es : List Expr} {ds : List PyData} {js : List Nat} {ρ' : List Cl} {k : Nat} {p' : Pos} (he : EV c ρ e (.tuple ds)) (hg : GV c ρ (.Tuple es k p') (.tuple ds) js ρ') (h : P (.next ρ')) (hs : swapsWithSole [.Tuple es k p'] e pos.line c.X.env = pure false := by exact swaps_sole rfl)
    (hw : swappedStores [.Tuple es k p'] e c.X.env = pure none := by rfl) (h1 : (assignEach [.Tuple es k p'] c.X.env).map (·.2) = [assign (.Tuple es k p') c.X.env] := by rfl) : S1 c ρ (.Assign [.Tuple es k p'] e pos) P := ⟨fun σ F H D hh q =>
  wpS_of (ps_asg pe_wp pg_wp hs hw h1) (he.run σ F H hh _ fun v F1 H1 g1 b1 => hg.run σ F1 H1 v (hh.grow g1) b1 _ fun σ' hh' _ => q _ h σ' F1 H1 g1.ff hh')⟩
/-- a, b = e1, e2 with plain local names -/
theorem s1_par {i j : Nat} {x y : Str} {a b : Expr} {d1 d2 : PyData} {px py pt : Pos} {kt k2 pt2} (hc : c.X.calm = true) (hN : c.X.N.Nodup) (ha : EV c ρ a d1) (hb : EV c ρ b d2) (h : P (.next ((ρ.set i (.val d1)).set j (.val d2)))) (hij : i ≠ j := by decide) (hi : c.X.N[i]? = some x := by rfl) (hj : c.X.N[j]? = some y := by rfl)
    (hx : c.X.env.scope.names.lookup x = some .local := by rfl) (hy : c.X.env.scope.names.lookup y = some .local := by rfl) (hli : Nat.blt i ρ.length = true := by rfl) (hlj : Nat.blt j ρ.length = true := by rfl)
    (hw : swappedStores [.Tuple [.Name x px, .Name y py] kt pt] (.Tuple [a, b] k2 pt2) c.X.env = pure (some [x, y]) := by rfl)
    (hs : swapsWithSole [.Tuple [.Name x px, .Name y py] kt pt] (.Tuple [a, b] k2 pt2) pos.line c.X.env = pure false := by exact swaps_sole rfl) (hsa : starEach [a, b] c.X.env = (false, eval a c.X.env) :: starEach [b] c.X.env := by exact star_cons rfl) (hsb : starEach [b] c.X.env = (false, eval b c.X.env) :: starEach [] c.X.env := by exact star_cons rfl) :
    S1 c ρ (.Assign [.Tuple [.Name x px, .Name y py] kt pt] (.Tuple [a, b] k2 pt2) pos) P := ⟨fun σ F H D hh q =>
  wpS_of (ps_par hc hN hi hj hij hx hy (pa_cons pe_wp (pa_cons pe_wp pa_nil hsb) hsa) hw hs) (ha.run σ F H hh _ fun v F1 H1 g1 b1 => hb.run σ F1 H1 (hh.grow g1) _ fun u F2 H2 g2 b2 => ⟨v, u, rfl,
    q _ h _ F2 H2 (g1.trans g2).ff (((((hh.grow (g1.trans g2)).pushV (dp_mono g2.ff d1 v b1)).move (blt_lt hli)).pushV b2).move (by simpa using blt_lt hlj))⟩)⟩

/-! ### what is walked -/
def ItOk (K : PySem.W.Frag) (J : It) (F1 : Hp) (ds : List PyData) : Prop := ∀ F H i, Same F1 F → Same F H → (∀ d, ds[i]? = some d → J.go i H ∧ ∀ x H', J.yld i H x H' → ∃ F', Gw F H F' H' ∧ Dp K F' x d) ∧ (ds.length ≤ i → J.stop i H)
structure IV (c : Cc) (ρ : List Cl) (tg iter : Expr) (ds : List PyData) : Prop where
  run : ∀ σ F H, c.H ρ σ F H → ∀ R : It → Hp → Prop, (∀ J F' H', Gw F H F' H' → ItOk c.X.K J F' ds → R J H') → wpI c.X tg iter σ H R
theorem iv_list {tg l : Expr} {ds : List PyData} (h : EV c ρ l (.list ds)) : IV c ρ tg l ds := ⟨fun σ F H hh R q =>
  wpI_of (pi_list pe_wp) (h.run σ F H hh _ fun v F1 H1 g1 b1 => by
    obtain ⟨a, vs, e1, h1, h2⟩ := b1.list_inv
    refine ⟨a, e1, ⟨vs, g1.fh.seq h1⟩, q _ F1 H1 g1 fun F H i s s2 => ⟨fun d hd => ?_, fun hi => ⟨vs, (s.trans s2).seq h1, by rw [h2.len]; exact hi⟩⟩⟩
    obtain ⟨w, hw, hwd⟩ := h2.get hd
    refine ⟨⟨vs, w, (s.trans s2).seq h1, hw⟩, fun x H' hy => ?_⟩
    obtain ⟨rfl, hy⟩ := hy
    have e := hy vs ((s.trans s2).seq h1)
    rw [hw] at e
    cases e
    exact ⟨F, Gw.refl s2, dp_mono s d _ hwd⟩)⟩
theorem iv_tup {tg l : Expr} {ds : List PyData} (h : EV c ρ l (.tuple ds)) : IV c ρ tg l ds := ⟨fun σ F H hh R q =>
  wpI_of (pi_tup pe_wp) (h.run σ F H hh _ fun v F1 H1 g1 b1 => by
    obtain ⟨a, vs, e1, h1, h2⟩ := b1.tuple_inv
    refine ⟨a, e1, ⟨vs, sqT_mono g1.fh h1⟩, q _ F1 H1 g1 fun F H i s s2 => ⟨fun d hd => ?_, fun hi => ⟨vs, sqT_mono (s.trans s2) h1, by rw [h2.len]; exact hi⟩⟩⟩
    obtain ⟨w, hw, hwd⟩ := h2.get hd
    refine ⟨⟨vs, w, sqT_mono (s.trans s2) h1, hw⟩, fun x H' hy => ?_⟩
    obtain ⟨rfl, hy⟩ := hy
    have e := hy vs (sqT_mono (s.trans s2) h1)
    rw [hw] at e
    cases e
    exact ⟨F, Gw.refl s2, dp_mono s d _ hwd⟩)⟩
def rangeD (lo : Int) (n : Nat) : List PyData := (List.range n).map fun (k : Nat) => PyData.int (lo + (k : Int))
theorem rangeD_len (lo : Int) (n : Nat) : (rangeD lo n).length = n := by simp [rangeD]
theorem rangeD_at {lo : Int} {n i : Nat} {d : PyData} (h : (rangeD lo n)[i]? = some d) : i < n ∧ d = .int (lo + (i : Int)) := by
  have h1 := (List.getElem?_eq_some_iff.mp h).1
  rw [rangeD_len] at h1
  unfold rangeD at h
  rw [List.getElem?_map, List.getElem?_range h1] at h
  exact ⟨h1, (Option.some.inj h).symm⟩
theorem itr_ok {K : PySem.W.Frag} {lo : Int} {n : Nat} {F1 : Hp} : ItOk K (Itr lo n) F1 (rangeD lo n) := fun F H i s s2 => ⟨fun d hd => by
  obtain ⟨h1, rfl⟩ := rangeD_at hd
  exact ⟨h1, fun x H' hy => by
    obtain ⟨rfl, rfl⟩ := hy
    exact ⟨F, Gw.refl s2, .int _⟩⟩, fun hi => by
  rw [rangeD_len] at hi
  exact hi⟩
theorem iv_range1 {tg a : Expr} {p : Pos} {n : Int} (hm : c.X.mg "range" = none) (ha : EV c ρ a (.int n)) (hn : -(2 ^ 62) ≤ n ∧ n < 2 ^ 62) (hg : Gl c.X "range" := by rfl) (hs : starEach [a] c.X.env = [(false, eval a c.X.env)] := by exact star1 rfl) :
    IV c ρ tg (.Call (.Name "range" p) [a] [] pos) (rangeD 0 n.toNat) := ⟨fun σ F H hh R q =>
  wpI_of (pi_range1 hg hm (pa_cons pe_wp pa_nil hs) hs) (ha.run σ F H hh _ fun v F1 H1 g1 b1 => ⟨n, by rw [b1.int_inv], hn.1, hn.2, q _ F1 H1 g1 itr_ok⟩)⟩
theorem iv_range2 {tg a b : Expr} {p : Pos} {lo n : Int} (hm : c.X.mg "range" = none) (ha : EV c ρ a (.int lo)) (hb : EV c ρ b (.int n)) (hn : -(2 ^ 62) ≤ lo ∧ lo < 2 ^ 62 ∧ -(2 ^ 62) ≤ n ∧ n < 2 ^ 62) (hg : Gl c.X "range" := by rfl)
    (hs : starEach [a, b] c.X.env = [(false, eval a c.X.env), (false, eval b c.X.env)] := by exact star2 rfl rfl) (hs2 : starEach [b] c.X.env = [(false, eval b c.X.env)] := by exact star1 rfl) :
    IV c ρ tg (.Call (.Name "range" p) [a, b] [] pos) (rangeD lo (n - lo).toNat) := ⟨fun σ F H hh R q =>
  wpI_of (pi_range2 hg hm (pa_cons pe_wp (pa_cons pe_wp pa_nil hs2) (by rw [hs, hs2])) hs hs2) (ha.run σ F H hh _ fun v F1 H1 g1 b1 => hb.run σ F1 H1 (hh.grow g1) _ fun u F2 H2 g2 b2 => ⟨lo, n, by rw [b1.int_inv, b2.int_inv], hn, q _ F2 H2 (g1.trans g2) itr_ok⟩)⟩
/-- the signs of a text -/
def signs (x : Str) : List PyData := x.cps.toList.map fun k => PyData.str ⟨#[k]⟩
theorem iv_str {tg e : Expr} {x : Str} (h : EV c ρ e (.str x)) : IV c ρ tg e (signs x) := ⟨fun σ F H hh R q =>
  wpI_of (pi_str pe_wp) (h.run σ F H hh _ fun v F1 H1 g1 b1 => ⟨x, b1.str_inv, q _ F1 H1 g1 fun F H i s s2 => ⟨fun d hd => by
    have h1 := (List.getElem?_eq_some_iff.mp hd).1
    unfold signs at hd h1
    rw [List.length_map] at h1
    have h1' : i < x.cps.size := by simpa using h1
    refine ⟨h1', fun y H' hy => ?_⟩
    obtain ⟨rfl, k, hk, rfl⟩ := hy
    rw [List.getElem?_map] at hd
    have hk2 : x.cps.toList[i]? = some k := by simpa using hk
    rw [hk2] at hd
    cases hd
    exact ⟨F, Gw.refl s2, .str _⟩, fun hi => by
    unfold signs at hi
    rw [List.length_map] at hi
    show x.cps.size ≤ i
    simpa using hi⟩⟩)⟩

/-! ### for, while -/
/-- the names at ks are kept, the others forgotten -/
def maskF (ks : List Nat) : Nat → List Cl → List Cl
  | _, [] => []
  | i, c :: r => (if ks.contains i then c else Cl.un) :: maskF ks (i + 1) r
abbrev mask (ks : List Nat) (ρ : List Cl) : List Cl := maskF ks 0 ρ
theorem wk_mask (ks : List Nat) : ∀ (i : Nat) (ρ : List Cl), Wk ρ (maskF ks i ρ)
  | _, [] => .nil
  | i, c :: r => by
    unfold maskF
    split
    · exact .keep (wk_mask ks (i + 1) r)
    · exact .drop (wk_mask ks (i + 1) r)
def Turn1 (P : Out → Prop) (ks : List Nat) (I : List Cl → Prop) : Out → Prop
  | .next ρ => I (mask ks ρ)
  | .cont ρ => I (mask ks ρ)
  | .brk ρ => P (.next ρ)
  | .ret r ρ => P (.ret r ρ)
  | .exc cls x ρ => P (.exc cls x ρ)
theorem s1_for {tg iter : Expr} {body : List Stmt} {ds : List PyData} (ks : List Nat) (hp : PassesOwn (model c.X.prog c.X.w) c.X.A c.X.env c.X.xe) (hc : c.X.calm = true) (hi : IV c ρ tg iter ds) (I : Nat → List Cl → Prop) (h0 : I 0 (mask ks ρ))
    (hs : ∀ (i : Nat) (d : PyData) (ρ1 : List Cl), ds[i]? = some d → I i ρ1 → ∃ js ρ2, GV c ρ1 tg d js ρ2 ∧ SV c ρ2 body (Turn1 P ks (I (i + 1)))) (hd : ∀ ρ1, I ds.length ρ1 → P (.next ρ1))
    (hf : ∀ x, foldedSetIterable iter c.X.env x = pure x := by exact folded_no rfl) : S1 c ρ (.For tg iter body [] pos) P := ⟨fun σ F H D hh q => by
  refine wpS_of (ps_for hp hc pi_wp pg_wp pss_wp hf) (hi.run σ F H hh _ fun J F1 H1 g1 ok => ?_)
  refine ⟨fun i m σ' H' => m = ds.length - i ∧ i ≤ ds.length ∧ ∃ ρ' F', I i ρ' ∧ c.H ρ' σ' F' H' ∧ Same F1 F', ⟨_, rfl, Nat.zero_le _, mask ks ρ, F1, h0, (hh.grow g1).weak (wk_mask ks 0 ρ), Same.refl _⟩, ?_⟩
  rintro i m σ' H' ⟨rfl, hi, ρ', F', hI, hh', s'⟩
  obtain ⟨k1, k2⟩ := ok F' H' i s' hh'.fr.fh
  by_cases hlt : i < ds.length
  · have hd1 : ds[i]? = some ds[i] := List.getElem?_eq_getElem hlt
    obtain ⟨go, step⟩ := k1 _ hd1
    refine .inr ⟨go, fun σ2 H2 => ∃ ρ' F', I (i + 1) ρ' ∧ c.H ρ' σ2 F' H2 ∧ Same F1 F', fun σ2 H2 ⟨ρ2, F2, a1, a2, a3⟩ => ⟨ds.length - (i + 1), by omega, rfl, hlt, ρ2, F2, a1, a2, a3⟩, fun x H2 hy => ?_⟩
    obtain ⟨F2, g2, hx⟩ := step x H2 hy
    obtain ⟨js, ρ2, hg, hb⟩ := hs i _ ρ' hd1 hI
    refine hg.run σ' F2 H2 x (hh'.grow g2) hx _ fun σ3 hh3 _ => hb.run σ3 F2 H2 _ hh3 fun o ho => ?_
    cases o with
    | next ρ3 => exact fun σ4 F4 H4 s4 hh4 => ⟨_, F4, ho, hh4.weak (wk_mask ks 0 ρ3), s'.trans (g2.ff.trans s4)⟩
    | cont ρ3 => exact fun σ4 F4 H4 s4 hh4 => ⟨_, F4, ho, hh4.weak (wk_mask ks 0 ρ3), s'.trans (g2.ff.trans s4)⟩
    | brk ρ3 => exact fun σ4 F4 H4 s4 hh4 => q _ ho σ4 F4 H4 (g1.ff.trans (s'.trans (g2.ff.trans s4))) hh4
    | ret r ρ3 => exact fun σ4 v F4 H4 s4 l4 hh4 => q _ ho σ4 v F4 H4 (g1.ff.trans (s'.trans (g2.ff.trans s4))) l4 hh4
    | exc cls x ρ3 => exact fun σ4 F4 H4 d s4 hh4 e4 => q _ ho σ4 F4 H4 d (g1.ff.trans (s'.trans (g2.ff.trans s4))) hh4 e4
  · have e : i = ds.length := by omega
    subst e
    exact .inl ⟨k2 (Nat.le_refl _), q _ (hd ρ' hI) σ' F' H' (g1.ff.trans s') hh'⟩⟩
theorem s1_while {t : Expr} {body : List Stmt} (ks : List Nat) (hp : PassesOwn (model c.X.prog c.X.w) c.X.A c.X.env c.X.xe) (I : Nat → List Cl → Prop) (h0 : ∃ m, I m (mask ks ρ))
    (hs : ∀ (m : Nat) (ρ1 : List Cl), I m ρ1 → ∃ k, TV c ρ1 t k ∧ (k = true → SV c ρ1 body (Turn1 P ks (fun ρ' => ∃ m', m' < m ∧ I m' ρ'))) ∧ (k = false → P (.next ρ1))) : S1 c ρ (.While t body [] pos) P := ⟨fun σ F H D hh q => by
  refine wpS_of (ps_while hp pt_wp pss_wp) ?_
  obtain ⟨m0, i0⟩ := h0
  refine ⟨fun m σ' H' => ∃ ρ' F', I m ρ' ∧ c.H ρ' σ' F' H' ∧ Same F F', ⟨m0, _, F, i0, hh.weak (wk_mask ks 0 ρ), Same.refl _⟩, ?_⟩
  rintro m σ' H' ⟨ρ', F', hI, hh', s'⟩
  obtain ⟨k, ht, k1, k2⟩ := hs m ρ' hI
  refine ht.run σ' F' H' hh' _ fun F1 H1 g1 => ?_
  cases k with
  | false => exact q _ (k2 rfl) σ' F1 H1 (s'.trans g1.ff) (hh'.grow g1)
  | true =>
    refine ⟨fun σ2 H2 => ∃ m', m' < m ∧ ∃ ρ' F', I m' ρ' ∧ c.H ρ' σ2 F' H2 ∧ Same F F', fun σ2 H2 ⟨m', hm, r⟩ => ⟨m', hm, r⟩, (k1 rfl).run σ' F1 H1 _ (hh'.grow g1) fun o ho => ?_⟩
    cases o with
    | next ρ3 =>
      obtain ⟨m', hm, i4⟩ := ho
      exact fun σ4 F4 H4 s4 hh4 => ⟨m', hm, _, F4, i4, hh4.weak (wk_mask ks 0 ρ3), s'.trans (g1.ff.trans s4)⟩
    | cont ρ3 =>
      obtain ⟨m', hm, i4⟩ := ho
      exact fun σ4 F4 H4 s4 hh4 => ⟨m', hm, _, F4, i4, hh4.weak (wk_mask ks 0 ρ3), s'.trans (g1.ff.trans s4)⟩
    | brk ρ3 => exact fun σ4 F4 H4 s4 hh4 => q _ ho σ4 F4 H4 (s'.trans (g1.ff.trans s4)) hh4
    | ret r ρ3 => exact fun σ4 v F4 H4 s4 l4 hh4 => q _ ho σ4 v F4 H4 (s'.trans (g1.ff.trans s4)) l4 hh4
    | exc cls x ρ3 => exact fun σ4 F4 H4 d s4 hh4 e4 => q _ ho σ4 F4 H4 d (s'.trans (g1.ff.trans s4)) hh4 e4⟩
/-- for name in range: turn i has lo + i -/
theorem s1_forR {iter : Expr} {body : List Stmt} {lo : Int} {n : Nat} {j : Nat} {x : Str} {p' : Pos} (ks : List Nat) (hN : c.X.N.Nodup) (hp : PassesOwn (model c.X.prog c.X.w) c.X.A c.X.env c.X.xe) (hc : c.X.calm = true) (hi : IV c ρ (.Name x p') iter (rangeD lo n)) (I : Nat → List Cl → Prop) (h0 : I 0 (mask ks ρ))
    (hs : ∀ (i : Nat) (ρ1 : List Cl), i < n → I i ρ1 → j < ρ1.length ∧ SV c (ρ1.set j (.val (.int (lo + (i : Int))))) body (Turn1 P ks (I (i + 1)))) (hd : ∀ ρ1, I n ρ1 → P (.next ρ1))
    (hf : ∀ x, foldedSetIterable iter c.X.env x = pure x := by exact folded_no rfl) (hj : c.X.N[j]? = some x := by rfl) (hx : Loc c.X.env.scope x := by first | exact Or.inl rfl | exact Or.inr rfl)
    (hfn : c.X.fn x = true ∨ c.X.env.scope.names.lookup x = some .local := by first | exact .inl rfl | exact .inr rfl | assumption) : S1 c ρ (.For (.Name x p') iter body [] pos) P :=
  s1_for ks hp hc hi I h0 (fun i d ρ1 hd hI => by
    obtain ⟨hlt, rfl⟩ := rangeD_at hd
    obtain ⟨hl, hb⟩ := hs i ρ1 hlt hI
    exact ⟨[j], _, gv_name hN hj hx (by simpa [Nat.blt_eq] using hl) hfn, hb⟩) (fun ρ1 hI => hd ρ1 (by rw [rangeD_len] at hI; exact hI)) hf
/-- for name in a list's data -/
theorem s1_forL {iter : Expr} {body : List Stmt} {ds : List PyData} {j : Nat} {x : Str} {p' : Pos} (ks : List Nat) (hN : c.X.N.Nodup) (hp : PassesOwn (model c.X.prog c.X.w) c.X.A c.X.env c.X.xe) (hc : c.X.calm = true) (hi : IV c ρ (.Name x p') iter ds) (I : Nat → List Cl → Prop) (h0 : I 0 (mask ks ρ))
    (hs : ∀ (i : Nat) (d : PyData) (ρ1 : List Cl), ds[i]? = some d → I i ρ1 → j < ρ1.length ∧ SV c (ρ1.set j (.val d)) body (Turn1 P ks (I (i + 1)))) (hd : ∀ ρ1, I ds.length ρ1 → P (.next ρ1))
    (hf : ∀ x, foldedSetIterable iter c.X.env x = pure x := by exact folded_no rfl) (hj : c.X.N[j]? = some x := by rfl) (hx : Loc c.X.env.scope x := by first | exact Or.inl rfl | exact Or.inr rfl)
    (hfn : c.X.fn x = true ∨ c.X.env.scope.names.lookup x = some .local := by first | exact .inl rfl | exact .inr rfl | assumption) : S1 c ρ (.For (.Name x p') iter body [] pos) P :=
  s1_for ks hp hc hi I h0 (fun i d ρ1 hd hI => by
    obtain ⟨hl, hb⟩ := hs i d ρ1 hd hI
    exact ⟨[j], _, gv_name hN hj hx (by simpa [Nat.blt_eq] using hl) hfn, hb⟩) hd hf
/-- a test that is known -/
theorem s1_ifF {t : Expr} {a b : List Stmt} {k : Bool} (ht : TV c ρ t k) (hk : k = false) (h : SV c ρ b P) : S1 c ρ (.If t a b pos) P := s1_if ht (fun e => by rw [hk] at e; cases e) fun _ => h
theorem s1_ifF0 {t : Expr} {a : List Stmt} {k : Bool} (ht : TV c ρ t k) (hk : k = false) (h : P (.next ρ)) : S1 c ρ (.If t a [] pos) P := s1_ifF ht hk (sv_nil h)
theorem s1_ifT {t : Expr} {a b : List Stmt} {k : Bool} (ht : TV c ρ t k) (hk : k = true) (h : SV c ρ a P) : S1 c ρ (.If t a b pos) P := s1_if ht (fun _ => h) fun e => by rw [hk] at e; cases e
end
end G

namespace G
open PySem PySem.Spec PyProof.Rows L2

/-! ### what a def promises -/
abbrev Ct := List Cl → (Out → Prop) → Prop
def spG (K : PySem.W.Frag) (S : Ct) : Sp := fun vs H Q E => ∃ (F Kp : Hp) (cs : List Cl) (P : Out → Prop), Hold K F Kp cs (vs.map some) F H ∧ S cs P ∧
  (∀ r cs' v F' H', P (.ret r cs') → Hold K F Kp (cs' ++ [r]) (vs.map some ++ [some v]) F' H' → Q v H') ∧
  (∀ cls x cs' F' H' d, P (.exc cls x cs') → Hold K F Kp cs' (vs.map some) F' H' → excD x d H' → E cls d H')
/-- the wish for an exception that leaves a def -/
abbrev W0 : WX := fun _ _ _ _ => False
def Cl.Pin (c : Cl) (v : V) : Prop := match c with
  | .own o => ∀ F H fp u, o.at_ F H fp u → u = v
  | .raw u => u = v
  | _ => False
/-- what is handed back of the arguments -/
def Fits (cs ρ' cs' : List Cl) : Prop := cs'.length = cs.length ∧ ∀ (i : Nat) (c : Cl), cs'[i]? = some c → c = Cl.un ∨ (ρ'[i]? = some c ∧ ∃ v c0, cs[i]? = some c0 ∧ c0.Pin v ∧ c.Pin v)
def PostF (cs : List Cl) (P : Out → Prop) : Out → Prop
  | .ret r ρ' => ∃ cs', P (.ret r cs') ∧ Fits cs ρ' cs'
  | .next ρ' => ∃ cs', P (.ret (.val .none) cs') ∧ Fits cs ρ' cs'
  | .exc cls x ρ' => ∃ cs', P (.exc cls x cs') ∧ Fits cs ρ' cs'
  | _ => False
def PostN (cs : List Cl) (P : Out → Prop) : Out → Prop
  | .ret r ρ' => ∃ cs', P (.ret r cs') ∧ Fits cs ρ' cs'
  | .next ρ' => ∃ cs', P (.ret (.val .none) cs') ∧ Fits cs ρ' cs'
  | _ => False
def uns (n : Nat) : List Cl := List.replicate n Cl.un
theorem Fits.un (cs ρ' : List Cl) : Fits cs ρ' (uns cs.length) := ⟨by simp [uns], fun i c h => .inl (by
  unfold uns at h
  rw [List.getElem?_replicate] at h
  split at h
  · exact (Option.some.inj h).symm
  · cases h)⟩
theorem Hold.pinned {K : PySem.W.Frag} {F0 Kp F H : Hp} {ρ : List Cl} {σ : L2.St} {i : Nat} {c : Cl} {v : V} (h : Hold K F0 Kp ρ σ F H) (hi : ρ[i]? = some c) (p : c.Pin v) : σ[i]? = some (some v) := by
  obtain ⟨fr, len, fp, e⟩ := h
  have h1 := (List.getElem?_eq_some_iff.mp hi).1
  have h2 : i < σ.length := by omega
  have z := e.at_ i _ _ hi (List.getElem?_eq_getElem h2)
  cases c with
  | un => exact p.elim
  | val d => exact p.elim
  | own o =>
    obtain ⟨u, ev, hu⟩ := z
    rw [List.getElem?_eq_getElem h2, ev, p _ _ _ _ hu]
  | raw u =>
    obtain ⟨_, ev⟩ := z
    have p : u = v := p
    rw [List.getElem?_eq_getElem h2, ev, p]
/-- some names only, at other slots that agree where something is said -/
theorem Hold.onto {K : PySem.W.Frag} {F0 Kp F H : Hp} {ρ cs : List Cl} {σ ts : L2.St} (h : Hold K F0 Kp ρ σ F H) (hl : ts.length = cs.length)
    (k : ∀ (i : Nat) (c : Cl), cs[i]? = some c → c = Cl.un ∨ (ρ[i]? = some c ∧ σ[i]? = ts[i]?)) : Hold K F0 Kp cs ts F H := by
  classical
  obtain ⟨fr, len, fp, e⟩ := h
  refine ⟨fr, hl, fun i => if cs[i]? = some Cl.un ∨ cs.length ≤ i then [] else fp i, fun i c ov h1 h2 => ?_, fun i b hb => ?_, fun i j hij b hb hb2 => ?_, fun i hi => ?_⟩
  · by_cases hc : c = .un
    · subst hc
      rw [if_pos (.inl h1)]
      exact (rfl : ([] : List Addr) = [])
    · have hn : ¬ (cs[i]? = some Cl.un ∨ cs.length ≤ i) := fun z => by
        rcases z with z | z
        · rw [h1] at z
          exact hc (Option.some.inj z)
        · have := (List.getElem?_eq_some_iff.mp h1).1
          omega
      rw [if_neg hn]
      rcases k i c h1 with z | ⟨z, z2⟩
      · exact absurd z hc
      · exact e.at_ i c ov z (z2.trans h2)
  · split at hb
    · cases hb
    · exact e.out i b hb
  · split at hb
    · cases hb
    · split at hb2
      · cases hb2
      · exact e.dis i j hij b hb hb2
  · rw [if_pos (.inr hi)]
theorem hold_start {K : PySem.W.Frag} {F Kp H : Hp} {cs : List Cl} {vs : List V} {N : List Str} (h : Hold K F Kp cs (vs.map some) F H) (hn : cs.length ≤ N.length) :
    Hold K F Kp (cs ++ uns (N.length - cs.length)) (L2.start N vs) F H := by
  have hl : vs.length = cs.length := by simpa using h.len
  refine h.onto (by simp [L2.start, uns, hl]) fun i c hc => ?_
  by_cases hi : i < cs.length
  · rw [List.getElem?_append_left hi] at hc
    refine .inr ⟨hc, ?_⟩
    unfold L2.start
    rw [List.getElem?_append_left (by simp; omega)]
  · rw [List.getElem?_append_right (by omega)] at hc
    unfold uns at hc
    rw [List.getElem?_replicate] at hc
    split at hc
    · exact .inl (Option.some.inj hc).symm
    · cases hc
section
variable {P : Program} {w : World} {K : PySem.W.Frag} {mg : Str → Option Value} {base : Heap}
abbrev cN (P : Program) (w : World) (K : PySem.W.Frag) (mg : Str → Option Value) (base : Heap) (N : List Str) (qual : Str) (st : Stmt) (f : Addr) (cdv : Value) (A : Around) (outer : List Env) (s : Shared) (H : Hp) (E : XK) (F0 Kp : Hp) : Cc :=
  ⟨(cxOf CX0 P w K mg base N qual (defScope st) f cdv A outer s H E).nox, F0, Kp, W0⟩
abbrev cX (P : Program) (w : World) (K : PySem.W.Frag) (mg : Str → Option Value) (base : Heap) (N : List Str) (qual : Str) (st : Stmt) (f : Addr) (cdv : Value) (A : Around) (outer : List Env) (s : Shared) (H : Hp) (E : XK) (F0 Kp : Hp) : Cc :=
  ⟨cxOf (L2.CX P w) P w K mg base N qual (defScope st) f cdv A outer s H E, F0, Kp, fun cls d _ H => E cls d H⟩
theorem ends_ok {c : Cc} {Px : Value → Option (List (Str × V)) → List Cl → Prop} {Po : Out → Prop} {F H : Hp} {cs : List Cl} {vs : List V} {Pp : Out → Prop} {Q : VK} {E : XK} (hF : c.F0 = F) (h : c.H cs (vs.map some) F H)
    (hQ : ∀ r cs' v F' H', Pp (.ret r cs') → Hold c.X.K F c.Kp (cs' ++ [r]) (vs.map some ++ [some v]) F' H' → Q v H')
    (hE : ∀ cls x ρ', Px cls x ρ' → okO c F { nx := fun _ H' => Q .non H', rt := Q } (.exc cls x ρ')) (hP : ∀ o, Po o → (match o with | .exc cls x ρ' => Px cls x ρ' | o => PostN cs Pp o)) :
    ∀ o, Po o → okO c F { nx := fun _ H' => Q .non H', rt := Q } o := by
  subst hF
  have hl : vs.length = cs.length := by simpa using h.len
  have fit : ∀ {ρ' cs' : List Cl} {σ' : L2.St} {F' H' : Hp}, Fits cs ρ' cs' → c.H ρ' σ' F' H' → ∀ (i : Nat) (k : Cl), cs'[i]? = some k → k = Cl.un ∨ (ρ'[i]? = some k ∧ σ'[i]? = (vs.map some)[i]?) := fun {ρ' cs' σ' F' H'} ft hh i k hk => by
    rcases ft.2 i k hk with z | ⟨z, v, c0, h0, p0, p1⟩
    · exact .inl z
    · exact .inr ⟨z, (hh.pinned z p1).trans (h.pinned h0 p0).symm⟩
  intro o ho
  have ho := hP o ho
  cases o with
  | next ρ' =>
    obtain ⟨cs', hp, ft⟩ := ho
    refine fun σ' F' H' s hh => hQ _ cs' .non F' H' hp (Hold.pushV (hh.onto (by rw [ft.1]; simp [hl]) (fit ft hh)) .non)
  | ret r ρ' =>
    obtain ⟨cs', hp, ft⟩ := ho
    refine fun σ' v F' H' s hlen hh => hQ r cs' v F' H' hp ?_
    -- what stands at the names, and the answer behind
    have hle : cs'.length ≤ ρ'.length ∨ True := .inr trivial
    -- bring the answer to the place behind the arguments
    classical
    obtain ⟨fr, len, fp, e⟩ := hh
    have hmain := (⟨fr, len, fp, e⟩ : c.H (ρ' ++ [r]) (σ' ++ [some v]) F' H').left hlen
    refine ⟨fr, by simp [ft.1, hl], fun i => if i = cs'.length then fp ρ'.length else if cs'[i]? = some Cl.un ∨ cs'.length ≤ i then [] else fp i, fun i k ov h1 h2 => ?_, fun i b hb => ?_, fun i j hij b hb hb2 => ?_, fun i hi => ?_⟩
    · by_cases hi : i = cs'.length
      · subst hi
        rw [List.getElem?_append_right (Nat.le_refl _), Nat.sub_self] at h1
        have hvl : (vs.map some).length = cs'.length := by rw [ft.1]; simp [hl]
        rw [← hvl, List.getElem?_append_right (Nat.le_refl _), Nat.sub_self] at h2
        cases h1
        cases h2
        simp
        exact e.at_ ρ'.length r (some v) (by simp) (by rw [← hlen]; simp)
      · have hlt : i < cs'.length := by
          have := (List.getElem?_eq_some_iff.mp h1).1
          simp at this
          omega
        rw [List.getElem?_append_left hlt] at h1
        rw [List.getElem?_append_left (by rw [ft.1] at hlt; simp; omega)] at h2
        rw [if_neg hi]
        by_cases hk : k = .un
        · subst hk
          rw [if_pos (.inl h1)]
          exact (rfl : ([] : List Addr) = [])
        · rw [if_neg (fun z => by
            rcases z with z | z
            · rw [h1] at z
              exact hk (Option.some.inj z)
            · omega)]
          rcases fit ft hmain i k h1 with z | ⟨z, z2⟩
          · exact absurd z hk
          · have g1 := (List.getElem?_eq_some_iff.mp z).1
            exact e.at_ i k ov (by rw [List.getElem?_append_left g1]; exact z) (by rw [List.getElem?_append_left (by omega)]; exact z2.trans h2)
    · split at hb
      · exact e.out _ b hb
      · split at hb
        · cases hb
        · exact e.out _ b hb
    · have idx : ∀ i, b ∈ (if i = cs'.length then fp ρ'.length else if cs'[i]? = some Cl.un ∨ cs'.length ≤ i then [] else fp i) → ∃ m, b ∈ fp m ∧ ((m = ρ'.length ∧ i = cs'.length) ∨ (m = i ∧ i ≠ cs'.length ∧ i < ρ'.length)) := fun i hb => by
        split at hb
        · rename_i hi
          exact ⟨_, hb, .inl ⟨rfl, hi⟩⟩
        · rename_i hi
          split at hb
          · cases hb
          · rename_i hn
            refine ⟨i, hb, .inr ⟨rfl, hi, ?_⟩⟩
            have hlt : i < cs'.length := by
              by_cases q : i < cs'.length
              · exact q
              · exact absurd (.inr (by omega)) hn
            rcases ft.2 i _ (List.getElem?_eq_getElem hlt) with z | ⟨z, _⟩
            · exact absurd (.inl (by rw [List.getElem?_eq_getElem hlt, z])) hn
            · exact (List.getElem?_eq_some_iff.mp z).1
      obtain ⟨m1, b1, q1⟩ := idx i hb
      obtain ⟨m2, b2, q2⟩ := idx j hb2
      refine e.dis m1 m2 ?_ b b1 b2
      rcases q1 with ⟨a1, a2⟩ | ⟨a1, a2, a3⟩ <;> rcases q2 with ⟨c1, c2⟩ | ⟨c1, c2, c3⟩ <;> omega
    · simp at hi
      rw [if_neg (by omega), if_pos (.inr (by omega))]
  | exc cls x ρ' => exact hE cls x ρ' ho
  | brk ρ' => exact False.elim ho
  | cont ρ' => exact False.elim ho
/-- a def that lets no exception out -/
theorem fn_ok {x qual : Str} {st : Stmt} {f : Addr} {fd : FuncData} {N ps : List Str} {k : Nat} {S : Ct} (F : Fun K x qual st f fd) (sc : FnScope N ps (defScope st)) (hlen : ∀ cs P, S cs P → cs.length = ps.length)
    (hb : ∀ (cdv : Value) (A : Around) (outer : List Env) (s : Shared) (H : Hp) (E : XK) (F0 Kp : Hp), Room k (A.deeper (envOfC qual (defScope st) s.heap.objs.size f cdv)) → ∀ cs Pp, S cs Pp →
      SV (cN P w K mg base N qual st f cdv A outer s H E F0 Kp) (cs ++ uns (N.length - ps.length)) (defBody st) (PostN cs Pp)) : FnOk P w K mg base CX0 (k + 1) f fd ps (spG K S) := by
  have hpl : ps.length ≤ N.length := by have := congrArg List.length sc.pre; rw [List.length_take] at this; omega
  refine F.ok sc (fun vs H Q E h => ?_) (fun cdv A outer s H vs Q E hr h => ?_)
  · obtain ⟨F0, Kp, cs, Pp, hh, hS, _⟩ := h
    have := hh.len
    rw [← hlen cs Pp hS, ← this]
    simp
  · obtain ⟨F0, Kp, cs, Pp, hh, hS, hQ, hE⟩ := h
    refine ⟨wpSs (cxOf CX0 P w K mg base N qual (defScope st) f cdv A outer s H E).nox (defBody st), pss_wp, ?_⟩
    have hl := hlen cs Pp hS
    have hh2 := hold_start (N := N) hh (by omega)
    rw [hl] at hh2
    exact (hb cdv A outer s H E F0 Kp hr cs Pp hS).run _ F0 H _ hh2 (ends_ok (c := cN P w K mg base N qual st f cdv A outer s H E F0 Kp) (E := E) (Px := fun _ _ _ => False) rfl hh hQ (fun _ _ _ z => z.elim) fun o ho => by
      cases o <;> exact ho)
/-- a def that may raise -/
theorem fn_okX {x qual : Str} {st : Stmt} {f : Addr} {fd : FuncData} {N ps : List Str} {k : Nat} {S : Ct} (F : Fun K x qual st f fd) (sc : FnScope N ps (defScope st)) (hlen : ∀ cs P, S cs P → cs.length = ps.length)
    (hb : ∀ (cdv : Value) (A : Around) (outer : List Env) (s : Shared) (H : Hp) (E : XK) (F0 Kp : Hp), Room k (A.deeper (envOfC qual (defScope st) s.heap.objs.size f cdv)) → ∀ cs Pp, S cs Pp →
      SV (cX P w K mg base N qual st f cdv A outer s H E F0 Kp) (cs ++ uns (N.length - ps.length)) (defBody st) (PostF cs Pp)) : FnOk P w K mg base (L2.CX P w) (k + 1) f fd ps (spG K S) := by
  have hpl : ps.length ≤ N.length := by have := congrArg List.length sc.pre; rw [List.length_take] at this; omega
  refine F.okX sc (fun vs H Q E h => ?_) (fun cdv A outer s H vs Q E hr h => ?_)
  · obtain ⟨F0, Kp, cs, Pp, hh, hS, _⟩ := h
    have := hh.len
    rw [← hlen cs Pp hS, ← this]
    simp
  · obtain ⟨F0, Kp, cs, Pp, hh, hS, hQ, hE⟩ := h
    refine ⟨wpSs (cxOf (L2.CX P w) P w K mg base N qual (defScope st) f cdv A outer s H E) (defBody st), pss_wp, ?_⟩
    have hl := hlen cs Pp hS
    have hh2 := hold_start (N := N) hh (by omega)
    rw [hl] at hh2
    exact (hb cdv A outer s H E F0 Kp hr cs Pp hS).run _ F0 H _ hh2 (ends_ok (c := cX P w K mg base N qual st f cdv A outer s H E F0 Kp) (E := E) (Px := fun cls x ρ' => ∃ cs', Pp (.exc cls x cs') ∧ Fits cs ρ' cs') rfl hh hQ (fun cls x ρ' ⟨cs', hp, ft⟩ σ' F' H' d s' hh' hx =>
      hE cls x cs' F' H' d hp (hh'.onto (by rw [ft.1]; simpa using hh.len) fun i k hk => by
        rcases ft.2 i k hk with z | ⟨z, v, c0, h0, p0, p1⟩
        · exact .inl z
        · exact .inr ⟨z, (hh'.pinned z p1).trans (hh.pinned h0 p0).symm⟩) hx) fun o ho => by
      cases o <;> exact ho)
end

/-! ### calls of defs -/
/-- what a caller knows of a def of the module -/
def FnG (P : Program) (w : World) (K : PySem.W.Frag) (mg : Str → Option Value) (base : Heap) (CX : CXT) (x : Str) (k : Nat) (n : Nat) (S : Ct) : Prop :=
  ∃ (f : Addr) (fd : FuncData) (ps : List Str), FnOk P w K mg base CX k f fd ps (spG K S) ∧ mg x = some (.ref f) ∧ PySem.W.keepIn K (.ref f) = true ∧ Binds K fd ps [] ∧ ps.length = n
theorem FnG.imp {P : Program} {w : World} {K : PySem.W.Frag} {mg : Str → Option Value} {base : Heap} {CX : CXT} {x : Str} {k n : Nat} {S S' : Ct} (h : FnG P w K mg base CX x k n S) (i : ∀ cs Pp, S' cs Pp → S cs Pp) : FnG P w K mg base CX x k n S' := by
  obtain ⟨f, fd, ps, F, r⟩ := h
  exact ⟨f, fd, ps, F.imp fun vs H Q E ⟨F0, Kp, cs, Pp, h1, h2, h3⟩ => ⟨F0, Kp, cs, Pp, h1, i cs Pp h2, h3⟩, r⟩
theorem hold_vals {K : PySem.W.Frag} {F H : Hp} {vs : List V} {ds : List PyData} (s : Same F H) (h : DpAll K F vs ds) : Hold K F H (ds.map Cl.val) (vs.map some) F H := by
  refine ⟨⟨Same.refl F, s, Same.refl H, fun b h0 _ => h0⟩, by simp [h.len], fun _ => [], fun i c ov h1 h2 => ?_, (fun _ b hb => by cases hb), (fun _ _ _ b hb => by cases hb), fun _ _ => rfl⟩
  rw [List.getElem?_map] at h1 h2
  cases e : ds[i]? with
  | none =>
    rw [e] at h1
    cases h1
  | some d =>
    rw [e] at h1
    cases h1
    obtain ⟨v, hv, hd⟩ := h.get e
    rw [hv] at h2
    cases h2
    exact ⟨rfl, v, rfl, hd⟩
theorem gw_of_fr {F H F' H' : Hp} (f : Fr F H F' H') : Gw F H F' H' := ⟨f.ff, f.kh, f.fh, fun b hb => by
  cases e : F b with
  | none => exact f.new b e hb
  | some o => exact f.ff b o e⟩
section
variable {c : Cc} {ρ : List Cl} {e : Expr} {es : List Expr} {d : PyData} {ds : List PyData} {pos p : Pos} {x : Str} {CX : CXT} {k n : Nat} {S : Ct} {Pp : Out → Prop}
theorem Hold.last {K : PySem.W.Frag} {F0 Kp F H : Hp} {ρ : List Cl} {σ : L2.St} {r : Cl} {v : V} (h : Hold K F0 Kp (ρ ++ [r]) (σ ++ [some v]) F H) : ∃ fc, r.At K F H fc (some v) ∧ ∀ b ∈ fc, F b = none ∧ Kp b = none := by
  obtain ⟨fr, len, fp, e⟩ := h
  have len' : σ.length = ρ.length := by simpa using len
  exact ⟨fp ρ.length, e.at_ ρ.length r (some v) (by simp) (by rw [← len']; simp), e.out _⟩
theorem ev_call (hG : FnG c.X.prog c.X.w c.X.K c.X.mg c.X.base CX x k n S) (hr : Room k c.X.A) (hx : Passes CX c.X E0) (ha : EA c ρ (e :: es) ds) (hS : S (ds.map .val) Pp) (hP : ∀ r cs', Pp (.ret r cs') → r = .val d) (hX : ∀ cls y cs', ¬ Pp (.exc cls y cs')) (hg : Gl c.X x := by rfl)
    (hdb : (x == ("__debug__" : Str)) = false := by decide) (he : starEach (e :: es) c.X.env = (false, eval e c.X.env) :: starEach es c.X.env := by exact star_cons rfl) (hpl : (backTo pos (starEach es c.X.env)).any (·.1) = false := by exact star_any rfl) : EV c ρ (.Call (.Name x p) (e :: es) [] pos) d := ⟨fun σ F H hh Q q => by
  obtain ⟨f, fd, ps, Fk, hm, hk, hb, hn⟩ := hG
  refine wpE_of (pe_call Fk hr hg hm hk hb .nil hx pa_wp hdb he hpl) (ha.run σ F H hh _ fun vs F1 H1 g1 b1 => ?_)
  rw [List.append_nil]
  refine ⟨F1, H1, ds.map .val, Pp, hold_vals g1.fh b1, hS, fun r cs' v F' H' hp h2 => ?_, fun cls y cs' F' H' d hp _ _ => (hX _ _ _ hp).elim⟩
  rw [hP r cs' hp] at h2
  obtain ⟨fc, ⟨_, u, eu, hd⟩, _⟩ := h2.last
  cases eu
  exact q v F' H' (g1.trans (gw_of_fr h2.fr)) hd⟩
theorem nv_call {o : OwnP} (hG : FnG c.X.prog c.X.w c.X.K c.X.mg c.X.base CX x k n S) (hr : Room k c.X.A) (hx : Passes CX c.X E0) (ha : EA c ρ (e :: es) ds) (hS : S (ds.map .val) Pp) (hP : ∀ r cs', Pp (.ret r cs') → r = .own o) (hX : ∀ cls y cs', ¬ Pp (.exc cls y cs')) (hg : Gl c.X x := by rfl)
    (hdb : (x == ("__debug__" : Str)) = false := by decide) (he : starEach (e :: es) c.X.env = (false, eval e c.X.env) :: starEach es c.X.env := by exact star_cons rfl) (hpl : (backTo pos (starEach es c.X.env)).any (·.1) = false := by exact star_any rfl) : NV c ρ (.Call (.Name x p) (e :: es) [] pos) o := ⟨fun σ F H hh Q q => by
  obtain ⟨f, fd, ps, Fk, hm, hk, hb, hn⟩ := hG
  refine wpE_of (pe_call Fk hr hg hm hk hb .nil hx pa_wp hdb he hpl) (ha.run σ F H hh _ fun vs F1 H1 g1 b1 => ?_)
  rw [List.append_nil]
  refine ⟨F1, H1, ds.map .val, Pp, hold_vals g1.fh b1, hS, fun r cs' v F' H' hp h2 => ?_, fun cls y cs' F' H' d hp _ _ => (hX _ _ _ hp).elim⟩
  rw [hP r cs' hp] at h2
  obtain ⟨fc, ⟨u, eu, hd⟩, hn⟩ := h2.last
  cases eu
  exact q v F' H' fc (g1.trans (gw_of_fr h2.fr)) hd fun b hb => ⟨same_none g1.hh (hn b hb).2, (hn b hb).1⟩⟩
theorem ev_call1 (hG : FnG c.X.prog c.X.w c.X.K c.X.mg c.X.base CX x k n S) (hr : Room k c.X.A) (hx : Passes CX c.X E0) (ha : EA c ρ (e :: es) ds) (hS : S (ds.map .val) (fun o => ∃ cs, o = .ret (.val d) cs)) (hg : Gl c.X x := by rfl)
    (hdb : (x == ("__debug__" : Str)) = false := by decide) (he : starEach (e :: es) c.X.env = (false, eval e c.X.env) :: starEach es c.X.env := by exact star_cons rfl) (hpl : (backTo pos (starEach es c.X.env)).any (·.1) = false := by exact star_any rfl) : EV c ρ (.Call (.Name x p) (e :: es) [] pos) d :=
  ev_call hG hr hx ha hS (fun r cs' ⟨cs, q⟩ => by cases q; rfl) (fun cls y cs' ⟨cs, q⟩ => by cases q) hg hdb he hpl
theorem nv_call1 {o : OwnP} (hG : FnG c.X.prog c.X.w c.X.K c.X.mg c.X.base CX x k n S) (hr : Room k c.X.A) (hx : Passes CX c.X E0) (ha : EA c ρ (e :: es) ds) (hS : S (ds.map .val) (fun q => ∃ cs, q = .ret (.own o) cs)) (hg : Gl c.X x := by rfl)
    (hdb : (x == ("__debug__" : Str)) = false := by decide) (he : starEach (e :: es) c.X.env = (false, eval e c.X.env) :: starEach es c.X.env := by exact star_cons rfl) (hpl : (backTo pos (starEach es c.X.env)).any (·.1) = false := by exact star_any rfl) : NV c ρ (.Call (.Name x p) (e :: es) [] pos) o :=
  nv_call hG hr hx ha hS (fun r cs' ⟨cs, q⟩ => by cases q; rfl) (fun cls y cs' ⟨cs, q⟩ => by cases q) hg hdb he hpl
end
end G

namespace G
open PySem PySem.Spec PyProof.Rows L2

/-! ### whole numbers -/
section
variable {K : PySem.W.Frag} {i j : Int}
theorem opb_I0 {g : Int → Int → Int} : OpB K (rI0 fun i j => .int (g i j)) (.int i) (.int j) (.int (g i j)) :=
  opb_now fun F H x y _ hx hy Q q => ⟨i, j, hx.int_inv, hy.int_inv, q _ (.int _)⟩
theorem opb_I {C : Int → Int → Prop} {g : Int → Int → Int} (hc : C i j) : OpB K (rI C fun i j => .int (g i j)) (.int i) (.int j) (.int (g i j)) :=
  opb_now fun F H x y _ hx hy Q q => ⟨i, j, hx.int_inv, hy.int_inv, hc, q _ (.int _)⟩
theorem opb_B0 {g : Int → Int → Bool} : OpB K (rI0 fun i j => .bl (g i j)) (.int i) (.int j) (.bool (g i j)) :=
  opb_now fun F H x y _ hx hy Q q => ⟨i, j, hx.int_inv, hy.int_inv, q _ (.bl _)⟩
theorem opb_eqI : OpB K rEq (.int i) (.int j) (.bool (decide (i = j))) :=
  opb_now fun F H x y _ hx hy Q q => by
    rw [hx.int_inv, hy.int_inv]
    refine ⟨rfl, ?_⟩
    have e : decide (V.int i = V.int j) = decide (i = j) := by rw [dec_int, Bool.beq_eq_decide_eq]
    rw [e]
    exact q _ (.bl _)
theorem opb_neI : OpB K rNe (.int i) (.int j) (.bool (!decide (i = j))) :=
  opb_now fun F H x y _ hx hy Q q => by
    rw [hx.int_inv, hy.int_inv]
    refine ⟨rfl, ?_⟩
    have e : decide (V.int i = V.int j) = decide (i = j) := by rw [dec_int, Bool.beq_eq_decide_eq]
    rw [e]
    exact q _ (.bl _)
theorem opb_eqS {x y : Str} : OpB K rEq (.str x) (.str y) (.bool (decide (x = y))) :=
  opb_now fun F H u v _ hx hy Q q => by
    rw [hx.str_inv, hy.str_inv]
    refine ⟨rfl, ?_⟩
    have e : decide (V.str x = V.str y) = decide (x = y) := by rw [dec_str, Bool.beq_eq_decide_eq]
    rw [e]
    exact q _ (.bl _)
theorem opb_neS {x y : Str} : OpB K rNe (.str x) (.str y) (.bool (!decide (x = y))) :=
  opb_now fun F H u v _ hx hy Q q => by
    rw [hx.str_inv, hy.str_inv]
    refine ⟨rfl, ?_⟩
    have e : decide (V.str x = V.str y) = decide (x = y) := by rw [dec_str, Bool.beq_eq_decide_eq]
    rw [e]
    exact q _ (.bl _)
end
section
variable {c : Cc} {ρ : List Cl} {a b e : Expr} {i j : Int} {pos p : Pos} {d : PyData} {ds : List PyData} {x y : Str}
theorem ev_add (ha : EV c ρ a (.int i)) (hb : EV c ρ b (.int j)) : EV c ρ (.BinOp a .Add b pos) (.int (i + j)) := ev_bin op_add (bv_ev ha) (bv_ev hb) opb_I0
theorem ev_sub (ha : EV c ρ a (.int i)) (hb : EV c ρ b (.int j)) : EV c ρ (.BinOp a .Sub b pos) (.int (i - j)) := ev_bin op_sub (bv_ev ha) (bv_ev hb) opb_I0
theorem ev_mul (ha : EV c ρ a (.int i)) (hb : EV c ρ b (.int j)) (h : CMul i j) : EV c ρ (.BinOp a .Mult b pos) (.int (i * j)) := ev_bin op_mul (bv_ev ha) (bv_ev hb) (opb_I h)
theorem ev_mulW (ha : EV c ρ a (.int i)) (hb : EV c ρ b (.int j)) (h : CMulW i j) : EV c ρ (.BinOp a .Mult b pos) (.int (i * j)) := ev_bin op_mulW (bv_ev ha) (bv_ev hb) (opb_I h)
theorem ev_div (ha : EV c ρ a (.int i)) (hb : EV c ρ b (.int j)) (h : CDiv i j) : EV c ρ (.BinOp a .FloorDiv b pos) (.int (i / j)) := ev_bin op_fdiv (bv_ev ha) (bv_ev hb) (opb_I h)
theorem ev_divW (ha : EV c ρ a (.int i)) (hb : EV c ρ b (.int j)) (h : CDivW i j) : EV c ρ (.BinOp a .FloorDiv b pos) (.int (i / j)) := ev_bin op_fdivW (bv_ev ha) (bv_ev hb) (opb_I h)
theorem ev_mod (ha : EV c ρ a (.int i)) (hb : EV c ρ b (.int j)) (h : 0 < j) : EV c ρ (.BinOp a .Mod b pos) (.int (i % j)) := ev_bin op_mod (bv_ev ha) (bv_ev hb) (opb_I (C := fun _ j => 0 < j) h)
theorem ev_pow (ha : EV c ρ a (.int i)) (hb : EV c ρ b (.int j)) (h : CPow i j) : EV c ρ (.BinOp a .Pow b pos) (.int (i ^ j.toNat)) := ev_bin op_pow (bv_ev ha) (bv_ev hb) (opb_I h)
theorem ev_powL {v : Int} (ha : EV c ρ a (.int i)) (hb : EV c ρ b (.int j)) (h : CPow i j) (hv : i ^ j.toNat = v) : EV c ρ (.BinOp a .Pow b pos) (.int v) := by
  rw [← hv]
  exact ev_pow ha hb h
theorem ev_neg (ha : EV c ρ a (.int i)) : EV c ρ (.UnaryOp .USub a pos) (.int (-i)) := ev_un un_neg (bv_ev ha) fun F H x s hx Q q => ⟨i, hx.int_inv, q _ F H (Gw.refl s) (.int _)⟩
theorem tv_lt (ha : EV c ρ a (.int i)) (hb : EV c ρ b (.int j)) : TV c ρ (.Compare a [.Lt] [b] pos) (decide (i < j)) := tv_cmp op_lt (bv_ev ha) (bv_ev hb) opb_B0
theorem tv_le (ha : EV c ρ a (.int i)) (hb : EV c ρ b (.int j)) : TV c ρ (.Compare a [.LtE] [b] pos) (decide (i ≤ j)) := tv_cmp op_le (bv_ev ha) (bv_ev hb) opb_B0
theorem tv_gt (ha : EV c ρ a (.int i)) (hb : EV c ρ b (.int j)) : TV c ρ (.Compare a [.Gt] [b] pos) (decide (j < i)) := tv_cmp op_gt (bv_ev ha) (bv_ev hb) opb_B0
theorem tv_ge (ha : EV c ρ a (.int i)) (hb : EV c ρ b (.int j)) : TV c ρ (.Compare a [.GtE] [b] pos) (decide (j ≤ i)) := tv_cmp op_ge (bv_ev ha) (bv_ev hb) opb_B0
theorem tv_eq (ha : EV c ρ a (.int i)) (hb : EV c ρ b (.int j)) : TV c ρ (.Compare a [.Eq] [b] pos) (decide (i = j)) := tv_cmp op_eq (bv_ev ha) (bv_ev hb) opb_eqI
theorem tv_ne (ha : EV c ρ a (.int i)) (hb : EV c ρ b (.int j)) : TV c ρ (.Compare a [.NotEq] [b] pos) (!decide (i = j)) := tv_cmp op_ne (bv_ev ha) (bv_ev hb) opb_neI
theorem ev_lt (ha : EV c ρ a (.int i)) (hb : EV c ρ b (.int j)) : EV c ρ (.Compare a [.Lt] [b] pos) (.bool (decide (i < j))) := ev_cmp op_lt (bv_ev ha) (bv_ev hb) opb_B0
theorem ev_le (ha : EV c ρ a (.int i)) (hb : EV c ρ b (.int j)) : EV c ρ (.Compare a [.LtE] [b] pos) (.bool (decide (i ≤ j))) := ev_cmp op_le (bv_ev ha) (bv_ev hb) opb_B0
theorem ev_gt (ha : EV c ρ a (.int i)) (hb : EV c ρ b (.int j)) : EV c ρ (.Compare a [.Gt] [b] pos) (.bool (decide (j < i))) := ev_cmp op_gt (bv_ev ha) (bv_ev hb) opb_B0
theorem ev_ge (ha : EV c ρ a (.int i)) (hb : EV c ρ b (.int j)) : EV c ρ (.Compare a [.GtE] [b] pos) (.bool (decide (j ≤ i))) := ev_cmp op_ge (bv_ev ha) (bv_ev hb) opb_B0
theorem ev_eq (ha : EV c ρ a (.int i)) (hb : EV c ρ b (.int j)) : EV c ρ (.Compare a [.Eq] [b] pos) (.bool (decide (i = j))) := ev_cmp op_eq (bv_ev ha) (bv_ev hb) opb_eqI
theorem ev_ne (ha : EV c ρ a (.int i)) (hb : EV c ρ b (.int j)) : EV c ρ (.Compare a [.NotEq] [b] pos) (.bool (!decide (i = j))) := ev_cmp op_ne (bv_ev ha) (bv_ev hb) opb_neI
theorem tv_eqS (ha : EV c ρ a (.str x)) (hb : EV c ρ b (.str y)) : TV c ρ (.Compare a [.Eq] [b] pos) (decide (x = y)) := tv_cmp op_eq (bv_ev ha) (bv_ev hb) opb_eqS
theorem tv_neS (ha : EV c ρ a (.str x)) (hb : EV c ρ b (.str y)) : TV c ρ (.Compare a [.NotEq] [b] pos) (!decide (x = y)) := tv_cmp op_ne (bv_ev ha) (bv_ev hb) opb_neS
theorem ev_eqS (ha : EV c ρ a (.str x)) (hb : EV c ρ b (.str y)) : EV c ρ (.Compare a [.Eq] [b] pos) (.bool (decide (x = y))) := ev_cmp op_eq (bv_ev ha) (bv_ev hb) opb_eqS
theorem ev_neS (ha : EV c ρ a (.str x)) (hb : EV c ρ b (.str y)) : EV c ρ (.Compare a [.NotEq] [b] pos) (.bool (!decide (x = y))) := ev_cmp op_ne (bv_ev ha) (bv_ev hb) opb_neS
/-- a < b < c and the like, of whole numbers -/
theorem tv_leLt {i j k : Int} {e3 : Expr} (ha : EV c ρ a (.int i)) (hb : EV c ρ b (.int j)) (hc : EV c ρ e3 (.int k)) (hm : lastMarks [.LtE, .Lt] [b, e3] = false := by with_unfolding_all rfl) : TV c ρ (.Compare a [.LtE, .Lt] [b, e3] pos) (decide (i ≤ j) && decide (j < k)) :=
  tv_chain op_le op_lt (bv_ev ha) (bv_ev hb) (bv_ev hc) opb_B0 opb_B0 hm
theorem tv_leLe {i j k : Int} {e3 : Expr} (ha : EV c ρ a (.int i)) (hb : EV c ρ b (.int j)) (hc : EV c ρ e3 (.int k)) (hm : lastMarks [.LtE, .LtE] [b, e3] = false := by with_unfolding_all rfl) : TV c ρ (.Compare a [.LtE, .LtE] [b, e3] pos) (decide (i ≤ j) && decide (j ≤ k)) :=
  tv_chain op_le op_le (bv_ev ha) (bv_ev hb) (bv_ev hc) opb_B0 opb_B0 hm
theorem ev_leLe {i j k : Int} {e3 : Expr} (ha : EV c ρ a (.int i)) (hb : EV c ρ b (.int j)) (hc : EV c ρ e3 (.int k)) (hm : lastMarks [.LtE, .LtE] [b, e3] = false := by with_unfolding_all rfl) : EV c ρ (.Compare a [.LtE, .LtE] [b, e3] pos) (.bool (decide (i ≤ j) && decide (j ≤ k))) :=
  ev_chain op_le op_le (bv_ev ha) (bv_ev hb) (bv_ev hc) opb_B0 opb_B0 hm
theorem ev_leLt {i j k : Int} {e3 : Expr} (ha : EV c ρ a (.int i)) (hb : EV c ρ b (.int j)) (hc : EV c ρ e3 (.int k)) (hm : lastMarks [.LtE, .Lt] [b, e3] = false := by with_unfolding_all rfl) : EV c ρ (.Compare a [.LtE, .Lt] [b, e3] pos) (.bool (decide (i ≤ j) && decide (j < k))) :=
  ev_chain op_le op_lt (bv_ev ha) (bv_ev hb) (bv_ev hc) opb_B0 opb_B0 hm

/-! ### places -/
theorem atI_of {α : Type} {xs : List α} {k : Int} {d : α} (h0 : 0 ≤ k) (h : xs[k.toNat]? = some d) : atI xs k = some d := by
  have e : ((k.toNat : Nat) : Int) = k := Int.toNat_of_nonneg h0
  rw [← e]
  exact atI_nat h
theorem opb_ixL {K : PySem.W.Frag} {k : Int} (h : atI ds k = some d) : OpB K (rIxL K) (.list ds) (.int k) d := opb_now fun F H x y s hx hy Q q => by
  obtain ⟨a, vs, e1, h1, h2⟩ := hx.list_inv s
  obtain ⟨m, hm, hd, hlt, _⟩ := atI_get h
  obtain ⟨v, hv, hvd⟩ := h2.get hd
  refine ⟨a, vs, k, v, e1, hy.int_inv, h1, ?_, q v hvd⟩
  unfold atI at h ⊢
  rw [h2.len]
  cases hn : ixN ds.length k with
  | none =>
    rw [hn] at h
    cases h
  | some m' =>
    rw [hn] at h
    have h' : ds[m']? = some d := h
    have e : m' = m := by
      obtain ⟨hs, _⟩ := ixN_seq hn
      rw [hs] at hm
      exact Option.some.inj hm
    subst e
    exact hv
theorem opb_ixT {K : PySem.W.Frag} {k : Int} (h : atI ds k = some d) : OpB K (rIxT K) (.tuple ds) (.int k) d := opb_now fun F H x y s hx hy Q q => by
  obtain ⟨a, vs, e1, h1, h2⟩ := hx.tuple_inv s
  obtain ⟨m, hm, hd, hlt, _⟩ := atI_get h
  obtain ⟨v, hv, hvd⟩ := h2.get hd
  refine ⟨a, vs, k, v, e1, hy.int_inv, h1, ?_, q v hvd⟩
  unfold atI at h ⊢
  rw [h2.len]
  cases hn : ixN ds.length k with
  | none =>
    rw [hn] at h
    cases h
  | some m' =>
    rw [hn] at h
    have h' : ds[m']? = some d := h
    have e : m' = m := by
      obtain ⟨hs, _⟩ := ixN_seq hn
      rw [hs] at hm
      exact Option.some.inj hm
    subst e
    exact hv
theorem opb_ixS {K : PySem.W.Frag} {k : Int} {n : Nat} (hl : x.length ≤ sizeLine) (h : atI x.cps.toList k = some n) : OpB K rIxS (.str x) (.int k) (.str ⟨#[n]⟩) := opb_now fun F H u v s hx hy Q q =>
  ⟨x, k, n, hx.str_inv, hy.int_inv, hl, h, q _ (.str _)⟩
theorem ev_ixL {k : Int} (ha : BV c ρ a (.list ds)) (hb : EV c ρ b (.int k)) (h : atI ds k = some d) (hs : PlainIx b := by exact plain_ix rfl) : EV c ρ (.Subscript a b pos) d := ev_ix ix_list ha (bv_ev hb) (opb_ixL h) hs
theorem ev_ixT {k : Int} (ha : EV c ρ a (.tuple ds)) (hb : EV c ρ b (.int k)) (h : atI ds k = some d) (hs : PlainIx b := by exact plain_ix rfl) : EV c ρ (.Subscript a b pos) d := ev_ix ix_tup (bv_ev ha) (bv_ev hb) (opb_ixT h) hs
theorem ev_ixS {k : Int} {n : Nat} (ha : EV c ρ a (.str x)) (hb : EV c ρ b (.int k)) (h : atI x.cps.toList k = some n) (hl : x.length ≤ sizeLine) (hs : PlainIx b := by exact plain_ix rfl) : EV c ρ (.Subscript a b pos) (.str ⟨#[n]⟩) := ev_ix ix_str (bv_ev ha) (bv_ev hb) (opb_ixS hl h) hs

/-! ### built-ins -/
theorem BoAll.inv1 {K : PySem.W.Frag} {F H : Hp} {vs : List V} (h : BoAll K F H vs [d]) : ∃ v, vs = [v] ∧ Bo K F H v d := by
  cases h with
  | cons a t =>
    cases t
    exact ⟨_, rfl, a⟩
theorem BoAll.inv2 {K : PySem.W.Frag} {F H : Hp} {vs : List V} {d2 : PyData} (h : BoAll K F H vs [d, d2]) : ∃ v u, vs = [v, u] ∧ Bo K F H v d ∧ Bo K F H u d2 := by
  cases h with
  | cons a t =>
    obtain ⟨u, e, b⟩ := t.inv1
    subst e
    exact ⟨_, _, rfl, a, b⟩
theorem ev_lenL (hm : c.X.mg "len" = none) (ha : BV c ρ a (.list ds)) (hs : starEach [a] c.X.env = (false, eval a c.X.env) :: starEach [] c.X.env := by exact star_cons rfl) (hg : Gl c.X "len" := by rfl) : EV c ρ (.Call (.Name "len" p) [a] [] pos) (.int (ds.length : Int)) :=
  ev_callB call_len_seq hm (ba_cons ha ba_nil hs) (fun F H xs s h Q q => by
    obtain ⟨v, e, hv⟩ := h.inv1
    obtain ⟨z, vs, e1, h1, h2⟩ := hv.list_inv s
    refine ⟨z, vs, by rw [e, e1], .inl h1, ?_⟩
    rw [h2.len]
    exact q _ F H (Gw.refl s) (.int _)) hg PySem.boot_len (by decide) (by decide) hs
theorem ev_lenT (hm : c.X.mg "len" = none) (ha : EV c ρ a (.tuple ds)) (hs : starEach [a] c.X.env = (false, eval a c.X.env) :: starEach [] c.X.env := by exact star_cons rfl) (hg : Gl c.X "len" := by rfl) : EV c ρ (.Call (.Name "len" p) [a] [] pos) (.int (ds.length : Int)) :=
  ev_callB call_len_seq hm (ba_cons (bv_ev ha) ba_nil hs) (fun F H xs s h Q q => by
    obtain ⟨v, e, hv⟩ := h.inv1
    obtain ⟨z, vs, e1, h1, h2⟩ := hv.tuple_inv s
    refine ⟨z, vs, by rw [e, e1], .inr h1, ?_⟩
    rw [h2.len]
    exact q _ F H (Gw.refl s) (.int _)) hg PySem.boot_len (by decide) (by decide) hs
theorem ev_lenS (hm : c.X.mg "len" = none) (ha : EV c ρ a (.str x)) (hl : x.length ≤ sizeLine) (hs : starEach [a] c.X.env = (false, eval a c.X.env) :: starEach [] c.X.env := by exact star_cons rfl) (hg : Gl c.X "len" := by rfl) : EV c ρ (.Call (.Name "len" p) [a] [] pos) (.int (x.length : Int)) :=
  ev_callB call_len_str hm (ba_cons (bv_ev ha) ba_nil hs) (fun F H xs s h Q q => by
    obtain ⟨v, e, hv⟩ := h.inv1
    exact ⟨x, by rw [e, hv.str_inv], hl, q _ F H (Gw.refl s) (.int _)⟩) hg PySem.boot_len (by decide) (by decide) hs
theorem ev_min (hc : c.X.calm = true) (hm : c.X.mg "min" = none) (ha : EV c ρ a (.int i)) (hb : EV c ρ b (.int j)) (hs : starEach [a, b] c.X.env = (false, eval a c.X.env) :: starEach [b] c.X.env := by exact star_cons rfl) (hs2 : starEach [b] c.X.env = (false, eval b c.X.env) :: starEach [] c.X.env := by exact star_cons rfl) (hg : Gl c.X "min" := by rfl)
    (hpl : (backTo pos (starEach [b] c.X.env)).any (·.1) = false := by exact star_any rfl) : EV c ρ (.Call (.Name "min" p) [a, b] [] pos) (.int (min i j)) :=
  ev_callB (call_min2 hc) hm (ba_cons (bv_ev ha) (ba_cons (bv_ev hb) ba_nil hs2) hs) (fun F H xs s h Q q => by
    obtain ⟨v, u, e, hv, hu⟩ := h.inv2
    refine ⟨i, j, by rw [e, hv.int_inv, hu.int_inv], ?_⟩
    have e2 : (if j < i then j else i) = min i j := by
      split <;> omega
    rw [e2]
    exact q _ F H (Gw.refl s) (.int _)) hg (by decide +kernel) (by decide) (by decide) hs hpl
theorem ev_max (hc : c.X.calm = true) (hm : c.X.mg "max" = none) (ha : EV c ρ a (.int i)) (hb : EV c ρ b (.int j)) (hs : starEach [a, b] c.X.env = (false, eval a c.X.env) :: starEach [b] c.X.env := by exact star_cons rfl) (hs2 : starEach [b] c.X.env = (false, eval b c.X.env) :: starEach [] c.X.env := by exact star_cons rfl) (hg : Gl c.X "max" := by rfl)
    (hpl : (backTo pos (starEach [b] c.X.env)).any (·.1) = false := by exact star_any rfl) : EV c ρ (.Call (.Name "max" p) [a, b] [] pos) (.int (max i j)) :=
  ev_callB (call_max2 hc) hm (ba_cons (bv_ev ha) (ba_cons (bv_ev hb) ba_nil hs2) hs) (fun F H xs s h Q q => by
    obtain ⟨v, u, e, hv, hu⟩ := h.inv2
    refine ⟨i, j, by rw [e, hv.int_inv, hu.int_inv], ?_⟩
    have e2 : (if j > i then j else i) = max i j := by
      split <;> omega
    rw [e2]
    exact q _ F H (Gw.refl s) (.int _)) hg (by decide +kernel) (by decide) (by decide) hs hpl
theorem ev_abs (hm : c.X.mg "abs" = none) (ha : EV c ρ a (.int i)) (hs : starEach [a] c.X.env = (false, eval a c.X.env) :: starEach [] c.X.env := by exact star_cons rfl) (hg : Gl c.X "abs" := by rfl) : EV c ρ (.Call (.Name "abs" p) [a] [] pos) (.int (if i < 0 then -i else i)) :=
  ev_callB call_abs hm (ba_cons (bv_ev ha) ba_nil hs) (fun F H xs s h Q q => by
    obtain ⟨v, e, hv⟩ := h.inv1
    exact ⟨i, by rw [e, hv.int_inv], q _ F H (Gw.refl s) (.int _)⟩) hg (by decide +kernel) (by decide) (by decide) hs

/-! ### isinstance of data -/
def tyD : PyData → String
  | .none => "NoneType"
  | .bool _ => "bool"
  | .int _ => "int"
  | .str _ => "str"
  | .list _ => "list"
  | .tuple _ => "tuple"
  | .dict _ => "dict"
def isA (T : String) (d : PyData) : Bool := (kitB (tyD d) T).getD false
theorem isA_kit {T : String} (h : ["int", "bool", "str", "list", "tuple"].contains T = true) (d : PyData) : kitB (tyD d) T = some (isA T d) := by
  have h2 : T = "int" ∨ T = "bool" ∨ T = "str" ∨ T = "list" ∨ T = "tuple" := by simpa using h
  have key : ∀ A : String, A ∈ ["NoneType", "bool", "int", "str", "list", "tuple", "dict"] → kitB A T = some ((kitB A T).getD false) := by
    rcases h2 with e | e | e | e | e <;> subst e <;> decide +kernel
  exact key (tyD d) (by cases d <;> simp [tyD])
theorem tyx_of {K : PySem.W.Frag} {F H : Hp} {v : V} (s : Same F H) (h : Bo K F H v d) : TyX K H v (.type (tyD d)) := by
  cases d with
  | none => rw [h.none_inv]; exact .base .non
  | bool k => rw [h.bool_inv]; exact .base (.bl k)
  | int k => rw [h.int_inv]; exact .base (.int k)
  | str k => rw [h.str_inv]; exact .base (.str k)
  | list ds =>
    obtain ⟨a, vs, e, h1, _⟩ := h.list_inv s
    subst e
    rcases h1 with (h1 | ⟨o, h1⟩) | ⟨o, its, n, h1, h2, _⟩
    · exact .base (.lst h1)
    · exact .base (.frz h1)
    · exact .kList h1 h2
  | tuple ds =>
    obtain ⟨a, vs, e, h1, _⟩ := h.tuple_inv s
    subst e
    rcases h1 with (h1 | ⟨o, h1⟩) | ⟨o, its, n, h1, h2, _⟩
    · exact .base (.tup h1)
    · exact .fTuple h1
    · exact .kTuple h1 h2
  | dict kvs =>
    rcases h with h | ⟨_, _, _, _, e, _⟩
    · cases h
    · cases e
theorem ev_isA {T : String} {TS : Str} {p2 : Pos} (hm : c.X.mg "isinstance" = none) (hT : c.X.mg TS = none) (ha : BV c ρ a d) (hk : ["int", "bool", "str", "list", "tuple"].contains T = true := by decide) (hb : bootBuiltins TS = some (.type T) := by decide +kernel)
    (hs : starEach [a, .Name TS p2] c.X.env = (false, eval a c.X.env) :: starEach [.Name TS p2] c.X.env := by exact star_cons rfl) (hs2 : starEach [.Name TS p2] c.X.env = (false, eval (.Name TS p2) c.X.env) :: starEach [] c.X.env := by exact star_cons rfl) (hg : Gl c.X "isinstance" := by rfl) (hg2 : Gl c.X TS := by rfl)
    (hpl : (backTo pos (starEach [.Name TS p2] c.X.env)).any (·.1) = false := by exact star_any rfl) (hn : TS ≠ "__name__" := by decide) (hdb : (TS == ("__debug__" : Str)) = false := by decide) :
    EV c ρ (.Call (.Name "isinstance" p) [a, .Name TS p2] [] pos) (.bool (isA T d)) := ⟨fun σ F H hh Q q =>
  wpE_of (pe_callB call_isi hg hm (by decide +kernel) (pa_cons pe_wp (pa_cons (pe_bltn (v := .ty T) hg2 hT hb rfl hn hdb) pa_nil hs2) hs) (by decide) (by decide) hs hpl)
    (ha.run σ F H hh _ fun v F1 H1 g1 b1 => ⟨v, .ty T, .type (tyD d), .type T, isA T d, rfl, .ty T, tyx_of g1.fh b1, kit_ty (isA_kit hk d), q _ F1 H1 g1 (.bl _)⟩)⟩
@[simp] theorem isA_int_int {i : Int} : isA "int" (.int i) = true := by
  show (kitB "int" "int").getD false = true
  decide +kernel
@[simp] theorem isA_int_bool {k : Bool} : isA "int" (.bool k) = true := by
  show (kitB "bool" "int").getD false = true
  decide +kernel
@[simp] theorem isA_int_none : isA "int" .none = false := by
  show (kitB "NoneType" "int").getD false = false
  decide +kernel
@[simp] theorem isA_int_str {z : Str} : isA "int" (.str z) = false := by
  show (kitB "str" "int").getD false = false
  decide +kernel
@[simp] theorem isA_int_list : isA "int" (.list ds) = false := by
  show (kitB "list" "int").getD false = false
  decide +kernel
@[simp] theorem isA_int_tuple : isA "int" (.tuple ds) = false := by
  show (kitB "tuple" "int").getD false = false
  decide +kernel
@[simp] theorem isA_bool_int {i : Int} : isA "bool" (.int i) = false := by
  show (kitB "int" "bool").getD false = false
  decide +kernel
@[simp] theorem isA_bool_bool {k : Bool} : isA "bool" (.bool k) = true := by
  show (kitB "bool" "bool").getD false = true
  decide +kernel
@[simp] theorem isA_bool_none : isA "bool" .none = false := by
  show (kitB "NoneType" "bool").getD false = false
  decide +kernel
@[simp] theorem isA_bool_str {z : Str} : isA "bool" (.str z) = false := by
  show (kitB "str" "bool").getD false = false
  decide +kernel
@[simp] theorem isA_bool_list : isA "bool" (.list ds) = false := by
  show (kitB "list" "bool").getD false = false
  decide +kernel
@[simp] theorem isA_bool_tuple : isA "bool" (.tuple ds) = false := by
  show (kitB "tuple" "bool").getD false = false
  decide +kernel
@[simp] theorem isA_str_int {i : Int} : isA "str" (.int i) = false := by
  show (kitB "int" "str").getD false = false
  decide +kernel
@[simp] theorem isA_str_bool {k : Bool} : isA "str" (.bool k) = false := by
  show (kitB "bool" "str").getD false = false
  decide +kernel
@[simp] theorem isA_str_none : isA "str" .none = false := by
  show (kitB "NoneType" "str").getD false = false
  decide +kernel
@[simp] theorem isA_str_str {z : Str} : isA "str" (.str z) = true := by
  show (kitB "str" "str").getD false = true
  decide +kernel
@[simp] theorem isA_str_list : isA "str" (.list ds) = false := by
  show (kitB "list" "str").getD false = false
  decide +kernel
@[simp] theorem isA_str_tuple : isA "str" (.tuple ds) = false := by
  show (kitB "tuple" "str").getD false = false
  decide +kernel
@[simp] theorem isA_list_int {i : Int} : isA "list" (.int i) = false := by
  show (kitB "int" "list").getD false = false
  decide +kernel
@[simp] theorem isA_list_bool {k : Bool} : isA "list" (.bool k) = false := by
  show (kitB "bool" "list").getD false = false
  decide +kernel
@[simp] theorem isA_list_none : isA "list" .none = false := by
  show (kitB "NoneType" "list").getD false = false
  decide +kernel
@[simp] theorem isA_list_str {z : Str} : isA "list" (.str z) = false := by
  show (kitB "str" "list").getD false = false
  decide +kernel
@[simp] theorem isA_list_list : isA "list" (.list ds) = true := by
  show (kitB "list" "list").getD false = true
  decide +kernel
@[simp] theorem isA_list_tuple : isA "list" (.tuple ds) = false := by
  show (kitB "tuple" "list").getD false = false
  decide +kernel
@[simp] theorem isA_tuple_int {i : Int} : isA "tuple" (.int i) = false := by
  show (kitB "int" "tuple").getD false = false
  decide +kernel
@[simp] theorem isA_tuple_bool {k : Bool} : isA "tuple" (.bool k) = false := by
  show (kitB "bool" "tuple").getD false = false
  decide +kernel
@[simp] theorem isA_tuple_none : isA "tuple" .none = false := by
  show (kitB "NoneType" "tuple").getD false = false
  decide +kernel
@[simp] theorem isA_tuple_str {z : Str} : isA "tuple" (.str z) = false := by
  show (kitB "str" "tuple").getD false = false
  decide +kernel
@[simp] theorem isA_tuple_list : isA "tuple" (.list ds) = false := by
  show (kitB "list" "tuple").getD false = false
  decide +kernel
@[simp] theorem isA_tuple_tuple : isA "tuple" (.tuple ds) = true := by
  show (kitB "tuple" "tuple").getD false = true
  decide +kernel

/-! ### a list's append, as a statement -/
theorem s1_append {P : Out → Prop} {l : Nat} {xn : Str} {pn apos cpos epos : Pos} (h1 : ρ[l]? = some (.own (oL c.X.K ds))) (he : EV c ρ e d) (hlen : ds.length < sizeLine) (h : P (.next (ρ.set l (.own (oL c.X.K (ds ++ [d])))))) (hN : c.X.N[l]? = some xn := by rfl)
    (hv : Vis c.X.env.scope xn := by first | exact Or.inl rfl | exact Or.inr (Or.inl rfl) | exact Or.inr (Or.inr rfl)) (hd : (xn == ("__debug__" : Str)) = false := by decide) (hcd : (xn == ("__classdict__" : Str)) = false := by decide)
    (hs : starEach [e] c.X.env = (false, eval e c.X.env) :: starEach [] c.X.env := by exact star_cons rfl) (hsw : swapsWith (.Call (.Attribute (.Name xn pn) "append" apos) [e] [] cpos) none epos.line c.X.env = pure false := by exact swaps_no rfl)
    (hpb : PE c.X (.Call (.Attribute (.Name xn pn) "append" apos) [e] [] cpos) (tBM c.X.K "list" rAppend (tVar l) (tCons (wpE c.X e) tNil)) := by
      exact pe_bm PySem.F.plainAttrs_list PySem.F.slot_list_append PySem.F.type_list_append mt_append (pv _) (pa_cons pe_wp pa_nil)) : S1 c ρ (.Expr (.Call (.Attribute (.Name xn pn) "append" apos) [e] [] cpos) epos) P := ⟨fun σ F H D hh q => by
  obtain ⟨fr, len, fp, ee⟩ := id hh
  have hl := (List.getElem?_eq_some_iff.mp h1).1
  have h2 : l < σ.length := by omega
  obtain ⟨v, ev, p, vs, e1, e2, h3, h4⟩ := ee.at_ l _ _ h1 (List.getElem?_eq_getElem h2)
  subst e1
  have hp := ee.out l p (by rw [e2]; simp)
  have hσ : σ[l]? = some (some (.ref p)) := by rw [List.getElem?_eq_getElem h2, ev]
  refine wpS_of (ps_expr hpb hsw) ⟨.ref p, hσ, .inl ⟨rfl, _, .of h3⟩, he.run σ F H hh _ fun u F1 H1 g1 b1 => ⟨p, vs, u, rfl, rfl, g1.hh _ _ h3, by rw [h4.len]; exact hlen, ?_⟩⟩
  have hF1 : F1 p = none := by
    have hnp : H p ≠ none := by rw [h3]; simp
    rw [g1.new p hnp]
    exact hp.1
  have hh1 := hh.grow g1
  have hfr : Fr c.F0 c.Kp F1 (upd H1 p (.lst (vs ++ [u]))) := ⟨hh1.fr.ff, same_upd2 hh1.fr.fh hF1, same_upd2 hh1.fr.kh hp.2, hh1.fr.new⟩
  have hh2 : c.H (ρ.set l (.own (oL c.X.K (ds ++ [d])))) (σ.set l (some (.ref p))) F1 (upd H1 p (.lst (vs ++ [u]))) := hh1.swap h1 hfr (Same.refl _) fun fp' ov hF ho hc => by
    obtain ⟨v', ev', p', vs', e1', e2', h3', h4'⟩ := hc
    have eo : ov = some (.ref p) := by
      rw [hσ] at ho
      exact (Option.some.inj ho).symm
    subst eo
    cases ev'
    cases e1'
    refine ⟨[p], ⟨_, rfl, p, _, rfl, rfl, upd_same, (dpall_mono g1.ff ds vs h4).app (.cons b1 .nil)⟩, fun b hb => ?_, fun b hb => .inl (by rw [e2']; exact hb), fun j hj b hb => ⟨?_, (hF.out j b hb).1⟩⟩
    · have e : b = p := by simpa using hb
      subst e
      exact ⟨hF1, hp.2⟩
    · have hne : b ≠ p := fun e => hF.dis j l hj b hb (by rw [e2', e]; simp)
      rw [upd_ne hne]
  have eσ : σ.set l (some (.ref p)) = σ := set_self hσ
  rw [eσ] at hh2
  exact q _ h σ F1 _ g1.ff hh2⟩
end
end G

namespace G
open PySem PySem.Spec PyProof.Rows L2

/-! ### list comprehensions -/
def wipeR (ρ : List Cl) : List Nat → List Cl
  | [] => ρ
  | v :: vs => (wipeR ρ vs).set v Cl.un
theorem wipeR_len (ρ : List Cl) : ∀ vs : List Nat, (wipeR ρ vs).length = ρ.length
  | [] => rfl
  | v :: vs => by unfold wipeR; rw [List.length_set, wipeR_len ρ vs]
theorem wipeR_at (ρ : List Cl) : ∀ (vs : List Nat) (i : Nat) (c : Cl), (wipeR ρ vs)[i]? = some c → c = Cl.un ∨ (ρ[i]? = some c ∧ i ∉ vs)
  | [], i, c, h => .inr ⟨h, by simp⟩
  | v :: vs, i, c, h => by
    unfold wipeR at h
    by_cases hi : v = i
    · subst hi
      rw [List.getElem?_set_self'] at h
      cases q : (wipeR ρ vs)[v]? with
      | none =>
        rw [q] at h
        cases h
      | some x =>
        rw [q] at h
        exact .inl (Option.some.inj h).symm
    · rw [List.getElem?_set_ne hi] at h
      rcases wipeR_at ρ vs i c h with z | ⟨z, z2⟩
      · exact .inl z
      · exact .inr ⟨z, by simp only [List.mem_cons, not_or]; exact ⟨fun e => hi e.symm, z2⟩⟩
theorem Hold.wiped {K : PySem.W.Frag} {F0 Kp F H : Hp} {ρ : List Cl} {σ : L2.St} (h : Hold K F0 Kp ρ σ F H) (vs : List Nat) : Hold K F0 Kp (wipeR ρ vs) (wipe σ vs) F H := by
  refine h.onto (by rw [wipe_length, wipeR_len, h.len]) fun i c hc => ?_
  rcases wipeR_at ρ vs i c hc with z | ⟨z, z2⟩
  · exact .inl z
  · refine .inr ⟨z, ?_⟩
    rw [wipe_at, if_neg z2]
def wpIfs (X : Cx) (ifs : List Expr) : TT := fun σ H Q => ∀ pins s, Inv X pins σ H s →
  wpAny (model X.prog X.w) X.A (forIn ifs true fun c r => if r = true then do let ok ← isTrue c X.env (eval c X.env); pure (ForInStep.yield ok) else pure (ForInStep.yield r)) (TP X pins σ Q) X.xe s
structure IfV (c : Cc) (ρ : List Cl) (ifs : List Expr) (b : Bool) : Prop where
  run : ∀ σ F H, c.H ρ σ F H → ∀ Q : Bool → Hp → Prop, (∀ F' H', Gw F H F' H' → Q b H') → wpIfs c.X ifs σ H Q
section
variable {c : Cc} {ρ : List Cl} {P : Out → Prop} {e : Expr} {pos : Pos}
theorem ifv_nil : IfV c ρ [] true := ⟨fun σ F H hh Q q pins s I => (pts_nil (X := c.X)).run pins s σ H Q I (q F H (Gw.refl hh.fr.fh))⟩
theorem ifv_one {b : Bool} (h : TV c ρ e b) : IfV c ρ [e] b := ⟨fun σ F H hh Q q pins s I => (pts_one pt_wp).run pins s σ H Q I (h.run σ F H hh Q q)⟩
/-- the context of a comprehension's block -/
abbrev Cc.blk (c : Cc) (scope : Scope) (s : Shared) (H : Hp) (C : Addr) (cl : List (Str × Addr)) (fp : List Addr) : Cc := ⟨c.X.blk s H scope (compEnvC scope cl C c.X.env) fp, c.F0, c.Kp, c.W⟩
/-- what the turns give -/
def outs (n : Nat) (f : Nat → Bool) (g : Nat → PyData) : List PyData := ((List.range n).filter f).map g
theorem outs_yes {n : Nat} {f : Nat → Bool} {g : Nat → PyData} (h : f n = true) : outs (n + 1) f g = outs n f g ++ [g n] := by
  unfold outs
  rw [List.range_succ, List.filter_append, List.map_append, List.filter_cons, if_pos h] <;> rfl
theorem outs_no {n : Nat} {f : Nat → Bool} {g : Nat → PyData} (h : f n = false) : outs (n + 1) f g = outs n f g := by
  unfold outs
  rw [List.range_succ, List.filter_append, List.map_append, List.filter_cons, if_neg (by rw [h]; decide)]
  show _ ++ [] = _
  rw [List.append_nil]
theorem outs_len (n : Nat) (f : Nat → Bool) (g : Nat → PyData) : (outs n f g).length ≤ n := by
  unfold outs
  rw [List.length_map]
  have h := List.length_filter_le f (List.range n)
  rw [List.length_range] at h
  exact h
def gB (c : Cc) (scope : Scope) (tg : Expr) : TG := fun v σ H Q => ∀ s0 H0 C cl fp, wpG (c.blk scope s0 H0 C cl fp).X tg v σ H Q
def tB' (c : Cc) (scope : Scope) (ifs : List Expr) : TT := fun σ H Q => ∀ s0 H0 C cl fp, wpIfs (c.blk scope s0 H0 C cl fp).X ifs σ H Q
def eB (c : Cc) (scope : Scope) (elt : Expr) : TE := fun σ H Q => ∀ s0 H0 C cl fp, wpE (c.blk scope s0 H0 C cl fp).X elt σ H Q
structure LcOk (c : Cc) (ρ : List Cl) (elt tg : Expr) (ifs : List Expr) (scope : Scope) (vs : List Nat) (ds : List PyData) (R : Nat → List Cl) (f : Nat → Bool) (g : Nat → PyData) : Prop where
  hg : ∀ s H C cl fp (i : Nat) (d : PyData), ds[i]? = some d → ∃ js, (∀ j ∈ js, j ∈ vs) ∧ GV (c.blk scope s H C cl fp) (wipeR ρ vs) tg d js (R i)
  ht : ∀ s H C cl fp (i : Nat) (d : PyData), ds[i]? = some d → IfV (c.blk scope s H C cl fp) (R i) ifs (f i)
  he : ∀ s H C cl fp (i : Nat) (d : PyData), ds[i]? = some d → f i = true → EV (c.blk scope s H C cl fp) (R i) elt (g i)
theorem lc_read {elt tg iter : Expr} {ifs : List Expr} {scope : Scope} {vs : List Nat} {ds : List PyData} {R : Nat → List Cl} {f : Nat → Bool} {g : Nat → PyData} (hi : IV c ρ tg iter ds) (hl : ds.length ≤ sizeLine) (L : LcOk c ρ elt tg ifs scope vs ds R f g)
    (σ : L2.St) (F H : Hp) (hh : c.H ρ σ F H) (Q : VK) (q : ∀ v F' H' fc, Gw F H F' H' → (oL c.X.K (outs ds.length f g)).at_ F' H' fc v → (∀ b ∈ fc, H b = none ∧ F' b = none) → Q v H') :
    tLc (wpI c.X tg iter) (gB c scope tg) (tB' c scope ifs) (eB c scope elt) vs σ H Q := by
  refine hi.run σ F H hh _ fun J F1 H1 g1 ok D hD => ?_
  refine ⟨fun i m H' => m = ds.length - i ∧ i ≤ ds.length ∧ ∃ F' us, Gw F1 H1 F' H' ∧ F' D = none ∧ H' D = some (.lst us) ∧ DpAll c.X.K F' us (outs i f g), ⟨_, rfl, Nat.zero_le _, F1, [], Gw.own g1.fh hD, same_none g1.fh hD, upd_same, .nil⟩, ?_⟩
  rintro i m H' ⟨rfl, hi', F', us, g2, hFD, hHD, hus⟩
  obtain ⟨k1, k2⟩ := ok F' H' i g2.ff g2.fh
  by_cases hlt : i < ds.length
  · have hd1 : ds[i]? = some ds[i] := List.getElem?_eq_getElem hlt
    obtain ⟨go, step⟩ := k1 _ hd1
    refine .inr ⟨go, fun H2 => ∃ F' us, Gw F1 H1 F' H2 ∧ F' D = none ∧ H2 D = some (.lst us) ∧ DpAll c.X.K F' us (outs (i + 1) f g), fun H2 ⟨F2, us2, a⟩ => ⟨ds.length - (i + 1), by omega, rfl, hlt, F2, us2, a⟩, fun x H2 hy => ?_⟩
    obtain ⟨F2, g3, hx⟩ := step x H2 hy
    have hF2D : F2 D = none := by rw [g3.new D (by rw [hHD]; simp)]; exact hFD
    have hH2D := g3.hh _ _ hHD
    have hh2 : c.H ρ σ F2 H2 := (hh.grow g1).grow (g2.trans g3)
    have hw := hh2.wiped vs
    intro s0 H0 C cl fp
    obtain ⟨js, hjs, hgv⟩ := L.hg s0 H0 C cl fp i _ hd1
    refine hgv.run (wipe σ vs) F2 H2 x hw hx _ fun σ3 hh3 w3 => ⟨?_, ?_⟩
    · rw [w3 vs hjs, wipe_wipe]
    intro s1 H3 C1 cl1 fp1
    refine (L.ht s1 H3 C1 cl1 fp1 i _ hd1).run σ3 F2 H2 hh3 _ fun F3 H3' g4 => ?_
    have hF3D : F3 D = none := by rw [g4.new D (by rw [hH2D]; simp)]; exact hF2D
    have hH3D := g4.hh _ _ hH2D
    cases hf : f i with
    | false =>
      show ∃ F' us, _
      refine ⟨F3, us, (g2.trans g3).trans g4, hF3D, hH3D, ?_⟩
      rw [outs_no hf]
      exact dpall_mono (g3.trans g4).ff _ _ hus
    | true =>
      show eB c scope elt σ3 H3' _
      intro s2 H4 C2 cl2 fp2
      refine (L.he s2 H4 C2 cl2 fp2 i _ hd1 hf).run σ3 F3 H3' (hh3.grow g4) _ fun y F4 H4' g5 hy => ?_
      have hF4D : F4 D = none := by rw [g5.new D (by rw [hH3D]; simp)]; exact hF3D
      have hH4D := g5.hh _ _ hH3D
      refine ⟨us, hH4D, by have := outs_len i f g; rw [hus.len]; omega, F4, us ++ [y], ?_, hF4D, upd_same, ?_⟩
      · have g6 := ((g2.trans g3).trans g4).trans g5
        refine ⟨g6.ff, fun b o hb => ?_, same_upd2 g6.fh hF4D, g6.new⟩
        rw [upd_ne (fun (e : b = D) => by rw [e, hD] at hb; cases hb)]
        exact g6.hh b o hb
      · rw [outs_yes hf]
        exact (dpall_mono ((g3.trans g4).trans g5).ff _ _ hus).app (.cons hy .nil)
  · have e : i = ds.length := by omega
    subst e
    refine .inl ⟨k2 (Nat.le_refl _), q _ F' H' [D] (g1.trans g2) ⟨D, us, rfl, rfl, hHD, hus⟩ fun b hb => ?_⟩
    have e : b = D := by simpa using hb
    subst e
    exact ⟨same_none g1.hh hD, hFD⟩
theorem nv_lc {elt tg iter : Expr} {ifs : List Expr} {scope : Scope} {own : List (Str × Nat)} {ds : List PyData} {R : Nat → List Cl} {f : Nat → Bool} {g : Nat → PyData} (hN : c.X.N.Nodup) (hc : c.X.calm = true) (hi : IV c ρ tg iter ds) (hl : ds.length ≤ sizeLine)
    (ok : BlkOk c.X.N c.X.env.scope scope own) (L : LcOk c ρ elt tg ifs scope (own.map (·.2)) ds R f g) (hf : ∀ x, foldedSetIterable iter c.X.env x = pure x := by exact folded_no rfl) : NV c ρ (.ListComp elt [⟨tg, iter, ifs, 0⟩] scope pos) (oL c.X.K (outs ds.length f g)) := ⟨fun σ F H hh Q q =>
  wpE_of (pe_lc (wi := wpI c.X tg iter) (g := gB c scope tg) (tt := tB' c scope ifs) (te := eB c scope elt) hc hN pi_wp ok
    (fun s H C cl fp => ⟨fun pins s' σ H v u Q I r h => h s _ C cl fp pins s' u I r⟩) (fun s H C cl fp => ⟨fun pins s' σ H Q I h => h s _ C cl fp pins s' I⟩) (fun s H C cl fp => ⟨fun pins s' σ H Q I h => h s _ C cl fp pins s' I⟩) hf)
    (lc_read hi hl L σ F H hh Q q)⟩
/-- y = [..] on one line -/
theorem s1_setLc {i : Nat} {y : Str} {py spos : Pos} {elt tg iter : Expr} {ifs : List Expr} {scope : Scope} {own : List (Str × Nat)} {ds : List PyData} {R : Nat → List Cl} {f : Nat → Bool} {g : Nat → PyData} (hN : c.X.N.Nodup) (hc : c.X.calm = true) (hi : IV c ρ tg iter ds) (hl : ds.length ≤ sizeLine)
    (ok : BlkOk c.X.N c.X.env.scope scope own) (L : LcOk c ρ elt tg ifs scope (own.map (·.2)) ds R f g) (h : P (.next (ρ.set i (.own (oL c.X.K (outs ds.length f g)))))) (hy : c.X.N[i]? = some y := by rfl) (hyl : c.X.env.scope.names.lookup y = some .local := by rfl) (hli : Nat.blt i ρ.length = true := by rfl)
    (hsw : swapsWith (.ListComp elt [⟨tg, iter, ifs, 0⟩] scope pos) (some (.Name y py)) spos.line c.X.env = pure true := by exact sw_true rfl rfl rfl (by decide +kernel))
    (hf : ∀ x, foldedSetIterable iter c.X.env x = pure x := by exact folded_no rfl) : S1 c ρ (.Assign [.Name y py] (.ListComp elt [⟨tg, iter, ifs, 0⟩] scope pos) spos) P := ⟨fun σ F H D hh q =>
  wpS_of (ps_setLc (wi := wpI c.X tg iter) (g := gB c scope tg) (tt := tB' c scope ifs) (te := eB c scope elt) hc hN hy hyl hsw pi_wp ok
    (fun s H C cl fp => ⟨fun pins s' σ H v u Q I r h => h s _ C cl fp pins s' u I r⟩) (fun s H C cl fp => ⟨fun pins s' σ H Q I h => h s _ C cl fp pins s' I⟩) (fun s H C cl fp => ⟨fun pins s' σ H Q I h => h s _ C cl fp pins s' I⟩) hf)
    (lc_read hi hl L σ F H hh _ fun v F' H' fc g1 b1 hn => q _ h (σ.set i (some v)) F' H' g1.ff ((hh.pushO g1 b1 hn).move (blt_lt hli)))⟩
end
end G

namespace G
open PySem PySem.Spec PyProof.Rows L2
/-! ### lists of one kind -/
abbrev intsD (ns : List Int) : PyData := .list (ns.map PyData.int)
abbrev strsD (xs : List Str) : PyData := .list (xs.map PyData.str)
theorem map_at {α : Type} {f : α → PyData} {xs : List α} {k : Int} {z : α} (h0 : 0 ≤ k) (h : k < (xs.length : Int)) : atI (xs.map f) k = some (f (xs.getD k.toNat z)) := by
  refine atI_of h0 ?_
  rw [List.getElem?_map, List.getD_eq_getElem?_getD]
  have hl : k.toNat < xs.length := by omega
  rw [List.getElem?_eq_getElem hl]
  rfl
theorem dpall_ints {K : PySem.W.Frag} {F : Hp} : ∀ ns : List Int, DpAll K F (ns.map V.int) (ns.map PyData.int)
  | [] => .nil
  | n :: ns => .cons (.int n) (dpall_ints ns)
/-- the law's own promise -/
def ctLaw : Ct := fun cs P => ∃ ns : List Int, ns.length ≤ 63 ∧ cs = [.val (intsD ns)] ∧ P (.ret (.val (.bool true)) (uns 1))
theorem law_sp {K : PySem.W.Frag} {H : Hp} {a : Addr} {ns : List Int} (hl : ns.length ≤ 63) (hS : SqL K H a (ns.map V.int)) : spG K ctLaw [.ref a] H (fun v _ => v = .bl true) (fun _ _ _ => False) := by
  refine ⟨H, H, [.val (intsD ns)], fun o => ∃ cs, o = .ret (.val (.bool true)) cs, hold_vals (ds := [intsD ns]) (vs := [.ref a]) (Same.refl H) (.cons (.lst hS (dpall_ints ns)) .nil), ⟨ns, hl, rfl, _, rfl⟩, fun r cs' v F' H' ⟨cs, e⟩ h => ?_, fun cls x cs' F' H' d ⟨cs, e⟩ _ _ => by cases e⟩
  cases e
  obtain ⟨fc, ⟨_, u, eu, hd⟩, _⟩ := h.last
  cases eu
  exact hd.bool_inv
theorem law_len : ∀ cs P, ctLaw cs P → cs.length = 1 := by
  rintro cs P ⟨ns, _, rfl, _⟩
  rfl
section
variable {c : Cc} {ρ : List Cl} {a b e : Expr} {i j k : Int} {pos p : Pos} {d : PyData} {ds : List PyData} {x y : Str} {ns : List Int} {xs : List Str}
theorem ev_ixI (ha : BV c ρ a (intsD ns)) (hb : EV c ρ b (.int k)) (h : 0 ≤ k ∧ k < (ns.length : Int)) (hs : PlainIx b := by exact plain_ix rfl) : EV c ρ (.Subscript a b pos) (.int (ns.getD k.toNat 0)) := ev_ixL ha hb (map_at h.1 h.2) hs
theorem ev_ixTI (ha : EV c ρ a (.tuple (ns.map PyData.int))) (hb : EV c ρ b (.int k)) (h : 0 ≤ k ∧ k < (ns.length : Int)) (hs : PlainIx b := by exact plain_ix rfl) : EV c ρ (.Subscript a b pos) (.int (ns.getD k.toNat 0)) := ev_ixT ha hb (map_at h.1 h.2) hs
theorem ev_ixSs (ha : BV c ρ a (strsD xs)) (hb : EV c ρ b (.int k)) (h : 0 ≤ k ∧ k < (xs.length : Int)) (hs : PlainIx b := by exact plain_ix rfl) : EV c ρ (.Subscript a b pos) (.str (xs.getD k.toNat Str.empty)) := ev_ixL ha hb (map_at h.1 h.2) hs
theorem ev_ixD (ha : BV c ρ a (.list ds)) (hb : EV c ρ b (.int k)) (h : 0 ≤ k ∧ k < (ds.length : Int)) (hs : PlainIx b := by exact plain_ix rfl) : EV c ρ (.Subscript a b pos) (ds.getD k.toNat .none) := ev_ixL ha hb (by
  have := map_at (f := id) (z := PyData.none) h.1 h.2
  simpa using this) hs
theorem ev_ixTD (ha : EV c ρ a (.tuple ds)) (hb : EV c ρ b (.int k)) (h : 0 ≤ k ∧ k < (ds.length : Int)) (hs : PlainIx b := by exact plain_ix rfl) : EV c ρ (.Subscript a b pos) (ds.getD k.toNat .none) := ev_ixT ha hb (by
  have := map_at (f := id) (z := PyData.none) h.1 h.2
  simpa using this) hs
theorem ev_lenI (hm : c.X.mg "len" = none) (ha : BV c ρ a (intsD ns)) (hs : starEach [a] c.X.env = (false, eval a c.X.env) :: starEach [] c.X.env := by exact star_cons rfl) (hg : Gl c.X "len" := by rfl) : EV c ρ (.Call (.Name "len" p) [a] [] pos) (.int (ns.length : Int)) := by
  have h := ev_lenL (pos := pos) (p := p) hm ha hs hg
  rw [List.length_map] at h
  exact h
theorem ev_lenSs (hm : c.X.mg "len" = none) (ha : BV c ρ a (strsD xs)) (hs : starEach [a] c.X.env = (false, eval a c.X.env) :: starEach [] c.X.env := by exact star_cons rfl) (hg : Gl c.X "len" := by rfl) : EV c ρ (.Call (.Name "len" p) [a] [] pos) (.int (xs.length : Int)) := by
  have h := ev_lenL (pos := pos) (p := p) hm ha hs hg
  rw [List.length_map] at h
  exact h
theorem line_le {n : Nat} (h : n ≤ 1000000) : n ≤ sizeLine := by rw [sizeLine_eq]; omega
theorem line_lt {n : Nat} (h : n < 1000000) : n < sizeLine := by rw [sizeLine_eq]; omega
theorem s1_appendI {P : Out → Prop} {l : Nat} {xn : Str} {pn apos cpos epos : Pos} (h1 : ρ[l]? = some (.own (oL c.X.K (ns.map PyData.int)))) (he : EV c ρ e (.int i)) (hlen : ns.length < 1000000) (h : P (.next (ρ.set l (.own (oL c.X.K ((ns ++ [i]).map PyData.int)))))) (hN : c.X.N[l]? = some xn := by rfl)
    (hv : Vis c.X.env.scope xn := by first | exact Or.inl rfl | exact Or.inr (Or.inl rfl) | exact Or.inr (Or.inr rfl)) (hd : (xn == ("__debug__" : Str)) = false := by decide) (hcd : (xn == ("__classdict__" : Str)) = false := by decide)
    (hs : starEach [e] c.X.env = (false, eval e c.X.env) :: starEach [] c.X.env := by exact star_cons rfl) (hsw : swapsWith (.Call (.Attribute (.Name xn pn) "append" apos) [e] [] cpos) none epos.line c.X.env = pure false := by exact swaps_no rfl)
    (hpb : PE c.X (.Call (.Attribute (.Name xn pn) "append" apos) [e] [] cpos) (tBM c.X.K "list" rAppend (tVar l) (tCons (wpE c.X e) tNil)) := by
      exact pe_bm PySem.F.plainAttrs_list PySem.F.slot_list_append PySem.F.type_list_append mt_append (pv _) (pa_cons pe_wp pa_nil)) : S1 c ρ (.Expr (.Call (.Attribute (.Name xn pn) "append" apos) [e] [] cpos) epos) P :=
  s1_append h1 he (by rw [List.length_map]; exact line_lt hlen) (by rw [List.map_append] at h; exact h) hN hv hd hcd hs hsw hpb
/-- written lists -/
def EAI (c : Cc) (ρ : List Cl) (es : List Expr) (ns : List Int) : Prop := EA c ρ es (ns.map PyData.int)
def EAS (c : Cc) (ρ : List Cl) (es : List Expr) (xs : List Str) : Prop := EA c ρ es (xs.map PyData.str)
theorem eai_nil : EAI c ρ [] [] := ea_nil
theorem eai_cons {es : List Expr} (h : EV c ρ e (.int i)) (hr : EAI c ρ es ns) (hs : starEach (e :: es) c.X.env = (false, eval e c.X.env) :: starEach es c.X.env := by exact star_cons rfl) : EAI c ρ (e :: es) (i :: ns) := ea_cons h hr hs
theorem eas_nil : EAS c ρ [] [] := ea_nil
theorem eas_cons {es : List Expr} (h : EV c ρ e (.str x)) (hr : EAS c ρ es xs) (hs : starEach (e :: es) c.X.env = (false, eval e c.X.env) :: starEach es c.X.env := by exact star_cons rfl) : EAS c ρ (e :: es) (x :: xs) := ea_cons h hr hs
theorem nv_lstI {es : List Expr} (h : EAI c ρ es ns) (hl : Nat.ble ns.length 100000 = true := by rfl) : NV c ρ (.List es pos) (oL c.X.K (ns.map PyData.int)) := nv_lst h (by rw [List.length_map, sizeLine_eq]; have := Nat.le_of_ble_eq_true hl; omega)
theorem nv_lstS {es : List Expr} (h : EAS c ρ es xs) (hl : Nat.ble xs.length 100000 = true := by rfl) : NV c ρ (.List es pos) (oL c.X.K (xs.map PyData.str)) := nv_lst h (by rw [List.length_map, sizeLine_eq]; have := Nat.le_of_ble_eq_true hl; omega)
theorem ev_tupI {es : List Expr} {x1} (h : EAI c ρ es ns) (hl : Nat.ble ns.length 100000 = true := by rfl) : EV c ρ (.Tuple es x1 pos) (.tuple (ns.map PyData.int)) := ev_tup h (by rw [List.length_map, sizeLine_eq]; have := Nat.le_of_ble_eq_true hl; omega)
/-- [a, b, ..][k] of whole numbers, of texts -/
theorem ev_pickI {es : List Expr} {p2 : Pos} (ha : EAI c ρ es ns) (hb : EV c ρ b (.int k)) (h : 0 ≤ k ∧ k < (ns.length : Int)) (hl : Nat.ble ns.length 100000 = true := by rfl) (hs : PlainIx b := by exact plain_ix rfl) : EV c ρ (.Subscript (.List es p2) b pos) (.int (ns.getD k.toNat 0)) :=
  ev_ixI (bv_nv (nv_lstI ha hl)) hb h hs
theorem ev_pickS {es : List Expr} {p2 : Pos} (ha : EAS c ρ es xs) (hb : EV c ρ b (.int k)) (h : 0 ≤ k ∧ k < (xs.length : Int)) (hl : Nat.ble xs.length 100000 = true := by rfl) (hs : PlainIx b := by exact plain_ix rfl) : EV c ρ (.Subscript (.List es p2) b pos) (.str (xs.getD k.toNat Str.empty)) :=
  ev_ixSs (bv_nv (nv_lstS ha hl)) hb h hs
theorem ev_pickD {es : List Expr} {p2 : Pos} (ha : EA c ρ es ds) (hb : EV c ρ b (.int k)) (h : 0 ≤ k ∧ k < (ds.length : Int)) (hl : Nat.ble ds.length 100000 = true := by rfl) (hs : PlainIx b := by exact plain_ix rfl) : EV c ρ (.Subscript (.List es p2) b pos) (ds.getD k.toNat .none) :=
  ev_ixD (bv_nv (nv_lst ha (by rw [sizeLine_eq]; have := Nat.le_of_ble_eq_true hl; omega))) hb h hs
end
end G

/-! what the laws draw from their script: law-independent mathematics -/
namespace G
open PySem PySem.Spec PyProof.Rows L2
def lawCell (ns : List Int) (k : Int) : Int :=
  if k < (ns.length : Int) then ns.getD k.toNat 0 else if (ns.length : Int) = 0 then 7919 * k + 101 else ns.getD (k % (ns.length : Int)).toNat 0 % 1000003 + 7919 * k
def ctCell : Ct := fun cs P => ∃ (ns : List Int) (k : Int), 0 ≤ k ∧ k < 2 ^ 40 ∧ cs = [.val (intsD ns), .val (.int k)] ∧ P (.ret (.val (.int (lawCell ns k))) (uns 2))
abbrev primesL : List Int := [2147483647, 2147483629, 2147483587, 2147483579, 2147483563, 2147483549, 2147483543, 2147483497]
def prime (i : Int) : Int := primesL.getD i.toNat 0
theorem prime_ok {i : Int} (h0 : 0 ≤ i) (h8 : i < 8) : 2147483497 ≤ prime i ∧ prime i ≤ 2147483647 := by
  have h : ∀ n : Nat, n < 8 → 2147483497 ≤ primesL.getD n 0 ∧ primesL.getD n 0 ≤ 2147483647 := by decide
  exact h i.toNat (by omega)
def mash3 (cell k j : Int) : Int := (cell % prime (j % 8) * (48271 + 2 * j * j) + 7919 * (j + 1) * (j + 1) + 104729 * k) % prime ((3 * j + k) % 8)
def mashOf (cell k j : Int) : Int := mash3 cell k j * mash3 cell k j * mash3 cell k j % prime ((j + 5) % 8)
def drawRun (cell k base rest0 : Int) : Nat → List Int × Int
  | 0 => ([], rest0)
  | n + 1 => ((drawRun cell k base rest0 n).1 ++ [(if 0 < (drawRun cell k base rest0 n).2 then (drawRun cell k base rest0 n).2 else mashOf cell k (n : Int)) % base], (drawRun cell k base rest0 n).2 / base)
def lawDraws (ns : List Int) (k many base : Int) : List Int := (drawRun (lawCell ns k) k base (if 10 ^ 18 ≤ lawCell ns k then lawCell ns k else 0) many.toNat).1
theorem drawRun_len (cell k base rest0 : Int) : ∀ n : Nat, (drawRun cell k base rest0 n).1.length = n
  | 0 => rfl
  | n + 1 => by
    show (_ ++ [_]).length = n + 1
    rw [List.length_append, drawRun_len cell k base rest0 n]
    rfl
theorem drawRun_mem {cell k base rest0 : Int} (hb : 0 < base) : ∀ (n : Nat), ∀ x ∈ (drawRun cell k base rest0 n).1, 0 ≤ x ∧ x < base
  | 0, x, h => by cases h
  | n + 1, x, h => by
    have h' : x ∈ (drawRun cell k base rest0 n).1 ++ [(if 0 < (drawRun cell k base rest0 n).2 then (drawRun cell k base rest0 n).2 else mashOf cell k (n : Int)) % base] := h
    rcases List.mem_append.mp h' with h' | h'
    · exact drawRun_mem hb n x h'
    · have e := List.mem_singleton.mp h'
      rw [e]
      exact ⟨Int.emod_nonneg _ (by omega), Int.emod_lt_of_pos _ hb⟩
theorem lawDraws_len (ns : List Int) (k many base : Int) : (lawDraws ns k many base).length = many.toNat := drawRun_len ..
theorem lawDraws_mem {ns : List Int} {k many base : Int} (hb : 0 < base) : ∀ x ∈ lawDraws ns k many base, 0 ≤ x ∧ x < base := drawRun_mem hb _
theorem lawDraws_at {ns : List Int} {k many base : Int} (hb : 0 < base) (i : Nat) : 0 ≤ (lawDraws ns k many base).getD i 0 ∧ (lawDraws ns k many base).getD i 0 < base := by
  rw [List.getD_eq_getElem?_getD]
  cases h : (lawDraws ns k many base)[i]? with
  | none => exact ⟨Int.le_refl 0, hb⟩
  | some x => exact lawDraws_mem hb x (List.mem_of_getElem? h)
def ctDraws (K : PySem.W.Frag) : Ct := fun cs P => ∃ (ns : List Int) (k many base : Int), 0 ≤ k ∧ k < 100000 ∧ 0 ≤ many ∧ many < 100000 ∧ 0 < base ∧ base < 2 ^ 64 ∧ cs = [.val (intsD ns), .val (.int k), .val (.int many), .val (.int base)] ∧
  P (.ret (.own (oL K ((lawDraws ns k many base).map PyData.int))) (uns 4))

/-- a whole number and no truth -/
def whole (d : PyData) : Bool := isA "int" d && !isA "bool" d
def ctWhole : Ct := fun cs P => ∃ d : PyData, cs = [.val d] ∧ P (.ret (.val (.bool (whole d))) (uns 1))
end G

namespace G
open PySem PySem.Spec PyProof.Rows L2
/-! ### parts of a slice -/
def wpO (X : Cx) (e : Option Expr) : TO := fun σ H Q => ∀ pins s, Inv X pins σ H s → wpAny (model X.prog X.w) X.A (evalPart e X.env) (fun u s' => ∃ o H', Inv X pins σ H' s' ∧ IsPart u o ∧ Q o H') X.xe s
theorem po_wp {X : Cx} {e : Option Expr} : PO X e (wpO X e) := ⟨fun pins s _ _ _ I h => h pins s I⟩
structure OV (c : Cc) (ρ : List Cl) (e : Option Expr) (o : Option Int) : Prop where
  run : ∀ σ F H, c.H ρ σ F H → ∀ Q : Option Int → Hp → Prop, (∀ F' H', Gw F H F' H' → Q o H') → wpO c.X e σ H Q
section
variable {c : Cc} {ρ : List Cl} {a b e : Expr} {lo hi : Option Expr} {l h : Option Int} {i j k : Int} {pos p p2 : Pos} {d : PyData} {ds es : List PyData} {x y : Str} {xs : List Str} {P : Out → Prop}
theorem ov_none : OV c ρ none none := ⟨fun σ F H hh Q q pins s I => (po_none (X := c.X)).run pins s σ H Q I (q F H (Gw.refl hh.fr.fh))⟩
theorem ov_some (he : EV c ρ e (.int i)) : OV c ρ (some e) (some i) := ⟨fun σ F H hh Q q pins s I => (po_some pe_wp).run pins s σ H Q I (he.run σ F H hh _ fun v F1 H1 g1 b1 => ⟨i, b1.int_inv, q F1 H1 g1⟩)⟩
/-- a piece of a list -/
def cutL {α : Type} (ds : List α) (l h : Option Int) : List α := (ds.drop (HT.sIx ds.length 0 l)).take (HT.sIx ds.length ds.length h - HT.sIx ds.length 0 l)
abbrev cutD (ds : List PyData) (l h : Option Int) : List PyData := cutL ds l h
theorem cut_map {α β : Type} (f : α → β) (xs : List α) (l h : Option Int) : cutL (xs.map f) l h = (cutL xs l h).map f := by
  unfold cutL
  rw [List.length_map, List.map_take, List.map_drop]
theorem cut_len {α : Type} (xs : List α) (l h : Option Int) : (cutL xs l h).length ≤ xs.length := by
  unfold cutL
  rw [List.length_take, List.length_drop]
  omega
theorem cut_mem {α : Type} {xs : List α} {l h : Option Int} {a : α} (m : a ∈ cutL xs l h) : a ∈ xs := List.mem_of_mem_drop (List.mem_of_mem_take m)
theorem cut_all {K : PySem.W.Frag} {F : Hp} {vs : List V} {ds : List PyData} (h : DpAll K F vs ds) (l u : Option Int) : DpAll K F (cutV vs l u) (cutD ds l u) := by
  unfold cutV cutD cutL
  rw [h.len]
  exact (h.drop _).take _
theorem nv_slL (ha : BV c ρ a (.list ds)) (hl : OV c ρ lo l) (hh : OV c ρ hi h) : NV c ρ (.Subscript a (.Slice lo hi none p2) pos) (oL c.X.K (cutD ds l h)) := ⟨fun σ F H hd Q q =>
  wpE_of (pe_slice sl_list pe_wp po_wp po_wp) (ha.run σ F H hd _ fun v F1 H1 g1 b1 => hl.run σ F1 H1 (hd.grow g1) _ fun F2 H2 g2 => hh.run σ F2 H2 (hd.grow (g1.trans g2)) _ fun F3 H3 g3 => by
    obtain ⟨z, vs, e1, h1, h2⟩ := (b1.grow (g2.trans g3)).list_inv g3.fh
    have gg := (g1.trans g2).trans g3
    refine ⟨z, vs, e1, h1, fun p hp => q (.ref p) F3 _ [p] (gg.trans (Gw.own g3.fh hp)) ⟨p, _, rfl, rfl, upd_same, cut_all h2 l h⟩ fun b hb => ?_⟩
    have e : b = p := by simpa using hb
    subst e
    exact ⟨same_none gg.hh hp, same_none g3.fh hp⟩)⟩
theorem nv_slI {ns : List Int} (ha : BV c ρ a (intsD ns)) (hl : OV c ρ lo l) (hh : OV c ρ hi h) : NV c ρ (.Subscript a (.Slice lo hi none p2) pos) (oL c.X.K ((cutL ns l h).map PyData.int)) := by
  rw [← cut_map]
  exact nv_slL ha hl hh
theorem nv_slT (ha : BV c ρ a (strsD xs)) (hl : OV c ρ lo l) (hh : OV c ρ hi h) : NV c ρ (.Subscript a (.Slice lo hi none p2) pos) (oL c.X.K ((cutL xs l h).map PyData.str)) := by
  rw [← cut_map]
  exact nv_slL ha hl hh
theorem ev_slS (ha : EV c ρ a (.str x)) (hl : OV c ρ lo l) (hh : OV c ρ hi h) (hx : x.length ≤ 1000000) : EV c ρ (.Subscript a (.Slice lo hi none p2) pos) (.str (cutS x l h)) := ⟨fun σ F H hd Q q =>
  wpE_of (pe_slice sl_str pe_wp po_wp po_wp) (ha.run σ F H hd _ fun v F1 H1 g1 b1 => hl.run σ F1 H1 (hd.grow g1) _ fun F2 H2 g2 => hh.run σ F2 H2 (hd.grow (g1.trans g2)) _ fun F3 H3 g3 =>
    ⟨x, b1.str_inv, line_le hx, q _ F3 H3 ((g1.trans g2).trans g3) (.str _)⟩)⟩
/-! ### texts -/
theorem ev_addS (ha : EV c ρ a (.str x)) (hb : EV c ρ b (.str y)) (h : x.length + y.length ≤ 1000000) : EV c ρ (.BinOp a .Add b pos) (.str (x ++ y)) :=
  ev_bin op_add_str (bv_ev ha) (bv_ev hb) (opb_now fun F H u v _ hx hy Q q => ⟨x, y, hx.str_inv, hy.str_inv, line_le h, q _ (.str _)⟩)
theorem ev_inC {n : Nat} (ha : EV c ρ a (.str ⟨#[n]⟩)) (hb : EV c ρ b (.str y)) (hm : behindInMarks .In b = false := by first | exact nomark _ | rfl) : EV c ρ (.Compare a [.In] [b] pos) (.bool (decide (n ∈ y.cps.toList))) :=
  ev_cmp op_in_sign (bv_ev ha) (bv_ev hb) (opb_now fun F H u v _ hx hy Q q => ⟨n, y, hx.str_inv, hy.str_inv, q _ (.bl _)⟩) hm
theorem tv_inC {n : Nat} (ha : EV c ρ a (.str ⟨#[n]⟩)) (hb : EV c ρ b (.str y)) (hm : behindInMarks .In b = false := by first | exact nomark _ | rfl) : TV c ρ (.Compare a [.In] [b] pos) (decide (n ∈ y.cps.toList)) :=
  tv_cmp op_in_sign (bv_ev ha) (bv_ev hb) (opb_now fun F H u v _ hx hy Q q => ⟨n, y, hx.str_inv, hy.str_inv, q _ (.bl _)⟩) hm
/-! is None -/
def isNone : PyData → Bool
  | .none => true
  | _ => false
theorem bo_none {K : PySem.W.Frag} {F H : Hp} {v : V} (hv : Bo K F H v d) : decide (v = V.non) = isNone d := by
  rcases hv with hv | ⟨q, vs, ds, e1, e2, _⟩
  · cases hv <;> rfl
  · subst e1 e2
    rfl
theorem tv_isNone {j} {p3 : Pos} (ha : BV c ρ a d) : TV c ρ (.Compare a [.Is] [.Constant .none j p3] pos) (isNone d) :=
  tv_cmp op_isN ha (bv_ev ev_none) (opb_now fun F H u v _ hx hy Q q => ⟨hy.none_inv, by rw [bo_none hx]; exact q _ (.bl _)⟩)
theorem tv_notNone {j} {p3 : Pos} (ha : BV c ρ a d) : TV c ρ (.Compare a [.IsNot] [.Constant .none j p3] pos) (!isNone d) :=
  tv_cmp op_notN ha (bv_ev ev_none) (opb_now fun F H u v _ hx hy Q q => ⟨hy.none_inv, by rw [bo_none hx]; exact q _ (.bl _)⟩)
/-! ### deep likeness -/
theorem opb_eqD (h1 : SeqAt.shaped d = true) {d2 : PyData} (h2 : SeqAt.shaped d2 = true) {K : PySem.W.Frag} : OpB K (rEqD K) d d2 (.bool (PyData.eqv d d2)) :=
  opb_now fun F H u v s hx hy Q q => ⟨d, d2, hx.dp s, hy.dp s, h1, h2, q _ (.bl _)⟩
theorem opb_neD (h1 : SeqAt.shaped d = true) {d2 : PyData} (h2 : SeqAt.shaped d2 = true) {K : PySem.W.Frag} : OpB K (rNeD K) d d2 (.bool (!PyData.eqv d d2)) :=
  opb_now fun F H u v s hx hy Q q => ⟨d, d2, hx.dp s, hy.dp s, h1, h2, q _ (.bl _)⟩
theorem tv_eqD {d2 : PyData} {n : Nat} (hr : Room n c.X.A) (ha : BV c ρ a d) (hb : BV c ρ b d2) (h1 : SeqAt.shaped d = true) (h2 : SeqAt.shaped d2 = true) : TV c ρ (.Compare a [.Eq] [b] pos) (PyData.eqv d d2) :=
  tv_cmp (op_eqD (by have := hr.un; omega)) ha hb (opb_eqD h1 h2)
theorem tv_neD {d2 : PyData} {n : Nat} (hr : Room n c.X.A) (ha : BV c ρ a d) (hb : BV c ρ b d2) (h1 : SeqAt.shaped d = true) (h2 : SeqAt.shaped d2 = true) : TV c ρ (.Compare a [.NotEq] [b] pos) (!PyData.eqv d d2) :=
  tv_cmp (op_neD (by have := hr.un; omega)) ha hb (opb_neD h1 h2)
theorem ev_eqD {d2 : PyData} {n : Nat} (hr : Room n c.X.A) (ha : BV c ρ a d) (hb : BV c ρ b d2) (h1 : SeqAt.shaped d = true) (h2 : SeqAt.shaped d2 = true) : EV c ρ (.Compare a [.Eq] [b] pos) (.bool (PyData.eqv d d2)) :=
  ev_cmp (op_eqD (by have := hr.un; omega)) ha hb (opb_eqD h1 h2)
theorem ev_neD {d2 : PyData} {n : Nat} (hr : Room n c.X.A) (ha : BV c ρ a d) (hb : BV c ρ b d2) (h1 : SeqAt.shaped d = true) (h2 : SeqAt.shaped d2 = true) : EV c ρ (.Compare a [.NotEq] [b] pos) (.bool (!PyData.eqv d d2)) :=
  ev_cmp (op_neD (by have := hr.un; omega)) ha hb (opb_neD h1 h2)
/-! ### lists: a + b, [..] * n, list(x), sum -/
theorem op_catL {X : Cx} : OpR X (binaryOp .Add) (fun x y H Q => ∃ l b xs zs, x = .ref l ∧ y = .ref b ∧ SqL X.K H l xs ∧ SqL X.K H b zs ∧ xs.length + zs.length ≤ sizeLine ∧ ∀ p, H p = none → Q (.ref p) (upd H p (.lst (xs ++ zs)))) := by
  intro pins s σ H x y v u Q I rx ry h
  obtain ⟨l, b, xs, zs, rfl, rfl, hH, hB, hz, q⟩ := h
  cases rx
  cases ry
  obtain ⟨its, r, pl, _⟩ := I.list hH
  obtain ⟨its2, r2, pl2, _⟩ := I.list hB
  have l1 := r.length
  have l2 := r2.length
  obtain ⟨⟨cls, dd, data, sl⟩, ho, hc, n, hd⟩ := pl.isList
  obtain ⟨⟨cls2, dd2, data2, sl2⟩, ho2, hc2, n2, hd2⟩ := pl2.isList
  simp only at hc hd hc2 hd2
  subst hc hd hc2 hd2
  refine concat_meets ⟨_, ho, rfl⟩ ⟨_, ho2, rfl⟩ noFill_list_add seq_list_add PySem.F.slot_list_add PySem.F.entry_list_add (PySem.F.args_list_add_2 _ _) (list_addW l b its.toArray its2.toArray n n2 dd dd2 sl sl2 (by rw [List.size_toArray, List.size_toArray]; omega)) ⟨ho, ho2, ?_⟩
  have e : its.toArray ++ its2.toArray = (its ++ its2).toArray := by simp
  rw [e]
  refine ⟨.ref s.heap.objs.size, _, I.laid (t' := s.toks) (fun b o e => Heap.get?_push_of_some _ e) (Nat.le_refl _) (show ObjOk X.prog X.w _ _ _ (.lst (xs ++ zs)) from ⟨by rw [List.length_append]; exact hz, its ++ its2, 0, r.append r2, Heap.get?_push_size _ rfl⟩), rfl, q _ (I.hok.fresh (Nat.le_refl _))⟩
theorem own_new {K : PySem.W.Frag} {F H : Hp} {p : Addr} {vs : List V} {Q : VK} (s : Same F H) (hp : H p = none) (h : DpAll K F vs ds)
    (q : ∀ v F' H' fc, Gw F H F' H' → (oL K ds).at_ F' H' fc v → (∀ b ∈ fc, H b = none ∧ F' b = none) → Q v H') : Q (.ref p) (upd H p (.lst vs)) :=
  q (.ref p) F _ [p] (Gw.own s hp) ⟨p, vs, rfl, rfl, upd_same, h⟩ fun b hb => by
    have e : b = p := by simpa using hb
    subst e
    exact ⟨hp, same_none s hp⟩
theorem nv_catL (ha : BV c ρ a (.list ds)) (hb : BV c ρ b (.list es)) (h : ds.length + es.length ≤ 1000000) : NV c ρ (.BinOp a .Add b pos) (oL c.X.K (ds ++ es)) :=
  nv_bin op_catL ha hb fun F H x y s hx hy Q q => by
    obtain ⟨l, vs, e1, h1, h2⟩ := hx.list_inv s
    obtain ⟨m, us, e3, h3, h4⟩ := hy.list_inv s
    exact ⟨l, m, vs, us, e1, e3, h1, h3, by rw [h2.len, h4.len]; exact line_le h, fun p hp => own_new s hp (h2.app h4) q⟩
theorem rep_all {K : PySem.W.Frag} {F : Hp} {vs : List V} (h : DpAll K F vs ds) : ∀ n : Nat, DpAll K F (List.replicate n vs).flatten (List.replicate n ds).flatten
  | 0 => .nil
  | n + 1 => by
    rw [List.replicate_succ, List.replicate_succ, List.flatten_cons, List.flatten_cons]
    exact h.app (rep_all h n)
theorem nv_rep (ha : NV c ρ a (oL c.X.K ds)) (hb : EV c ρ b (.int k)) (h : -(2 ^ 63) ≤ k ∧ k < 2 ^ 63 ∧ ds.length * k.toNat ≤ 1000000) : NV c ρ (.BinOp a .Mult b pos) (oL c.X.K (List.replicate k.toNat ds).flatten) := ⟨fun σ F H hh Q q =>
  wpE_of (pe_op op_rep pe_wp pe_wp) (ha.run σ F H hh _ fun v F1 H1 fc g1 b1 n1 => hb.run σ F1 H1 (hh.grow g1) _ fun u F2 H2 g2 b2 => by
    obtain ⟨l, vs, e1, e2, h1, h2⟩ := b1
    refine ⟨l, k, vs, e1, b2.int_inv, g2.hh _ _ h1, h.1, h.2.1, by rw [h2.len]; exact line_le h.2.2, fun p hp => ?_⟩
    exact own_new g2.fh hp (rep_all (dpall_mono g2.ff _ _ h2) _) fun v F' H' fc g3 b3 n3 => q v F' H' fc ((g1.trans g2).trans g3) b3 fun b hb => ⟨same_none (g1.trans g2).hh (n3 b hb).1, (n3 b hb).2⟩)⟩
theorem nv_repS {p1 : Pos} {j} (hb : EV c ρ b (.int k)) (h : 0 ≤ k ∧ k ≤ 100000) : NV c ρ (.BinOp (.List [.Constant (.str x) j p1] p) .Mult b pos) (oL c.X.K ((List.replicate k.toNat x).map PyData.str)) := by
  have q := nv_rep (pos := pos) (nv_lst (c := c) (ρ := ρ) (pos := p) (ea_cons (ev_str (x := x) (j := j) (pos := p1)) ea_nil) (by rw [sizeLine_eq]; simp)) hb ⟨by omega, by omega, by simp; omega⟩
  rw [show (List.replicate k.toNat [PyData.str x]).flatten = (List.replicate k.toNat x).map PyData.str by simp] at q
  exact q
theorem nv_repI {p1 : Pos} {j} (hb : EV c ρ b (.int k)) (h : 0 ≤ k ∧ k ≤ 100000) : NV c ρ (.BinOp (.List [.Constant (.int i) j p1] p) .Mult b pos) (oL c.X.K ((List.replicate k.toNat i).map PyData.int)) := by
  have q := nv_rep (pos := pos) (nv_lst (c := c) (ρ := ρ) (pos := p) (ea_cons (ev_int (i := i) (j := j) (pos := p1)) ea_nil) (by rw [sizeLine_eq]; simp)) hb ⟨by omega, by omega, by simp; omega⟩
  rw [show (List.replicate k.toNat [PyData.int i]).flatten = (List.replicate k.toNat i).map PyData.int by simp] at q
  exact q
theorem nv_listL (hm : c.X.mg "list" = none) (ha : BV c ρ a (.list ds)) (hg : Gl c.X "list" := by rfl) (hs : starEach [a] c.X.env = (false, eval a c.X.env) :: starEach [] c.X.env := by exact star_cons rfl) : NV c ρ (.Call (.Name "list" p) [a] [] pos) (oL c.X.K ds) :=
  nv_callTy call_list_of hm (ba_cons ha ba_nil hs) (fun F H xs s h Q q => by
    obtain ⟨v, e, hv⟩ := h.inv1
    obtain ⟨z, vs, e1, h1, h2⟩ := hv.list_inv s
    exact ⟨z, vs, by rw [e, e1], .inl h1, fun l hl => own_new s hl h2 q⟩) hg (by decide +kernel) (by decide) (by decide) hs
theorem dpall_ints_inv {K : PySem.W.Frag} {F : Hp} : ∀ {vs : List V} {ns : List Int}, DpAll K F vs (ns.map PyData.int) → vs = ns.map V.int
  | [], [], _ => rfl
  | [], n :: ns, h => by cases h
  | v :: vs, [], h => by cases h
  | v :: vs, n :: ns, h => by
    cases h with
    | cons h1 h2 => rw [h1.int_inv, dpall_ints_inv h2]; rfl
theorem dpall_strs_inv {K : PySem.W.Frag} {F : Hp} : ∀ {vs : List V} {xs : List Str}, DpAll K F vs (xs.map PyData.str) → vs = xs.map V.str
  | [], [], _ => rfl
  | [], n :: ns, h => by cases h
  | v :: vs, [], h => by cases h
  | v :: vs, n :: ns, h => by
    cases h with
    | cons h1 h2 => rw [h1.str_inv, dpall_strs_inv h2]; rfl
theorem ev_sum {ns : List Int} (hc : c.X.calm = true) (hm : c.X.mg "sum" = none) (ha : BV c ρ a (intsD ns)) (hg : Gl c.X "sum" := by rfl) (hs : starEach [a] c.X.env = (false, eval a c.X.env) :: starEach [] c.X.env := by exact star_cons rfl) : EV c ρ (.Call (.Name "sum" p) [a] [] pos) (.int ns.sum) :=
  ev_callB (cr_sum hc) hm (ba_cons ha ba_nil hs) (fun F H xs s h Q q => by
    obtain ⟨v, e, hv⟩ := h.inv1
    obtain ⟨z, vs, e1, h1, h2⟩ := hv.list_inv s
    refine ⟨z, ns, by rw [e, e1], ?_, q _ F H (Gw.refl s) (.int _)⟩
    rw [← dpall_ints_inv h2]
    exact h1) hg (by decide +kernel) (by decide) (by decide) hs
/-! ### methods of a text -/
theorem tyS {K : PySem.W.Frag} {z : Str} {H : Hp} : tyV K "str" (.str z) H := rfl
theorem ev_join {apos : Pos} (ho : EV c ρ a (.str x)) (he : BV c ρ e (strsD xs)) (h : (xs.map (·.length)).sum + xs.length * x.length ≤ 1000000) (hs : starEach [e] c.X.env = [(false, eval e c.X.env)] := by exact star1 rfl)
    (hbase : attributeBase a "join" c.X.env (eval a c.X.env) = eval a c.X.env := by rfl) (hline : (apos.endLine == pos.line) = true := by rfl) : EV c ρ (.Call (.Attribute a "join" apos) [e] [] pos) (.str (Str.join x xs)) := ⟨fun σ F H hh Q q =>
  wpE_of (pe_m1 PySem.F.slot_str_join PySem.F.type_str_join mt_join pe_wp pe_wp hs hbase hline) (ho.run σ F H hh _ fun v F1 H1 g1 b1 => ⟨⟨x, b1.str_inv⟩, he.run σ F1 H1 (hh.grow g1) _ fun u F2 H2 g2 b2 => by
    obtain ⟨z, vs, e1, h1, h2⟩ := b2.list_inv g2.fh
    refine ⟨x, z, xs, b1.str_inv, by rw [e1], .inl ?_, by omega, by rw [TL.join_eq]; exact q _ F2 H2 (g1.trans g2) (.str _)⟩
    rw [← dpall_strs_inv h2]
    exact h1⟩)⟩
end
end G

namespace G
open PySem PySem.Spec PyProof.Rows L2
/-! ### a list of one's own, written -/
section
variable {K : PySem.W.Frag} {F0 Kp F H F1 H1 : Hp} {ρ : List Cl} {σ : L2.St} {l : Nat} {ds ds' : List PyData} {p : Addr} {vs us : List V}
theorem Hold.own (hh : Hold K F0 Kp ρ σ F H) (h1 : ρ[l]? = some (.own (oL K ds))) : ∃ p vs, σ[l]? = some (some (.ref p)) ∧ H p = some (.lst vs) ∧ DpAll K F vs ds ∧ F p = none ∧ Kp p = none := by
  obtain ⟨fr, len, fp, ee⟩ := id hh
  have hl := (List.getElem?_eq_some_iff.mp h1).1
  have h2 : l < σ.length := by omega
  obtain ⟨v, ev, p, vs, e1, e2, h3, h4⟩ := ee.at_ l _ _ h1 (List.getElem?_eq_getElem h2)
  subst e1
  have hp := ee.out l p (by rw [e2]; simp)
  exact ⟨p, vs, by rw [List.getElem?_eq_getElem h2, ev], h3, h4, hp.1, hp.2⟩
theorem Hold.put (hh : Hold K F0 Kp ρ σ F H) (h1 : ρ[l]? = some (.own (oL K ds))) (hσ : σ[l]? = some (some (.ref p))) (hF : F p = none) (hK : Kp p = none) (hd : DpAll K F us ds') :
    Hold K F0 Kp (ρ.set l (.own (oL K ds'))) σ F (upd H p (.lst us)) := by
  have hfr : Fr F0 Kp F (upd H p (.lst us)) := ⟨hh.fr.ff, same_upd2 hh.fr.fh hF, same_upd2 hh.fr.kh hK, hh.fr.new⟩
  have hh2 : Hold K F0 Kp (ρ.set l (.own (oL K ds'))) (σ.set l (some (.ref p))) F (upd H p (.lst us)) := hh.swap h1 hfr (Same.refl _) fun fp' ov hF' ho hc => by
    obtain ⟨v', ev', p', vs', e1', e2', h3', h4'⟩ := hc
    have eo : ov = some (.ref p) := by
      rw [hσ] at ho
      exact (Option.some.inj ho).symm
    subst eo
    cases ev'
    cases e1'
    refine ⟨[p], ⟨_, rfl, p, _, rfl, rfl, upd_same, hd⟩, fun b hb => ?_, fun b hb => .inl (by rw [e2']; exact hb), fun j hj b hb => ⟨?_, (hF'.out j b hb).1⟩⟩
    · have e : b = p := by simpa using hb
      subst e
      exact ⟨hF, hK⟩
    · have hne : b ≠ p := fun e => hF'.dis j l hj b hb (by rw [e2', e]; simp)
      rw [upd_ne hne]
  have eσ : σ.set l (some (.ref p)) = σ := set_self hσ
  rw [eσ] at hh2
  exact hh2
end
theorem get_listG {X : Cx} : PGet X (fun o i H Q => ∃ a xs k z, o = .ref a ∧ i = .int k ∧ SqL X.K H a xs ∧ 0 ≤ k ∧ xs[k.toNat]? = some z ∧ Q z H) := by
  intro pins s σ H o i ov iv Q I ro ri h
  obtain ⟨a, xs, k, z, rfl, rfl, hq, h0, hz, q⟩ := h
  cases ro
  obtain ⟨t, rfl⟩ := ri
  obtain ⟨its, r, pl, hl⟩ := I.list hq
  obtain ⟨w, hw, rw'⟩ := r.get hz
  have hlt := (List.getElem?_eq_some_iff.mp hz).1
  have hn := line63
  exact wpAny_getItem_list pl.isList h0 (by omega) (by simpa using hw) ⟨z, H, I, rw', q⟩
theorem ixN_of {n : Nat} {k : Int} (h : 0 ≤ k ∧ k < (n : Int)) : ixN n k = some k.toNat := by
  unfold ixN
  rw [if_pos h.1, if_pos h.2]
theorem map_set {α : Type} {f : α → PyData} {xs : List α} {k : Nat} {a : α} : (xs.map f).set k (f a) = (xs.set k a).map f := by rw [List.map_set]
section
variable {c : Cc} {ρ : List Cl} {a b e ix : Expr} {i j k : Int} {pos p p2 tp : Pos} {d d2 : PyData} {ds es : List PyData} {x y : Str} {xs : List Str} {ns : List Int} {P : Out → Prop} {l : Nat} {xn : Str} {pn : Pos}
/-- xs[k] = e -/
theorem s1_setIx (h1 : ρ[l]? = some (.own (oL c.X.K ds))) (he : EV c ρ e d) (hi : EV c ρ ix (.int k)) (hk : 0 ≤ k ∧ k < (ds.length : Int)) (h : P (.next (ρ.set l (.own (oL c.X.K (ds.set k.toNat d)))))) (hN : c.X.N[l]? = some xn := by rfl)
    (hv : Vis c.X.env.scope xn := by first | exact Or.inl rfl | exact Or.inr (Or.inl rfl) | exact Or.inr (Or.inr rfl)) (hd : (xn == ("__debug__" : Str)) = false := by decide) (hcd : (xn == ("__classdict__" : Str)) = false := by decide)
    (hs : swapsWithSole [.Subscript (.Name xn pn) ix tp] e pos.line c.X.env = pure false := by exact swaps_sole rfl)
    (hg : PG c.X (.Subscript (.Name xn pn) ix tp) (gSub (tVar l) (wpE c.X ix) rSetL) := by exact pg_sub (pv _) pe_wp set_list)
    (hw : swappedStores [.Subscript (.Name xn pn) ix tp] e c.X.env = pure none := by rfl) (ha1 : (assignEach [.Subscript (.Name xn pn) ix tp] c.X.env).map (·.2) = [assign (.Subscript (.Name xn pn) ix tp) c.X.env] := by rfl) :
    S1 c ρ (.Assign [.Subscript (.Name xn pn) ix tp] e pos) P := ⟨fun σ F H D hh q => by
  refine wpS_of (ps_asg pe_wp hg hs hw ha1) (he.run σ F H hh _ fun u F1 H1 g1 b1 => ?_)
  have hh1 := hh.grow g1
  obtain ⟨pp, vs, hσ, _, _, _, _⟩ := hh1.own h1
  refine ⟨.ref pp, hσ, hi.run σ F1 H1 hh1 _ fun z F2 H2 g2 b2 => ?_⟩
  have hh2 := hh1.grow g2
  obtain ⟨pp', vs, hσ', h3, h4, h5, h6⟩ := hh2.own h1
  have ep : pp' = pp := by rw [hσ] at hσ'; cases hσ'; rfl
  subst ep
  refine ⟨pp', vs, k, k.toNat, rfl, b2.int_inv, h3, by rw [h4.len]; exact ixN_of hk, ?_⟩
  exact q _ h σ F2 _ (g1.trans g2).ff (hh2.put h1 hσ h5 h6 (h4.set (dp_mono g2.ff _ _ b1)))⟩
/-- xs[k] op= e -/
theorem s1_augIx {op : Operator} {r : R2} (h1 : ρ[l]? = some (.own (oL c.X.K ds))) (hi : EV c ρ ix (.int k)) (hk : 0 ≤ k ∧ k < (ds.length : Int)) {d0 : PyData} (hd0 : ds[k.toNat]? = some d0) (he : EV c ρ e d) (ho : OpR c.X (inplaceOp op) r) (hr : OpB c.X.K r d0 d d2)
    (h : P (.next (ρ.set l (.own (oL c.X.K (ds.set k.toNat d2)))))) (hN : c.X.N[l]? = some xn := by rfl)
    (hv : Vis c.X.env.scope xn := by first | exact Or.inl rfl | exact Or.inr (Or.inl rfl) | exact Or.inr (Or.inr rfl)) (hd : (xn == ("__debug__" : Str)) = false := by decide) (hcd : (xn == ("__classdict__" : Str)) = false := by decide)
    (ha : ∀ ov iv new, augStore ix ov iv new = (do holding [new, ov, iv] (setItem ov iv new); release [new, ov, iv] []; pure .next) := by intros; rfl) :
    S1 c ρ (.AugAssign (.Subscript (.Name xn pn) ix tp) op e pos) P := ⟨fun σ F H D hh q => by
  refine wpS_of (ps_augS (pv l hN hv hd hcd) pe_wp get_listG pe_wp (fun pins s σ H x y v u Q I r1 r2 h => ho pins s σ H x y v u Q I r1 r2 h) set_list ha) ?_
  obtain ⟨pp, vs, hσ, h3, h4, h5, h6⟩ := hh.own h1
  refine ⟨.ref pp, hσ, hi.run σ F H hh _ fun z F1 H1 g1 b1 => ?_⟩
  have hh1 := hh.grow g1
  obtain ⟨v0, hv0, hv0d⟩ := h4.get hd0
  refine ⟨pp, vs, k, v0, rfl, b1.int_inv, .of (g1.hh _ _ h3), hk.1, hv0, he.run σ F1 H1 hh1 _ fun u F2 H2 g2 b2 => ?_⟩
  refine hr F2 H2 v0 u g2.fh (.inl (dp_mono (g1.trans g2).ff _ _ hv0d)) (.inl b2) _ fun w F3 H3 g3 b3 => ?_
  have hh3 := hh.grow ((g1.trans g2).trans g3)
  obtain ⟨pp', vs', hσ', h3', h4', h5', h6'⟩ := hh3.own h1
  have ep : pp' = pp := by rw [hσ] at hσ'; cases hσ'; rfl
  subst ep
  refine ⟨pp', vs', k, k.toNat, rfl, b1.int_inv, h3', by rw [h4'.len]; exact ixN_of hk, ?_⟩
  exact q _ h σ F3 _ ((g1.trans g2).trans g3).ff (hh3.put h1 hσ h5' h6' (h4'.set b3))⟩
theorem getD_at {α : Type} {f : α → PyData} {xs : List α} {k : Int} {z : α} (hk : 0 ≤ k ∧ k < (xs.length : Int)) : (xs.map f)[k.toNat]? = some (f (xs.getD k.toNat z)) := by
  rw [List.getElem?_map, List.getD_eq_getElem?_getD]
  have hl : k.toNat < xs.length := by omega
  rw [List.getElem?_eq_getElem hl]
  rfl
/-- ns[k] += i ; xs[k] += text -/
theorem s1_augI (h1 : ρ[l]? = some (.own (oL c.X.K (ns.map PyData.int)))) (hi : EV c ρ ix (.int k)) (he : EV c ρ e (.int i)) (hk : 0 ≤ k ∧ k < (ns.length : Int)) (h : P (.next (ρ.set l (.own (oL c.X.K ((ns.set k.toNat (ns.getD k.toNat 0 + i)).map PyData.int)))))) (hN : c.X.N[l]? = some xn := by rfl)
    (hv : Vis c.X.env.scope xn := by first | exact Or.inl rfl | exact Or.inr (Or.inl rfl) | exact Or.inr (Or.inr rfl)) (hd : (xn == ("__debug__" : Str)) = false := by decide) (hcd : (xn == ("__classdict__" : Str)) = false := by decide)
    (ha : ∀ ov iv new, augStore ix ov iv new = (do holding [new, ov, iv] (setItem ov iv new); release [new, ov, iv] []; pure .next) := by intros; rfl) :
    S1 c ρ (.AugAssign (.Subscript (.Name xn pn) ix tp) .Add e pos) P :=
  s1_augIx h1 hi (by rw [List.length_map]; exact hk) (getD_at (z := 0) hk) he iop_add (opb_I0 (g := fun i j => i + j)) (by rw [map_set]; exact h) hN hv hd hcd ha
theorem s1_augT (h1 : ρ[l]? = some (.own (oL c.X.K (xs.map PyData.str)))) (hi : EV c ρ ix (.int k)) (he : EV c ρ e (.str x)) (hk : 0 ≤ k ∧ k < (xs.length : Int)) (hx : (xs.getD k.toNat Str.empty).length + x.length ≤ 1000000)
    (h : P (.next (ρ.set l (.own (oL c.X.K ((xs.set k.toNat (xs.getD k.toNat Str.empty ++ x)).map PyData.str)))))) (hN : c.X.N[l]? = some xn := by rfl)
    (hv : Vis c.X.env.scope xn := by first | exact Or.inl rfl | exact Or.inr (Or.inl rfl) | exact Or.inr (Or.inr rfl)) (hd : (xn == ("__debug__" : Str)) = false := by decide) (hcd : (xn == ("__classdict__" : Str)) = false := by decide)
    (ha : ∀ ov iv new, augStore ix ov iv new = (do holding [new, ov, iv] (setItem ov iv new); release [new, ov, iv] []; pure .next) := by intros; rfl) :
    S1 c ρ (.AugAssign (.Subscript (.Name xn pn) ix tp) .Add e pos) P :=
  s1_augIx h1 hi (by rw [List.length_map]; exact hk) (getD_at (z := Str.empty) hk) he iop_add_str (opb_now fun F H u v _ hx' hy Q q => ⟨_, _, hx'.str_inv, hy.str_inv, line_le hx, q _ (.str _)⟩) (by rw [map_set]; exact h) hN hv hd hcd ha
theorem s1_setT (h1 : ρ[l]? = some (.own (oL c.X.K (xs.map PyData.str)))) (he : EV c ρ e (.str x)) (hi : EV c ρ ix (.int k)) (hk : 0 ≤ k ∧ k < (xs.length : Int)) (h : P (.next (ρ.set l (.own (oL c.X.K ((xs.set k.toNat x).map PyData.str)))))) (hN : c.X.N[l]? = some xn := by rfl)
    (hv : Vis c.X.env.scope xn := by first | exact Or.inl rfl | exact Or.inr (Or.inl rfl) | exact Or.inr (Or.inr rfl)) (hd : (xn == ("__debug__" : Str)) = false := by decide) (hcd : (xn == ("__classdict__" : Str)) = false := by decide)
    (hs : swapsWithSole [.Subscript (.Name xn pn) ix tp] e pos.line c.X.env = pure false := by exact swaps_sole rfl)
    (hg : PG c.X (.Subscript (.Name xn pn) ix tp) (gSub (tVar l) (wpE c.X ix) rSetL) := by exact pg_sub (pv _) pe_wp set_list)
    (hw : swappedStores [.Subscript (.Name xn pn) ix tp] e c.X.env = pure none := by rfl) (ha1 : (assignEach [.Subscript (.Name xn pn) ix tp] c.X.env).map (·.2) = [assign (.Subscript (.Name xn pn) ix tp) c.X.env] := by rfl) :
    S1 c ρ (.Assign [.Subscript (.Name xn pn) ix tp] e pos) P :=
  s1_setIx h1 he hi (by rw [List.length_map]; exact hk) (by rw [map_set]; exact h) hN hv hd hcd hs hg hw ha1
/-- name += e, of texts, of whole numbers -/
theorem s1_augS {n : Nat} {p' : Pos} (h1 : ρ[n]? = some (.val (.str x))) (hN' : c.X.N.Nodup) (he : EV c ρ e (.str y)) (hl : x.length + y.length ≤ 1000000) (h : P (.next (ρ.set n (.val (.str (x ++ y)))))) (hi : c.X.N[n]? = some xn := by rfl)
    (hx : Loc c.X.env.scope xn := by first | exact Or.inl rfl | exact Or.inr rfl) (hf : c.X.fn xn = true ∨ c.X.env.scope.names.lookup xn = some .local := by first | exact .inl rfl | exact .inr rfl | assumption) : S1 c ρ (.AugAssign (.Name xn p') .Add e pos) P :=
  s1_aug hN' (ti := fun x y H Q => ∃ i j, x = .str i ∧ y = .str j ∧ i.length + j.length ≤ sizeLine ∧ Q (.str (i ++ j)) H) (fun pins s σ H x y v u Q I r1 r2 h => iop_add_str pins s σ H x y v u Q I r1 r2 h) he (fun F H u v s hx' hy Q q => ⟨x, y, hx'.str_inv, hy.str_inv, line_le hl, q _ F H (Gw.refl s) (.str _)⟩) h h1 hi hx hf
theorem s1_augN {n : Nat} {p' : Pos} (h1 : ρ[n]? = some (.val (.int i))) (hN' : c.X.N.Nodup) (he : EV c ρ e (.int j)) (h : P (.next (ρ.set n (.val (.int (i + j)))))) (hi : c.X.N[n]? = some xn := by rfl)
    (hx : Loc c.X.env.scope xn := by first | exact Or.inl rfl | exact Or.inr rfl) (hf : c.X.fn xn = true ∨ c.X.env.scope.names.lookup xn = some .local := by first | exact .inl rfl | exact .inr rfl | assumption) : S1 c ρ (.AugAssign (.Name xn p') .Add e pos) P :=
  s1_aug hN' ip_add he (fun F H u v s hx' hy Q q => ⟨i, j, hx'.int_inv, hy.int_inv, q _ F H (Gw.refl s) (.int _)⟩) h h1 hi hx hf
end
/-! ### enumerate(a text), enumerate(a list) -/
def ItE (x : Str) : It := ⟨fun i _ => i < x.cps.size, fun i H v H' => ∃ T c, v = .ref T ∧ H T = none ∧ H' = upd H T (.tup [.int (i : Nat), .str ⟨#[c]⟩]) ∧ x.cps[i]? = some c, fun i _ => x.cps.size ≤ i⟩
theorem turn_enumS {P : Program} {w : World} {K : PySem.W.Frag} {elts : List Expr} {kk : Nat} {tpos : Pos} (x : Str) (t : Tok) (e it : Addr) :
    Turn P w K (.Tuple elts kk tpos) (ItE x) [e, it] e (fun i h => (∃ old, IsEnum h e it ((i : Nat) : Int) old) ∧ h.IsStrIter it (strIterType x) x t i ∧ e ≠ it ∧ i ≤ x.cps.size) where
  mem := by simp
  obj := fun i h st b hb => by
    obtain ⟨⟨old, he⟩, ⟨o, ho, hc, hd⟩, _, _⟩ := st
    have e' : b = e ∨ b = it := by simpa using hb
    rcases e' with z | z
    · rw [z]; exact ⟨_, he, fun v q => nomatch q⟩
    · rw [z]; exact ⟨o, ho, fun v q => by rw [hd] at q; cases q⟩
  keep := fun i h h' st k => let ⟨⟨old, he⟩, ⟨o, ho, r⟩, hne⟩ := st; ⟨⟨old, k e (by simp) _ he⟩, ⟨o, k it (by simp) o ho, r⟩, hne⟩
  item := by
    intro X hP hw hK hc i pins s σ H E I hf st hg
    subst hP hw hK
    obtain ⟨⟨old, he⟩, hit, hne, hle⟩ := st
    have hel : e < s.heap.objs.size := Heap.lt_size he
    have hil : it < s.heap.objs.size := by obtain ⟨_, q, _⟩ := hit; exact Heap.lt_size q
    refine wpAny_pyNext_enum_itemD (Draws.text (A := X.A.in1) (I.ok.hd hc) it x t) he hit hg hne (by simpa using hne) fun y h' tk hy ho hit' hT hsz hk => ?_
    obtain ⟨cp, u, hcp, rfl⟩ := hy
    refine ⟨_, rfl, wpAny_letOwnedTupleGo_enum (s := { s with heap := h', toks := tk + 1 }) ho fun h'' he' sb => ?_⟩
    have hT2 : h''.get? s.heap.objs.size = some { cls := .type "tuple", data := .seq #[.int i tk, .str ⟨#[cp]⟩ u] } := (sb.2 _ (Nat.ne_of_gt hel)).trans hT
    have new : ObjOk X.prog X.w (upd H s.heap.objs.size (.tup [.int (i : Nat), .str ⟨#[cp]⟩])) h'' s.heap.objs.size (.tup [.int (i : Nat), .str ⟨#[cp]⟩]) :=
      ⟨by show 2 ≤ sizeLine; decide, [.int i tk, .str ⟨#[cp]⟩ u], .cons ⟨_, rfl⟩ (.cons ⟨_, rfl⟩ .nil), ⟨_, hT2, rfl, _, rfl⟩⟩
    have I1 : Inv X pins σ (upd H s.heap.objs.size (.tup [.int (i : Nat), .str ⟨#[cp]⟩])) { s with heap := h'', toks := tk + 1 } :=
      I.turnedNew (ch := [e, it]) (fun b ob hb q => (sb.2 b (fun z => hb (by simp [z]))).trans (hk b ob (fun z => hb (by simp [z])) (fun z => hb (by simp [z])) q)) hf (Nat.le_refl _) new
    refine ⟨.ref s.heap.objs.size, _, I1, rfl, ⟨_, cp, rfl, I.hok.fresh (Nat.le_refl _), rfl, hcp⟩, ⟨⟨.str ⟨#[cp]⟩ u, ?_⟩, ?_, hne, hg⟩, fun b hb => ?_⟩
    · have e1 : ((i + 1 : Nat) : Int) = (i : Int) + 1 := by omega
      rw [e1]; exact he'
    · obtain ⟨o, ho2, r⟩ := hit'
      exact ⟨o, (sb.2 it (Ne.symm hne)).trans ho2, r⟩
    · have hb' : b < s.heap.objs.size := by
        have e' : b = e ∨ b = it := by simpa using hb
        rcases e' with z | z
        · rw [z]; exact hel
        · rw [z]; exact hil
      rw [upd_ne (Nat.ne_of_lt hb')]
      exact (hf b hb).1
  done := by
    intro X hP hw hK hc i pins s σ H E I hf st hg
    subst hP hw hK
    obtain ⟨⟨old, he⟩, hit, hne, hle⟩ := st
    obtain ⟨f0, f1, f2, f3, f4, f5⟩ := hf it (by simp)
    have hi : i = x.cps.size := Nat.le_antisymm hle hg
    subst hi
    exact wpAny_pyNext_enum_endD (Draws.text (A := X.A.in1) (I.ok.hd hc) it x t) he hit fun h' eb => ⟨rfl, I.turned (t' := s.toks) (fun b o hb q => eb b o hb q) f0 f1 f3 f4 f5⟩
  self := fun A i s Q E st h => let ⟨⟨_, he⟩, _⟩ := st; wpAny_pyIter_enum he h
def iEnumS (ta : TA) : TI := fun σ H R => ta σ H fun vs H1 => ∃ x, vs = [.str x] ∧ R (ItE x) H1
theorem pi_enumS {X : Cx} {e : Expr} {ta : TA} {p pos tpos : Pos} {elts : List Expr} {kk : Nat} (hg : Gl X "enumerate") (hm : X.mg "enumerate" = none) (ha : PA X [e] ta) (hs : starEach [e] X.env = [(false, eval e X.env)]) :
    PI X (.Tuple elts kk tpos) (.Call (.Name "enumerate" p) [e] [] pos) (iEnumS ta) := by
  refine ⟨fun pins s σ H R I h => ?_⟩
  refine Call_ (ld_blt I hg hm boot_enumerate (PyProof.Rows.callWith_type1 (thn (ha.run pos pins s σ H _ I h) fun us s1 ⟨vs, H1, I1, r1, q1⟩ => ?_) hs rfl))
  obtain ⟨x, ex, q⟩ := q1
  subst ex
  cases r1 with
  | cons r rr =>
    cases rr
    obtain ⟨t, rfl⟩ := r
    refine call_enumerate_str fun h' he hit hsz hk => wpAny_pyIter_enum he ?_
    have I2 : Inv X pins σ H1 { s1 with heap := h' } := I1.kept (t' := s1.toks) hk
    refine ⟨s1.heap.objs.size + 1, [s1.heap.objs.size + 1, s1.heap.objs.size], _, _, H1, rfl, I2, turn_enumS x t (s1.heap.objs.size + 1) s1.heap.objs.size, ⟨⟨.none, he⟩, hit, Nat.succ_ne_self _, Nat.zero_le _⟩, fun b hb => ?_, q⟩
    have e' : b = s1.heap.objs.size + 1 ∨ b = s1.heap.objs.size := by simpa using hb
    have hle : s1.heap.objs.size ≤ b := by
      rcases e' with z | z
      · rw [z]; exact Nat.le_add_right _ _
      · rw [z]; exact Nat.le_refl _
    exact I1.fpOk hle (I1.hok.fresh hle)
/-- numbered -/
def numD (ds : List PyData) : List PyData := (List.range ds.length).map fun (k : Nat) => .tuple [.int (k : Int), ds.getD k .none]
theorem numD_len (ds : List PyData) : (numD ds).length = ds.length := by simp [numD]
theorem numD_at {ds : List PyData} {i : Nat} {d : PyData} (h : (numD ds)[i]? = some d) : i < ds.length ∧ ∃ d', ds[i]? = some d' ∧ d = .tuple [.int (i : Int), d'] := by
  have h1 := (List.getElem?_eq_some_iff.mp h).1
  rw [numD_len] at h1
  refine ⟨h1, ds[i], List.getElem?_eq_getElem h1, ?_⟩
  unfold numD at h
  rw [List.getElem?_map, List.getElem?_range h1] at h
  have e := (Option.some.inj h).symm
  rw [e]
  show PyData.tuple [.int (i : Int), ds.getD i .none] = _
  rw [List.getD_eq_getElem?_getD, List.getElem?_eq_getElem h1]
  rfl
section
variable {c : Cc} {ρ : List Cl} {e : Expr} {pos p tpos : Pos} {x : Str} {elts : List Expr} {kk : Nat} {ds : List PyData}
theorem iv_enumS (hm : c.X.mg "enumerate" = none) (h : EV c ρ e (.str x)) (hg : Gl c.X "enumerate" := by rfl) (hs : starEach [e] c.X.env = [(false, eval e c.X.env)] := by exact star1 rfl) : IV c ρ (.Tuple elts kk tpos) (.Call (.Name "enumerate" p) [e] [] pos) (numD (signs x)) := ⟨fun σ F H hh R q =>
  wpI_of (pi_enumS hg hm (pa_cons pe_wp pa_nil hs) hs) (h.run σ F H hh _ fun v F1 H1 g1 b1 => ⟨x, by rw [b1.str_inv], q _ F1 H1 g1 fun F H i s s2 => ⟨fun d hd => by
    obtain ⟨hl, d', hd', rfl⟩ := numD_at hd
    have hl' : i < x.cps.size := by simpa [signs] using hl
    refine ⟨hl', fun y H' hy => ?_⟩
    obtain ⟨T, cp, rfl, hT, rfl, hcp⟩ := hy
    refine ⟨upd F T (.tup [.int (i : Nat), .str ⟨#[cp]⟩]), Gw.alloc s2 hT, .tup (.inl (.inl upd_same)) (.cons (.int _) (.cons ?_ .nil))⟩
    unfold signs at hd'
    rw [List.getElem?_map] at hd'
    have hk2 : x.cps.toList[i]? = some cp := by simpa using hcp
    rw [hk2] at hd'
    cases hd'
    exact .str _, fun hi => by
    rw [numD_len] at hi
    unfold signs at hi
    rw [List.length_map] at hi
    show x.cps.size ≤ i
    simpa using hi⟩⟩)⟩
theorem iv_enumL (hm : c.X.mg "enumerate" = none) (h : EV c ρ e (.list ds)) (hg : Gl c.X "enumerate" := by rfl) (hs : starEach [e] c.X.env = [(false, eval e c.X.env)] := by exact star1 rfl) : IV c ρ (.Tuple elts kk tpos) (.Call (.Name "enumerate" p) [e] [] pos) (numD ds) := ⟨fun σ F H hh R q =>
  wpI_of (pi_enum hg hm (pa_cons pe_wp pa_nil hs) hs) (h.run σ F H hh _ fun v F1 H1 g1 b1 => by
    obtain ⟨a, vs, e1, h1, h2⟩ := b1.list_inv
    refine ⟨a, vs, by rw [e1], g1.fh.seq h1, q _ F1 H1 g1 fun F H i s s2 => ⟨fun d hd => ?_, fun hi => ?_⟩⟩
    · obtain ⟨hl, d', hd', rfl⟩ := numD_at hd
      obtain ⟨w, hw, hwd⟩ := h2.get hd'
      refine ⟨⟨vs, w, (s.trans s2).seq h1, hw⟩, fun y H' hy => ?_⟩
      obtain ⟨T, z, rfl, hT, rfl, hz⟩ := hy
      have ez := hz vs ((s.trans s2).seq h1)
      rw [hw] at ez
      cases ez
      exact ⟨upd F T (.tup [.int (i : Nat), w]), Gw.alloc s2 hT, .tup (.inl (.inl upd_same)) (.cons (.int _) (.cons (dp_mono (s.trans (Gw.alloc s2 hT).ff) _ _ hwd) .nil))⟩
    · rw [numD_len] at hi
      exact ⟨vs, (s.trans s2).seq h1, by rw [h2.len]; exact hi⟩)⟩
end
end G

namespace G
open PySem PySem.Spec PyProof.Rows L2
/-! ### texts as lists of signs -/
abbrev tl (x : Str) : List Nat := x.cps.toList
theorem len_tl (x : Str) : x.length = (tl x).length := by show x.cps.size = x.cps.toList.length; simp
theorem tl_app (x y : Str) : tl (x ++ y) = tl x ++ tl y := by
  show (x.cps ++ y.cps).toList = x.cps.toList ++ y.cps.toList
  simp
theorem len_app (x y : Str) : (x ++ y).length = x.length + y.length := by rw [len_tl, tl_app, List.length_append, ← len_tl, ← len_tl]
theorem tl_one (k : Nat) : tl ⟨#[k]⟩ = [k] := rfl
theorem len_one (k : Nat) : Str.length ⟨#[k]⟩ = 1 := rfl
theorem tl_empty : tl Str.empty = [] := rfl
theorem tl_mk (l : List Nat) : tl ⟨l.toArray⟩ = l := rfl
theorem str_ext {x y : Str} (h : tl x = tl y) : x = y := by
  cases x with | mk a => cases y with | mk b =>
  have e : a.toList = b.toList := h
  have : a = b := by
    cases a; cases b
    simpa using e
  rw [this]
abbrev one (k : Nat) : Str := ⟨#[k]⟩
theorem signs_at {x : Str} {i : Nat} {d : PyData} (h : (signs x)[i]? = some d) : i < x.length ∧ d = .str (one ((tl x).getD i 0)) := by
  have h1 := (List.getElem?_eq_some_iff.mp h).1
  unfold signs at h h1
  rw [List.length_map] at h1
  refine ⟨by rw [len_tl]; exact h1, ?_⟩
  rw [List.getElem?_map, List.getElem?_eq_getElem h1] at h
  have e := (Option.some.inj h).symm
  rw [e, List.getD_eq_getElem?_getD, List.getElem?_eq_getElem h1]
  rfl
theorem sum_le_one : ∀ {ns : List Nat}, (∀ n ∈ ns, n ≤ 1) → ns.sum ≤ ns.length
  | [], _ => Nat.le_refl _
  | n :: ns, h => by
    have h1 := h n List.mem_cons_self
    have h2 := sum_le_one fun m hm => h m (List.mem_cons_of_mem _ hm)
    simp only [List.sum_cons, List.length_cons]
    omega
theorem flatten_ones {α : Type} (f : α → Nat) : ∀ as : List α, (as.map (tl ∘ fun a => one (f a))).flatten = as.map f
  | [] => rfl
  | a :: as => by
    rw [List.map_cons, List.flatten_cons, flatten_ones f as]
    rfl
/-- text or nothing -/
def optS : Option Str → PyData
  | none => .none
  | some x => .str x
theorem isNone_optS (o : Option Str) : isNone (optS o) = o.isNone := by cases o <;> rfl
/-! ### places of lists -/
theorem signs_len (x : Str) : (signs x).length = x.length := by
  unfold signs
  rw [List.length_map, len_tl]
theorem getD_mem {α : Type} {xs : List α} {k : Nat} {z : α} (h : k < xs.length) : xs.getD k z ∈ xs := by
  rw [List.getD_eq_getElem?_getD, List.getElem?_eq_getElem h]
  exact List.getElem_mem h
theorem getD_some {α : Type} {xs : List α} {k : Nat} {z : α} (h : k < xs.length) : xs[k]? = some (xs.getD k z) := by
  rw [List.getD_eq_getElem?_getD, List.getElem?_eq_getElem h]
  rfl
theorem tl_joinE : ∀ xs : List Str, tl (Str.join Str.empty xs) = (xs.map tl).flatten
  | [] => rfl
  | [x] => by simp [Str.join]
  | x :: y :: r => by
    rw [Str.join, tl_app, tl_app, tl_joinE (y :: r)]
    · simp [Str.empty]
    · intro h
      cases h
theorem getD_set {α : Type} {xs : List α} {i j : Nat} {a z : α} : (xs.set i a).getD j z = if i = j ∧ i < xs.length then a else xs.getD j z := by
  rw [List.getD_eq_getElem?_getD, List.getD_eq_getElem?_getD, List.getElem?_set]
  by_cases h : i = j
  · subst h
    by_cases h2 : i < xs.length
    · simp [h2]
    · rw [if_pos rfl, if_neg h2, if_neg (fun q => h2 q.2), List.getElem?_eq_none (by omega)]
  · rw [if_neg h, if_neg (fun q => h q.1)]
theorem getD_map {α β : Type} {f : α → β} {xs : List α} {i : Nat} {z : α} (h : i < xs.length) {z' : β} : (xs.map f).getD i z' = f (xs.getD i z) := by
  rw [List.getD_eq_getElem?_getD, List.getD_eq_getElem?_getD, List.getElem?_map, List.getElem?_eq_getElem h]
  rfl
theorem getD_rep {α : Type} {n i : Nat} {a : α} : (List.replicate n a).getD i a = a := by
  rw [List.getD_eq_getElem?_getD, List.getElem?_replicate]
  split <;> rfl
/-! ### likeness of lists of texts, of whole numbers -/
def okT (x : Str) : Prop := x.cps.all (· < 0x110000) = true
theorem okT_empty : okT Str.empty := by simp [okT, Str.empty]
theorem okT_iff {x : Str} : okT x ↔ ∀ k ∈ tl x, k < 0x110000 := by
  unfold okT
  rw [Array.all_eq_true_iff_forall_mem]
  constructor
  · intro h k hk
    have := h k (by simpa using hk)
    simpa using this
  · intro h k hk
    have := h k (by simpa using hk)
    simpa using this
theorem getD_ok {xs : List Str} (h : ∀ x ∈ xs, okT x) (i : Nat) : okT (xs.getD i Str.empty) := by
  rw [List.getD_eq_getElem?_getD]
  cases e : xs[i]? with
  | none => exact okT_empty
  | some z => exact h z (List.mem_of_getElem? e)
theorem okT_app {x y : Str} (h : okT x) (h2 : okT y) : okT (x ++ y) := by
  rw [okT_iff] at *
  intro k hk
  rw [tl_app] at hk
  rcases List.mem_append.mp hk with q | q
  · exact h k q
  · exact h2 k q
theorem okT_one {k : Nat} (h : k < 0x110000) : okT (one k) := by
  rw [okT_iff]
  intro q hq
  have e : q = k := by simpa using hq
  rw [e]
  exact h
theorem set_ok {xs : List Str} (h : ∀ x ∈ xs, okT x) {a : Str} (ha : okT a) (i : Nat) : ∀ x ∈ xs.set i a, okT x := fun x hx => by
  rcases List.mem_or_eq_of_mem_set hx with q | q
  · exact h x q
  · rw [q]
    exact ha
theorem getD_lt {x : List Nat} (hx : ∀ k ∈ x, k < 0x110000) (k : Nat) : x.getD k 0 < 0x110000 := by
  rw [List.getD_eq_getElem?_getD]
  cases e : x[k]? with
  | none => exact (by decide : (0 : Nat) < 0x110000)
  | some z => exact hx z (List.mem_of_getElem? e)
theorem shaped_strs {xs : List Str} (h : ∀ x ∈ xs, okT x) : SeqAt.shaped (strsD xs) = true := by
  have a : ∀ xs : List Str, (∀ x ∈ xs, okT x) → PyData.canLayAll0 (xs.map PyData.str) = true := by
    intro xs
    induction xs with
    | nil => intro _; rfl
    | cons x xs ih =>
      intro h
      rw [List.map_cons, PyData.canLayAll0, ih fun y hy => h y (List.mem_cons_of_mem _ hy)]
      have := h x List.mem_cons_self
      have e : PyData.canLay0 (.str x) = true := by rw [PyData.canLay0]; exact this
      rw [e]
      rfl
  have b : ∀ xs : List Str, PyData.depthAll (xs.map PyData.str) = 0 := by
    intro xs
    induction xs with
    | nil => rfl
    | cons x xs ih => rw [List.map_cons, PyData.depthAll, ih]; rfl
  simp [SeqAt.shaped, PyData.canLay0, PyData.depth, a xs h, b]
theorem shaped_ints (ns : List Int) : SeqAt.shaped (intsD ns) = true := by
  have a : ∀ xs : List Int, PyData.canLayAll0 (xs.map PyData.int) = true := by
    intro xs
    induction xs with
    | nil => rfl
    | cons x xs ih => rw [List.map_cons, PyData.canLayAll0, ih]; rfl
  have b : ∀ xs : List Int, PyData.depthAll (xs.map PyData.int) = 0 := by
    intro xs
    induction xs with
    | nil => rfl
    | cons x xs ih => rw [List.map_cons, PyData.depthAll, ih]; rfl
  simp [SeqAt.shaped, PyData.canLay0, PyData.depth, a ns, b]
theorem eqvAll_strs : ∀ xs ys : List Str, PyData.eqvAll (xs.map PyData.str) (ys.map PyData.str) = decide (xs = ys)
  | [], [] => by simp [PyData.eqvAll]
  | [], _ :: _ => by simp [PyData.eqvAll]
  | _ :: _, [] => by simp [PyData.eqvAll]
  | a :: r, b :: t => by
    simp only [List.map_cons, PyData.eqvAll, PyData.eqv, eqvAll_strs r t]
    by_cases h : a = b <;> by_cases h' : r = t <;> simp [h, h']
theorem eqvAll_ints : ∀ xs ys : List Int, PyData.eqvAll (xs.map PyData.int) (ys.map PyData.int) = decide (xs = ys)
  | [], [] => by simp [PyData.eqvAll]
  | [], _ :: _ => by simp [PyData.eqvAll]
  | _ :: _, [] => by simp [PyData.eqvAll]
  | a :: r, b :: t => by
    simp only [List.map_cons, PyData.eqvAll, PyData.eqv, eqvAll_ints r t]
    by_cases h : a = b <;> by_cases h' : r = t <;> simp [h, h']
theorem eqv_strs (xs ys : List Str) : PyData.eqv (strsD xs) (strsD ys) = decide (xs = ys) := by rw [PyData.eqv]; exact eqvAll_strs xs ys
theorem eqv_ints (xs ys : List Int) : PyData.eqv (intsD xs) (intsD ys) = decide (xs = ys) := by rw [PyData.eqv]; exact eqvAll_ints xs ys
section
variable {c : Cc} {ρ : List Cl} {a b e : Expr} {pos p : Pos} {xs ys : List Str} {ns ms : List Int} {n : Nat}
theorem tv_eqSs (hr : Room n c.X.A) (ha : BV c ρ a (strsD xs)) (hb : BV c ρ b (strsD ys)) (h1 : ∀ x ∈ xs, okT x) (h2 : ∀ x ∈ ys, okT x) : TV c ρ (.Compare a [.Eq] [b] pos) (decide (xs = ys)) := by
  have q := tv_eqD (pos := pos) hr ha hb (shaped_strs h1) (shaped_strs h2)
  rw [eqv_strs] at q
  exact q
theorem tv_neSs (hr : Room n c.X.A) (ha : BV c ρ a (strsD xs)) (hb : BV c ρ b (strsD ys)) (h1 : ∀ x ∈ xs, okT x) (h2 : ∀ x ∈ ys, okT x) : TV c ρ (.Compare a [.NotEq] [b] pos) (!decide (xs = ys)) := by
  have q := tv_neD (pos := pos) hr ha hb (shaped_strs h1) (shaped_strs h2)
  rw [eqv_strs] at q
  exact q
theorem ev_eqSs (hr : Room n c.X.A) (ha : BV c ρ a (strsD xs)) (hb : BV c ρ b (strsD ys)) (h1 : ∀ x ∈ xs, okT x) (h2 : ∀ x ∈ ys, okT x) : EV c ρ (.Compare a [.Eq] [b] pos) (.bool (decide (xs = ys))) := by
  have q := ev_eqD (pos := pos) hr ha hb (shaped_strs h1) (shaped_strs h2)
  rw [eqv_strs] at q
  exact q
theorem tv_neIs (hr : Room n c.X.A) (ha : BV c ρ a (intsD ns)) (hb : BV c ρ b (intsD ms)) : TV c ρ (.Compare a [.NotEq] [b] pos) (!decide (ns = ms)) := by
  have q := tv_neD (pos := pos) hr ha hb (shaped_ints _) (shaped_ints _)
  rw [eqv_ints] at q
  exact q
theorem tv_eqIs (hr : Room n c.X.A) (ha : BV c ρ a (intsD ns)) (hb : BV c ρ b (intsD ms)) : TV c ρ (.Compare a [.Eq] [b] pos) (decide (ns = ms)) := by
  have q := tv_eqD (pos := pos) hr ha hb (shaped_ints _) (shaped_ints _)
  rw [eqv_ints] at q
  exact q
/-! ### [g(x) for x in xs], with and without a word -/
def blkB (N : List Str) (sc scope : Scope) (own : List (Str × Nat)) : Bool :=
  (scope.kind == .function) && (scope.names.all (fun y => scope.names.lookup y.1 == some y.2) && (own.all (fun p => N[p.2]? == some p.1) &&
    (scope.names.all (fun y => !(y.2 == .free) || (sc.names.lookup y.1 == some .cell || sc.names.lookup y.1 == some .free)) && scope.names.all (fun y => !(y.2 == .local || y.2 == .cell) || ((own.map (·.1)).contains y.1 || !(N.contains y.1))))))
theorem blk_of {N : List Str} {sc scope : Scope} {own : List (Str × Nat)} (h : blkB N sc scope own = true) : BlkOk N sc scope own := by
  unfold blkB at h
  simp only [Bool.and_eq_true, List.all_eq_true, Bool.or_eq_true, Bool.not_eq_true', beq_iff_eq, List.contains_iff_mem] at h
  obtain ⟨h1, h2, h3, h4, h5⟩ := h
  refine ⟨h1, h2, h3, fun y hy e => ?_, fun y hy e => ?_⟩
  · rcases h4 y hy with q | q
    · rw [e] at q
      cases q
    · exact q
  · rcases h5 y hy with q | q | q
    · rcases e with e | e <;> (rw [e] at q; cases q)
    · exact .inl q
    · refine .inr fun m => ?_
      rw [List.contains_iff_mem.mpr m] at q
      cases q

theorem outs_all (n : Nat) (g : Nat → PyData) : outs n (fun _ => true) g = (List.range n).map g := by
  unfold outs
  rw [List.filter_eq_self.mpr (fun _ _ => rfl)]
theorem blk_loc {scope : Scope} {s : Shared} {H : Hp} {C : Addr} {cl : List (Str × Addr)} {fp : List Addr} {x : Str} (h : scope.names.lookup x = some .local) : (c.blk scope s H C cl fp).X.env.scope.names.lookup x = some .local := lookup_relabel_local h
theorem lcok1if {elt t : Expr} {scope : Scope} {ds : List PyData} {x : Str} {j : Nat} {p' : Pos} (f : Nat → Bool) (g : Nat → PyData) (hN : c.X.N.Nodup)
    (ht : ∀ s H C cl fp (i : Nat) (d : PyData), ds[i]? = some d → TV (c.blk scope s H C cl fp) ((ρ.set j .un).set j (.val d)) t (f i))
    (he : ∀ s H C cl fp (i : Nat) (d : PyData), ds[i]? = some d → f i = true → EV (c.blk scope s H C cl fp) ((ρ.set j .un).set j (.val d)) elt (g i))
    (hj : c.X.N[j]? = some x) (hx : scope.names.lookup x = some .local) (hlj : Nat.blt j ρ.length = true) : LcOk c ρ elt (.Name x p') [t] scope [j] ds (fun i => (ρ.set j .un).set j (.val (ds.getD i .none))) f g :=
  ⟨fun s H C cl fp i d hd => ⟨[j], by simp, by
    have e : ds.getD i .none = d := by rw [List.getD_eq_getElem?_getD, hd]; rfl
    rw [e]
    exact gv_name hN hj (.inl (blk_loc hx)) (by show Nat.blt j (ρ.set j .un).length = true; rw [List.length_set]; exact hlj) (.inr (blk_loc hx))⟩, fun s H C cl fp i d hd => by
    have e : ds.getD i .none = d := by rw [List.getD_eq_getElem?_getD, hd]; rfl
    rw [e]
    exact ifv_one (ht s H C cl fp i d hd), fun s H C cl fp i d hd hfi => by
    have e : ds.getD i .none = d := by rw [List.getD_eq_getElem?_getD, hd]; rfl
    rw [e]
    exact he s H C cl fp i d hd hfi⟩
theorem lcok1 {elt : Expr} {scope : Scope} {ds : List PyData} {x : Str} {j : Nat} {p' : Pos} (g : Nat → PyData) (hN : c.X.N.Nodup)
    (he : ∀ s H C cl fp (i : Nat) (d : PyData), ds[i]? = some d → EV (c.blk scope s H C cl fp) ((ρ.set j .un).set j (.val d)) elt (g i))
    (hj : c.X.N[j]? = some x) (hx : scope.names.lookup x = some .local) (hlj : Nat.blt j ρ.length = true) : LcOk c ρ elt (.Name x p') [] scope [j] ds (fun i => (ρ.set j .un).set j (.val (ds.getD i .none))) (fun _ => true) g :=
  ⟨fun s H C cl fp i d hd => ⟨[j], by simp, by
    have e : ds.getD i .none = d := by rw [List.getD_eq_getElem?_getD, hd]; rfl
    rw [e]
    exact gv_name hN hj (.inl (blk_loc hx)) (by show Nat.blt j (ρ.set j .un).length = true; rw [List.length_set]; exact hlj) (.inr (blk_loc hx))⟩, fun s H C cl fp i d hd => ifv_nil, fun s H C cl fp i d hd _ => by
    have e : ds.getD i .none = d := by rw [List.getD_eq_getElem?_getD, hd]; rfl
    rw [e]
    exact he s H C cl fp i d hd⟩
/-- of a list of one kind, to one kind -/
theorem range_map {α β : Type} (xs : List α) (z : α) (f : α → β) : (List.range xs.length).map (fun i => f (xs.getD i z)) = xs.map f := by
  apply List.ext_getElem
  · simp
  · intro i h1 h2
    have h : i < xs.length := by simpa using h1
    simp [List.getD_eq_getElem?_getD, List.getElem?_eq_getElem h]
/-- of a list of one kind, to one kind: the cells, then the four rules -/
theorem lcokM {α β : Type} {elt : Expr} {scope : Scope} {x : Str} {j : Nat} {p' : Pos} (inD : α → PyData) (outD : β → PyData) (f : α → β) {as : List α} (hN : c.X.N.Nodup)
    (he : ∀ s H C cl fp (a : α), a ∈ as → EV (c.blk scope s H C cl fp) ((ρ.set j .un).set j (.val (inD a))) elt (outD (f a)))
    (hj : c.X.N[j]? = some x) (hx : scope.names.lookup x = some .local) (hlj : Nat.blt j ρ.length = true) : ∃ R g, LcOk c ρ elt (.Name x p') [] scope [j] (as.map inD) R (fun _ => true) g ∧ outs (as.map inD).length (fun _ => true) g = (as.map f).map outD := by
  cases as with
  | nil => exact ⟨_, fun _ => .none, lcok1 (fun _ => .none) hN (fun s H C cl fp i d hd => by simp at hd) hj hx hlj, rfl⟩
  | cons z zs =>
    refine ⟨_, _, lcok1 (ds := (z :: zs).map inD) (fun i => outD (f ((z :: zs).getD i z))) hN (fun s H C cl fp i d hd => by
      rw [List.getElem?_map] at hd
      cases e : (z :: zs)[i]? with
      | none => rw [e] at hd; cases hd
      | some a =>
        rw [e] at hd
        cases hd
        have e2 : (z :: zs).getD i z = a := by rw [List.getD_eq_getElem?_getD, e]; rfl
        rw [e2]
        exact he s H C cl fp a (List.mem_of_getElem? e)) hj hx hlj, ?_⟩
    rw [outs_all, List.length_map, range_map (z :: zs) z (fun a => outD (f a)), List.map_map]
    rfl
theorem lcokF {α β : Type} {elt t : Expr} {scope : Scope} {x : Str} {j : Nat} {p' : Pos} (inD : α → PyData) (outD : β → PyData) (k : α → Bool) (f : α → β) {as : List α} (hN : c.X.N.Nodup)
    (ht : ∀ s H C cl fp (a : α), a ∈ as → TV (c.blk scope s H C cl fp) ((ρ.set j .un).set j (.val (inD a))) t (k a))
    (he : ∀ s H C cl fp (a : α), a ∈ as → k a = true → EV (c.blk scope s H C cl fp) ((ρ.set j .un).set j (.val (inD a))) elt (outD (f a)))
    (hj : c.X.N[j]? = some x) (hx : scope.names.lookup x = some .local) (hlj : Nat.blt j ρ.length = true) : ∃ R f' g, LcOk c ρ elt (.Name x p') [t] scope [j] (as.map inD) R f' g ∧ outs (as.map inD).length f' g = ((as.filter k).map f).map outD := by
  cases as with
  | nil => exact ⟨_, fun _ => true, fun _ => .none, lcok1if (fun _ => true) (fun _ => .none) hN (fun s H C cl fp i d hd => by simp at hd) (fun s H C cl fp i d hd => by simp at hd) hj hx hlj, rfl⟩
  | cons z zs =>
    have look : ∀ (i : Nat) (d : PyData), ((z :: zs).map inD)[i]? = some d → ∃ a, a ∈ z :: zs ∧ (z :: zs).getD i z = a ∧ d = inD a := fun i d hd => by
      rw [List.getElem?_map] at hd
      cases e : (z :: zs)[i]? with
      | none => rw [e] at hd; cases hd
      | some a =>
        rw [e] at hd
        cases hd
        exact ⟨a, List.mem_of_getElem? e, by rw [List.getD_eq_getElem?_getD, e]; rfl, rfl⟩
    refine ⟨_, _, _, lcok1if (ds := (z :: zs).map inD) (fun i => k ((z :: zs).getD i z)) (fun i => outD (f ((z :: zs).getD i z))) hN (fun s H C cl fp i d hd => by
      obtain ⟨a, ha, e, rfl⟩ := look i d hd
      rw [e]
      exact ht s H C cl fp a ha) (fun s H C cl fp i d hd hk => by
      obtain ⟨a, ha, e, rfl⟩ := look i d hd
      rw [e] at hk ⊢
      exact he s H C cl fp a ha hk) hj hx hlj, ?_⟩
    have h := range_map (z :: zs) z id
    rw [List.map_id] at h
    unfold outs
    rw [List.length_map, List.map_map]
    conv => rhs; rw [← h, List.filter_map, List.map_map]
    rfl
theorem nv_lcM {α β : Type} {elt iter : Expr} {scope : Scope} {x : Str} {j : Nat} {p' : Pos} (inD : α → PyData) (outD : β → PyData) (f : α → β) {as : List α} (hN : c.X.N.Nodup) (hc : c.X.calm = true) (hi : IV c ρ (.Name x p') iter (as.map inD)) (hl : as.length ≤ 1000000)
    (he : ∀ s H C cl fp (a : α), a ∈ as → EV (c.blk scope s H C cl fp) ((ρ.set j .un).set j (.val (inD a))) elt (outD (f a))) (ok : BlkOk c.X.N c.X.env.scope scope [(x, j)] := by exact blk_of (by kernel_rfl!))
    (hj : c.X.N[j]? = some x := by rfl) (hx : scope.names.lookup x = some .local := by rfl) (hlj : Nat.blt j ρ.length = true := by rfl) (hf : ∀ x, foldedSetIterable iter c.X.env x = pure x := by exact folded_no rfl) :
    NV c ρ (.ListComp elt [⟨.Name x p', iter, [], 0⟩] scope pos) (oL c.X.K ((as.map f).map outD)) := by
  obtain ⟨R, g, L, e⟩ := lcokM (p' := p') inD outD f hN he hj hx hlj
  rw [← e]
  exact nv_lc hN hc hi (by rw [List.length_map]; exact line_le hl) ok L hf
theorem nv_lcF {α β : Type} {elt iter t : Expr} {scope : Scope} {x : Str} {j : Nat} {p' : Pos} (inD : α → PyData) (outD : β → PyData) (k : α → Bool) (f : α → β) {as : List α} (hN : c.X.N.Nodup) (hc : c.X.calm = true) (hi : IV c ρ (.Name x p') iter (as.map inD)) (hl : as.length ≤ 1000000)
    (ht : ∀ s H C cl fp (a : α), a ∈ as → TV (c.blk scope s H C cl fp) ((ρ.set j .un).set j (.val (inD a))) t (k a))
    (he : ∀ s H C cl fp (a : α), a ∈ as → k a = true → EV (c.blk scope s H C cl fp) ((ρ.set j .un).set j (.val (inD a))) elt (outD (f a))) (ok : BlkOk c.X.N c.X.env.scope scope [(x, j)] := by exact blk_of (by kernel_rfl!))
    (hj : c.X.N[j]? = some x := by rfl) (hx : scope.names.lookup x = some .local := by rfl) (hlj : Nat.blt j ρ.length = true := by rfl) (hf : ∀ x, foldedSetIterable iter c.X.env x = pure x := by exact folded_no rfl) :
    NV c ρ (.ListComp elt [⟨.Name x p', iter, [t], 0⟩] scope pos) (oL c.X.K (((as.filter k).map f).map outD)) := by
  obtain ⟨R, f', g, L, e⟩ := lcokF (p' := p') inD outD k f hN ht he hj hx hlj
  rw [← e]
  exact nv_lc hN hc hi (by rw [List.length_map]; exact line_le hl) ok L hf
theorem s1_lcM {α β : Type} {P : Out → Prop} {i : Nat} {y : Str} {py spos : Pos} {elt iter : Expr} {scope : Scope} {x : Str} {j : Nat} {p' : Pos} (inD : α → PyData) (outD : β → PyData) (f : α → β) {as : List α} (hN : c.X.N.Nodup) (hc : c.X.calm = true) (hi : IV c ρ (.Name x p') iter (as.map inD)) (hl : as.length ≤ 1000000)
    (he : ∀ s H C cl fp (a : α), a ∈ as → EV (c.blk scope s H C cl fp) ((ρ.set j .un).set j (.val (inD a))) elt (outD (f a))) (h : P (.next (ρ.set i (.own (oL c.X.K ((as.map f).map outD)))))) (ok : BlkOk c.X.N c.X.env.scope scope [(x, j)] := by exact blk_of (by kernel_rfl!))
    (hy : c.X.N[i]? = some y := by rfl) (hyl : c.X.env.scope.names.lookup y = some .local := by rfl) (hli : Nat.blt i ρ.length = true := by rfl)
    (hsw : swapsWith (.ListComp elt [⟨.Name x p', iter, [], 0⟩] scope pos) (some (.Name y py)) spos.line c.X.env = pure true := by exact sw_true rfl rfl rfl (by decide +kernel))
    (hj : c.X.N[j]? = some x := by rfl) (hx : scope.names.lookup x = some .local := by rfl) (hlj : Nat.blt j ρ.length = true := by rfl) (hf : ∀ x, foldedSetIterable iter c.X.env x = pure x := by exact folded_no rfl) :
    S1 c ρ (.Assign [.Name y py] (.ListComp elt [⟨.Name x p', iter, [], 0⟩] scope pos) spos) P := by
  obtain ⟨R, g, L, e⟩ := lcokM (p' := p') inD outD f hN he hj hx hlj
  rw [← e] at h
  exact s1_setLc hN hc hi (by rw [List.length_map]; exact line_le hl) ok L h hy hyl hli hsw hf
theorem s1_lcF {α β : Type} {P : Out → Prop} {i : Nat} {y : Str} {py spos : Pos} {elt iter t : Expr} {scope : Scope} {x : Str} {j : Nat} {p' : Pos} (inD : α → PyData) (outD : β → PyData) (k : α → Bool) (f : α → β) {as : List α} (hN : c.X.N.Nodup) (hc : c.X.calm = true) (hi : IV c ρ (.Name x p') iter (as.map inD)) (hl : as.length ≤ 1000000)
    (ht : ∀ s H C cl fp (a : α), a ∈ as → TV (c.blk scope s H C cl fp) ((ρ.set j .un).set j (.val (inD a))) t (k a))
    (he : ∀ s H C cl fp (a : α), a ∈ as → k a = true → EV (c.blk scope s H C cl fp) ((ρ.set j .un).set j (.val (inD a))) elt (outD (f a))) (h : P (.next (ρ.set i (.own (oL c.X.K (((as.filter k).map f).map outD)))))) (ok : BlkOk c.X.N c.X.env.scope scope [(x, j)] := by exact blk_of (by kernel_rfl!))
    (hy : c.X.N[i]? = some y := by rfl) (hyl : c.X.env.scope.names.lookup y = some .local := by rfl) (hli : Nat.blt i ρ.length = true := by rfl)
    (hsw : swapsWith (.ListComp elt [⟨.Name x p', iter, [t], 0⟩] scope pos) (some (.Name y py)) spos.line c.X.env = pure true := by exact sw_true rfl rfl rfl (by decide +kernel))
    (hj : c.X.N[j]? = some x := by rfl) (hx : scope.names.lookup x = some .local := by rfl) (hlj : Nat.blt j ρ.length = true := by rfl) (hf : ∀ x, foldedSetIterable iter c.X.env x = pure x := by exact folded_no rfl) :
    S1 c ρ (.Assign [.Name y py] (.ListComp elt [⟨.Name x p', iter, [t], 0⟩] scope pos) spos) P := by
  obtain ⟨R, f', g, L, e⟩ := lcokF (p' := p') inD outD k f hN ht he hj hx hlj
  rw [← e] at h
  exact s1_setLc hN hc hi (by rw [List.length_map]; exact line_le hl) ok L h hy hyl hli hsw hf
/-- a list of texts, and one more; two lists of texts -/
theorem nv_catT (ha : BV c ρ a (strsD xs)) (hb : BV c ρ b (strsD ys)) (h : xs.length + ys.length ≤ 1000000) : NV c ρ (.BinOp a .Add b pos) (oL c.X.K ((xs ++ ys).map PyData.str)) := by
  rw [List.map_append]
  exact nv_catL ha hb (by rw [List.length_map, List.length_map]; exact h)
theorem s1_appendS {P : Out → Prop} {l : Nat} {xn : Str} {x : Str} {pn apos cpos epos : Pos} (h1 : ρ[l]? = some (.own (oL c.X.K (xs.map PyData.str)))) (he : EV c ρ e (.str x)) (hlen : xs.length < 1000000) (h : P (.next (ρ.set l (.own (oL c.X.K ((xs ++ [x]).map PyData.str)))))) (hN : c.X.N[l]? = some xn := by rfl)
    (hv : Vis c.X.env.scope xn := by first | exact Or.inl rfl | exact Or.inr (Or.inl rfl) | exact Or.inr (Or.inr rfl)) (hd : (xn == ("__debug__" : Str)) = false := by decide) (hcd : (xn == ("__classdict__" : Str)) = false := by decide)
    (hs : starEach [e] c.X.env = (false, eval e c.X.env) :: starEach [] c.X.env := by exact star_cons rfl) (hsw : swapsWith (.Call (.Attribute (.Name xn pn) "append" apos) [e] [] cpos) none epos.line c.X.env = pure false := by exact swaps_no rfl)
    (hpb : PE c.X (.Call (.Attribute (.Name xn pn) "append" apos) [e] [] cpos) (tBM c.X.K "list" rAppend (tVar l) (tCons (wpE c.X e) tNil)) := by
      exact pe_bm PySem.F.plainAttrs_list PySem.F.slot_list_append PySem.F.type_list_append mt_append (pv _) (pa_cons pe_wp pa_nil)) : S1 c ρ (.Expr (.Call (.Attribute (.Name xn pn) "append" apos) [e] [] cpos) epos) P :=
  s1_append h1 he (by rw [List.length_map]; exact line_lt hlen) (by rw [List.map_append] at h; exact h) hN hv hd hcd hs hsw hpb
end
end G

namespace G
open PySem PySem.Spec PyProof.Rows L2
/-! places of strikes; the ribbon of a text and the text of a ribbon -/
def placeOf (n s : Int) : Int := min (s % (2 * n - 2)) (2 * n - 2 - s % (2 * n - 2))
theorem emod_succ {i M : Int} (hM : 0 < M) : (i + 1) % M = if i % M + 1 = M then 0 else i % M + 1 := by
  have h0 := Int.emod_nonneg i (show M ≠ 0 by omega)
  have h1 := Int.emod_lt_of_pos i hM
  have e : (i + 1) % M = (i % M + 1) % M := by rw [Int.emod_add_emod]
  rw [e]
  split
  · rename_i h
    rw [h, Int.emod_self]
  · exact Int.emod_eq_of_lt (by omega) (by omega)
/-- the walk along the ribbon -/
def Way (n i place way : Int) : Prop := place = placeOf n i ∧ ((way = 1 ∧ i % (2 * n - 2) ≤ n - 1) ∨ (way = -1 ∧ (i % (2 * n - 2) = 0 ∨ n - 1 < i % (2 * n - 2))))
theorem way_start {n : Int} (h : 2 ≤ n) : Way n 0 0 1 := by
  refine ⟨?_, .inl ⟨rfl, ?_⟩⟩
  · unfold placeOf
    simp
    omega
  · simp
    omega
theorem way_next {n i place way : Int} (h : 2 ≤ n) (w : Way n i place way) : Way n (i + 1) (place + (if 0 ≤ place + way ∧ place + way < n then way else 0 - way)) (if 0 ≤ place + way ∧ place + way < n then way else 0 - way) := by
  obtain ⟨e, w⟩ := w
  have hM : 0 < 2 * n - 2 := by omega
  have h0 := Int.emod_nonneg i (show 2 * n - 2 ≠ 0 by omega)
  have h1 := Int.emod_lt_of_pos i hM
  have e2 := emod_succ (i := i) hM
  unfold Way placeOf at *
  generalize i % (2 * n - 2) = r at *
  generalize (i + 1) % (2 * n - 2) = r' at *
  rw [Int.min_def] at *
  split at e2 <;> split at e <;> split <;> (rcases w with ⟨a, b⟩ | ⟨a, b | b⟩) <;> (refine ⟨?_, ?_⟩) <;> (try split) <;> omega
theorem place_far {n s : Int} (h : 2 ≤ n) : placeOf n s = if s % (2 * (n - 1)) < n then s % (2 * (n - 1)) else 2 * (n - 1) - s % (2 * (n - 1)) := by
  have e : 2 * (n - 1) = 2 * n - 2 := by omega
  rw [e]
  unfold placeOf
  have h0 := Int.emod_nonneg s (show 2 * n - 2 ≠ 0 by omega)
  have h1 := Int.emod_lt_of_pos s (show 0 < 2 * n - 2 by omega)
  generalize s % (2 * n - 2) = r at *
  rw [Int.min_def]
  split <;> split <;> omega
theorem place_round {n s : Int} : placeOf n (s + 2 * (n - 1)) = placeOf n s := by
  have e : 2 * (n - 1) = 2 * n - 2 := by omega
  unfold placeOf
  rw [e, Int.add_emod_right]
theorem place_zero {n : Int} (h : 2 ≤ n) : placeOf n 0 = 0 := by
  unfold placeOf
  simp
  omega
theorem place_step {n s : Int} (h : 2 ≤ n) : (if placeOf n s - placeOf n (s + 1) < 0 then -(placeOf n s - placeOf n (s + 1)) else placeOf n s - placeOf n (s + 1)) = 1 := by
  have hM : 0 < 2 * n - 2 := by omega
  have h0 := Int.emod_nonneg s (show 2 * n - 2 ≠ 0 by omega)
  have h1 := Int.emod_lt_of_pos s hM
  have e2 := emod_succ (i := s) hM
  unfold placeOf
  generalize s % (2 * n - 2) = r at *
  generalize (s + 1) % (2 * n - 2) = r' at *
  rw [Int.min_def, Int.min_def]
  split at e2 <;> split <;> split <;> split <;> omega

def ctPlace : Ct := fun cs P => ∃ n s : Int, 2 ≤ n ∧ n < 2 ^ 40 ∧ cs = [.val (.int n), .val (.int s)] ∧ P (.ret (.val (.int (placeOf n s))) (uns 2))
theorem place_bound {n s : Int} (h : 2 ≤ n) : 0 ≤ placeOf n s ∧ placeOf n s < n := by
  unfold placeOf
  have h0 := Int.emod_nonneg s (show 2 * n - 2 ≠ 0 by omega)
  have h1 := Int.emod_lt_of_pos s (show 0 < 2 * n - 2 by omega)
  generalize s % (2 * n - 2) = r at *
  rw [Int.min_def]
  split <;> omega
/-- the ribbon after the first k signs of x -/
def ribRun (n : Int) (x : List Nat) : Nat → List Str
  | 0 => List.replicate n.toNat Str.empty
  | k + 1 => (ribRun n x k).set (placeOf n (k : Int)).toNat ((ribRun n x k).getD (placeOf n (k : Int)).toNat Str.empty ++ one (x.getD k 0))
def ribOf (n : Int) (x : Str) : List Str := ribRun n (tl x) x.length
theorem ribRun_len (n : Int) (x : List Nat) : ∀ k, (ribRun n x k).length = n.toNat
  | 0 => by simp [ribRun]
  | k + 1 => by rw [ribRun, List.length_set, ribRun_len n x k]
theorem ribRun_step {n : Int} (hn : 2 ≤ n) (x : List Nat) (k p : Nat) : (ribRun n x (k + 1)).getD p Str.empty = if p = (placeOf n (k : Int)).toNat then (ribRun n x k).getD p Str.empty ++ one (x.getD k 0) else (ribRun n x k).getD p Str.empty := by
  have hb := place_bound (s := (k : Int)) hn
  rw [ribRun, getD_set, ribRun_len]
  by_cases h : p = (placeOf n (k : Int)).toNat
  · rw [if_pos ⟨h.symm, by omega⟩, if_pos h, ← h]
  · rw [if_neg (fun q => h q.1.symm), if_neg h]
theorem ribRun_pre {n : Int} (hn : 2 ≤ n) (x : List Nat) (k p : Nat) : ∀ m, tl ((ribRun n x k).getD p Str.empty) <+: tl ((ribRun n x (k + m)).getD p Str.empty)
  | 0 => List.prefix_refl _
  | m + 1 => by
    refine (ribRun_pre hn x k p m).trans ?_
    rw [← Nat.add_assoc, ribRun_step hn]
    split
    · rw [tl_app]
      exact List.prefix_append _ _
    · exact List.prefix_refl _
theorem ribRun_ok {n : Int} {x : List Nat} (hx : ∀ k ∈ x, k < 0x110000) : ∀ k, ∀ s ∈ ribRun n x k, okT s
  | 0 => fun s h => by
    have e := List.eq_of_mem_replicate (show s ∈ List.replicate n.toNat Str.empty from h)
    rw [e]
    exact okT_empty
  | k + 1 => set_ok (ribRun_ok hx k) (okT_app (getD_ok (ribRun_ok hx k) _) (okT_one (getD_lt hx k))) _
/-- all lengths together -/
def lens (rs : List Str) : List Int := rs.map fun s => (s.length : Int)
theorem sum_set : ∀ (xs : List Int) (i : Nat) (a : Int), i < xs.length → (xs.set i a).sum = xs.sum - xs.getD i 0 + a
  | [], i, a, h => by simp at h
  | x :: xs, 0, a, _ => by simp; omega
  | x :: xs, i + 1, a, h => by
    have := sum_set xs i a (by simpa using h)
    simp at this ⊢
    omega
theorem ribRun_le {n : Int} (hn : 2 ≤ n) (x : List Nat) : ∀ k p, ((ribRun n x k).getD p Str.empty).length ≤ k
  | 0, p => by
    rw [show ribRun n x 0 = List.replicate n.toNat Str.empty from rfl, getD_rep]
    exact Nat.le_refl _
  | k + 1, p => by
    have := ribRun_le hn x k p
    rw [ribRun_step hn]
    split
    · rw [len_app]
      show _ + 1 ≤ _
      omega
    · omega
theorem lens_nonneg : ∀ rs : List Str, 0 ≤ (lens rs).sum
  | [] => by simp [lens]
  | r :: rs => by
    have := lens_nonneg rs
    unfold lens at this ⊢
    simp at this ⊢
    omega
theorem lens_le : ∀ {rs : List Str} {x : Str}, x ∈ rs → (x.length : Int) ≤ (lens rs).sum
  | r :: rs, x, h => by
    have h0 := lens_nonneg rs
    rcases List.mem_cons.mp h with e | h
    · subst e
      unfold lens at h0 ⊢
      simp at h0 ⊢
      omega
    · have := lens_le h
      unfold lens at this h0 ⊢
      simp at this h0 ⊢
      omega
theorem ribRun_sum {n : Int} (hn : 2 ≤ n) (x : List Nat) : ∀ k, (lens (ribRun n x k)).sum = (k : Int)
  | 0 => by
    unfold lens ribRun
    rw [List.map_replicate]
    show (List.replicate _ (0 : Int)).sum = 0
    simp
  | k + 1 => by
    have hb := place_bound (s := (k : Int)) hn
    have hl : (placeOf n (k : Int)).toNat < (ribRun n x k).length := by rw [ribRun_len]; omega
    have ih := ribRun_sum hn x k
    unfold lens at ih ⊢
    rw [ribRun, List.map_set, sum_set _ _ _ (by rw [List.length_map]; exact hl), ih, getD_map hl (z := Str.empty), len_app]
    have : (one (x.getD k 0)).length = 1 := rfl
    omega
/-- the text read off a ribbon from a strike on: what is used, the text; none where the ribbon stops it -/
def tStep (rb : List Str) (first : Int) : Nat → Option (List Int × Str)
  | 0 => some (List.replicate rb.length 0, Str.empty)
  | k + 1 => (tStep rb first k).bind fun q =>
    if q.1.getD (placeOf (rb.length : Int) (first + (k : Int))).toNat 0 = ((rb.getD (placeOf (rb.length : Int) (first + (k : Int))).toNat Str.empty).length : Int) then none
    else some (q.1.set (placeOf (rb.length : Int) (first + (k : Int))).toNat (q.1.getD (placeOf (rb.length : Int) (first + (k : Int))).toNat 0 + 1),
      q.2 ++ one ((tl (rb.getD (placeOf (rb.length : Int) (first + (k : Int))).toNat Str.empty)).getD (q.1.getD (placeOf (rb.length : Int) (first + (k : Int))).toNat 0).toNat 0))
def textFrom (rb : List Str) (first : Int) : Option Str := (tStep rb first (lens rb).sum.toNat).map (·.2)
theorem tStep_none {rb : List Str} {first : Int} {k : Nat} (h : tStep rb first k = none) : ∀ m, tStep rb first (k + m) = none
  | 0 => h
  | m + 1 => by
    show (tStep rb first (k + m)).bind _ = none
    rw [tStep_none h m]
    rfl
/-- a used ribbon stays within its bounds -/
def Used (rb : List Str) (u : List Int) : Prop := u.length = rb.length ∧ ∀ p : Nat, 0 ≤ u.getD p 0 ∧ u.getD p 0 ≤ ((rb.getD p Str.empty).length : Int)
theorem used_start (rb : List Str) : Used rb (List.replicate rb.length 0) := ⟨by simp, fun p => by
  rw [getD_rep]
  omega⟩
theorem used_next {rb : List Str} {u : List Int} {p : Nat} (h : Used rb u) (hp : p < rb.length) (hn : u.getD p 0 ≠ ((rb.getD p Str.empty).length : Int)) : Used rb (u.set p (u.getD p 0 + 1)) := ⟨by rw [List.length_set]; exact h.1, fun q => by
  rw [getD_set]
  have h1 := h.2 p
  have h2 := h.2 q
  by_cases e : p = q ∧ p < u.length
  · rw [if_pos e, ← e.1]
    omega
  · rw [if_neg e]
    exact h2⟩
/-- there and back -/
theorem tStep_rib {n : Int} (hn : 2 ≤ n) (x : List Nat) : ∀ k, k ≤ x.length → tStep (ribRun n x x.length) 0 k = some (lens (ribRun n x k), ⟨(x.take k).toArray⟩)
  | 0, _ => by
    show some (List.replicate (ribRun n x x.length).length (0 : Int), Str.empty) = _
    rw [ribRun_len]
    unfold lens ribRun
    rw [List.map_replicate]
    rfl
  | k + 1, hk => by
    have hb := place_bound (s := (k : Int)) hn
    have hnn : ((n.toNat : Nat) : Int) = n := by omega
    have hl : (placeOf n (k : Int)).toNat < (ribRun n x k).length := by rw [ribRun_len]; omega
    show (tStep (ribRun n x x.length) 0 k).bind _ = _
    rw [tStep_rib hn x k (by omega)]
    show (if _ then _ else _) = _
    rw [Int.zero_add, ribRun_len, hnn]
    generalize hp : (placeOf n (k : Int)).toNat = p at hl ⊢
    have e1 : (lens (ribRun n x k)).getD p 0 = (((ribRun n x k).getD p Str.empty).length : Int) := getD_map hl
    have pre := ribRun_pre hn x (k + 1) p (x.length - (k + 1))
    rw [show k + 1 + (x.length - (k + 1)) = x.length by omega, ribRun_step hn, if_pos hp.symm, tl_app] at pre
    obtain ⟨rest, hrest⟩ := pre
    have hlen : ((ribRun n x x.length).getD p Str.empty).length = ((ribRun n x k).getD p Str.empty).length + 1 + rest.length := by
      rw [len_tl, ← hrest, List.length_append, List.length_append, ← len_tl]
      rfl
    rw [e1, if_neg (by omega)]
    have e2 : (tl ((ribRun n x x.length).getD p Str.empty)).getD ((((ribRun n x k).getD p Str.empty).length : Int)).toNat 0 = x.getD k 0 := by
      rw [← hrest, List.getD_eq_getElem?_getD, List.append_assoc, Int.toNat_natCast, len_tl, List.getElem?_append_right (Nat.le_refl _), Nat.sub_self]
      rfl
    rw [e2]
    have e3 : (lens (ribRun n x k)).set p ((((ribRun n x k).getD p Str.empty).length : Int) + 1) = lens (ribRun n x (k + 1)) := by
      unfold lens
      rw [ribRun, hp, List.map_set, len_app]
      rfl
    rw [e3]
    have e4 : (⟨(x.take k).toArray⟩ : Str) ++ one (x.getD k 0) = ⟨(x.take (k + 1)).toArray⟩ := by
      refine str_ext ?_
      rw [tl_app]
      show (x.take k) ++ [x.getD k 0] = x.take (k + 1)
      rw [List.take_succ, List.getD_eq_getElem?_getD, List.getElem?_eq_getElem (by omega)]
      rfl
    rw [e4]
theorem textFrom_rib {n : Int} (hn : 2 ≤ n) (x : Str) : textFrom (ribOf n x) 0 = some x := by
  unfold textFrom ribOf
  rw [ribRun_sum hn, Int.toNat_natCast, len_tl, tStep_rib hn (tl x) _ (Nat.le_refl _)]
  show some (⟨((tl x).take (tl x).length).toArray⟩ : Str) = _
  rw [List.take_length]
def ctRibOf (K : PySem.W.Frag) : Ct := fun cs P => ∃ (n : Int) (x : Str), 2 ≤ n ∧ n ≤ 1000 ∧ x.length ≤ 100000 ∧ cs = [.val (.int n), .val (.str x)] ∧ P (.ret (.own (oL K ((ribOf n x).map PyData.str))) (uns 2))
def ctTextFrom : Ct := fun cs P => ∃ (rb : List Str) (first : Int), 2 ≤ rb.length ∧ rb.length ≤ 1000 ∧ (lens rb).sum ≤ 100000 ∧ 0 ≤ first ∧ first ≤ 100000 ∧ cs = [.val (strsD rb), .val (.int first)] ∧ P (.ret (.val (optS (textFrom rb first))) (uns 2))
def ctRibText : Ct := fun cs P => ∃ (rb : List Str) (x : Str), 2 ≤ rb.length ∧ rb.length ≤ 1000 ∧ (lens rb).sum ≤ 100000 ∧ textFrom rb 0 = some x ∧ cs = [.val (strsD rb)] ∧ P (.ret (.val (.str x)) (uns 1))
end G

namespace G
open PySem PySem.Spec PyProof.Rows L2
section
variable {c : Cc} {ρ : List Cl} {a b e : Expr} {lo hi : Option Expr} {l h : Option Int} {i j k : Int} {pos p p2 spos apos cpos : Pos} {d d1 d2 : PyData} {ds es : List PyData} {x y z : Str} {xs : List Str} {P : Out → Prop}
/-! ### more methods of a text -/
theorem ev_endswith (ho : EV c ρ a (.str x)) (he : EV c ρ e (.str y)) (hs : starEach [e] c.X.env = [(false, eval e c.X.env)] := by exact star1 rfl)
    (hbase : attributeBase a "endswith" c.X.env (eval a c.X.env) = eval a c.X.env := by rfl) (hline : (apos.endLine == pos.line) = true := by rfl) : EV c ρ (.Call (.Attribute a "endswith" apos) [e] [] pos) (.bool (Txt.endswith x y)) := ⟨fun σ F H hh Q q =>
  wpE_of (pe_m1 PySem.F.slot_str_endswith PySem.F.type_str_endswith mt_endswith pe_wp pe_wp hs hbase hline) (ho.run σ F H hh _ fun v F1 H1 g1 b1 => ⟨⟨x, b1.str_inv⟩, he.run σ F1 H1 (hh.grow g1) _ fun u F2 H2 g2 b2 =>
    ⟨x, y, b1.str_inv, by rw [b2.str_inv], q _ F2 H2 (g1.trans g2) (.bl _)⟩⟩)⟩
theorem nv_split (ho : EV c ρ a (.str x)) (he : EV c ρ e (.str y)) (hy : (y.length == 0) = false) (hx : x.length ≤ 100000) (hs : starEach [e] c.X.env = [(false, eval e c.X.env)] := by exact star1 rfl)
    (hbase : attributeBase a "split" c.X.env (eval a c.X.env) = eval a c.X.env := by rfl) (hline : (apos.endLine == pos.line) = true := by rfl) : NV c ρ (.Call (.Attribute a "split" apos) [e] [] pos) (oL c.X.K ((Txt.split x y).map PyData.str)) := ⟨fun σ F H hh Q q =>
  wpE_of (pe_m1 PySem.F.slot_str_split PySem.F.type_str_split mt_split pe_wp pe_wp hs hbase hline) (ho.run σ F H hh _ fun v F1 H1 g1 b1 => ⟨⟨x, b1.str_inv⟩, he.run σ F1 H1 (hh.grow g1) _ fun u F2 H2 g2 b2 => by
    refine ⟨x, y, b1.str_inv, by rw [b2.str_inv], hy, by have := sizeLine_eq; omega, fun p hp => ?_⟩
    have hd : DpAll c.X.K F2 ((Txt.split x y).map V.str) ((Txt.split x y).map PyData.str) := by
      generalize Txt.split x y = ys
      induction ys with
      | nil => exact .nil
      | cons z zs ih => exact .cons (.str z) ih
    exact own_new g2.fh hp hd fun v F' H' fc g3 b3 n3 => q v F' H' fc ((g1.trans g2).trans g3) b3 fun b hb => ⟨same_none (g1.trans g2).hh (n3 b hb).1, (n3 b hb).2⟩⟩)⟩
/-! ### a or b, by truth -/
def truD : PyData → Bool
  | .none => false
  | .bool b => b
  | .int i => i != 0
  | .str x => x.length != 0
  | .list ds => !ds.isEmpty
  | .tuple ds => !ds.isEmpty
  | .dict _ => false
def trS : PyData → Prop
  | .str x => x.length ≤ 1000000
  | _ => True
theorem isEmpty_dp {K : PySem.W.Frag} {F : Hp} {vs : List V} (h : DpAll K F vs ds) : (!vs.isEmpty) = !ds.isEmpty := by
  cases h <;> rfl
theorem tru_of {K : PySem.W.Frag} {F H : Hp} {v : V} (s : Same F H) (h : Dp K F v d) (t : trS d) : TruV K v H (truD d) := by
  cases h with
  | non => exact rfl
  | bl b => exact rfl
  | int i => exact rfl
  | str x =>
    refine ⟨line_le t, ?_⟩
    show (x.length != 0) = ((x.length : Int) != 0)
    by_cases e : x.length = 0
    · rw [e]; rfl
    · have e2 : (x.length : Int) ≠ 0 := by omega
      rw [bne, bne, beq_eq_false_iff_ne.mpr e, beq_eq_false_iff_ne.mpr e2]
  | lst hs ha => exact .inl ⟨_, s.seq hs, (isEmpty_dp ha).symm⟩
  | tup hs ha => exact .inr (.inl ⟨_, sqT_mono s hs, (isEmpty_dp ha).symm⟩)
theorem ev_orT {rest : List Expr} (ha : EV c ρ a d1) (ht : trS d1) (hb : truD d1 = false → EV c ρ (.BoolOp .Or (b :: rest) pos) d2) : EV c ρ (.BoolOp .Or (a :: b :: rest) pos) (if truD d1 = true then d1 else d2) := ⟨fun σ F H hh Q q =>
  wpE_of (pe_orT pe_wp pe_wp) (ha.run σ F H hh _ fun v F1 H1 g1 b1 => ⟨truD d1, tru_of g1.fh b1 ht, by
    cases e : truD d1 with
    | true =>
      rw [e] at q
      exact q v F1 H1 g1 b1
    | false =>
      rw [e] at q
      exact (hb e).run σ F1 H1 (hh.grow g1) Q fun u F2 H2 g2 b2 => q u F2 H2 (g1.trans g2) b2⟩)⟩
/-! ### y = xs.pop()[:k] -/
theorem s1_popCut {n m : Nat} {xn yn : Str} {pn py : Pos} (h1 : ρ[n]? = some (.own (oL c.X.K ((xs ++ [x]).map PyData.str)))) (hN : c.X.N.Nodup) (hnm : n ≠ m) (he : ∀ ρ', EV c ρ' e (.int k)) (hx : x.length ≤ 1000000)
    (h : P (.next ((ρ.set n (.own (oL c.X.K (xs.map PyData.str)))).set m (.val (.str (cutS x none (some k))))))) (hi : c.X.N[m]? = some yn := by rfl) (hx' : Loc c.X.env.scope yn := by first | exact Or.inl rfl | exact Or.inr rfl) (hl : Nat.blt m ρ.length = true := by rfl)
    (hs : swapsWith (.Subscript (.Call (.Attribute (.Name xn pn) "pop" apos) [] [] cpos) (.Slice none (some e) none p2) spos) (some (.Name yn py)) pos.line c.X.env = pure false := by exact swaps_no rfl)
    (hf : c.X.fn yn = true ∨ c.X.env.scope.names.lookup yn = some .local := by first | exact .inl rfl | exact .inr rfl | assumption)
    (hpb : PE c.X (.Call (.Attribute (.Name xn pn) "pop" apos) [] [] cpos) (tBM0 c.X.K "list" rPop (tVar n)) := by exact pe_bm0 PySem.F.plainAttrs_list PySem.F.slot_list_pop PySem.F.type_list_pop mt_pop (pv _)) :
    S1 c ρ (.Assign [.Name yn py] (.Subscript (.Call (.Attribute (.Name xn pn) "pop" apos) [] [] cpos) (.Slice none (some e) none p2) spos) pos) P := ⟨fun σ F H D hh q => by
  refine wpS_of (ps_set hN hi hx' (pe_slice sl_str hpb po_wp po_wp) hs hf) ?_
  obtain ⟨pp, vs, hσ, h3, h4, h5, h6⟩ := hh.own h1
  have hlast : vs[vs.length - 1]? = some (.str x) ∧ vs.dropLast = xs.map V.str := by
    have e := dpall_strs_inv h4
    subst e
    simp
  have hd : DpAll c.X.K F vs.dropLast (xs.map PyData.str) := by
    rw [hlast.2]
    clear h h1 h4 hlast
    induction xs with
    | nil => exact .nil
    | cons z zs ih => exact .cons (.str z) ih
  refine ⟨.ref pp, hσ, .inl ⟨rfl, _, .of h3⟩, pp, vs, .str x, rfl, rfl, h3, hlast.1, ?_⟩
  have hh2 := hh.put (us := vs.dropLast) h1 hσ h5 h6 hd
  refine (ov_none (c := c) (ρ := ρ.set n (.own (oL c.X.K (xs.map PyData.str))))).run σ F _ hh2 _ fun F2 H2 g2 => ?_
  refine (ov_some (he (ρ.set n (.own (oL c.X.K (xs.map PyData.str)))))).run σ F2 H2 (hh2.grow g2) _ fun F3 H3 g3 => ?_
  refine ⟨x, rfl, line_le hx, ?_⟩
  exact q _ h (σ.set m (some (.str (cutS x none (some k))))) F3 H3 (g2.trans g3).ff (((hh2.grow (g2.trans g3)).pushV (.str _)).move (by rw [List.length_set]; exact blt_lt hl))⟩
end
end G

namespace G
open PySem PySem.Spec PyProof.Rows L2
/-! ### exceptions: raise, calls that may raise, try .. except C as e, a def that is handed the exception -/
section
variable {c : Cc} {ρ : List Cl} {P : Out → Prop} {e a b : Expr} {es : List Expr} {ds : List PyData} {d r : PyData} {pos p p2 : Pos} {x : Str} {k n : Nat} {S : Ct} {Pp : Out → Prop}
/-- what leaves is taken by the context's wish -/
abbrev Tk (c : Cc) : Prop := Takes c.X c.W
theorem tk_cX {P : Program} {w : World} {K : PySem.W.Frag} {mg : Str → Option Value} {base : Heap} {N : List Str} {qual : Str} {st : Stmt} {f : Addr} {cdv : Value} {A : Around} {outer : List Env} {s : Shared} {H : Hp} {E : XK} {F0 Kp : Hp} :
    Tk (cX P w K mg base N qual st f cdv A outer s H E F0 Kp) := takes_of (E := E) rfl rfl rfl rfl
theorem tk_cN {P : Program} {w : World} {K : PySem.W.Frag} {mg : Str → Option Value} {base : Heap} {N : List Str} {qual : Str} {st : Stmt} {f : Addr} {cdv : Value} {A : Around} {outer : List Env} {s : Shared} {H : Hp} {E : XK} {F0 Kp : Hp} :
    Tk (cN P w K mg base N qual st f cdv A outer s H E F0 Kp) := takes0
/-- a class of the program that stands for an exception, by its address -/
structure ExcOf (K : PySem.W.Frag) (mg : Str → Option Value) (x : Str) (C : Addr) : Prop where
  g : mg x = some (.ref C)
  keep : PySem.W.keepIn K (.ref C) = true
  make : PySem.W.excIn K C [.type "ValueError", .type "Exception", .type "BaseException", .type "object"] "ValueError.__new__" = true
  sub : PySem.W.subIn K (.ref C) (.type "BaseException") = some true
  ty : PySem.W.typeIn K (.ref C) = some (.type "type")
/-- raise C('..') -/
theorem s1_raise {C : Addr} {m : Str} {j} {p4 : Pos} (hc : c.X.calm = true) (X : ExcOf c.X.K c.X.mg x C) (h : P (.exc (.ref C) none ρ)) (hg : Gl c.X x := by rfl) (hdb : (x == ("__debug__" : Str)) = false := by decide) (tk : Tk c := by first | exact tk_cX | exact tk_cN | assumption) :
    S1 c ρ (.Raise (some (.Call (.Name x p) [.Constant (.str m) j p2] [] p4)) none pos) P := ⟨fun σ F H D hh q =>
  wpS_of (ps_raise hc tk (pmk_own PySem.F.excBase_ValueError X.make X.g X.keep (raises_own X.sub X.ty) hg hdb)) (q _ h σ F H none (Same.refl F) hh rfl)⟩
/-- an expression that gives data or lets an exception out -/
structure XV (c : Cc) (ρ : List Cl) (e : Expr) (R : PyData → Prop) (E : Value → Option (List (Str × V)) → Prop) : Prop where
  run : ∀ σ F H, c.H ρ σ F H → ∀ Q : VK, (∀ d v F' H', R d → Gw F H F' H' → Dp c.X.K F' v d → Q v H') → (∀ cls y dd F' H', E cls y → Gw F H F' H' → excD y dd H' → c.W cls dd σ H') → wpE c.X e σ H Q
theorem xv_ev {R : PyData → Prop} {E : Value → Option (List (Str × V)) → Prop} (h : EV c ρ e d) (hR : R d) : XV c ρ e R E := ⟨fun σ F H hh Q q _ => h.run σ F H hh Q fun v F' H' g hd => q d v F' H' hR g hd⟩
theorem xv_if {k : Bool} {t : Expr} {R : PyData → Prop} {E : Value → Option (List (Str × V)) → Prop} (ht : TV c ρ t k) (h1 : k = true → XV c ρ a R E) (h2 : k = false → XV c ρ b R E) : XV c ρ (.IfExp t a b pos) R E := ⟨fun σ F H hh Q q qe =>
  wpE_of (pe_ifExp pt_wp pe_wp pe_wp) (ht.run σ F H hh _ fun F1 H1 g1 => by
    cases k with
    | true => exact (h1 rfl).run σ F1 H1 (hh.grow g1) Q (fun d v F2 H2 hR g2 => q d v F2 H2 hR (g1.trans g2)) fun cls y dd F2 H2 hE g2 => qe cls y dd F2 H2 hE (g1.trans g2)
    | false => exact (h2 rfl).run σ F1 H1 (hh.grow g1) Q (fun d v F2 H2 hR g2 => q d v F2 H2 hR (g1.trans g2)) fun cls y dd F2 H2 hE g2 => qe cls y dd F2 H2 hE (g1.trans g2))⟩
theorem xv_call {R : PyData → Prop} {E : Value → Option (List (Str × V)) → Prop} (hG : FnG c.X.prog c.X.w c.X.K c.X.mg c.X.base (L2.CX c.X.prog c.X.w) x k n S) (hr : Room k c.X.A) (ha : EA c ρ (e :: es) ds) (hS : S (ds.map .val) Pp) (hP : ∀ r cs', Pp (.ret r cs') → ∃ d, r = .val d ∧ R d)
    (hX : ∀ cls y cs', Pp (.exc cls y cs') → E cls y) (hg : Gl c.X x := by rfl) (hdb : (x == ("__debug__" : Str)) = false := by decide) (he : starEach (e :: es) c.X.env = (false, eval e c.X.env) :: starEach es c.X.env := by exact star_cons rfl) (hpl : (backTo pos (starEach es c.X.env)).any (·.1) = false := by exact star_any rfl) (tk : Tk c := by first | exact tk_cX | exact tk_cN | assumption) :
    XV c ρ (.Call (.Name x p) (e :: es) [] pos) R E := ⟨fun σ F H hh Q q qe => by
  obtain ⟨f, fd, ps, Fk, hm, hk, hb, hn⟩ := hG
  refine wpE_of (pe_callS Fk hr hg hm hk hb (fun σ => passAt tk σ) pa_wp hdb he hpl) (ha.run σ F H hh _ fun vs F1 H1 g1 b1 => ?_)
  refine ⟨F1, H1, ds.map .val, Pp, hold_vals g1.fh b1, hS, fun r cs' v F' H' hp h2 => ?_, fun cls y cs' F' H' dd hp h2 hx => ?_⟩
  · obtain ⟨d, rfl, hR⟩ := hP r cs' hp
    obtain ⟨fc, ⟨_, u, eu, hd⟩, _⟩ := h2.last
    cases eu
    exact q d v F' H' hR (g1.trans (gw_of_fr h2.fr)) hd
  · exact qe cls y dd F' H' (hX cls y cs' hp) (g1.trans (gw_of_fr h2.fr)) hx⟩
theorem s1_setX {R : PyData → Prop} {E : Value → Option (List (Str × V)) → Prop} {i : Nat} {p' : Pos} (hN : c.X.N.Nodup) (he : XV c ρ e R E) (h : ∀ d, R d → P (.next (ρ.set i (.val d)))) (hX : ∀ cls y, E cls y → P (.exc cls y ρ)) (hi : c.X.N[i]? = some x := by rfl) (hx : Loc c.X.env.scope x := by first | exact Or.inl rfl | exact Or.inr rfl) (hl : Nat.blt i ρ.length = true := by rfl)
    (hs : swapsWith e (some (.Name x p')) pos.line c.X.env = pure false := by exact swaps_no rfl) (hf : c.X.fn x = true ∨ c.X.env.scope.names.lookup x = some .local := by first | exact .inl rfl | exact .inr rfl | assumption) : S1 c ρ (.Assign [.Name x p'] e pos) P := ⟨fun σ F H D hh q =>
  wpS_of (ps_set hN hi hx pe_wp hs hf) (he.run σ F H hh _ (fun d v F1 H1 hR g1 b1 => q _ (h d hR) (σ.set i (some v)) F1 H1 g1.ff (((hh.grow g1).pushV b1).move (blt_lt hl)))
    fun cls y dd F1 H1 hE g1 hx => q _ (hX cls y hE) σ F1 H1 dd g1.ff (hh.grow g1) hx)⟩
theorem s1_retX {R : PyData → Prop} {E : Value → Option (List (Str × V)) → Prop} (he : XV c ρ e R E) (h : ∀ d, R d → P (.ret (.val d) ρ)) (hX : ∀ cls y, E cls y → P (.exc cls y ρ)) : S1 c ρ (.Return (some e) pos) P := ⟨fun σ F H D hh q =>
  wpS_of (ps_ret pe_wp) (he.run σ F H hh _ (fun d v F1 H1 hR g1 b1 => q _ (h d hR) σ v F1 H1 g1.ff hh.len ((hh.grow g1).pushV b1)) fun cls y dd F1 H1 hE g1 hx => q _ (hX cls y hE) σ F1 H1 dd g1.ff (hh.grow g1) hx)⟩
theorem s1_exprX {R : PyData → Prop} {E : Value → Option (List (Str × V)) → Prop} (he : XV c ρ e R E) (h : ∀ d, R d → P (.next ρ)) (hX : ∀ cls y, E cls y → P (.exc cls y ρ)) (hs : swapsWith e none pos.line c.X.env = pure false := by exact swaps_no rfl) : S1 c ρ (.Expr e pos) P := ⟨fun σ F H D hh q =>
  wpS_of (ps_expr pe_wp hs) (he.run σ F H hh _ (fun d v F1 H1 hR g1 b1 => q _ (h d hR) σ F1 H1 g1.ff (hh.grow g1)) fun cls y dd F1 H1 hE g1 hx => q _ (hX cls y hE) σ F1 H1 dd g1.ff (hh.grow g1) hx)⟩
end
/-! try .. except C as e -/
abbrev Cc.tr (c : Cc) (pn : List (Addr × Obj)) (xe : Value → Shared → Prop) (W : WX) : Cc := ⟨c.X.tr pn xe, c.F0, c.Kp, W⟩
abbrev Cc.su (c : Cc) (q : Addr × Obj) (pn : List (Addr × Obj)) : Cc := ⟨c.X.suite q.1 (q :: pn), c.F0, c.Kp, W0⟩
theorem Hold.unset {K : PySem.W.Frag} {F0 Kp F H : Hp} {ρ : List Cl} {σ : L2.St} (h : Hold K F0 Kp ρ σ F H) (i : Nat) : Hold K F0 Kp (ρ.set i .un) (σ.set i none) F H := h.wiped [i]
section
variable {c : Cc} {ρ : List Cl} {P P1 P2 : Out → Prop} {pos pos' np : Pos} {x n : Str} {i : Nat} {cv : Value} {b₀ : Stmt} {body suite : List Stmt}
def SuiteP (P : Out → Prop) (i : Nat) : Out → Prop
  | .next ρ => P (.next (ρ.set i .un))
  | .brk ρ => P (.brk (ρ.set i .un))
  | .cont ρ => P (.cont (ρ.set i .un))
  | .ret r ρ => P (.ret r ρ)
  | .exc _ _ _ => False
def BodyP (c : Cc) (P : Out → Prop) (i : Nat) (cv : Value) (suite : List Stmt) : Out → Prop
  | .next ρ => P (.next ρ)
  | .brk ρ => P (.brk ρ)
  | .cont ρ => P (.cont ρ)
  | .ret r ρ => P (.ret r ρ)
  | .exc cls y ρ => y = none ∧ PySem.W.exmOne c.X.K cls cv = some true ∧ ∀ (q : Addr × Obj) pn, Zc cls none q.2 → (∃ vs, q.2.data = .fields vs) → SV (c.su q pn) (ρ.set i (.raw (.ref q.1))) suite (SuiteP P i)
theorem s1_tryAs (hs : c.X.stack = c.X.env :: c.X.outer) (hf : c.X.env.frame = some c.X.env.locals) (hN : c.X.N.Nodup) (hc : Names c.X x cv)
    (hb : ∀ pn xe W, Tk (c.tr pn xe W) → SV (c.tr pn xe W) ρ body (BodyP c P i cv (b₀ :: suite))) (hi : c.X.N[i]? = some n := by rfl) (hln : c.X.env.kindOf n = some .local := by rfl) (hl : ∀ ρ' : List Cl, ρ'.length = ρ.length → i < ρ'.length := by intro ρ' h; rw [h]; exact blt_lt rfl)
    (hlen : i < c.X.N.length := by exact blt_lt rfl) (tk : Tk c := by first | exact tk_cX | exact tk_cN | assumption) : S1 c ρ (.Try body [.ExceptHandler (some (.Name x np)) (some n) (b₀ :: suite) pos'] [] [] pos) P := ⟨fun σ F H D hh q => by
  refine wpS_of (ps_try_as (tb := fun W D σ H => ∀ pn xe, Takes (c.X.tr pn xe) W → wpSs (c.X.tr pn xe) body D σ H) (ts := fun a cls d D σ H => ∀ oe pn, Zc cls d oe → (∃ vs, oe.data = .fields vs) → wpSs (c.X.suite a ((a, oe) :: pn)) (b₀ :: suite) D σ H) (Wout := c.W)
    hs hf hN hi hln hc tk (fun W pn xe tk' _ => ⟨fun pins s σ H D I h => h pn xe tk' pins s I⟩) (fun a oe cls d pn hz hd => ⟨fun pins s σ H D I h => h oe pn hz hd pins s I⟩)) ?_
  intro pn xe tk'
  refine (hb pn xe _ tk').run σ F H _ hh fun o ho => ?_
  cases o with
  | next ρ' => exact q _ ho
  | brk ρ' => exact q _ ho
  | cont ρ' => exact q _ ho
  | ret r ρ' => exact q _ ho
  | exc cls y ρ' =>
    intro σ' F' H' d s' hh' hx
    obtain ⟨rfl, ex, su⟩ := ho
    have hd : d = none := hx
    subst hd
    refine ⟨true, ex, fun _ a ha oe pn2 hz hdat => ?_, fun h => by cases h⟩
    by_cases hlt : i < ρ'.length
    · refine (su (a, oe) pn2 hz hdat).run (σ'.set i (some (.ref a))) F' H' _ (hh'.pushR.move hlt) fun o ho => ?_
      cases o with
      | next ρ2 => exact fun σ2 F2 H2 s2 hh2 => q _ ho (σ2.set i none) F2 H2 (s'.trans s2) (hh2.unset i)
      | brk ρ2 => exact fun σ2 F2 H2 s2 hh2 => q _ ho (σ2.set i none) F2 H2 (s'.trans s2) (hh2.unset i)
      | cont ρ2 => exact fun σ2 F2 H2 s2 hh2 => q _ ho (σ2.set i none) F2 H2 (s'.trans s2) (hh2.unset i)
      | ret r ρ2 => exact fun σ2 v F2 H2 s2 l2 hh2 => q _ ho σ2 v F2 H2 (s'.trans s2) l2 hh2
      | exc cls2 y2 ρ2 => exact ho.elim
    · have e1 : ρ'.set i (.raw (.ref a)) = ρ' := List.set_eq_of_length_le (by omega)
      have e2 : σ'.set i (some (.ref a)) = σ' := List.set_eq_of_length_le (by have := hh'.len; omega)
      have su' := su (a, oe) pn2 hz hdat
      rw [e1] at su'
      rw [e2]
      refine su'.run σ' F' H' _ hh' fun o ho => ?_
      cases o with
      | next ρ2 => exact fun σ2 F2 H2 s2 hh2 => q _ ho (σ2.set i none) F2 H2 (s'.trans s2) (hh2.unset i)
      | brk ρ2 => exact fun σ2 F2 H2 s2 hh2 => q _ ho (σ2.set i none) F2 H2 (s'.trans s2) (hh2.unset i)
      | cont ρ2 => exact fun σ2 F2 H2 s2 hh2 => q _ ho (σ2.set i none) F2 H2 (s'.trans s2) (hh2.unset i)
      | ret r ρ2 => exact fun σ2 v F2 H2 s2 l2 hh2 => q _ ho σ2 v F2 H2 (s'.trans s2) l2 hh2
      | exc cls2 y2 ρ2 => exact ho.elim⟩
end
/-! a def that is handed the exception that the suite holds, and gives data -/
def FnE (P : Program) (w : World) (K : PySem.W.Frag) (mg : Str → Option Value) (base : Heap) (x : Str) (k : Nat) (D : Addr) (r : PyData) : Prop :=
  ∃ (f : Addr) (fd : FuncData) (ps : List Str), mg x = some (.ref f) ∧ PySem.W.keepIn K (.ref f) = true ∧ Binds K fd ps [] ∧ ps.length = 1 ∧
    ∀ (A : Around) (outer : List Env) (s : Shared) (F H : Hp) (args : Args) (us : List Value) (Q : VK) (p : Addr × Obj), L2H.RoomH k A → L2H.PinOk outer H s p → Zc (.ref D) none p.2 → (∃ vs, p.2.data = .fields vs) → Env0 P w K mg base A outer s H →
      BindsTo s fd args (ps.zip us) → Vals [.ref p.1] us → Same F H → (∀ v F' H', Gw F H F' H' → Dp K F' v r → Q v H') → codeAny (model P w) A (.call (.ref f) args) (CR CX0 outer P w H s Q (fun _ _ _ => False)) s
abbrev cE (P : Program) (w : World) (K : PySem.W.Frag) (mg : Str → Option Value) (base : Heap) (N : List Str) (qual : Str) (st : Stmt) (f : Addr) (cdv : Value) (A : Around) (outer : List Env) (s : Shared) (H F0 : Hp) (p : Addr × Obj) : Cc :=
  ⟨(L2H.cxH CX0 P w K mg base N qual (defScope st) f cdv A outer s H (fun _ _ _ => False) p).nox, F0, H, W0⟩
theorem fn_okE {P : Program} {w : World} {K : PySem.W.Frag} {mg : Str → Option Value} {base : Heap} {x qual : Str} {st : Stmt} {f : Addr} {fd : FuncData} {N : List Str} {y : Str} {k : Nat} {D : Addr} {r : PyData} (F : Fun K x qual st f fd) (hm : mg x = some (.ref f)) (hbd : Binds K fd [y] []) (S : FnScope N [y] (defScope st))
    (hb : ∀ (cdv : Value) (A : Around) (outer : List Env) (s : Shared) (H F0 : Hp) (p : Addr × Obj), L2H.RoomH k (A.deeper (envOfC qual (defScope st) s.heap.objs.size f cdv)) → Zc (.ref D) none p.2 → (∃ vs, p.2.data = .fields vs) →
      SV (cE P w K mg base N qual st f cdv A outer s H F0 p) (.raw (.ref p.1) :: uns (N.length - 1)) (defBody st) (fun o => ∃ ρ', o = .ret (.val r) ρ')) : FnE P w K mg base x (k + 1) D r := by
  have Fe := F.ex
  obtain ⟨oc, od, kV, doc, pm, an, cdv, ct, osl, rfl, lk, hcd⟩ := Fe
  refine ⟨f, _, [y], hm, F.kp, hbd, rfl, fun A outer s F0 H args us Q p hr hpin hz hdat e0 hbt rv hs hQ => ?_⟩
  have KX : K.In s.heap := e0.mod.kin.keeps fun b o e => (e0.bs b o e).1
  have lim : s.heap.NoLimit := e0.mod.nolimit.keeps fun b o e => (e0.bs b o e).1
  have hkind : ∀ z ∈ [y].zip us, (defScope st).names.lookup z.1 = some .local ∨ ((defScope st).names.lookup z.1 = some .cell ∧ ((cellsFrom (s.heap.objs.size + 1) (defScope st).names []).lookup z.1).isSome = true) := fun ⟨m, v⟩ hz => by
    rcases S.par m (List.of_mem_zip hz).1 with q | q
    · exact .inl q
    · exact .inr ⟨q, PySem.W.cellsFrom_some _ _ _ (.inl q)⟩
  refine codeAny_call_function hr.depth (KX _ _ lk) rfl S.co S.gen rfl (PySem.W.codeRec_of KX hcd) (hbt _ _ _ _ ?_)
  refine wpAny_newFunctionEnv_cells S.kind hkind fun env he s1 xx => ?_
  subst he
  refine ⟨lim.keeps xx.toInCall.keep, codeAny_func ?_⟩
  have I : Inv (L2H.cxH CX0 P w K mg base N qual (defScope st) f cdv A outer s H (fun _ _ _ => False) p) [] (L2.start N [.ref p.1]) H s1 := L2H.inv_startH (CX := CX0) (E := fun _ _ _ => False) S hpin e0 (by rfl) rv xx
  have h0 : Hold K F0 H [.raw (.ref p.1)] ([V.ref p.1].map some) F0 H := by
    have q : Hold K F0 H [] [] F0 H := ⟨⟨Same.refl F0, hs, Same.refl H, fun b h0 _ => h0⟩, rfl, fun _ => [], (fun i c ov h1 => by simp at h1), (fun _ b hb => by cases hb), (fun _ _ _ b hb => by cases hb), fun _ _ => rfl⟩
    exact q.pushR
  have hN1 : 1 ≤ N.length := by have h := congrArg List.length S.pre; rw [List.length_take] at h; simp at h; omega
  have hh := hold_start (N := N) h0 (by simpa using hN1)
  have body := (hb cdv A outer s H F0 p (hr.deeper _) hz hdat).run (L2.start N [.ref p.1]) F0 H { nx := fun _ H' => Q .non H', rt := Q } hh fun o ho => by
    obtain ⟨ρ', rfl⟩ := ho
    intro σ' v F' H' s' l' hh'
    obtain ⟨fc, ⟨_, u, eu, hd⟩, _⟩ := hh'.last
    cases eu
    have gw := gw_of_fr hh'.fr
    exact hQ v F' H' gw hd
  have ps : PSs (L2H.cxH CX0 P w K mg base N qual (defScope st) f cdv A outer s H (fun _ _ _ => False) p).nox (defBody st) (wpSs (L2H.cxH CX0 P w K mg base N qual (defScope st) f cdv A outer s H (fun _ _ _ => False) p).nox (defBody st)) := pss_wp
  refine wpAny_mono (ps.nox.run [] s1 (L2.start N [.ref p.1]) H _ I body) (fun fl s' hs => ?_) fun e s' hs => hs
  have fin : ∀ {v : V} {u : Value} {σ' : L2.St} {H' : Hp} {s' : Shared}, Inv (L2H.cxH CX0 P w K mg base N qual (defScope st) f cdv A outer s H (fun _ _ _ => False) p) [] σ' H' s' → RelV v u → Q v H' → CR CX0 outer P w H s Q (fun _ _ _ => False) (.ok (.ret u)) s' := fun {v u σ' H' s'} J rv q => ⟨v, H', J.os, J.bare, J.base, J.hok, rv, q⟩
  cases fl with
  | ret u =>
    obtain ⟨v, σ', H', J, rv, q⟩ := hs
    exact fin J rv q
  | next =>
    obtain ⟨σ', H', J, q⟩ := hs
    exact fin (v := V.non) (u := Value.none) J rfl q
  | brk =>
    obtain ⟨_, _, _, q⟩ := hs
    exact False.elim q
  | cont =>
    obtain ⟨_, _, _, q⟩ := hs
    exact False.elim q
end G

namespace G
open PySem PySem.Spec PyProof.Rows L2
section
variable {c : Cc} {ρ : List Cl} {P : Out → Prop} {e a b : Expr} {ds : List PyData} {d r : PyData} {pos p p2 apos cpos : Pos} {x y : Str} {k i : Nat} {D : Addr} {q : Addr × Obj}
/-- f(e), e the exception that is held -/
theorem ev_callE (hF : FnE c.X.prog c.X.w c.X.K c.X.mg c.X.base x k D r) (hr : L2H.RoomH k c.X.A) (hq : q ∈ c.X.pn) (hz : Zc (.ref D) none q.2) (hd : ∃ vs, q.2.data = .fields vs) (h1 : ρ[i]? = some (.raw (.ref q.1)) := by rfl) (hN : c.X.N[i]? = some y := by rfl)
    (hv : Vis c.X.env.scope y := by first | exact Or.inl rfl | exact Or.inr (Or.inl rfl) | exact Or.inr (Or.inr rfl)) (hd1 : (y == ("__debug__" : Str)) = false := by decide) (hcd : (y == ("__classdict__" : Str)) = false := by decide) (hg : Gl c.X x := by rfl) (hdb : (x == ("__debug__" : Str)) = false := by decide)
    (hs : starEach [.Name y p2] c.X.env = (false, eval (.Name y p2) c.X.env) :: starEach [] c.X.env := by exact star_cons rfl) : EV c ρ (.Call (.Name x p) [.Name y p2] [] pos) r := ⟨fun σ F H hh Q qq pins s I => by
  obtain ⟨f, fd, ps, hm, hk, hb, hps, run⟩ := hF
  have hσ := hh.raw h1
  have ha : PA c.X [.Name y p2] (tCons (tVar i) tNil) := pa_cons (pe_var hN hv hd1 hcd) pa_nil hs
  refine wpAny_Call_Name_kw (ld_glob I hg hm ?_ hdb)
  refine PySem.W.callWith_K (h₀ := c.X.base) I.ok.mod.kin hk (thn (ha.run pos pins s σ H (fun vs H1 => vs = [V.ref q.1] ∧ H = H1) I ⟨_, hσ, rfl, rfl⟩) fun us s1 ⟨vs, H1, I1, rv, ev, eH⟩ => ⟨I1.kIn, ?_⟩) hs rfl
  subst ev
  subst eH
  have hl : us.length = ps.length := by rw [← rv.length, hps]; rfl
  have bb := hb s1 us I1.kIn (by rw [List.append_nil]; exact hl)
  rw [List.append_nil] at bb
  have P1 := I1.pin q (List.mem_append_left _ hq)
  have hpin : L2H.PinOk c.X.stack H s1 q := ⟨P1.1, P1.2.1, fun hm => (List.mem_cons.mp (I1.stkSub q.1 hm)).elim P1.2.2.1 P1.2.2.2.1, P1.2.2.2.2⟩
  refine wpAny_call (codeAny_mono (run c.X.A c.X.stack s1 F H ⟨us, []⟩ us Q q hr hpin hz hd I1.env0 bb rv hh.fr.fh qq) fun r s' hq => ?_)
  cases r with
  | error e => exact hq.elim
  | ok fl =>
    cases fl with
    | ret u => exact I1.after hq
    | next => exact False.elim hq
    | brk => exact False.elim hq
    | cont => exact False.elim hq⟩
/-! isinstance(e, C) -/
theorem call_isQ {X : Cx} {D : Addr} {q : Addr × Obj} (C : ExcC X.K D) (hq : q ∈ X.pn) (hz : Zc (.ref D) none q.2) (hf : ∃ vs, q.2.data = .fields vs) : CallR X (.builtin "isinstance") (rIsE X.K D q.1) := by
  intro pins s σ H xs us Q I r h
  obtain ⟨c, cv, b, rfl, hcv, e, qq⟩ := h
  cases r with
  | cons rx rr =>
    cases rr with
    | cons rt rr =>
      cases rr
      cases rx
      have ec := hcv _ rt
      subst ec
      obtain ⟨hget, _⟩ := I.pin q (List.mem_append_left _ hq)
      obtain ⟨vs, hv⟩ := hf
      obtain ⟨qa, oe⟩ := q
      have J : PySem.W.InstAt s.heap qa oe D none := by
        obtain ⟨oc, od, oda, osl⟩ := oe
        obtain ⟨h1, h2⟩ := hz
        dsimp only at h1 h2 hv
        subst h1 h2 hv
        exact ⟨hget, rfl, rfl, trivial⟩
      exact PySem.W.kia_one (PySem.W.handS_kitx_exc C.hg C.hk C.hs C.hd C.ha C.hn C.ht C.hm) I.kIn J e (fun z => nomatch z) fun tk => ⟨.bl b, H, I.kept (t' := tk) fun _ _ z => z, rfl, qq⟩
theorem ev_isQ {k : Bool} {T : Str} {C : Addr} (X : ExcC c.X.K D) (hq : q ∈ c.X.pn) (hz : Zc (.ref D) none q.2) (hd : ∃ vs, q.2.data = .fields vs) (hI : c.X.mg "isinstance" = none) (hm : c.X.mg T = some (.ref C)) (hk : PySem.W.kitOne c.X.K (.ref D) (.ref C) = some k) (h1 : ρ[i]? = some (.raw (.ref q.1)) := by rfl) (hN : c.X.N[i]? = some y := by rfl)
    (hv : Vis c.X.env.scope y := by first | exact Or.inl rfl | exact Or.inr (Or.inl rfl) | exact Or.inr (Or.inr rfl)) (hd1 : (y == ("__debug__" : Str)) = false := by decide) (hcd : (y == ("__classdict__" : Str)) = false := by decide) (hgI : Gl c.X "isinstance" := by rfl) (hg : Gl c.X T := by rfl) (hdb : (T == ("__debug__" : Str)) = false := by decide)
    {p3 : Pos} (hs : starEach [.Name y p2, .Name T p3] c.X.env = (false, eval (.Name y p2) c.X.env) :: starEach [.Name T p3] c.X.env := by exact star_cons rfl) (hs2 : starEach [.Name T p3] c.X.env = (false, eval (.Name T p3) c.X.env) :: starEach [] c.X.env := by exact star_cons rfl)
    (hpl : (backTo pos (starEach [.Name T p3] c.X.env)).any (·.1) = false := by exact star_any rfl) : EV c ρ (.Call (.Name "isinstance" p) [.Name y p2, .Name T p3] [] pos) (.bool k) := ⟨fun σ F H hh Q qq =>
  wpE_of (pe_callB (call_isQ X hq hz hd) hgI hI (by decide +kernel) (pa_cons (pe_var hN hv hd1 hcd) (pa_cons (pe_glob (v := .ref C) hg hm rfl hdb) pa_nil hs2) hs) (by decide) (by decide) hs hpl)
    ⟨_, hh.raw h1, .ref C, .ref C, k, rfl, (fun u r => by cases r; rfl), hk, qq _ F H (Gw.refl hh.fr.fh) (.bl k)⟩⟩
theorem ev_isQT {k : Bool} {T : Str} {tn : String} (X : ExcC c.X.K D) (hq : q ∈ c.X.pn) (hz : Zc (.ref D) none q.2) (hd : ∃ vs, q.2.data = .fields vs) (hI : c.X.mg "isinstance" = none) (hm : c.X.mg T = none) (hb : bootBuiltins T = some (.type tn)) (hk : PySem.W.kitOne c.X.K (.ref D) (.type tn) = some k) (h1 : ρ[i]? = some (.raw (.ref q.1)) := by rfl) (hN : c.X.N[i]? = some y := by rfl)
    (hv : Vis c.X.env.scope y := by first | exact Or.inl rfl | exact Or.inr (Or.inl rfl) | exact Or.inr (Or.inr rfl)) (hd1 : (y == ("__debug__" : Str)) = false := by decide) (hcd : (y == ("__classdict__" : Str)) = false := by decide) (hgI : Gl c.X "isinstance" := by rfl) (hg : Gl c.X T := by rfl) (hn : T ≠ "__name__" := by decide) (hdb : (T == ("__debug__" : Str)) = false := by decide)
    {p3 : Pos} (hs : starEach [.Name y p2, .Name T p3] c.X.env = (false, eval (.Name y p2) c.X.env) :: starEach [.Name T p3] c.X.env := by exact star_cons rfl) (hs2 : starEach [.Name T p3] c.X.env = (false, eval (.Name T p3) c.X.env) :: starEach [] c.X.env := by exact star_cons rfl)
    (hpl : (backTo pos (starEach [.Name T p3] c.X.env)).any (·.1) = false := by exact star_any rfl) : EV c ρ (.Call (.Name "isinstance" p) [.Name y p2, .Name T p3] [] pos) (.bool k) := ⟨fun σ F H hh Q qq =>
  wpE_of (pe_callB (call_isQ X hq hz hd) hgI hI (by decide +kernel) (pa_cons (pe_var hN hv hd1 hcd) (pa_cons (pe_bltn (v := .ty tn) hg hm hb rfl hn hdb) pa_nil hs2) hs) (by decide) (by decide) hs hpl)
    ⟨_, hh.raw h1, .ty tn, .type tn, k, rfl, (fun u r => by cases r; rfl), hk, qq _ F H (Gw.refl hh.fr.fh) (.bl k)⟩⟩
/-! xs.count(y), xs.index(y) of plain values -/
def rCountV (K : PySem.W.Frag) : V → List V → Hp → VK → Prop := fun x xs H Q => ∃ (a : Addr) (ys : List V) (y : V), x = V.ref a ∧ xs = [y] ∧ SqL K H a ys ∧ flatV y = true ∧ ys.all flatV = true ∧ Q (.int ((ys.countP fun z => eqV z y : Nat) : Int)) H
theorem countP_eqU {y : V} {uy : Value} : ∀ {ys : List V} {us : List Value}, Vals ys us → ys.all flatV = true → us.countP (eqU y) = ys.countP fun z => eqV z y
  | _, _, .nil, _ => rfl
  | z :: zs, u :: us, .cons r rs, h => by
    simp only [List.all_cons, Bool.and_eq_true] at h
    rw [List.countP_cons, List.countP_cons, countP_eqU (uy := uy) rs h.2, eqU_of r h.1]
theorem mt_countV {X : Cx} : MtR X "list.count" (rCountV X.K) := by
  intro pins s σ H x xs v us Q I rx rxs h
  obtain ⟨a, ys, y, rfl, rfl, hs, fy, fys, qq⟩ := h
  cases rx
  cases rxs with
  | cons ry rt =>
    rename_i uy ut
    cases rt
    obtain ⟨its, rv, ⟨⟨cls, dd, data, sl⟩, n, ho, hc, hdn, hd⟩, hlen⟩ := I.list hs
    simp only at hc hd
    subst hc hd
    refine call_meets PySem.F.slot_list_count ⟨_, ho, rfl⟩ PySem.F.entry_list_count (PySem.F.args_list_count_2 _ _) (SeqAt.list_countAt a its.toArray n dd sl uy (eqU y)) ⟨ho, fun u' hu' => mem_eqAt ry fy rv fys u' (by simpa using hu'), ?_⟩
    have e : its.toArray.toList.countP (eqU y) = ys.countP fun z => eqV z y := by simpa using countP_eqU (uy := uy) rv fys
    rw [e]
    exact ⟨.int _, H, I.tok _, ⟨_, rfl⟩, qq⟩
theorem dpall_bools_inv {K : PySem.W.Frag} {F : Hp} : ∀ {vs : List V} {ns : List Bool}, DpAll K F vs (ns.map PyData.bool) → vs = ns.map V.bl
  | [], [], _ => rfl
  | [], n :: ns, h => by cases h
  | v :: vs, [], h => by cases h
  | v :: vs, n :: ns, h => by
    cases h with
    | cons h1 h2 => rw [h1.bool_inv, dpall_bools_inv h2]; rfl
theorem ev_countB {bs : List Bool} {kb : Bool} {j} {pj : Pos} (ha : BV c ρ a (.list (bs.map PyData.bool)))
    (hpb : PE c.X (.Call (.Attribute a "count" apos) [.Constant (.bool kb) j pj] [] cpos) (tBM c.X.K "list" (rCountV c.X.K) (wpE c.X a) (tCons (wpE c.X (.Constant (.bool kb) j pj)) tNil)) := by exact pe_bm PySem.F.plainAttrs_list PySem.F.slot_list_count PySem.F.type_list_count mt_countV pe_wp (pa_cons pe_wp pa_nil)) :
    EV c ρ (.Call (.Attribute a "count" apos) [.Constant (.bool kb) j pj] [] cpos) (.int ((bs.count kb : Nat) : Int)) := ⟨fun σ F H hh Q qq =>
  wpE_of hpb (ha.run σ F H hh _ fun v F1 H1 g1 b1 => by
    obtain ⟨z, vs, e1, h1, h2⟩ := b1.list_inv g1.fh
    refine ⟨by rw [e1]; exact .inl ⟨rfl, _, h1⟩, (ev_bool (c := c) (ρ := ρ) (b := kb) (j := j) (pos := pj)).run σ F1 H1 (hh.grow g1) _ fun u F2 H2 g2 b2 => ?_⟩
    have e3 := dpall_bools_inv h2
    refine ⟨z, vs, .bl kb, e1, by rw [b2.bool_inv], g2.hh.seq h1, rfl, by rw [e3, List.all_map]; exact List.all_eq_true.mpr fun _ _ => rfl, ?_⟩
    have e4 : (vs.countP fun z => eqV z (.bl kb)) = bs.count kb := by
      rw [e3, List.countP_map]
      rfl
    rw [e4]
    exact qq _ F2 H2 (g1.trans g2) (.int _))⟩
theorem ev_indexB {bs : List Bool} {kb : Bool} {j} {pj : Pos} {m : Nat} (ha : BV c ρ a (.list (bs.map PyData.bool))) (hm : bs[m]? = some kb) (hno : ∀ i, i < m → bs[i]? ≠ some kb)
    (hpb : PE c.X (.Call (.Attribute a "index" apos) [.Constant (.bool kb) j pj] [] cpos) (tBM c.X.K "list" (rIndex c.X.K) (wpE c.X a) (tCons (wpE c.X (.Constant (.bool kb) j pj)) tNil)) := by exact pe_bm PySem.F.plainAttrs_list PySem.F.slot_list_index PySem.F.type_list_index mt_index pe_wp (pa_cons pe_wp pa_nil)) :
    EV c ρ (.Call (.Attribute a "index" apos) [.Constant (.bool kb) j pj] [] cpos) (.int (m : Int)) := ⟨fun σ F H hh Q qq =>
  wpE_of hpb (ha.run σ F H hh _ fun v F1 H1 g1 b1 => by
    obtain ⟨z, vs, e1, h1, h2⟩ := b1.list_inv g1.fh
    refine ⟨by rw [e1]; exact .inl ⟨rfl, _, h1⟩, (ev_bool (c := c) (ρ := ρ) (b := kb) (j := j) (pos := pj)).run σ F1 H1 (hh.grow g1) _ fun u F2 H2 g2 b2 => ?_⟩
    have e3 := dpall_bools_inv h2
    refine ⟨z, vs, .bl kb, m, .bl kb, e1, by rw [b2.bool_inv], g2.hh.seq h1, rfl, by rw [e3, List.all_map]; exact List.all_eq_true.mpr fun _ _ => rfl, by rw [e3, List.getElem?_map, hm]; rfl, by simp [eqV], fun i z' hi hz' => ?_, qq _ F2 H2 (g1.trans g2) (.int _)⟩
    rw [e3, List.getElem?_map] at hz'
    cases e5 : bs[i]? with
    | none => rw [e5] at hz'; cases hz'
    | some w =>
      rw [e5] at hz'
      cases hz'
      have := hno i hi
      rw [e5] at this
      have hne : w ≠ kb := fun q => this (by rw [q])
      show (w == kb) = false
      exact beq_eq_false_iff_ne.mpr hne)⟩
theorem ev_countI {ns : List Int} {k : Int} (ha : BV c ρ a (intsD ns)) (he : EV c ρ e (.int k))
    (hpb : PE c.X (.Call (.Attribute a "count" apos) [e] [] cpos) (tBM c.X.K "list" (rCntI c.X.K) (wpE c.X a) (tCons (wpE c.X e) tNil)) := by exact pe_bm PySem.F.plainAttrs_list PySem.F.slot_list_count PySem.F.type_list_count mt_lcount pe_wp (pa_cons pe_wp pa_nil)) :
    EV c ρ (.Call (.Attribute a "count" apos) [e] [] cpos) (.int ((ns.count k : Nat) : Int)) := ⟨fun σ F H hh Q qq =>
  wpE_of hpb (ha.run σ F H hh _ fun v F1 H1 g1 b1 => by
    obtain ⟨z, vs, e1, h1, h2⟩ := b1.list_inv g1.fh
    refine ⟨by rw [e1]; exact .inl ⟨rfl, _, h1⟩, he.run σ F1 H1 (hh.grow g1) _ fun u F2 H2 g2 b2 => ?_⟩
    refine ⟨z, ns, k, e1, by rw [b2.int_inv], ?_, qq _ F2 H2 (g1.trans g2) (.int _)⟩
    rw [← dpall_ints_inv h2]
    exact g2.hh.seq h1)⟩
end
end G

namespace G
open PySem PySem.Spec PyProof.Rows L2
section
variable {c : Cc} {ρ : List Cl} {P : Out → Prop} {e a b : Expr} {ds : List PyData} {d r : PyData} {pos p p2 apos cpos : Pos} {x y : Str} {i j k : Int} {ns ms : List Int} {bs cs : List Bool}
/-! written lists of truths -/
def EAB (c : Cc) (ρ : List Cl) (es : List Expr) (bs : List Bool) : Prop := EA c ρ es (bs.map PyData.bool)
theorem eab_nil : EAB c ρ [] [] := ea_nil
theorem eab_cons {es : List Expr} {k : Bool} (h : EV c ρ e (.bool k)) (hr : EAB c ρ es bs) (hs : starEach (e :: es) c.X.env = (false, eval e c.X.env) :: starEach es c.X.env := by exact star_cons rfl) : EAB c ρ (e :: es) (k :: bs) := ea_cons h hr hs
theorem nv_lstB {es : List Expr} (h : EAB c ρ es bs) (hl : Nat.ble bs.length 100000 = true := by rfl) : NV c ρ (.List es pos) (oL c.X.K (bs.map PyData.bool)) := nv_lst h (by rw [List.length_map, sizeLine_eq]; have := Nat.le_of_ble_eq_true hl; omega)
theorem nv_catB (ha : BV c ρ a (.list (bs.map PyData.bool))) (hb : BV c ρ b (.list (cs.map PyData.bool))) (h : bs.length + cs.length ≤ 1000000) : NV c ρ (.BinOp a .Add b pos) (oL c.X.K ((bs ++ cs).map PyData.bool)) := by
  rw [List.map_append]
  exact nv_catL ha hb (by rw [List.length_map, List.length_map]; exact h)
theorem nv_catI (ha : BV c ρ a (intsD ns)) (hb : BV c ρ b (intsD ms)) (h : ns.length + ms.length ≤ 1000000) : NV c ρ (.BinOp a .Add b pos) (oL c.X.K ((ns ++ ms).map PyData.int)) := by
  rw [List.map_append]
  exact nv_catL ha hb (by rw [List.length_map, List.length_map]; exact h)
/-! a number among numbers -/
theorem inV_ints {k : Int} {ns : List Int} : inV (.int k) (ns.map V.int) = decide (k ∈ ns) := by
  unfold inV
  rw [List.any_map, Bool.eq_iff_iff, List.any_eq_true, decide_eq_true_iff]
  constructor
  · rintro ⟨z, hz, h⟩
    have e : (z == k) = true := h
    rw [← beq_iff_eq.mp e]
    exact hz
  · intro h
    exact ⟨k, h, beq_self_eq_true k⟩
theorem flat_ints {ns : List Int} : (ns.map V.int).all flatV = true := by
  rw [List.all_map]
  exact List.all_eq_true.mpr fun _ _ => rfl
theorem opb_inTI {K : PySem.W.Frag} : OpB K (rIn K false) (.int k) (.tuple (ns.map PyData.int)) (.bool (decide (k ∈ ns))) := opb_now fun F H x y s hx hy Q q => by
  obtain ⟨z, vs, e1, h1, h2⟩ := hy.tuple_inv s
  have e := dpall_ints_inv h2
  refine ⟨z, vs, e1, .inr h1, by rw [hx.int_inv]; rfl, by rw [e]; exact flat_ints, ?_⟩
  rw [if_neg (by decide), hx.int_inv, e, inV_ints]
  exact q _ (.bl _)
theorem opb_inLI {K : PySem.W.Frag} : OpB K (rIn K false) (.int k) (intsD ns) (.bool (decide (k ∈ ns))) := opb_now fun F H x y s hx hy Q q => by
  obtain ⟨z, vs, e1, h1, h2⟩ := hy.list_inv s
  have e := dpall_ints_inv h2
  refine ⟨z, vs, e1, .inl h1, by rw [hx.int_inv]; rfl, by rw [e]; exact flat_ints, ?_⟩
  rw [if_neg (by decide), hx.int_inv, e, inV_ints]
  exact q _ (.bl _)
theorem tv_inTI (ha : EV c ρ a (.int k)) (hb : EV c ρ b (.tuple (ns.map PyData.int))) (hm : behindInMarks .In b = false := by first | exact nomark _ | rfl) : TV c ρ (.Compare a [.In] [b] pos) (decide (k ∈ ns)) := tv_cmp op_in_seq (bv_ev ha) (bv_ev hb) opb_inTI hm
theorem ev_inTI (ha : EV c ρ a (.int k)) (hb : EV c ρ b (.tuple (ns.map PyData.int))) (hm : behindInMarks .In b = false := by first | exact nomark _ | rfl) : EV c ρ (.Compare a [.In] [b] pos) (.bool (decide (k ∈ ns))) := ev_cmp op_in_seq (bv_ev ha) (bv_ev hb) opb_inTI hm
theorem tv_inLI (ha : EV c ρ a (.int k)) (hb : BV c ρ b (intsD ns)) (hm : behindInMarks .In b = false := by first | exact nomark _ | rfl) : TV c ρ (.Compare a [.In] [b] pos) (decide (k ∈ ns)) := tv_cmp op_in_seq (bv_ev ha) hb opb_inLI hm
/-! divmod, int(a truth) -/
theorem ev_divmod (hm : c.X.mg "divmod" = none) (ha : EV c ρ a (.int i)) (hb : EV c ρ b (.int j)) (h : CDiv i j) (hs : starEach [a, b] c.X.env = (false, eval a c.X.env) :: starEach [b] c.X.env := by exact star_cons rfl) (hs2 : starEach [b] c.X.env = (false, eval b c.X.env) :: starEach [] c.X.env := by exact star_cons rfl) (hg : Gl c.X "divmod" := by rfl)
    (hpl : (backTo pos (starEach [b] c.X.env)).any (·.1) = false := by exact star_any rfl) : EV c ρ (.Call (.Name "divmod" p) [a, b] [] pos) (.tuple [.int (i / j), .int (i % j)]) :=
  ev_callB call_divmod hm (ba_cons (bv_ev ha) (ba_cons (bv_ev hb) ba_nil hs2) hs) (fun F H xs s h' Q q => by
    obtain ⟨v, u, e, hv, hu⟩ := h'.inv2
    refine ⟨i, j, by rw [e, hv.int_inv, hu.int_inv], h, fun pp hp => q (.ref pp) (upd F pp (.tup [.int (i / j), .int (i % j)])) _ (Gw.alloc s hp) (.tup (.inl (.inl upd_same)) (.cons (.int _) (.cons (.int _) .nil)))⟩) hg (by decide +kernel) (by decide) (by decide) hs hpl
theorem ev_intB {kb : Bool} (hm : c.X.mg "int" = none) (ha : EV c ρ a (.bool kb)) (hs : starEach [a] c.X.env = (false, eval a c.X.env) :: starEach [] c.X.env := by exact star_cons rfl) (hg : Gl c.X "int" := by rfl) : EV c ρ (.Call (.Name "int" p) [a] [] pos) (.int (if kb then 1 else 0)) :=
  ev_callTy call_int1 hm (ba_cons (bv_ev ha) ba_nil hs) (fun F H xs s h Q q => by
    obtain ⟨v, e, hv⟩ := h.inv1
    exact .inr ⟨kb, by rw [e, hv.bool_inv], q _ F H (Gw.refl s) (.int _)⟩) hg (by decide +kernel) (by decide) (by decide) hs
/-! what the law's word says of an exception: the m-th of twelve kinds -/
abbrev kindsN : List Str := ["Locked", "NoKey", "NoMachine", "NoNumber", "NoPlace", "NoRibbon", "NoRow", "NoText", "NothingLeft", "NoWord", "TooLow", "TooMany"]
abbrev wordsN : List Str := ["locked", "key", "machine", "number", "place", "ribbon", "row", "text", "nothing", "word", "low", "many"]
structure WordOf (K : PySem.W.Frag) (mg : Str → Option Value) (D : Addr) (m : Nat) : Prop where
  X : ExcC K D
  lt : m < 12
  v : PySem.W.kitOne K (.ref D) (.type "ValueError") = some true
  g : ∀ i : Nat, ∀ T : Str, kindsN[i]? = some T → ∃ C : Addr, mg T = some (.ref C) ∧ PySem.W.kitOne K (.ref D) (.ref C) = some (decide (i = m))
theorem kit_ref {K : PySem.W.Frag} {D C : Addr} {b : Bool} (hd : PySem.W.hasDictIn K C = true) (ht : PySem.W.typeIn K (.ref C) = some (.type "type")) (hs : PySem.W.subIn K (.ref D) (.ref D) = some true) (h : PySem.W.subIn K (.ref D) (.ref C) = some b) : PySem.W.kitOne K (.ref D) (.ref C) = some b := by
  have hc : (PySem.W.clsIn K C).isSome = true := by
    obtain ⟨cd, h1, _⟩ := PySem.W.any_some hd
    rw [h1]
    rfl
  unfold PySem.W.kitOne
  by_cases e : D = C
  · subst e
    rw [hs] at h
    rw [if_pos (beq_self_eq_true _)]
    exact h
  · have e2 : ¬ ((Value.ref D == Value.ref C) = true) := by
      simp
      exact e
    rw [if_neg e2]
    unfold PySem.W.kitCls
    show (if ((PySem.W.clsIn K C).isSome && PySem.W.typeIn K (.ref C) == some (.type "type")) = true then PySem.W.subIn K (.ref D) (.ref C) else none) = some b
    rw [hc, ht, if_pos (by simp)]
    exact h
theorem kit_type {K : PySem.W.Frag} {D : Addr} {T : String} {b : Bool} (hk : PySem.W.kitMeta T = true) (h : PySem.W.subIn K (.ref D) (.type T) = some b) : PySem.W.kitOne K (.ref D) (.type T) = some b := by
  unfold PySem.W.kitOne
  have e2 : ¬ ((Value.ref D == Value.type T) = true) := by simp
  rw [if_neg e2]
  unfold PySem.W.kitCls
  show (if PySem.W.kitMeta T = true then PySem.W.subIn K (.ref D) (.type T) else none) = some b
  rw [if_pos hk]
  exact h
theorem word_count : ∀ m, m < 12 → ((List.range 12).map fun i => decide (i = m)).count true = 1 ∧ ((List.range 12).map fun i => decide (i = m))[m]? = some true ∧ ∀ i, i < m → ((List.range 12).map fun i => decide (i = m))[i]? ≠ some true := by decide
end
end G

namespace G
open PySem PySem.Spec PyProof.Rows L2
/-! ### x[::-1] of a text -/
def revS (x : Str) : Str := ⟨(tl x).reverse.toArray⟩
theorem rev_list (l : List Nat) : (List.range l.length).map (fun k => l.toArray.getD (l.length - 1 - k) 0) = l.reverse := by
  apply List.ext_getElem
  · simp
  · intro i h1 h2
    have h : i < l.length := by simpa using h1
    simp only [List.getElem_map, List.getElem_range, List.getElem_reverse]
    have h3 : l.length - 1 - i < l.length := by omega
    simp [Array.getD, h3]
theorem rev_made (x : Str) (t u : Tok) : sliceMade x t none none (some (-1, u)) = Made.str (revS x) := by
  unfold sliceMade
  have e0 : ((some ((-1 : Int), u)).map (·.1)).getD 1 = -1 := rfl
  have h1 : ¬ ((((some ((-1 : Int), u)).map (·.1)).getD 1 == 1 && (slicePicked x none none (some (-1, u))).length == x.length) = true) := by
    rw [e0]
    simp
  rw [if_neg h1]
  congr 1
  refine str_ext ?_
  have h2 := step_rev_list x u
  unfold Txt.sliceBy at h2
  rw [if_neg h1] at h2
  show ((slicePicked x none none (some (-1, u))).filterMap (x.cps[·]?)).toArray.toList = (tl x).reverse
  have h3 : ((slicePicked x none none (some (-1, u))).filterMap (x.cps[·]?)).toArray.toList = (List.range x.length).map fun k => x.cps.getD (x.length - 1 - k) 0 := h2
  rw [h3, ← rev_list]
  try (rw [len_tl])
section
variable {X : Cx} {e : Expr} {te : TE} {k : Nat} {p1 p2 p3 pos : Pos}
def tRevS (te : TE) : TE := fun σ H Q => te σ H fun x H1 => ∃ z, x = .str z ∧ z.length ≤ sizeLine ∧ Q (.str (revS z)) H1
theorem pe_revS (he : PE X e te) : PE X (.Subscript e (.Slice none none (some (.UnaryOp .USub (.Constant (.int 1) k p1) p2)) p3) pos) (tRevS te) := by
  refine ⟨fun pins s σ H Q I h => ?_⟩
  refine Subscript_ (thn (he.run pins s σ H _ I h) fun v s1 ⟨x, H1, I1, r1, q1⟩ => ?_)
  obtain ⟨z, ex, hz, q⟩ := q1
  subst ex
  obtain ⟨t, rfl⟩ := r1
  have hst : PO X (some (.UnaryOp .USub (.Constant (.int 1) k p1) p2)) (tPart (tUn (rU fun i => .int (-i)) (tC (.int 1)))) := po_some (pe_un un_neg pe_int)
  refine wpAny_Slice (thn (po_none.run pins s1 σ H1 (fun o H2 => o = none ∧ H2 = H1) I1 ⟨rfl, rfl⟩) fun vl s2 ⟨l, H2, I2, pl, el, e2⟩ => ?_)
  subst el e2
  refine thn (po_none.run pins s2 σ H2 (fun o H3 => o = none ∧ H3 = H2) I2 ⟨rfl, rfl⟩) fun vu s3 ⟨u, H3, I3, pu, eu, e3⟩ => ?_
  subst eu e3
  refine thn (hst.run pins s3 σ H3 (fun o H4 => o = some (-1) ∧ H4 = H3) I3 ⟨1, rfl, -1, rfl, rfl, rfl⟩) fun vs s4 ⟨o, H4, I4, ps, eo, e4⟩ => ?_
  subst eo e4
  have I5 : Inv X pins σ H4 { s4 with heap := s4.heap.push { cls := .type "slice", data := .fields #[vl, vu, vs] } } := I4.kept (t' := s4.toks) fun b ob q => Heap.get?_push_of_some _ q
  cases pl
  cases pu
  cases ps with
  | int i tk =>
    show wpAny (model X.prog X.w) X.A (subscriptTail e (.Slice none none (some (.UnaryOp .USub (.Constant (.int 1) k p1) p2)) p3) (.str z t) (.ref s4.heap.objs.size)) (EP X pins σ Q) X.xe _
    refine tail_any (ops := [.str z t, .ref s4.heap.objs.size]) (typeIs_str _ _ _) (PySem.F.slot_str_getitem.lookup) ?_ (by with_unfolding_all rfl)
    refine wpAny_getItem_str_slice (l := none) (u := none) (st := some (-1, tk)) ⟨_, Heap.get?_push_size _ rfl, rfl, rfl⟩ rfl ?_
    rw [rev_made]
    have hl : (revS z).length ≤ sizeLine := by
      have e1 : (revS z).length = z.length := by
        rw [len_tl, len_tl]
        show ((tl z).reverse.toArray.toList).length = _
        simp
      rw [e1]
      exact hz
    exact ⟨hl, .str _, H4, I5.tok _, ⟨_, rfl⟩, q⟩
end
theorem ev_revS {c : Cc} {ρ : List Cl} {a : Expr} {x : Str} {k : Nat} {p1 p2 p3 pos : Pos} (ha : EV c ρ a (.str x)) (hx : x.length ≤ 1000000) : EV c ρ (.Subscript a (.Slice none none (some (.UnaryOp .USub (.Constant (.int 1) k p1) p2)) p3) pos) (.str (revS x)) := ⟨fun σ F H hd Q q =>
  wpE_of (pe_revS pe_wp) (ha.run σ F H hd _ fun v F1 H1 g1 b1 => ⟨x, b1.str_inv, line_le hx, q _ F1 H1 g1 (.str _)⟩)⟩
end G
namespace G
open PySem PySem.Spec PyProof.Rows L2
section
variable {c : Cc} {ρ : List Cl} {e i1 i2 : Expr} {k1 k2 : Int} {d1 d2 : PyData} {ds : List PyData} {P : Out → Prop} {l : Nat} {xn : Str} {pn pn2 tp tp2 p' pos : Pos} {kt : Nat}
/-- xs[i], xs[j] = a pair -/
theorem s1_pairIx (hc : c.X.calm = true) (h1 : ρ[l]? = some (.own (oL c.X.K ds))) (he : EV c ρ e (.tuple [d1, d2])) (hi1 : EV c ρ i1 (.int k1)) (hi2 : ∀ es, EV c (ρ.set l (.own (oL c.X.K es))) i2 (.int k2)) (hk1 : 0 ≤ k1 ∧ k1 < (ds.length : Int)) (hk2 : 0 ≤ k2 ∧ k2 < (ds.length : Int))
    (h : P (.next (ρ.set l (.own (oL c.X.K ((ds.set k1.toNat d1).set k2.toNat d2)))))) (hN : c.X.N[l]? = some xn := by rfl)
    (hv : Vis c.X.env.scope xn := by first | exact Or.inl rfl | exact Or.inr (Or.inl rfl) | exact Or.inr (Or.inr rfl)) (hd : (xn == ("__debug__" : Str)) = false := by decide) (hcd : (xn == ("__classdict__" : Str)) = false := by decide)
    (hs : swapsWithSole [.Tuple [.Subscript (.Name xn pn) i1 tp, .Subscript (.Name xn pn2) i2 tp2] kt p'] e pos.line c.X.env = pure false := by exact swaps_sole rfl)
    (hg : PG c.X (.Tuple [.Subscript (.Name xn pn) i1 tp, .Subscript (.Name xn pn2) i2 tp2] kt p') (gTup c.X.K 2 (gCons (gSub (tVar l) (wpE c.X i1) rSetL) (gCons (gSub (tVar l) (wpE c.X i2) rSetL) gNil))) := by
      exact pg_tup rfl (pgs_cons (pg_sub (pv _) pe_wp set_list) (pgs_cons (pg_sub (pv _) pe_wp set_list) pgs_nil)))
    (hw : swappedStores [.Tuple [.Subscript (.Name xn pn) i1 tp, .Subscript (.Name xn pn2) i2 tp2] kt p'] e c.X.env = pure none := by rfl)
    (ha1 : (assignEach [.Tuple [.Subscript (.Name xn pn) i1 tp, .Subscript (.Name xn pn2) i2 tp2] kt p'] c.X.env).map (·.2) = [assign (.Tuple [.Subscript (.Name xn pn) i1 tp, .Subscript (.Name xn pn2) i2 tp2] kt p') c.X.env] := by rfl) :
    S1 c ρ (.Assign [.Tuple [.Subscript (.Name xn pn) i1 tp, .Subscript (.Name xn pn2) i2 tp2] kt p'] e pos) P := ⟨fun σ F H D hh q => by
  refine wpS_of (ps_asg pe_wp hg hs hw ha1) (he.run σ F H hh _ fun u F1 H1 g1 b1 => ?_)
  have hh1 := hh.grow g1
  obtain ⟨at_, us, rfl, hsq, hus⟩ := b1.tuple_inv
  cases hus with
  | cons hu1 hus =>
    cases hus with
    | cons hu2 hn =>
      cases hn
      refine ⟨at_, _, rfl, sqT_mono hh1.fr.fh hsq, rfl, _, _, rfl, ?_⟩
      obtain ⟨pp, vs, hσ, _, _, _, _⟩ := hh1.own h1
      refine ⟨.ref pp, hσ, hi1.run σ F1 H1 hh1 _ fun z F2 H2 g2 b2 => ?_⟩
      have hh2 := hh1.grow g2
      obtain ⟨pp', vs, hσ', h3, h4, h5, h6⟩ := hh2.own h1
      have ep : pp' = pp := by rw [hσ] at hσ'; cases hσ'; rfl
      subst ep
      refine ⟨pp', vs, k1, k1.toNat, rfl, b2.int_inv, h3, by rw [h4.len]; exact ixN_of hk1, ?_⟩
      have hh3 := hh2.put h1 hσ h5 h6 (h4.set (i := k1.toNat) (dp_mono g2.ff _ _ hu1))
      have hlt := (List.getElem?_eq_some_iff.mp h1).1
      have h1' : (ρ.set l (.own (oL c.X.K (ds.set k1.toNat d1))))[l]? = some (.own (oL c.X.K (ds.set k1.toNat d1))) := List.getElem?_set_self hlt
      refine ⟨_, _, rfl, .ref pp', hσ, (hi2 _).run σ F2 _ hh3 _ fun z2 F3 H3 g3 b3 => ?_⟩
      have hh4 := hh3.grow g3
      obtain ⟨pp2, vs2, hσ2, h32, h42, h52, h62⟩ := hh4.own h1'
      have ep2 : pp2 = pp' := by rw [hσ] at hσ2; cases hσ2; rfl
      subst ep2
      refine ⟨pp2, vs2, k2, k2.toNat, rfl, b3.int_inv, h32, by rw [h42.len, List.length_set]; exact ixN_of hk2, ?_⟩
      have hh5 := hh4.put h1' hσ h52 h62 (h42.set (i := k2.toNat) (dp_mono (g2.trans (Gw.refl g2.fh)).ff _ _ (dp_mono (Same.refl F1) _ _ hu2) |> fun z => dp_mono g3.ff _ _ z))
      rw [List.set_set] at hh5
      exact ⟨rfl, q _ h σ F3 _ ((g1.trans g2).ff.trans g3.ff) hh5⟩⟩
end
end G

namespace K31
open PySem PySem.Spec PyProof.Rows L2 G
def topS (i : Nat) : Stmt := PySem.Challenge.pw_strikesheet_k31_ribbons_of_no_text.main.body.getD i (.Pass ⟨0, 0, 0, 0⟩)
abbrev sPlaceOf : Stmt := topS 15
abbrev sTextFrom : Stmt := topS 16
abbrev sRibbonText : Stmt := topS 17
abbrev sLawCell : Stmt := topS 19
abbrev sLawDraws : Stmt := topS 20
abbrev sLawWord : Stmt := topS 21
abbrev sLawWalk : Stmt := topS 22
abbrev sLawDue : Stmt := topS 23
abbrev sLawTold : Stmt := topS 24
abbrev sLaw : Stmt := topS 25
abbrev nPlaceOf : List Str := ["places", "strike", "at"]
theorem scPlaceOf : FnScope nPlaceOf ["places", "strike"] (defScope sPlaceOf) := ⟨rfl, rfl, rfl, by decide +kernel, rfl, by decide +kernel, by decide +kernel⟩
-- 0 places, 1 strike, 2 at
abbrev nTextFrom : List Str := ["ribbon", "first", "used", "found", "strike", "signs", "place"]
theorem scTextFrom : FnScope nTextFrom ["ribbon", "first"] (defScope sTextFrom) := ⟨rfl, rfl, rfl, by decide +kernel, rfl, by decide +kernel, by decide +kernel⟩
-- 0 ribbon, 1 first, 2 used, 3 found, 4 strike, 5 signs, 6 place
abbrev nRibbonText : List Str := ["ribbon", "found"]
theorem scRibbonText : FnScope nRibbonText ["ribbon"] (defScope sRibbonText) := ⟨rfl, rfl, rfl, by decide +kernel, rfl, by decide +kernel, by decide +kernel⟩
-- 0 ribbon, 1 found
abbrev nLawCell : List Str := ["script", "k"]
theorem scLawCell : FnScope nLawCell ["script", "k"] (defScope sLawCell) := ⟨rfl, rfl, rfl, by decide +kernel, rfl, by decide +kernel, by decide +kernel⟩
-- 0 script, 1 k
abbrev nLawDraws : List Str := ["script", "k", "many", "base", "primes", "cell", "rest", "row", "j", "mash"]
theorem scLawDraws : FnScope nLawDraws ["script", "k", "many", "base"] (defScope sLawDraws) := ⟨rfl, rfl, rfl, by decide +kernel, rfl, by decide +kernel, by decide +kernel⟩
-- 0 script, 1 k, 2 many, 3 base, 4 primes, 5 cell, 6 rest, 7 row, 8 j, 9 mash
abbrev nLawWord : List Str := ["e", "kinds", "words"]
theorem scLawWord : FnScope nLawWord ["e"] (defScope sLawWord) := ⟨rfl, rfl, rfl, by decide +kernel, rfl, by decide +kernel, by decide +kernel⟩
-- 0 e, 1 kinds, 2 words
abbrev nLawWalk : List Str := ["places", "many", "found", "place", "way", "k"]
theorem scLawWalk : FnScope nLawWalk ["places", "many"] (defScope sLawWalk) := ⟨rfl, rfl, rfl, by decide +kernel, rfl, by decide +kernel, by decide +kernel⟩
-- 0 places, 1 many, 2 found, 3 place, 4 way, 5 k
abbrev nLawDue : List Str := ["ribbon", "walk", "signs", "place", "left", "text"]
theorem scLawDue : FnScope nLawDue ["ribbon"] (defScope sLawDue) := ⟨rfl, rfl, rfl, by decide +kernel, rfl, by decide +kernel, by decide +kernel⟩
-- 0 ribbon, 1 walk, 2 signs, 3 place, 4 left, 5 text
abbrev nLawTold : List Str := ["ribbon", "found", "e"]
theorem scLawTold : FnScope nLawTold ["ribbon"] (defScope sLawTold) := ⟨rfl, rfl, rfl, by decide +kernel, rfl, by decide +kernel, by decide +kernel⟩
-- 0 ribbon, 1 found, 2 e
abbrev nLaw : List Str := ["script", "at", "draws", "places", "ribbon", "k", "place", "one", "other", "bent", "way", "some", "signs", "handed"]
theorem scLaw : FnScope nLaw ["script"] (defScope sLaw) := ⟨rfl, rfl, rfl, by decide +kernel, rfl, by decide +kernel, by decide +kernel⟩
-- 0 script, 1 at, 2 draws, 3 places, 4 ribbon, 5 k, 6 place, 7 one, 8 other, 9 bent, 10 way, 11 some, 12 signs, 13 handed
section
variable {P : Program} {w : World} {K : PySem.W.Frag} {mg : Str → Option Value} {base : Heap}
theorem ok_cell {f : Addr} {fd : FuncData} (F : Fun K "_law_cell" "_law_cell" sLawCell f fd) (mLen : mg "len" = none) : FnOk P w K mg base CX0 1 f fd ["script", "k"] (spG K ctCell) := by
  refine fn_ok F scLawCell (by rintro cs P ⟨n, s, _, _, rfl, _⟩; rfl) (fun cdv A outer s H E F0 Kp hr cs Pp hS => ?_)
  obtain ⟨ns, k, h1, h2, rfl, hp⟩ := hS
  have fin : ∀ {d : PyData} {ρ : List Cl}, d = .int (lawCell ns k) → PostN [.val (intsD ns), .val (.int k)] Pp (.ret (.val d) ρ) := fun e => ⟨uns 2, by rw [e]; exact hp, Fits.un _ _⟩
  refine sv_cons (s1_if (tv_lt (ev_name (i := 1)) (ev_lenL mLen (bv_ev (ev_name (i := 0))))) (fun e => ?_) fun e => ?_)
  · have e := of_decide_eq_true e
    rw [List.length_map] at e
    refine sv_one (s1_ret (ev_ixI (bv_ev (ev_name (i := 0))) (ev_name (i := 1)) ⟨h1, e⟩) (fin ?_))
    unfold lawCell
    rw [if_pos e]
  · have e := of_decide_eq_false e
    rw [List.length_map] at e
    refine sv_nil ?_
    refine sv_cons (s1_if (tv_eq (ev_lenL mLen (bv_ev (ev_name (i := 0)))) ev_int) (fun e2 => ?_) fun e2 => ?_)
    · have e2 := of_decide_eq_true e2
      rw [List.length_map] at e2
      refine sv_one (s1_ret (ev_add (ev_mul ev_int (ev_name (i := 1)) (.inl (by omega))) ev_int) (fin ?_))
      unfold lawCell
      rw [if_neg e, if_pos e2]
    · have e2 := of_decide_eq_false e2
      rw [List.length_map] at e2
      have hpos : 0 < (ns.length : Int) := by omega
      have b0 := Int.emod_nonneg k (show (ns.length : Int) ≠ 0 by omega)
      have b1 := Int.emod_lt_of_pos k hpos
      refine sv_nil ?_
      have hl : ((List.map PyData.int ns).length : Int) = (ns.length : Int) := by rw [List.length_map]
      refine sv_one (s1_ret (ev_add (ev_mod (ev_ixI (bv_ev (ev_name (i := 0))) (ev_mod (ev_name (i := 1)) (ev_lenL mLen (bv_ev (ev_name (i := 0)))) (by rw [hl]; omega)) (by rw [hl]; omega)) ev_int (by omega)) (ev_mul ev_int (ev_name (i := 1)) (.inl (by omega)))) (fin ?_))
      unfold lawCell
      rw [if_neg e, if_neg e2, hl]
theorem ok_draws {f : Addr} {fd : FuncData} (F : Fun K "_law_draws" "_law_draws" sLawDraws f fd) (hCell : FnG P w K mg base CX0 "_law_cell" 1 2 ctCell) (mRange : mg "range" = none) : FnOk P w K mg base CX0 2 f fd ["script", "k", "many", "base"] (spG K (ctDraws K)) := by
  refine fn_ok F scLawDraws (by rintro cs P ⟨n, s, _, _, _, _, _, _, _, _, rfl, _⟩; rfl) (fun cdv A outer s H E F0 Kp hr cs Pp hS => ?_)
  obtain ⟨ns, k, many, base, k0, k1, m0, m1, b0, b1, rfl, hp⟩ := hS
  -- primes, cell, rest
  refine sv_cons (s1_set (i := 4) scLawDraws.nd (ev_tupI (ns := primesL) (eai_cons ev_int (eai_cons ev_int (eai_cons ev_int (eai_cons ev_int (eai_cons ev_int (eai_cons ev_int (eai_cons ev_int (eai_cons ev_int eai_nil))))))))) ?_)
  refine sv_cons (s1_set (i := 5) scLawDraws.nd (ev_call1 hCell hr pass0 (ea_cons (ev_name (i := 0)) (ea_cons (ev_name (i := 1)) ea_nil)) ⟨ns, k, k0, by omega, rfl, _, rfl⟩) ?_)
  refine sv_cons (s1_set (i := 6) scLawDraws.nd ev_int ?_)
  generalize hc : lawCell ns k = cell
  refine sv_cut (fun ρ' => ρ' = [.val (intsD ns), .val (.int k), .val (.int many), .val (.int base), .val (.tuple (primesL.map PyData.int)), .val (.int cell), .val (.int (if 10 ^ 18 ≤ cell then cell else 0)), .un, .un, .un])
    (s1_if (tv_ge (ev_name (i := 5)) (ev_powL (v := 10 ^ 18) ev_int ev_int ⟨by decide, by decide, by decide⟩ (by decide))) (fun e => ?_) (fun e => ?_)) ?_
  · refine sv_one (s1_set (i := 6) scLawDraws.nd (ev_name (i := 5)) ?_)
    have e' := of_decide_eq_true e
    show _ = _
    rw [if_pos e']
    rfl
  · refine sv_nil ?_
    have e' := of_decide_eq_false e
    show _ = _
    rw [if_neg e']
    rfl
  rintro ρ' rfl
  have hd : lawDraws ns k many base = (drawRun cell k base (if 10 ^ 18 ≤ cell then cell else 0) many.toNat).1 := by unfold lawDraws; rw [hc]
  generalize (if 10 ^ 18 ≤ cell then cell else 0) = rest0 at hd ⊢
  refine sv_cons (s1_setO (i := 7) scLawDraws.nd (nv_lstI eai_nil) ?_)
  -- the loop
  refine sv_cons (s1_forR (j := 8) [0, 1, 2, 3, 4, 5, 6, 7] scLawDraws.nd PassesOwn.never rfl (iv_range1 mRange (ev_name (i := 2)) (by omega))
    (fun i ρ => ρ = [.val (intsD ns), .val (.int k), .val (.int many), .val (.int base), .val (.tuple (primesL.map PyData.int)), .val (.int cell), .val (.int (drawRun cell k base rest0 i).2), .own (oL K ((drawRun cell k base rest0 i).1.map PyData.int)), .un, .un])
    rfl (fun i ρ1 hi hI => ⟨by rw [hI]; exact blt_lt rfl, ?_⟩) (fun ρ1 hI => ?_))
  · subst hI
    have hi' : (i : Int) < many := by omega
    simp only [Int.zero_add]
    have p1 := prime_ok (i := (i : Int) % 8) (by omega) (by omega)
    have p2 := prime_ok (i := (3 * (i : Int) + k) % 8) (by omega) (by omega)
    have p3 := prime_ok (i := ((i : Int) + 5) % 8) (by omega) (by omega)
    have q1 := Int.emod_nonneg cell (show prime ((i : Int) % 8) ≠ 0 by omega)
    have q2 := Int.emod_lt_of_pos cell (show 0 < prime ((i : Int) % 8) by omega)
    have j1 : 48271 + 2 * (i : Int) * (i : Int) < 2 ^ 64 := by
      have : (i : Int) * (i : Int) ≤ 100000 * 100000 := Int.mul_le_mul (by omega) (by omega) (by omega) (by omega)
      have e : 2 * (i : Int) * (i : Int) = 2 * ((i : Int) * (i : Int)) := Int.mul_assoc ..
      omega
    -- mash
    refine sv_cons (s1_set (i := 9) scLawDraws.nd (ev_mul (ev_mod (ev_name (i := 5)) (ev_ixTI (ns := primesL) (ev_name (i := 4)) (ev_mod (ev_name (i := 8)) ev_int (by decide)) ⟨by omega, by show _ < (8 : Int); omega⟩) (by show 0 < prime _; omega))
      (ev_add ev_int (ev_mul (ev_mul ev_int (ev_name (i := 8)) (.inl (by omega))) (ev_name (i := 8)) (.inr (by omega)))) (.inl ⟨by show _ < cell % prime _; omega, by show cell % prime _ < _; omega⟩)) ?_)
    refine sv_cons (s1_set (i := 9) scLawDraws.nd (ev_add (ev_add (ev_name (i := 9)) (ev_mul (ev_mul ev_int (ev_add (ev_name (i := 8)) ev_int) (.inl (by omega))) (ev_add (ev_name (i := 8)) ev_int) (.inr (by omega)))) (ev_mul ev_int (ev_name (i := 1)) (.inl (by omega)))) ?_)
    refine sv_cons (s1_set (i := 9) scLawDraws.nd (ev_mod (ev_name (i := 9)) (ev_ixTI (ns := primesL) (ev_name (i := 4)) (ev_mod (ev_add (ev_mul ev_int (ev_name (i := 8)) (.inl (by omega))) (ev_name (i := 1))) ev_int (by decide)) ⟨by omega, by show _ < (8 : Int); omega⟩) (by show 0 < prime _; omega)) ?_)
    have m3 : ∀ z : Int, 0 ≤ z % prime ((3 * (i : Int) + k) % 8) ∧ z % prime ((3 * (i : Int) + k) % 8) < 2 ^ 32 := fun z => by
      have := Int.emod_nonneg z (show prime ((3 * (i : Int) + k) % 8) ≠ 0 by omega)
      have := Int.emod_lt_of_pos z (show 0 < prime ((3 * (i : Int) + k) % 8) by omega)
      omega
    refine sv_cons (s1_set (i := 9) scLawDraws.nd (ev_mod (ev_mul (ev_mul (ev_name (i := 9)) (ev_name (i := 9)) (.inl ⟨Int.lt_of_lt_of_le (by decide) (m3 _).1, Int.lt_trans (m3 _).2 (by decide)⟩)) (ev_name (i := 9)) (.inr ⟨Int.lt_of_lt_of_le (by decide) (m3 _).1, Int.lt_trans (m3 _).2 (by decide)⟩))
      (ev_ixTI (ns := primesL) (ev_name (i := 4)) (ev_mod (ev_add (ev_name (i := 8)) ev_int) ev_int (by decide)) ⟨by omega, by show _ < (8 : Int); omega⟩) (by show 0 < prime _; omega)) ?_)
    refine sv_cut (fun ρ' => ρ' = [.val (intsD ns), .val (.int k), .val (.int many), .val (.int base), .val (.tuple (primesL.map PyData.int)), .val (.int cell), .val (.int (drawRun cell k base rest0 i).2), .own (oL K ((drawRun cell k base rest0 i).1.map PyData.int)), .val (.int (i : Int)), .val (.int (if 0 < (drawRun cell k base rest0 i).2 then (drawRun cell k base rest0 i).2 else mashOf cell k (i : Int)))])
      (s1_if (tv_gt (ev_name (i := 6)) ev_int) (fun e => ?_) (fun e => ?_)) ?_
    · refine sv_one (s1_set (i := 9) scLawDraws.nd (ev_name (i := 6)) ?_)
      have e' := of_decide_eq_true e
      show _ = _
      rw [if_pos e']
      rfl
    · refine sv_nil ?_
      have e' := of_decide_eq_false e
      show _ = _
      rw [if_neg e']
      rfl
    rintro ρ' rfl
    refine sv_cons (s1_appendI (l := 7) rfl (ev_mod (ev_name (i := 9)) (ev_name (i := 3)) b0) (by rw [drawRun_len]; omega) ?_)
    refine sv_one (s1_set (i := 6) scLawDraws.nd (ev_divW (ev_name (i := 6)) (ev_name (i := 3)) (wide_div (b := 64) b0 (by omega) (by decide) (by decide))) ?_)
    rfl
  · subst hI
    refine sv_one (s1_retOwn (i := 7) rfl ⟨uns 4, ?_, Fits.un _ _⟩)
    rw [hd] at hp
    exact hp
theorem ok_place {f : Addr} {fd : FuncData} (F : Fun K "place_of" "place_of" sPlaceOf f fd) (mMin : mg "min" = none) : FnOk P w K mg base CX0 1 f fd ["places", "strike"] (spG K ctPlace) := by
  refine fn_ok F scPlaceOf (by rintro cs P ⟨n, s, _, _, rfl, _⟩; rfl) (fun cdv A outer s H E F0 Kp hr cs Pp hS => ?_)
  obtain ⟨n, k, h1, h2, rfl, hp⟩ := hS
  refine sv_cons (s1_set (i := 2) scPlaceOf.nd (ev_mod (ev_name (i := 1)) (ev_sub (ev_mul ev_int (ev_name (i := 0)) (.inl (by omega))) ev_int) (by omega)) ?_)
  exact sv_one (s1_ret (ev_min rfl mMin (ev_name (i := 2)) (ev_sub (ev_sub (ev_mul ev_int (ev_name (i := 0)) (.inl (by omega))) ev_int) (ev_name (i := 2)))) ⟨uns 2, hp, Fits.un _ _⟩)
theorem ok_textFrom {f : Addr} {fd : FuncData} (F : Fun K "text_from" "text_from" sTextFrom f fd) (hPlace : FnG P w K mg base CX0 "place_of" 1 2 ctPlace) (mLen : mg "len" = none) (mR : mg "range" = none) (mSum : mg "sum" = none) : FnOk P w K mg base CX0 2 f fd ["ribbon", "first"] (spG K ctTextFrom) := by
  refine fn_ok F scTextFrom (by rintro cs P ⟨n, x, _, _, _, _, _, rfl, _⟩; rfl) (fun cdv A outer s H E F0 Kp hr cs Pp hS => ?_)
  obtain ⟨rb, first, h1, h2, h3, h4, h5, rfl, hp⟩ := hS
  have hlen : ∀ x ∈ rb, (x.length : Int) ≤ (lens rb).sum := fun x hx => lens_le hx
  have h0 := lens_nonneg rb
  refine sv_cons (s1_setO (i := 2) scTextFrom.nd (nv_repI (ev_lenSs mLen (bv_ev (ev_name (i := 0)))) (by omega)) ?_)
  refine sv_cons (s1_set (i := 3) scTextFrom.nd ev_str ?_)
  refine sv_cons (s1_forR (j := 4) [0, 1, 2, 3] scTextFrom.nd PassesOwn.never rfl (iv_range1 mR (ev_sum (ns := lens rb) rfl mSum (bv_nv (nv_lcM (j := 5) PyData.str PyData.int (fun s : Str => (s.length : Int)) scTextFrom.nd rfl (iv_list (ev_name (i := 0))) (by omega)
      (fun s H C cl fp a ha => ev_lenS mLen (ev_name (i := 5)) (line_le (by have := hlen a ha; omega)))))) (by omega))
    (fun i ρ => ∃ u t, tStep rb first i = some (u, t) ∧ Used rb u ∧ t.length ≤ i ∧ ρ = [.val (strsD rb), .val (.int first), .own (oL K (u.map PyData.int)), .val (.str t), .un, .un, .un])
    ⟨_, _, rfl, used_start rb, Nat.le_refl _, rfl⟩ (fun i ρ1 hi hI => ?_) (fun ρ1 hI => ?_))
  · obtain ⟨u, t, e1, hu, ht, rfl⟩ := hI
    refine ⟨blt_lt rfl, ?_⟩
    simp only [Int.zero_add]
    have hb := place_bound (n := (rb.length : Int)) (s := first + (i : Int)) (by omega)
    refine sv_cons (s1_setG (i := 6) PyData.int scTextFrom.nd (ev_call1 hPlace hr pass0 (ea_cons (ev_lenSs mLen (bv_ev (ev_name (i := 0)))) (ea_cons (ev_add (ev_name (i := 1)) (ev_name (i := 4))) ea_nil)) ⟨(rb.length : Int), first + (i : Int), by omega, by omega, rfl, _, rfl⟩) fun p hp6 => ?_)
    rw [← hp6] at hb
    have hpl : p.toNat < rb.length := by omega
    have hup := hu.2 p.toNat
    have hsl : ((rb.getD p.toNat Str.empty).length : Int) ≤ (lens rb).sum := hlen _ (getD_mem hpl)
    have hst : tStep rb first (i + 1) = (if u.getD p.toNat 0 = ((rb.getD p.toNat Str.empty).length : Int) then none else some (u.set p.toNat (u.getD p.toNat 0 + 1), t ++ one ((tl (rb.getD p.toNat Str.empty)).getD (u.getD p.toNat 0).toNat 0))) := by
      show (tStep rb first i).bind _ = _
      rw [e1, hp6]
      rfl
    refine sv_cons (s1_if (tv_eq (ev_ixI (bv_own (i := 2)) (ev_name (i := 6)) (by rw [hu.1]; omega)) (ev_lenS mLen (ev_ixSs (bv_ev (ev_name (i := 0))) (ev_name (i := 6)) (by omega)) (line_le (by omega)))) (fun e => ?_) fun e => ?_)
    · have e := of_decide_eq_true e
      rw [if_pos e] at hst
      have hn := tStep_none hst ((lens rb).sum.toNat - (i + 1))
      rw [show i + 1 + ((lens rb).sum.toNat - (i + 1)) = (lens rb).sum.toNat by omega] at hn
      refine sv_one (s1_ret ev_none ⟨uns 2, ?_, Fits.un _ _⟩)
      have e3 : G.textFrom rb first = none := by unfold G.textFrom; rw [hn]; rfl
      rw [e3] at hp
      exact hp
    · have e := of_decide_eq_false e
      rw [if_neg e] at hst
      refine sv_nil ?_
      refine sv_cons (s1_augS (n := 3) rfl scTextFrom.nd (ev_ixS (ev_ixSs (bv_ev (ev_name (i := 0))) (ev_name (i := 6)) (by omega)) (ev_ixI (bv_own (i := 2)) (ev_name (i := 6)) (by rw [hu.1]; omega)) (atI_of hup.1 (getD_some (z := 0) (by rw [← len_tl]; omega))) (line_le (by omega))) (by rw [len_one]; omega) ?_)
      refine sv_one (s1_augI (l := 2) rfl (ev_name (i := 6)) ev_int (by rw [hu.1]; omega) ?_)
      exact ⟨_, _, hst, used_next hu hpl e, by rw [len_app, len_one]; omega, rfl⟩
  · obtain ⟨u, t, e1, hu, ht, rfl⟩ := hI
    refine sv_one (s1_ret (ev_name (i := 3)) ⟨uns 2, ?_, Fits.un _ _⟩)
    have e3 : G.textFrom rb first = some t := by
      unfold G.textFrom
      have e1' : tStep rb first (lens rb).sum.toNat = some (u, t) := e1
      rw [e1']
      rfl
    rw [e3] at hp
    exact hp
theorem ok_ribText {f : Addr} {fd : FuncData} (F : Fun K "ribbon_text" "ribbon_text" sRibbonText f fd) (hText : FnG P w K mg base CX0 "text_from" 2 2 ctTextFrom) : FnOk P w K mg base CX0 3 f fd ["ribbon"] (spG K ctRibText) := by
  refine fn_ok F scRibbonText (by rintro cs P ⟨n, x, _, _, _, _, rfl, _⟩; rfl) (fun cdv A outer s H E F0 Kp hr cs Pp hS => ?_)
  obtain ⟨rb, x, h1, h2, h3, h4, rfl, hp⟩ := hS
  refine sv_cons (s1_setG (i := 1) optS scRibbonText.nd (ev_call1 hText hr pass0 (ea_cons (ev_name (i := 0)) (ea_cons ev_int ea_nil)) ⟨rb, 0, h1, h2, h3, by decide, by decide, rfl, _, rfl⟩) fun o ho => ?_)
  rw [h4] at ho
  subst ho
  refine sv_cons (s1_ifF0 (tv_isNone (bv_ev (ev_name (i := 1)))) rfl ?_)
  exact sv_one (s1_ret (ev_name (i := 1)) ⟨uns 1, hp, Fits.un _ _⟩)
theorem ok_word {f : Addr} {fd : FuncData} (F : Fun K "_law_word" "_law_word" sLawWord f fd) (hm : mg "_law_word" = some (.ref f)) (hbd : Binds K fd ["e"] []) {D : Addr} {m : Nat} (W : WordOf K mg D m) (mI : mg "isinstance" = none) (mV : mg "ValueError" = none) : FnE P w K mg base "_law_word" 1 D (.str (wordsN.getD m Str.empty)) := by
  refine fn_okE F hm hbd scLawWord (fun cdv A outer s H F0 p hr hz hd => ?_)
  have is : ∀ (i : Nat) (T : Str) (ht : kindsN[i]? = some T), ∃ C : Addr, mg T = some (.ref C) ∧ PySem.W.kitOne K (.ref D) (.ref C) = some (decide (i = m)) := W.g
  obtain ⟨c0, g0, k0⟩ := is 0 _ rfl
  obtain ⟨c1, g1, k1⟩ := is 1 _ rfl
  obtain ⟨c2, g2, k2⟩ := is 2 _ rfl
  obtain ⟨c3, g3, k3⟩ := is 3 _ rfl
  obtain ⟨c4, g4, k4⟩ := is 4 _ rfl
  obtain ⟨c5, g5, k5⟩ := is 5 _ rfl
  obtain ⟨c6, g6, k6⟩ := is 6 _ rfl
  obtain ⟨c7, g7, k7⟩ := is 7 _ rfl
  obtain ⟨c8, g8, k8⟩ := is 8 _ rfl
  obtain ⟨c9, g9, k9⟩ := is 9 _ rfl
  obtain ⟨c10, g10, k10⟩ := is 10 _ rfl
  obtain ⟨c11, g11, k11⟩ := is 11 _ rfl
  have hp : p ∈ (cE P w K mg base nLawWord "_law_word" sLawWord f cdv A outer s H F0 p).X.pn := List.mem_singleton.mpr rfl
  obtain ⟨h1, h2, h3⟩ := word_count m W.lt
  refine sv_cons (s1_setO (i := 1) scLawWord.nd (nv_lstB (eab_cons (ev_isQ (i := 0) W.X hp hz hd mI g0 k0) (eab_cons (ev_isQ (i := 0) W.X hp hz hd mI g1 k1) (eab_cons (ev_isQ (i := 0) W.X hp hz hd mI g2 k2) (eab_cons (ev_isQ (i := 0) W.X hp hz hd mI g3 k3) eab_nil))))) ?_)
  refine sv_cons (s1_setO (i := 1) scLawWord.nd (nv_catB (bv_own (i := 1)) (bv_nv (nv_lstB (eab_cons (ev_isQ (i := 0) W.X hp hz hd mI g4 k4) (eab_cons (ev_isQ (i := 0) W.X hp hz hd mI g5 k5) (eab_cons (ev_isQ (i := 0) W.X hp hz hd mI g6 k6) (eab_cons (ev_isQ (i := 0) W.X hp hz hd mI g7 k7) eab_nil)))))) (by show 4 + 4 ≤ 1000000; decide)) ?_)
  refine sv_cons (s1_setO (i := 1) scLawWord.nd (nv_catB (bv_own (i := 1)) (bv_nv (nv_lstB (eab_cons (ev_isQ (i := 0) W.X hp hz hd mI g8 k8) (eab_cons (ev_isQ (i := 0) W.X hp hz hd mI g9 k9) (eab_cons (ev_isQ (i := 0) W.X hp hz hd mI g10 k10) (eab_cons (ev_isQ (i := 0) W.X hp hz hd mI g11 k11) eab_nil)))))) (by show 8 + 4 ≤ 1000000; decide)) ?_)
  refine sv_cons (s1_ifF0 (tv_wv (wv_or (tv_ne (ev_countB (bs := (List.range 12).map fun i => decide (i = m)) (bv_own (i := 1))) ev_int) fun _ => wv_or1 (tv_not (tv_ev (ev_isQT (i := 0) W.X hp hz hd mI mV (by decide +kernel) W.v))))) (by rw [h1]; rfl) ?_)
  refine sv_cons (s1_setO (i := 2) scLawWord.nd (nv_lstS (xs := wordsN) (eas_cons ev_str (eas_cons ev_str (eas_cons ev_str (eas_cons ev_str (eas_cons ev_str (eas_cons ev_str (eas_cons ev_str (eas_cons ev_str (eas_cons ev_str (eas_cons ev_str (eas_cons ev_str (eas_cons ev_str eas_nil))))))))))))) ?_)
  exact sv_one (s1_ret (ev_ixSs (xs := wordsN) (bv_own (i := 2)) (ev_indexB (bs := (List.range 12).map fun i => decide (i = m)) (bv_own (i := 1)) h2 h3) ⟨by omega, by show (m : Int) < 12; have := W.lt; omega⟩) ⟨_, rfl⟩)
end
end K31

namespace K31
open PySem PySem.Spec PyProof.Rows L2 G
def walkL (n : Int) (m : Nat) : List Int := (List.range m).map fun k : Nat => G.placeOf n (k : Int)
theorem walk_len (n : Int) (m : Nat) : (walkL n m).length = m := by simp [walkL]
theorem walk_succ (n : Int) (m : Nat) : walkL n (m + 1) = walkL n m ++ [G.placeOf n (m : Int)] := by
  unfold walkL
  rw [List.range_succ, List.map_append]
  rfl
theorem walk_at {n : Int} {m i : Nat} {d : PyData} (h : ((walkL n m).map PyData.int)[i]? = some d) : i < m ∧ d = .int (G.placeOf n (i : Int)) := by
  have h1 := (List.getElem?_eq_some_iff.mp h).1
  rw [List.length_map, walk_len] at h1
  unfold walkL at h
  rw [List.map_map, List.getElem?_map, List.getElem?_range h1] at h
  exact ⟨h1, (Option.some.inj h).symm⟩
theorem count_mono (n : Int) (p : Int) {k m : Nat} (h : k ≤ m) : (walkL n k).count p ≤ (walkL n m).count p := by
  have e : ∀ d, (walkL n k).count p ≤ (walkL n (k + d)).count p := by
    intro d
    induction d with
    | zero => exact Nat.le_refl _
    | succ d ih =>
      rw [← Nat.add_assoc, walk_succ, List.count_append]
      omega
  have := e (m - k)
  rw [show k + (m - k) = m by omega] at this
  exact this
/-- what has been used is what the walk has met -/
theorem used_count {rb : List Str} (hn : 2 ≤ rb.length) : ∀ (k : Nat) (u : List Int) (f : Str), tStep rb 0 k = some (u, f) → u.length = rb.length ∧ ∀ p : Nat, p < rb.length → u.getD p 0 = (((walkL (rb.length : Int) k).count (p : Int) : Nat) : Int)
  | 0, u, f, h => by
    cases h
    refine ⟨by simp, fun p hp => ?_⟩
    rw [getD_rep]
    rfl
  | k + 1, u, f, h => by
    have hb := place_bound (n := (rb.length : Int)) (s := (k : Int)) (by omega)
    cases e : tStep rb 0 k with
    | none =>
      have h' : (tStep rb 0 k).bind _ = some (u, f) := h
      rw [e] at h'
      cases h'
    | some q =>
      obtain ⟨u0, f0⟩ := q
      obtain ⟨l0, c0⟩ := used_count hn k u0 f0 e
      have h' : (tStep rb 0 k).bind _ = some (u, f) := h
      rw [e] at h'
      have h2 : (if _ then none else some _) = some (u, f) := h'
      simp only [Int.zero_add] at h2
      split at h2
      · cases h2
      · cases h2
        refine ⟨by rw [List.length_set]; exact l0, fun p hp => ?_⟩
        rw [getD_set, walk_succ, List.count_append, c0 _ (show (G.placeOf (rb.length : Int) (k : Int)).toNat < rb.length by omega), c0 p hp]
        by_cases hpp : (G.placeOf (rb.length : Int) (k : Int)).toNat = p
        · have e2 : G.placeOf (rb.length : Int) (k : Int) = (p : Int) := by omega
          rw [if_pos ⟨hpp, by omega⟩, e2]
          simp
        · have e2 : G.placeOf (rb.length : Int) (k : Int) ≠ (p : Int) := by omega
          rw [if_neg (fun z => hpp z.1)]
          simp [e2]
theorem used_of {rb : List Str} (hn : 2 ≤ rb.length) : ∀ (k : Nat) (u : List Int) (f : Str), tStep rb 0 k = some (u, f) → Used rb u ∧ u.sum = (k : Int) ∧ f.length = k
  | 0, u, f, h => by
    cases h
    exact ⟨used_start rb, by simp, rfl⟩
  | k + 1, u, f, h => by
    have hb := place_bound (n := (rb.length : Int)) (s := (k : Int)) (by omega)
    cases e : tStep rb 0 k with
    | none =>
      have h' : (tStep rb 0 k).bind _ = some (u, f) := h
      rw [e] at h'
      cases h'
    | some q =>
      obtain ⟨u0, f0⟩ := q
      obtain ⟨l0, c0, g0⟩ := used_of hn k u0 f0 e
      have h' : (tStep rb 0 k).bind _ = some (u, f) := h
      rw [e] at h'
      have h2 : (if _ then none else some _) = some (u, f) := h'
      simp only [Int.zero_add] at h2
      split at h2
      · cases h2
      · rename_i hne
        cases h2
        have hlt : (G.placeOf (rb.length : Int) (k : Int)).toNat < rb.length := by omega
        refine ⟨used_next l0 hlt hne, ?_, ?_⟩
        · rw [sum_set _ _ _ (by rw [l0.1]; exact hlt), c0]
          omega
        · rw [len_app, g0]
          rfl
theorem eq_of_sum : ∀ (xs ys : List Int), xs.length = ys.length → (∀ p : Nat, xs.getD p 0 ≤ ys.getD p 0) → xs.sum = ys.sum → xs = ys
  | [], [], _, _, _ => rfl
  | x :: xs, [], h, _, _ => by simp at h
  | [], y :: ys, h, _, _ => by simp at h
  | x :: xs, y :: ys, h, hle, hs => by
    have h0 := hle 0
    have h0' : x ≤ y := h0
    have hle' : ∀ p : Nat, xs.getD p 0 ≤ ys.getD p 0 := fun p => hle (p + 1)
    have hl : xs.length = ys.length := by simpa using h
    have hsum : xs.sum ≤ ys.sum := sum_le xs ys hl hle'
    simp only [List.sum_cons] at hs
    have e1 : x = y := by omega
    have e2 : xs.sum = ys.sum := by omega
    rw [e1, eq_of_sum xs ys hl hle' e2]
where
  sum_le : ∀ (xs ys : List Int), xs.length = ys.length → (∀ p : Nat, xs.getD p 0 ≤ ys.getD p 0) → xs.sum ≤ ys.sum
    | [], [], _, _ => Int.le_refl _
    | x :: xs, [], h, _ => by simp at h
    | [], y :: ys, h, _ => by simp at h
    | x :: xs, y :: ys, h, hle => by
      have h0 : x ≤ y := hle 0
      have := sum_le xs ys (by simpa using h) fun p => hle (p + 1)
      simp only [List.sum_cons]
      omega
/-- the walk meets each place as often as it has signs -/
def Fits (rb : List Str) : Prop := ∀ p : Nat, p < rb.length → (((walkL (rb.length : Int) (lens rb).sum.toNat).count (p : Int) : Nat) : Int) = ((rb.getD p Str.empty).length : Int)
theorem fits_of {rb : List Str} (hn : 2 ≤ rb.length) {u : List Int} {f : Str} (h : tStep rb 0 (lens rb).sum.toNat = some (u, f)) : Fits rb := by
  obtain ⟨l, c⟩ := used_count hn _ u f h
  obtain ⟨us, s, _⟩ := used_of hn _ u f h
  have h0 := lens_nonneg rb
  have e : u = lens rb := eq_of_sum u (lens rb) (by rw [l]; simp [lens]) (fun p => by
    have := (us.2 p).2
    by_cases hp : p < rb.length
    · rw [show (lens rb).getD p 0 = ((rb.getD p Str.empty).length : Int) from getD_map hp]
      exact this
    · rw [List.getD_eq_getElem?_getD, List.getD_eq_getElem?_getD, List.getElem?_eq_none (by omega), List.getElem?_eq_none (by simp [lens]; omega)]
      exact Int.le_refl _) (by rw [s]; omega)
  intro p hp
  rw [← c p hp, e]
  exact getD_map hp
theorem step_of {rb : List Str} (hn : 2 ≤ rb.length) (hf : Fits rb) : ∀ k : Nat, k ≤ (lens rb).sum.toNat → ∃ u f, tStep rb 0 k = some (u, f)
  | 0, _ => ⟨_, _, rfl⟩
  | k + 1, hk => by
    obtain ⟨u, f, e⟩ := step_of hn hf k (by omega)
    obtain ⟨l, c⟩ := used_count hn k u f e
    have hb := place_bound (n := (rb.length : Int)) (s := (k : Int)) (by omega)
    have hlt : (G.placeOf (rb.length : Int) (k : Int)).toNat < rb.length := by omega
    have hc := c _ hlt
    have hm := count_mono (rb.length : Int) ((G.placeOf (rb.length : Int) (k : Int)).toNat : Int) hk
    rw [walk_succ, List.count_append] at hm
    have e2 : G.placeOf (rb.length : Int) (k : Int) = ((G.placeOf (rb.length : Int) (k : Int)).toNat : Int) := by omega
    have e3 : [G.placeOf (rb.length : Int) (k : Int)].count ((G.placeOf (rb.length : Int) (k : Int)).toNat : Int) = 1 := by rw [← e2]; simp
    have e4 := hf _ hlt
    have hne : u.getD (G.placeOf (rb.length : Int) (k : Int)).toNat 0 ≠ ((rb.getD (G.placeOf (rb.length : Int) (k : Int)).toNat Str.empty).length : Int) := by omega
    simp only [tStep, e, Option.bind_some, Int.zero_add]
    rw [if_neg hne]
    exact ⟨_, _, rfl⟩
theorem text_fits {rb : List Str} (hn : 2 ≤ rb.length) : (Fits rb ↔ G.textFrom rb 0 ≠ none) := by
  constructor
  · intro h q
    obtain ⟨u, f, e⟩ := step_of hn h _ (Nat.le_refl _)
    unfold G.textFrom at q
    rw [e] at q
    cases q
  · intro h
    cases e : tStep rb 0 (lens rb).sum.toNat with
    | none =>
      unfold G.textFrom at h
      rw [e] at h
      exact absurd rfl h
    | some q => exact fits_of hn e
end K31

namespace K31
open PySem PySem.Spec PyProof.Rows L2 G
theorem not_t {b : Bool} (h : (!b) = true) : b = false := by cases b <;> first | rfl | cases h
theorem not_f {b : Bool} (h : (!b) = false) : b = true := by cases b <;> first | rfl | cases h
abbrev wRib : List Str := [Str.ofString "ribbon"]
def dueD : Option Str → PyData
  | some x => .str x
  | none => strsD wRib
structure GoodR (rb : List Str) : Prop where
  lo : 2 ≤ rb.length
  hi : rb.length ≤ 1000
  sum : (lens rb).sum ≤ 100000
def ctWalk (K : PySem.W.Frag) : Ct := fun cs P => ∃ n m : Int, 2 ≤ n ∧ n ≤ 1000 ∧ 0 ≤ m ∧ m ≤ 100000 ∧ cs = [.val (.int n), .val (.int m)] ∧ P (.ret (.own (oL K ((walkL n m.toNat).map PyData.int))) (uns 2))
def ctDue : Ct := fun cs P => ∃ rb : List Str, GoodR rb ∧ cs = [.val (strsD rb)] ∧ P (.ret (.val (dueD (G.textFrom rb 0))) (uns 1))
def ctRibX (aR : Addr) : Ct := fun cs P => ∃ rb : List Str, GoodR rb ∧ cs = [.val (strsD rb)] ∧ (match G.textFrom rb 0 with | some x => P (.ret (.val (.str x)) (uns 1)) | none => P (.exc (.ref aR) none (uns 1)))
structure ToldR (K : PySem.W.Frag) (mg : Str → Option Value) (aS aR : Addr) : Prop where
  s : mg "StrikeError" = some (.ref aS)
  x : PySem.W.exmOne K (.ref aR) (.ref aS) = some true
  r : ExcOf K mg "NoRibbon" aR
/-- what is left of the ribbon -/
def leftL (rb : List Str) (u : List Int) : List Str := (List.range rb.length).map fun p => (⟨((tl (rb.getD p Str.empty)).drop (u.getD p 0).toNat).toArray⟩ : Str)
theorem left_len (rb : List Str) (u : List Int) : (leftL rb u).length = rb.length := by simp [leftL]
theorem left_at {rb : List Str} {u : List Int} {p : Nat} (h : p < rb.length) : (leftL rb u).getD p Str.empty = (⟨((tl (rb.getD p Str.empty)).drop (u.getD p 0).toNat).toArray⟩ : Str) := by
  unfold leftL
  rw [List.getD_eq_getElem?_getD, List.getElem?_map, List.getElem?_range h]
  rfl
theorem left_get {rb : List Str} {u : List Int} {i : Nat} (h : i < (leftL rb u).length) : (leftL rb u)[i] = (⟨((tl (rb.getD i Str.empty)).drop (u.getD i 0).toNat).toArray⟩ : Str) := by
  have h2 : i < rb.length := by rw [left_len] at h; exact h
  have e := left_at (u := u) h2
  rw [List.getD_eq_getElem?_getD, List.getElem?_eq_getElem h] at e
  exact e
theorem left_start (rb : List Str) : leftL rb (List.replicate rb.length 0) = rb := by
  apply List.ext_getElem
  · rw [left_len]
  · intro i h1 h2
    rw [left_get h1, getD_rep, List.getD_eq_getElem?_getD, List.getElem?_eq_getElem h2]
    exact str_ext (by show ((tl rb[i]).drop 0).toArray.toList = _; simp)
theorem left_next {rb : List Str} {u : List Int} {p : Nat} (h : p < rb.length) (hu : u.length = rb.length) (h0 : 0 ≤ u.getD p 0) : (leftL rb u).set p (cutS ((leftL rb u).getD p Str.empty) (some 1) none) = leftL rb (u.set p (u.getD p 0 + 1)) := by
  apply List.ext_getElem
  · rw [List.length_set, left_len, left_len]
  · intro i h1 h2
    have hi : i < rb.length := by rw [left_len] at h2; exact h2
    rw [List.getElem_set, left_get h2, getD_set]
    by_cases e : p = i
    · subst e
      rw [if_pos rfl, if_pos ⟨rfl, by omega⟩]
      refine str_ext ?_
      rw [left_at h]
      generalize hz : (⟨((tl (rb.getD p Str.empty)).drop (u.getD p 0).toNat).toArray⟩ : Str) = z
      have e1 : tl (cutS z (some 1) none) = (tl z).drop 1 := by
        show (((tl z).drop (HT.sIx z.length 0 (some 1))).take (z.length - HT.sIx z.length 0 (some 1))) = _
        have e2 : HT.sIx z.length 0 (some 1) = min 1 z.length := rfl
        rw [e2]
        by_cases hz0 : z.length = 0
        · have : tl z = [] := List.eq_nil_of_length_eq_zero (by rw [← len_tl]; exact hz0)
          rw [this]
          simp
        · rw [show min 1 z.length = 1 by omega, List.take_of_length_le (by rw [List.length_drop, ← len_tl]; omega)]
      rw [e1, ← hz]
      show (((tl (rb.getD p Str.empty)).drop (u.getD p 0).toNat).toArray.toList).drop 1 = ((tl (rb.getD p Str.empty)).drop (u.getD p 0 + 1).toNat).toArray.toList
      simp only [List.drop_drop]
      congr 1
      omega
    · rw [if_neg e, if_neg (fun q => e q.1), left_get]
section
variable {P : Program} {w : World} {K : PySem.W.Frag} {mg : Str → Option Value} {base : Heap} {aS aR : Addr}
theorem ok_ribX {f : Addr} {fd : FuncData} (F : Fun K "ribbon_text" "ribbon_text" sRibbonText f fd) (T : ToldR K mg aS aR) (hText : FnG P w K mg base CX0 "text_from" 2 2 ctTextFrom) : FnOk P w K mg base (L2.CX P w) 3 f fd ["ribbon"] (spG K (ctRibX aR)) := by
  refine fn_okX F scRibbonText (by rintro cs P ⟨n, _, rfl, _⟩; rfl) (fun cdv A outer s H E F0 Kp hr cs Pp hS => ?_)
  obtain ⟨rb, g, rfl, hp⟩ := hS
  refine sv_cons (s1_setG (i := 1) optS scRibbonText.nd (ev_call1 hText hr pass0 (ea_cons (ev_name (i := 0)) (ea_cons ev_int ea_nil)) ⟨rb, 0, g.lo, g.hi, g.sum, by decide, by decide, rfl, _, rfl⟩) fun o ho => ?_)
  rw [← ho] at hp
  cases o with
  | none => exact sv_cons (s1_ifT (tv_isNone (bv_ev (ev_name (i := 1)))) rfl (sv_one (s1_raise rfl T.r ⟨uns 1, hp, Fits.un _ _⟩)))
  | some x =>
    refine sv_cons (s1_ifF0 (tv_isNone (bv_ev (ev_name (i := 1)))) rfl ?_)
    exact sv_one (s1_ret (ev_name (i := 1)) ⟨uns 1, hp, Fits.un _ _⟩)
theorem ok_walk {f : Addr} {fd : FuncData} (F : Fun K "_law_walk" "_law_walk" sLawWalk f fd) (mR : mg "range" = none) : FnOk P w K mg base CX0 1 f fd ["places", "many"] (spG K (ctWalk K)) := by
  refine fn_ok F scLawWalk (by rintro cs P ⟨n, s, _, _, _, _, rfl, _⟩; rfl) (fun cdv A outer s H E F0 Kp hr cs Pp hS => ?_)
  obtain ⟨n, m, h1, h2, h3, h4, rfl, hp⟩ := hS
  refine sv_cons (s1_setO (i := 2) scLawWalk.nd (nv_lstI eai_nil) ?_)
  refine sv_cons (s1_unpack (ev_tup (ea_cons ev_int (ea_cons ev_int ea_nil))) (gv_tup rfl (gvs_cons (gv_name (i := 3) scLawWalk.nd) (gvs_cons (gv_name (i := 4) scLawWalk.nd) gvs_nil))) ?_)
  refine sv_cons (s1_forR (j := 5) [0, 1, 2, 3, 4] scLawWalk.nd PassesOwn.never rfl (iv_range1 mR (ev_name (i := 1)) (by omega))
    (fun i ρ => ∃ place way : Int, Way n (i : Int) place way ∧ ρ = [.val (.int n), .val (.int m), .own (oL K ((walkL n i).map PyData.int)), .val (.int place), .val (.int way), .un]) ⟨0, 1, way_start h1, rfl⟩ (fun j ρ1 hj hI => ?_) (fun ρ1 hI => ?_))
  · obtain ⟨place, way, hW, rfl⟩ := hI
    refine ⟨blt_lt rfl, ?_⟩
    refine sv_cons (s1_appendI (l := 2) rfl (ev_name (i := 3)) (by rw [walk_len]; omega) ?_)
    refine sv_cut (fun ρ' => ρ' = [.val (.int n), .val (.int m), .own (oL K ((walkL n (j + 1)).map PyData.int)), .val (.int place), .val (.int (if 0 ≤ place + way ∧ place + way < n then way else 0 - way)), .val (.int (0 + (j : Int)))])
      (s1_if (tv_not (tv_leLt ev_int (ev_add (ev_name (i := 3)) (ev_name (i := 4))) (ev_name (i := 0)))) (fun e => ?_) (fun e => ?_)) ?_
    · refine sv_one (s1_set (i := 4) scLawWalk.nd (ev_sub ev_int (ev_name (i := 4))) ?_)
      have e' : ¬ (0 ≤ place + way ∧ place + way < n) := by simp at e; omega
      show _ = _
      rw [if_neg e', walk_succ, ← hW.1]
      rfl
    · refine sv_nil ?_
      have e' : 0 ≤ place + way ∧ place + way < n := by simpa using e
      show _ = _
      rw [if_pos e', walk_succ, ← hW.1]
      rfl
    rintro ρ' rfl
    exact sv_one (s1_set (i := 3) scLawWalk.nd (ev_add (ev_name (i := 3)) (ev_name (i := 4))) ⟨_, _, by rw [Int.natCast_add]; exact way_next h1 hW, rfl⟩)
  · obtain ⟨place, way, hW, rfl⟩ := hI
    exact sv_one (s1_retOwn (i := 2) rfl ⟨uns 2, hp, Fits.un _ _⟩)
theorem ok_due {f : Addr} {fd : FuncData} (F : Fun K "_law_due" "_law_due" sLawDue f fd) (hWalk : FnG P w K mg base CX0 "_law_walk" 1 2 (ctWalk K)) (mLen : mg "len" = none) (mR : mg "range" = none) (mSum : mg "sum" = none) (mL : mg "list" = none) : FnOk P w K mg base CX0 2 f fd ["ribbon"] (spG K ctDue) := by
  refine fn_ok F scLawDue (by rintro cs P ⟨n, _, rfl, _⟩; rfl) (fun cdv A outer s H E F0 Kp hr cs Pp hS => ?_)
  obtain ⟨rb, g, rfl, hp⟩ := hS
  have g1 := g.lo
  have g2 := g.hi
  have g3 := g.sum
  have h0 := lens_nonneg rb
  have hlen : ∀ x ∈ rb, (x.length : Int) ≤ (lens rb).sum := fun x hx => lens_le hx
  refine sv_cons (s1_set (i := 1) scLawDue.nd (ev_nv (nv_call1 hWalk hr pass0 (ea_cons (ev_lenSs mLen (bv_ev (ev_name (i := 0)))) (ea_cons (ev_sum (ns := lens rb) rfl mSum (bv_nv (nv_lcM (j := 2) PyData.str PyData.int (fun s : Str => (s.length : Int)) scLawDue.nd rfl (iv_list (ev_name (i := 0))) (by omega)
      (fun s H C cl fp a ha => ev_lenS mLen (ev_name (i := 2)) (line_le (by have := hlen a ha; omega)))))) ea_nil)) ⟨(rb.length : Int), (lens rb).sum, by omega, by omega, h0, g3, rfl, _, rfl⟩)) ?_)
  have tf := text_fits (rb := rb) g1
  refine sv_cons (s1_if (tv_neIs (ms := []) hr (bv_nv (nv_lcF (j := 3) (as := List.range rb.length) (fun k : Nat => PyData.int (0 + (k : Int))) PyData.int (fun k : Nat => !decide ((((walkL (rb.length : Int) (lens rb).sum.toNat).count (k : Int) : Nat) : Int) = ((rb.getD ((k : Nat) : Int).toNat Str.empty).length : Int))) (fun k : Nat => (k : Int)) scLawDue.nd rfl
      (iv_range1 mR (ev_lenSs mLen (bv_ev (ev_name (i := 0)))) (by omega)) (by rw [List.length_range]; omega)
      (fun s H C cl fp a ha => by
        have ha' := List.mem_range.mp ha
        have hb := hlen _ (getD_mem (z := Str.empty) ha')
        simp only [Int.zero_add]
        exact tv_ne (ev_countI (ns := walkL (rb.length : Int) (lens rb).sum.toNat) (k := (a : Int)) (bv_ev (ev_name (i := 1))) (ev_name (i := 3))) (ev_lenS mLen (ev_ixSs (bv_ev (ev_name (i := 0))) (ev_name (i := 3)) (by omega)) (line_le (by simp only [Int.toNat_natCast]; omega))))
      (fun s H C cl fp a ha _ => by
        simp only [Int.zero_add]
        exact ev_name (i := 3)))) (bv_nv (nv_lstI eai_nil))) (fun e => ?_) fun e => ?_)
  · have hn : G.textFrom rb 0 = none := by
      cases q : G.textFrom rb 0 with
      | none => rfl
      | some x =>
        have hf := tf.mpr (by rw [q]; simp)
        exfalso
        refine of_decide_eq_false (not_t e) ?_
        rw [List.map_eq_nil_iff, List.filter_eq_nil_iff]
        intro a ha
        have := hf a (List.mem_range.mp ha)
        simp [this]
    rw [hn] at hp
    exact sv_one (s1_ret (ev_nv (nv_lstS (xs := wRib) (eas_cons ev_str eas_nil))) ⟨uns 1, hp, Fits.un _ _⟩)
  · have hf : Fits rb := by
      have e' := of_decide_eq_true (not_f e)
      rw [List.map_eq_nil_iff, List.filter_eq_nil_iff] at e'
      intro p hpl
      have := e' p (List.mem_range.mpr hpl)
      simpa using this
    refine sv_nil ?_
    refine sv_cons (s1_setO (i := 4) scLawDue.nd (nv_listL mL (bv_ev (ev_name (i := 0)))) ?_)
    refine sv_cons (s1_set (i := 5) scLawDue.nd ev_str ?_)
    have hst : rb = leftL rb (List.replicate rb.length 0) := (left_start rb).symm
    refine sv_cons (s1_forL (j := 3) [0, 1, 4, 5] scLawDue.nd PassesOwn.never rfl (iv_list (ev_name (i := 1)))
      (fun i ρ => ∃ u t, tStep rb 0 i = some (u, t) ∧ ρ = [.val (strsD rb), .val (intsD (walkL (rb.length : Int) (lens rb).sum.toNat)), .un, .un, .own (oL K ((leftL rb u).map PyData.str)), .val (.str t)])
      ⟨_, _, rfl, by rw [← hst]; rfl⟩ (fun i d ρ1 hd hI => ?_) (fun ρ1 hI => ?_))
    · obtain ⟨u, t, e1, rfl⟩ := hI
      obtain ⟨hi, rfl⟩ := walk_at hd
      obtain ⟨us, _, ft⟩ := used_of g1 i u t e1
      obtain ⟨u2, t2, e2⟩ := step_of g1 hf (i + 1) hi
      have hb := place_bound (n := (rb.length : Int)) (s := (i : Int)) (by omega)
      refine ⟨blt_lt rfl, ?_⟩
      have h2 : (tStep rb 0 i).bind _ = some (u2, t2) := e2
      rw [e1] at h2
      have h3 : (if _ then none else some _) = some (u2, t2) := h2
      simp only [Int.zero_add] at h3
      split at h3
      · cases h3
      rename_i hne
      generalize hpp : G.placeOf (rb.length : Int) (i : Int) = p at *
      have hpl : p.toNat < rb.length := by omega
      have hup := us.2 p.toNat
      have hsl := hlen _ (getD_mem (z := Str.empty) hpl)
      have hdr : (tl ((leftL rb u).getD p.toNat Str.empty))[0]? = some ((tl (rb.getD p.toNat Str.empty)).getD (u.getD p.toNat 0).toNat 0) := by
        rw [left_at hpl]
        show ((tl (rb.getD p.toNat Str.empty)).drop (u.getD p.toNat 0).toNat)[0]? = _
        rw [List.getElem?_drop, Nat.add_zero]
        exact getD_some (by rw [← len_tl]; omega)
      have hll : ((leftL rb u).getD p.toNat Str.empty).length ≤ 100000 := by
        rw [left_at hpl, len_tl]
        show (((tl (rb.getD p.toNat Str.empty)).drop (u.getD p.toNat 0).toNat).toArray.toList).length ≤ _
        rw [List.toList_toArray, List.length_drop, ← len_tl]
        omega
      cases h3
      refine sv_cons (s1_set (i := 5) scLawDue.nd (ev_addS (ev_name (i := 5)) (ev_ixS (ev_ixSs (bv_own (i := 4)) (ev_name (i := 3)) (by rw [left_len]; omega)) ev_int (atI_of (by decide) hdr) (line_le (by omega))) (by rw [len_one]; omega)) ?_)
      refine sv_one (s1_setT (l := 4) rfl (ev_slS (ev_ixSs (bv_own (i := 4)) (ev_name (i := 3)) (by rw [left_len]; omega)) (ov_some ev_int) ov_none (by omega)) (ev_name (i := 3)) (by rw [left_len]; omega) ?_)
      exact ⟨_, _, e2, by rw [left_next hpl us.1 hup.1]; rfl⟩
    · obtain ⟨u, t, e1, rfl⟩ := hI
      rw [List.length_map, walk_len] at e1
      have e3 : G.textFrom rb 0 = some t := by
        unfold G.textFrom
        rw [e1]
        rfl
      rw [e3] at hp
      exact sv_one (s1_ret (ev_name (i := 5)) ⟨uns 1, hp, Fits.un _ _⟩)
theorem ok_told {f : Addr} {fd : FuncData} (F : Fun K "_law_told" "_law_told" sLawTold f fd) (T : ToldR K mg aS aR) (hRib : FnG P w K mg base (L2.CX P w) "ribbon_text" 3 1 (ctRibX aR)) (hW : FnE P w K mg base "_law_word" 1 aR (.str (wordsN.getD 5 Str.empty))) : FnOk P w K mg base CX0 4 f fd ["ribbon"] (spG K ctDue) := by
  refine fn_ok F scLawTold (by rintro cs P ⟨n, _, rfl, _⟩; rfl) (fun cdv A outer s H E F0 Kp hr cs Pp hS => ?_)
  obtain ⟨rb, g, rfl, hp⟩ := hS
  refine sv_cons (s1_set (i := 1) scLawTold.nd ev_none ?_)
  refine sv_cons (s1_tryAs (i := 2) (cv := .ref aS) rfl rfl scLawTold.nd ⟨rfl, by decide, .inl T.s⟩ (fun pn xe W tk => ?_))
  cases hq : G.textFrom rb 0 with
  | some x =>
    rw [hq] at hp
    refine sv_one (s1_setX (i := 1) (R := fun d => d = .str x) (E := fun _ _ => False) scLawTold.nd (xv_call (Pp := fun o => o = .ret (.val (.str x)) (uns 1)) hRib hr (ea_cons (ev_name (i := 0)) ea_nil) ⟨rb, g, rfl, by rw [hq]⟩ (fun r cs' h => by cases h; exact ⟨_, rfl, rfl⟩) (fun cls y cs' h => by cases h)) (fun d h => ?_) fun cls y h => h.elim)
    subst h
    exact sv_one (s1_ret (ev_name (i := 1)) ⟨uns 1, hp, Fits.un _ _⟩)
  | none =>
    rw [hq] at hp
    refine sv_one (s1_setX (i := 1) (R := fun _ => False) (E := fun cls y => cls = .ref aR ∧ y = none) scLawTold.nd (xv_call (Pp := fun o => o = .exc (.ref aR) none (uns 1)) hRib hr (ea_cons (ev_name (i := 0)) ea_nil) ⟨rb, g, rfl, by rw [hq]⟩ (fun r cs' h => by cases h) (fun cls y cs' h => by cases h; exact ⟨rfl, rfl⟩)) (fun d h => h.elim) fun cls y h => ?_)
    obtain ⟨rfl, rfl⟩ := h
    refine ⟨rfl, T.x, fun q pn2 hz hd => ?_⟩
    refine sv_one (s1_set (i := 1) scLawTold.nd (ev_nv (nv_lstS (xs := wRib) (eas_cons (ev_callE (i := 2) hW ⟨(hr.mono (by decide : 1 ≤ 3)).dp, (hr.mono (by decide : 1 ≤ 3)).un⟩ List.mem_cons_self hz hd) eas_nil))) ?_)
    exact sv_one (s1_ret (ev_name (i := 1)) ⟨uns 1, hp, Fits.un _ _⟩)
end
end K31

namespace K31
open PySem PySem.Spec PyProof.Rows L2 G
theorem lens_bound {B : Nat} : ∀ {rb : List Str}, (∀ x ∈ rb, x.length ≤ B) → (lens rb).sum ≤ ((B * rb.length : Nat) : Int)
  | [], _ => by simp [lens]
  | r :: rs, h => by
    have h1 := h r List.mem_cons_self
    have h2 := lens_bound (rb := rs) fun x hx => h x (List.mem_cons_of_mem _ hx)
    unfold lens at h2 ⊢
    simp only [List.map_cons, List.sum_cons, List.length_cons, Nat.mul_succ]
    omega
theorem text_ok {rb : List Str} (ho : ∀ x ∈ rb, okT x) : ∀ (k : Nat) (u : List Int) (f : Str), tStep rb 0 k = some (u, f) → okT f
  | 0, u, f, h => by
    cases h
    exact okT_empty
  | k + 1, u, f, h => by
    cases e : tStep rb 0 k with
    | none =>
      have h' : (tStep rb 0 k).bind _ = some (u, f) := h
      rw [e] at h'
      cases h'
    | some q =>
      obtain ⟨u0, f0⟩ := q
      have ih := text_ok ho k u0 f0 e
      have h' : (tStep rb 0 k).bind _ = some (u, f) := h
      rw [e] at h'
      have h2 : (if _ then none else some _) = some (u, f) := h'
      split at h2
      · cases h2
      · cases h2
        exact okT_app ih (okT_one (getD_lt (okT_iff.mp (getD_ok ho _)) _))
theorem wRib_ok : ∀ z ∈ wRib, okT z := by
  have q : ∀ z ∈ wRib, z.cps.all (· < 0x110000) = true := by decide +kernel
  exact q
theorem shaped_str {x : Str} (h : okT x) : SeqAt.shaped (.str x) = true := by
  have e : PyData.canLay0 (.str x) = true := by rw [PyData.canLay0]; exact h
  simp [SeqAt.shaped, e, PyData.depth]
theorem due_shaped {rb : List Str} (ho : ∀ x ∈ rb, okT x) : SeqAt.shaped (dueD (G.textFrom rb 0)) = true := by
  cases q : G.textFrom rb 0 with
  | none => exact shaped_strs wRib_ok
  | some x =>
    refine shaped_str ?_
    unfold G.textFrom at q
    cases e : tStep rb 0 (lens rb).sum.toNat with
    | none => rw [e] at q; cases q
    | some z =>
      rw [e] at q
      cases q
      exact text_ok ho _ z.1 z.2 e
/-- a ribbon of n places, no place longer than B -/
def Good (n : Int) (B : Nat) (rb : List Str) : Prop := rb.length = n.toNat ∧ ∀ x ∈ rb, okT x ∧ x.length ≤ B
theorem Good.mono {n : Int} {B B' : Nat} {rb : List Str} (h : Good n B rb) (hb : B ≤ B') : Good n B' rb := ⟨h.1, fun x hx => ⟨(h.2 x hx).1, Nat.le_trans (h.2 x hx).2 hb⟩⟩
theorem Good.set {n : Int} {B : Nat} {rb : List Str} (h : Good n B rb) {x : Str} (ho : okT x) (hl : x.length ≤ B) (i : Nat) : Good n B (rb.set i x) := ⟨by rw [List.length_set]; exact h.1, fun y hy => by
  rcases List.mem_or_eq_of_mem_set hy with q | q
  · exact h.2 y q
  · rw [q]; exact ⟨ho, hl⟩⟩
theorem Good.at {n : Int} {B : Nat} {rb : List Str} (h : Good n B rb) {i : Nat} (hi : i < n.toNat) : okT (rb.getD i Str.empty) ∧ (rb.getD i Str.empty).length ≤ B := h.2 _ (G.getD_mem (by rw [h.1]; exact hi))
theorem okT_cutS {x : Str} (h : okT x) (l u : Option Int) : okT (cutS x l u) := by
  rw [okT_iff] at *
  intro k hk
  exact h k (List.mem_of_mem_drop (List.mem_of_mem_take hk))
theorem rev_good {n : Int} {B : Nat} {rb : List Str} (h : Good n B rb) : Good n B (rb.map revS) := ⟨by rw [List.length_map]; exact h.1, fun y hy => by
  obtain ⟨x, hx, rfl⟩ := List.mem_map.mp hy
  obtain ⟨a, b⟩ := h.2 x hx
  have e : tl (revS x) = (tl x).reverse := rfl
  refine ⟨?_, ?_⟩
  · rw [okT_iff] at *
    intro k hk
    rw [e] at hk
    exact a k (List.mem_reverse.mp hk)
  · rw [len_tl, e, List.length_reverse, ← len_tl]
    exact b⟩
theorem Good.r {n : Int} {rb : List Str} (h : Good n 100 rb) (h1 : 2 ≤ n) (h2 : n ≤ 8) : GoodR rb := by
  have e := h.1
  have s := lens_bound fun x hx => (h.2 x hx).2
  exact ⟨by omega, by omega, by omega⟩
section
variable {P : Program} {w : World} {K : PySem.W.Frag} {mg : Str → Option Value} {base : Heap} {aS aR : Addr}
theorem ok_law {f : Addr} {fd : FuncData} (F : Fun K "law" "law" sLaw f fd) (hWalk : FnG P w K mg base CX0 "_law_walk" 1 2 (ctWalk K)) (hDue : FnG P w K mg base CX0 "_law_due" 2 1 ctDue) (hTold : FnG P w K mg base CX0 "_law_told" 4 1 ctDue) (hDraws : FnG P w K mg base CX0 "_law_draws" 2 4 (ctDraws K))
    (mR : mg "range" = none) (mL : mg "list" = none) (mE : mg "enumerate" = none) : FnOk P w K mg base CX0 5 f fd ["script"] (spG K ctLaw) := by
  refine fn_ok F scLaw law_len (fun cdv A outer s H E F0 Kp hr cs Pp hS => ?_)
  obtain ⟨ns, hl, rfl, hp⟩ := hS
  have hr2 := hr.mono (by decide : 2 ≤ 4)
  have hr1 := hr.mono (by decide : 1 ≤ 4)
  refine sv_cons (s1_forR (j := 1) [0] scLaw.nd PassesOwn.never rfl (iv_range1 mR ev_int (by decide)) (fun i ρ => ρ = .val (intsD ns) :: uns 13) rfl (fun i ρ1 hi hI => ⟨by rw [hI]; exact blt_lt rfl, ?_⟩) (fun ρ1 hI => ?_))
  · subst hI
    simp only [Int.zero_add]
    have hi10 : i < 10 := hi
    refine sv_cons (s1_setG (i := 2) intsD scLaw.nd (ev_nv (nv_call1 hDraws hr2 pass0 (ea_cons (ev_name (i := 0)) (ea_cons (ev_name (i := 1)) (ea_cons ev_int (ea_cons ev_int ea_nil))))
      ⟨ns, (i : Int), 60, 27720, by omega, by omega, by decide, by decide, by decide, by decide, rfl, _, rfl⟩)) fun ds hds => ?_)
    have dlen : ds.length = 60 := by rw [hds, lawDraws_len]; rfl
    have dat : ∀ j : Nat, 0 ≤ ds.getD j 0 ∧ ds.getD j 0 < 27720 := fun j => by rw [hds]; exact lawDraws_at (by decide) j
    clear hds
    have d50 := dat 50
    have d51 := dat 51
    have d52 := dat 52
    have d53 := dat 53
    have d54 := dat 54
    refine sv_cons (s1_setG (i := 3) PyData.int scLaw.nd (ev_add ev_int (ev_mod (ev_ixI (bv_ev (ev_name (i := 2))) ev_int (by rw [dlen]; decide)) ev_int (by decide))) fun n hn => ?_)
    have hn2 : 2 ≤ n ∧ n ≤ 8 := by
      rw [hn]
      show 2 ≤ 2 + ds.getD 50 0 % 7 ∧ 2 + ds.getD 50 0 % 7 ≤ 8
      omega
    clear hn
    obtain ⟨h1, h8⟩ := hn2
    refine sv_cons (s1_setO (i := 4) scLaw.nd (nv_repS (ev_name (i := 3)) (by omega)) ?_)
    have al : (Str.ofString "abc^9").length = 5 := by decide +kernel
    have ao : okT (Str.ofString "abc^9") := by
      have q : (Str.ofString "abc^9").cps.all (· < 0x110000) = true := by decide +kernel
      exact q
    have ml : (ds.getD 51 0 % 40).toNat < 40 := by omega
    refine sv_cons (s1_for [0, 2, 3, 4] PassesOwn.never rfl (iv_enumL mE (ev_nv (nv_call1 hWalk hr1 pass0 (ea_cons (ev_name (i := 3)) (ea_cons (ev_mod (ev_ixI (bv_ev (ev_name (i := 2))) ev_int (by rw [dlen]; decide)) ev_int (by decide)) ea_nil)) ⟨n, ds.getD 51 0 % 40, h1, by omega, by omega, by omega, rfl, _, rfl⟩)))
      (fun i ρ => ∃ rb : List Str, Good n i rb ∧ ρ = [.val (intsD ns), .un, .val (intsD ds), .val (.int n), .own (oL K (rb.map PyData.str)), .un, .un, .un, .un, .un, .un, .un, .un, .un])
      ⟨List.replicate n.toNat (Str.ofString ""), ⟨by simp, fun x hx => by
        rw [List.eq_of_mem_replicate hx]
        have q : Str.ofString "" = Str.empty := by decide +kernel
        rw [q]
        exact ⟨okT_empty, Nat.le_refl _⟩⟩, rfl⟩ (fun k d ρ1 hd hI => ?_) (fun ρ1 hI => ?_))
    · obtain ⟨rb, hg, rfl⟩ := hI
      obtain ⟨hk, d', hd', rfl⟩ := numD_at hd
      obtain ⟨hk2, rfl⟩ := walk_at hd'
      have hb := place_bound (s := (k : Int)) h1
      obtain ⟨go, gl⟩ := hg.at (i := (G.placeOf n (k : Int)).toNat) (by omega)
      have dk := dat k
      have hgl := hg.1
      refine ⟨_, _, gv_tup rfl (gvs_cons (gv_name (i := 5) scLaw.nd) (gvs_cons (gv_name (i := 6) scLaw.nd) gvs_nil)), ?_⟩
      refine sv_one (s1_setT (l := 4) rfl (ev_addS (ev_ixSs (bv_own (i := 4)) (ev_name (i := 6)) (by omega)) (ev_ixS ev_str (ev_mod (ev_ixI (bv_ev (ev_name (i := 2))) (ev_name (i := 5)) (by rw [dlen]; omega)) ev_int (by decide))
        (atI_of (by omega) (getD_some (z := 0) (by rw [← len_tl, al]; omega))) (line_le (by rw [al]; decide))) (by rw [len_one]; omega)) (ev_name (i := 6)) (by omega) ?_)
      exact ⟨_, (hg.mono (Nat.le_succ k)).set (okT_app go (okT_one (getD_lt (okT_iff.mp ao) _))) (by rw [len_app, len_one]; omega) _, rfl⟩
    · obtain ⟨rb, hg0, rfl⟩ := hI
      rw [numD_len, List.length_map, walk_len] at hg0
      have hg : Good n 40 rb := hg0.mono (by omega)
      clear hg0
      have hgl := hg.1
      have m1 := Int.emod_nonneg (ds.getD 52 0) (show n ≠ 0 by omega)
      have m2 := Int.emod_lt_of_pos (ds.getD 52 0) (show 0 < n by omega)
      have m3 := Int.emod_nonneg (ds.getD 53 0) (show n ≠ 0 by omega)
      have m4 := Int.emod_lt_of_pos (ds.getD 53 0) (show 0 < n by omega)
      refine sv_cons (s1_par (i := 7) (j := 8) (d1 := .int (ds.getD 52 0 % n)) (d2 := .int (ds.getD 53 0 % n)) rfl scLaw.nd (ev_mod (ev_ixI (bv_ev (ev_name (i := 2))) ev_int (by rw [dlen]; decide)) (ev_name (i := 3)) (by omega)) (ev_mod (ev_ixI (bv_ev (ev_name (i := 2))) ev_int (by rw [dlen]; decide)) (ev_name (i := 3)) (by omega)) ?_)
      generalize ds.getD 52 0 % n = one at *
      generalize ds.getD 53 0 % n = oth at *
      obtain ⟨o1, l1⟩ := hg.at (i := one.toNat) (by omega)
      obtain ⟨o2, l2⟩ := hg.at (i := oth.toNat) (by omega)
      refine sv_cons (s1_setO (i := 9) scLaw.nd (nv_listL mL (bv_own (i := 4))) ?_)
      refine sv_cons (s1_set (i := 10) scLaw.nd (ev_mod (ev_ixI (bv_ev (ev_name (i := 2))) ev_int (by rw [dlen]; decide)) ev_int (by decide)) ?_)
      have cl := cutS_length (rb.getD one.toNat Str.empty) (some 1) none
      have cl2 := cutS_length (rb.getD one.toNat Str.empty) none (some 1)
      have ox : okT (Str.ofString "x") := by
        have q : (Str.ofString "x").cps.all (· < 0x110000) = true := by decide +kernel
        exact q
      have lx : (Str.ofString "x").length = 1 := by decide +kernel
      refine sv_cut (fun ρ' => ∃ bt, Good n 100 bt ∧ ∃ cw, ρ' = [.val (intsD ns), .un, .val (intsD ds), .val (.int n), .own (oL K (rb.map PyData.str)), .un, .un, .val (.int one), .val (.int oth), .own (oL K (bt.map PyData.str)), cw, .un, .un, .un])
        (s1_if (tv_eq (ev_name (i := 10)) ev_int) (fun _ => ?_) (fun _ => sv_one (s1_if (tv_eq (ev_name (i := 10)) ev_int) (fun _ => ?_) (fun _ => sv_one (s1_if (tv_eq (ev_name (i := 10)) ev_int) (fun _ => ?_) (fun _ => sv_one (s1_if (tv_eq (ev_name (i := 10)) ev_int) (fun _ => ?_) (fun _ => sv_nil ⟨rb, hg.mono (by decide), _, rfl⟩)))))))) ?_
      · refine sv_one (s1_setT (l := 9) rfl (ev_addS (ev_ixSs (bv_own (i := 9)) (ev_name (i := 7)) (by omega)) ev_str (by rw [lx]; omega)) (ev_name (i := 7)) (by omega) ?_)
        exact ⟨_, (hg.mono (show 40 ≤ 100 by decide)).set (okT_app o1 ox) (by rw [len_app, lx]; omega) _, _, rfl⟩
      · refine sv_one (s1_setT (l := 9) rfl (ev_slS (ev_ixSs (bv_own (i := 9)) (ev_name (i := 7)) (by omega)) (ov_some ev_int) ov_none (by omega)) (ev_name (i := 7)) (by omega) ?_)
        exact ⟨_, (hg.mono (show 40 ≤ 100 by decide)).set (okT_cutS o1 _ _) (by omega) _, _, rfl⟩
      · refine sv_cons (s1_setT (l := 9) rfl (ev_addS (ev_ixSs (bv_own (i := 9)) (ev_name (i := 8)) (by omega)) (ev_slS (ev_ixSs (bv_own (i := 9)) (ev_name (i := 7)) (by omega)) ov_none (ov_some ev_int) (by omega)) (by omega)) (ev_name (i := 8)) (by omega) ?_)
        have hg2 : Good n 80 (rb.set oth.toNat (rb.getD oth.toNat Str.empty ++ cutS (rb.getD one.toNat Str.empty) none (some 1))) := (hg.mono (show 40 ≤ 80 by decide)).set (okT_app o2 (okT_cutS o1 _ _)) (by rw [len_app]; omega) _
        generalize rb.set oth.toNat (rb.getD oth.toNat Str.empty ++ cutS (rb.getD one.toNat Str.empty) none (some 1)) = b2 at hg2
        have hb2 := hg2.1
        obtain ⟨o3, l3⟩ := hg2.at (i := one.toNat) (by omega)
        have cl3 := cutS_length (b2.getD one.toNat Str.empty) (some 1) none
        refine sv_one (s1_setT (l := 9) rfl (ev_slS (ev_ixSs (bv_own (i := 9)) (ev_name (i := 7)) (by omega)) (ov_some ev_int) ov_none (by omega)) (ev_name (i := 7)) (by omega) ?_)
        exact ⟨_, (hg2.mono (show 80 ≤ 100 by decide)).set (okT_cutS o3 _ _) (by omega) _, _, rfl⟩
      · refine sv_one (s1_pairIx (l := 9) rfl rfl (ev_tup (ea_cons (ev_ixSs (bv_own (i := 4)) (ev_name (i := 8)) (by omega)) (ea_cons (ev_ixSs (bv_own (i := 4)) (ev_name (i := 7)) (by omega)) ea_nil))) (ev_name (i := 7)) (fun es => ev_name (i := 8)) (by rw [List.length_map]; omega) (by rw [List.length_map]; omega) ?_)
        rw [map_set, map_set]
        exact ⟨_, ((hg.mono (show 40 ≤ 100 by decide)).set o2 (by omega) _).set o1 (by omega) _, _, rfl⟩
      rintro ρ' ⟨bt, hbt, cw, rfl⟩
      have hrb : Good n 100 rb := hg.mono (by decide)
      refine sv_freeze (i := 4) rfl (sv_freeze (i := 9) rfl ?_)
      refine sv_one (s1_forL (j := 11) [0, 2, 3] scLaw.nd PassesOwn.never rfl (iv_tup (ev_tup (ea_cons (ev_name (i := 4)) (ea_cons (ev_name (i := 9)) (ea_cons (ev_nv (nv_lcM (j := 12) (as := rb) PyData.str PyData.str revS scLaw.nd rfl (iv_list (ev_name (i := 4))) (by omega)
          (fun s H C cl fp a ha => ev_revS (ev_name (i := 12)) (by have := (hg.2 a ha).2; omega)))) ea_nil)))))
        (fun _ ρ => ρ = [.val (intsD ns), .un, .val (intsD ds), .val (.int n), .un, .un, .un, .un, .un, .un, .un, .un, .un, .un]) rfl (fun j d ρ1 hd hI => ?_) (fun ρ1 hI => ?_))
      · subst hI
        obtain ⟨zb, hz, rfl⟩ : ∃ zb, Good n 100 zb ∧ d = strsD zb := by
          have hm := List.mem_of_getElem? hd
          simp only [List.mem_cons, List.not_mem_nil, or_false] at hm
          rcases hm with e | e | e
          · exact ⟨rb, hrb, e⟩
          · exact ⟨bt, hbt, e⟩
          · exact ⟨_, rev_good hrb, e⟩
        have hzr := hz.r h1 h8
        have hzo : ∀ x ∈ zb, okT x := fun x hx => (hz.2 x hx).1
        have hsh := due_shaped hzo
        refine ⟨blt_lt rfl, ?_⟩
        refine sv_cons (s1_set (i := 13) scLaw.nd (ev_nv (nv_listL mL (bv_ev (ev_name (i := 11))))) ?_)
        refine sv_one (s1_ifF0 (tv_wv (wv_or (tv_neD hr (bv_ev (ev_call1 hTold hr pass0 (ea_cons (ev_name (i := 13)) ea_nil) ⟨zb, hzr, rfl, _, rfl⟩)) (bv_ev (ev_call1 hDue hr2 pass0 (ea_cons (ev_name (i := 11)) ea_nil) ⟨zb, hzr, rfl, _, rfl⟩)) hsh hsh) fun _ => wv_or1 (tv_neSs hr (bv_ev (ev_name (i := 13))) (bv_ev (ev_name (i := 11))) hzo hzo))) ?_ ?_)
        · rw [PySem.SeqAt.eqv_refl _ (SeqAt.canLay_of_shaped hsh)]
          simp
        · rfl
      · subst hI
        rfl
  · subst hI
    exact sv_one (s1_ret ev_bool ⟨uns 1, hp, Fits.un _ _⟩)
end
end K31

namespace K31
open PySem PySem.Spec PyProof.Rows L2 G
theorem all_mk {l : PySem.W.OpenLaw} {w : World} {K : PySem.W.Frag} {h : Heap} {mg : Str → Option Value} {fa f0 f1 f2 f3 f4 f5 f6 f7 f8 f9 : Addr} {qStrikeError qLocked qNoKey qNoMachine qNoNumber qNoPlace qNoRibbon qNoRow qNoText qNothingLeft qNoWord qTooLow qTooMany : Addr} (X : K.In h) (G : h.Ns mainGlobals mg) (hfa : mg "law" = some (.ref fa))
    {od0 an0 od1 an1 od2 an2 od3 an3 od4 an4 od5 an5 od6 an6 od7 an7 od8 an8 od9 an9 : Option Addr} {sl0 sl1 sl2 sl3 sl4 sl5 sl6 sl7 sl8 sl9 : Array (Option Value)} {oc0 kV0 dc0 pm0 cd0 ct0 oc1 kV1 dc1 pm1 cd1 ct1 oc2 kV2 dc2 pm2 cd2 ct2 oc3 kV3 dc3 pm3 cd3 ct3 oc4 kV4 dc4 pm4 cd4 ct4 oc5 kV5 dc5 pm5 cd5 ct5 oc6 kV6 dc6 pm6 cd6 ct6 oc7 kV7 dc7 pm7 cd7 ct7 oc8 kV8 dc8 pm8 cd8 ct8 oc9 kV9 dc9 pm9 cd9 ct9 : Value}
    (a0 : PySem.W.nsIn K mainGlobals "place_of" = some (some (.ref f0))) (l0 : K.lookup f0 = some ⟨oc0, od0, .func (PySem.W.fnOf "place_of" "place_of" (defArgs sPlaceOf) (defBody sPlaceOf) (defScope sPlaceOf) .none kV0 dc0 pm0 an0 cd0 ct0), sl0⟩) (c0 : PySem.W.codeIn K cd0 "place_of" = true) (k0 : PySem.W.keepIn K (.ref f0) = true)
    (a1 : PySem.W.nsIn K mainGlobals "text_from" = some (some (.ref f1))) (l1 : K.lookup f1 = some ⟨oc1, od1, .func (PySem.W.fnOf "text_from" "text_from" (defArgs sTextFrom) (defBody sTextFrom) (defScope sTextFrom) .none kV1 dc1 pm1 an1 cd1 ct1), sl1⟩) (c1 : PySem.W.codeIn K cd1 "text_from" = true) (k1 : PySem.W.keepIn K (.ref f1) = true)
    (a2 : PySem.W.nsIn K mainGlobals "ribbon_text" = some (some (.ref f2))) (l2 : K.lookup f2 = some ⟨oc2, od2, .func (PySem.W.fnOf "ribbon_text" "ribbon_text" (defArgs sRibbonText) (defBody sRibbonText) (defScope sRibbonText) .none kV2 dc2 pm2 an2 cd2 ct2), sl2⟩) (c2 : PySem.W.codeIn K cd2 "ribbon_text" = true) (k2 : PySem.W.keepIn K (.ref f2) = true)
    (a3 : PySem.W.nsIn K mainGlobals "_law_cell" = some (some (.ref f3))) (l3 : K.lookup f3 = some ⟨oc3, od3, .func (PySem.W.fnOf "_law_cell" "_law_cell" (defArgs sLawCell) (defBody sLawCell) (defScope sLawCell) .none kV3 dc3 pm3 an3 cd3 ct3), sl3⟩) (c3 : PySem.W.codeIn K cd3 "_law_cell" = true) (k3 : PySem.W.keepIn K (.ref f3) = true)
    (a4 : PySem.W.nsIn K mainGlobals "_law_draws" = some (some (.ref f4))) (l4 : K.lookup f4 = some ⟨oc4, od4, .func (PySem.W.fnOf "_law_draws" "_law_draws" (defArgs sLawDraws) (defBody sLawDraws) (defScope sLawDraws) .none kV4 dc4 pm4 an4 cd4 ct4), sl4⟩) (c4 : PySem.W.codeIn K cd4 "_law_draws" = true) (k4 : PySem.W.keepIn K (.ref f4) = true)
    (a5 : PySem.W.nsIn K mainGlobals "_law_word" = some (some (.ref f5))) (l5 : K.lookup f5 = some ⟨oc5, od5, .func (PySem.W.fnOf "_law_word" "_law_word" (defArgs sLawWord) (defBody sLawWord) (defScope sLawWord) .none kV5 dc5 pm5 an5 cd5 ct5), sl5⟩) (c5 : PySem.W.codeIn K cd5 "_law_word" = true) (k5 : PySem.W.keepIn K (.ref f5) = true)
    (a6 : PySem.W.nsIn K mainGlobals "_law_walk" = some (some (.ref f6))) (l6 : K.lookup f6 = some ⟨oc6, od6, .func (PySem.W.fnOf "_law_walk" "_law_walk" (defArgs sLawWalk) (defBody sLawWalk) (defScope sLawWalk) .none kV6 dc6 pm6 an6 cd6 ct6), sl6⟩) (c6 : PySem.W.codeIn K cd6 "_law_walk" = true) (k6 : PySem.W.keepIn K (.ref f6) = true)
    (a7 : PySem.W.nsIn K mainGlobals "_law_due" = some (some (.ref f7))) (l7 : K.lookup f7 = some ⟨oc7, od7, .func (PySem.W.fnOf "_law_due" "_law_due" (defArgs sLawDue) (defBody sLawDue) (defScope sLawDue) .none kV7 dc7 pm7 an7 cd7 ct7), sl7⟩) (c7 : PySem.W.codeIn K cd7 "_law_due" = true) (k7 : PySem.W.keepIn K (.ref f7) = true)
    (a8 : PySem.W.nsIn K mainGlobals "_law_told" = some (some (.ref f8))) (l8 : K.lookup f8 = some ⟨oc8, od8, .func (PySem.W.fnOf "_law_told" "_law_told" (defArgs sLawTold) (defBody sLawTold) (defScope sLawTold) .none kV8 dc8 pm8 an8 cd8 ct8), sl8⟩) (c8 : PySem.W.codeIn K cd8 "_law_told" = true) (k8 : PySem.W.keepIn K (.ref f8) = true)
    (a9 : PySem.W.nsIn K mainGlobals "law" = some (some (.ref f9))) (l9 : K.lookup f9 = some ⟨oc9, od9, .func (PySem.W.fnOf "law" "law" (defArgs sLaw) (defBody sLaw) (defScope sLaw) .none kV9 dc9 pm9 an9 cd9 ct9), sl9⟩) (c9 : PySem.W.codeIn K cd9 "law" = true) (k9 : PySem.W.keepIn K (.ref f9) = true)
    (z_len : PySem.W.nsIn K mainGlobals "len" = some none) (z_range : PySem.W.nsIn K mainGlobals "range" = some none) (z_min : PySem.W.nsIn K mainGlobals "min" = some none) (z_sum : PySem.W.nsIn K mainGlobals "sum" = some none) (z_list : PySem.W.nsIn K mainGlobals "list" = some none) (z_enumerate : PySem.W.nsIn K mainGlobals "enumerate" = some none) (z_isinstance : PySem.W.nsIn K mainGlobals "isinstance" = some none) (z_ValueError : PySem.W.nsIn K mainGlobals "ValueError" = some none)
    (g_StrikeError : PySem.W.nsIn K mainGlobals "StrikeError" = some (some (.ref qStrikeError)))
    (g_Locked : PySem.W.nsIn K mainGlobals "Locked" = some (some (.ref qLocked)))
    (g_NoKey : PySem.W.nsIn K mainGlobals "NoKey" = some (some (.ref qNoKey)))
    (g_NoMachine : PySem.W.nsIn K mainGlobals "NoMachine" = some (some (.ref qNoMachine)))
    (g_NoNumber : PySem.W.nsIn K mainGlobals "NoNumber" = some (some (.ref qNoNumber)))
    (g_NoPlace : PySem.W.nsIn K mainGlobals "NoPlace" = some (some (.ref qNoPlace)))
    (g_NoRibbon : PySem.W.nsIn K mainGlobals "NoRibbon" = some (some (.ref qNoRibbon)))
    (g_NoRow : PySem.W.nsIn K mainGlobals "NoRow" = some (some (.ref qNoRow)))
    (g_NoText : PySem.W.nsIn K mainGlobals "NoText" = some (some (.ref qNoText)))
    (g_NothingLeft : PySem.W.nsIn K mainGlobals "NothingLeft" = some (some (.ref qNothingLeft)))
    (g_NoWord : PySem.W.nsIn K mainGlobals "NoWord" = some (some (.ref qNoWord)))
    (g_TooLow : PySem.W.nsIn K mainGlobals "TooLow" = some (some (.ref qTooLow)))
    (g_TooMany : PySem.W.nsIn K mainGlobals "TooMany" = some (some (.ref qTooMany)))
    (hd_StrikeError : PySem.W.hasDictIn K qStrikeError = true)
    (hd_Locked : PySem.W.hasDictIn K qLocked = true)
    (hd_NoKey : PySem.W.hasDictIn K qNoKey = true)
    (hd_NoMachine : PySem.W.hasDictIn K qNoMachine = true)
    (hd_NoNumber : PySem.W.hasDictIn K qNoNumber = true)
    (hd_NoPlace : PySem.W.hasDictIn K qNoPlace = true)
    (hd_NoRibbon : PySem.W.hasDictIn K qNoRibbon = true)
    (hd_NoRow : PySem.W.hasDictIn K qNoRow = true)
    (hd_NoText : PySem.W.hasDictIn K qNoText = true)
    (hd_NothingLeft : PySem.W.hasDictIn K qNothingLeft = true)
    (hd_NoWord : PySem.W.hasDictIn K qNoWord = true)
    (hd_TooLow : PySem.W.hasDictIn K qTooLow = true)
    (hd_TooMany : PySem.W.hasDictIn K qTooMany = true)
    (ht_StrikeError : PySem.W.typeIn K (.ref qStrikeError) = some (.type "type"))
    (ht_Locked : PySem.W.typeIn K (.ref qLocked) = some (.type "type"))
    (ht_NoKey : PySem.W.typeIn K (.ref qNoKey) = some (.type "type"))
    (ht_NoMachine : PySem.W.typeIn K (.ref qNoMachine) = some (.type "type"))
    (ht_NoNumber : PySem.W.typeIn K (.ref qNoNumber) = some (.type "type"))
    (ht_NoPlace : PySem.W.typeIn K (.ref qNoPlace) = some (.type "type"))
    (ht_NoRibbon : PySem.W.typeIn K (.ref qNoRibbon) = some (.type "type"))
    (ht_NoRow : PySem.W.typeIn K (.ref qNoRow) = some (.type "type"))
    (ht_NoText : PySem.W.typeIn K (.ref qNoText) = some (.type "type"))
    (ht_NothingLeft : PySem.W.typeIn K (.ref qNothingLeft) = some (.type "type"))
    (ht_NoWord : PySem.W.typeIn K (.ref qNoWord) = some (.type "type"))
    (ht_TooLow : PySem.W.typeIn K (.ref qTooLow) = some (.type "type"))
    (ht_TooMany : PySem.W.typeIn K (.ref qTooMany) = some (.type "type"))
    (bs_StrikeError : PySem.W.subIn K (.ref qStrikeError) (.type "BaseException") = some true)
    (k_NoRibbon : PySem.W.keepIn K (.ref qNoRibbon) = true)
    (x_NoRibbon : PySem.W.excIn K qNoRibbon [.type "ValueError", .type "Exception", .type "BaseException", .type "object"] "ValueError.__new__" = true)
    (c1_NoRibbon : PySem.W.findIn K (.ref qNoRibbon) "__getattribute__" = some (some (.builtin "BaseException.__getattribute__")))
    (c2_NoRibbon : PySem.W.findIn K (.ref qNoRibbon) "__getattr__" = some none)
    (c3_NoRibbon : PySem.W.subIn K (.ref qNoRibbon) (.type "BaseException") = some true)
    (c5_NoRibbon : PySem.W.findIn K (.ref qNoRibbon) "__class__" = some (some (.builtin "object.__class__")))
    (c6_NoRibbon : PySem.W.specialIn K (.builtin "object.__class__") "__get__" = some (some (.builtin "getset_descriptor.__get__")))
    (c7_NoRibbon : PySem.W.takesIn K (.builtin "object.__class__") = some true)
    (c8_NoRibbon : PySem.W.mroIn K qNoRibbon (.type "object") = some true)
    (es_NoRibbon : PySem.W.subIn K (.ref qNoRibbon) (.ref qStrikeError) = some true)
    (vs_NoRibbon : PySem.W.subIn K (.ref qNoRibbon) (.type "ValueError") = some true)
    (s_NoRibbon_Locked : PySem.W.subIn K (.ref qNoRibbon) (.ref qLocked) = some false)
    (s_NoRibbon_NoKey : PySem.W.subIn K (.ref qNoRibbon) (.ref qNoKey) = some false)
    (s_NoRibbon_NoMachine : PySem.W.subIn K (.ref qNoRibbon) (.ref qNoMachine) = some false)
    (s_NoRibbon_NoNumber : PySem.W.subIn K (.ref qNoRibbon) (.ref qNoNumber) = some false)
    (s_NoRibbon_NoPlace : PySem.W.subIn K (.ref qNoRibbon) (.ref qNoPlace) = some false)
    (s_NoRibbon_NoRibbon : PySem.W.subIn K (.ref qNoRibbon) (.ref qNoRibbon) = some true)
    (s_NoRibbon_NoRow : PySem.W.subIn K (.ref qNoRibbon) (.ref qNoRow) = some false)
    (s_NoRibbon_NoText : PySem.W.subIn K (.ref qNoRibbon) (.ref qNoText) = some false)
    (s_NoRibbon_NothingLeft : PySem.W.subIn K (.ref qNoRibbon) (.ref qNothingLeft) = some false)
    (s_NoRibbon_NoWord : PySem.W.subIn K (.ref qNoRibbon) (.ref qNoWord) = some false)
    (s_NoRibbon_TooLow : PySem.W.subIn K (.ref qNoRibbon) (.ref qTooLow) = some false)
    (s_NoRibbon_TooMany : PySem.W.subIn K (.ref qNoRibbon) (.ref qTooMany) = some false)
    : ∃ fd : FuncData, (∀ (s : Shared) (v : Value), BindsTo s fd ⟨[v], []⟩ [("script", v)]) ∧ ∀ base : Heap, K.In base → base.Ns mainGlobals mg → FnOk l.prog w K mg base CX0 5 fa fd ["script"] (spG K ctLaw) := by
  have e := hfa.symm.trans (PySem.W.mg_of X G a9)
  cases e
  have F0 := fun_mk (st := sPlaceOf) l0 c0 k0
  have b0 := F0.binds (ps := ["places", "strike"]) fun _ _ _ _ _ _ us hl => match us, hl with | [_, _], _ => rfl
  have F1 := fun_mk (st := sTextFrom) l1 c1 k1
  have b1 := F1.binds (ps := ["ribbon", "first"]) fun _ _ _ _ _ _ us hl => match us, hl with | [_, _], _ => rfl
  have F2 := fun_mk (st := sRibbonText) l2 c2 k2
  have b2 := F2.binds (ps := ["ribbon"]) fun _ _ _ _ _ _ us hl => match us, hl with | [_], _ => rfl
  have F3 := fun_mk (st := sLawCell) l3 c3 k3
  have b3 := F3.binds (ps := ["script", "k"]) fun _ _ _ _ _ _ us hl => match us, hl with | [_, _], _ => rfl
  have F4 := fun_mk (st := sLawDraws) l4 c4 k4
  have b4 := F4.binds (ps := ["script", "k", "many", "base"]) fun _ _ _ _ _ _ us hl => match us, hl with | [_, _, _, _], _ => rfl
  have F5 := fun_mk (st := sLawWord) l5 c5 k5
  have b5 := F5.binds (ps := ["e"]) fun _ _ _ _ _ _ us hl => match us, hl with | [_], _ => rfl
  have F6 := fun_mk (st := sLawWalk) l6 c6 k6
  have b6 := F6.binds (ps := ["places", "many"]) fun _ _ _ _ _ _ us hl => match us, hl with | [_, _], _ => rfl
  have F7 := fun_mk (st := sLawDue) l7 c7 k7
  have b7 := F7.binds (ps := ["ribbon"]) fun _ _ _ _ _ _ us hl => match us, hl with | [_], _ => rfl
  have F8 := fun_mk (st := sLawTold) l8 c8 k8
  have b8 := F8.binds (ps := ["ribbon"]) fun _ _ _ _ _ _ us hl => match us, hl with | [_], _ => rfl
  have F9 := fun_mk (st := sLaw) l9 c9 k9
  have m_len := PySem.W.mg_none_of X G z_len
  have m_range := PySem.W.mg_none_of X G z_range
  have m_min := PySem.W.mg_none_of X G z_min
  have m_sum := PySem.W.mg_none_of X G z_sum
  have m_list := PySem.W.mg_none_of X G z_list
  have m_enumerate := PySem.W.mg_none_of X G z_enumerate
  have m_isinstance := PySem.W.mg_none_of X G z_isinstance
  have m_ValueError := PySem.W.mg_none_of X G z_ValueError
  have G_StrikeError := PySem.W.mg_of X G g_StrikeError
  have G_Locked := PySem.W.mg_of X G g_Locked
  have G_NoKey := PySem.W.mg_of X G g_NoKey
  have G_NoMachine := PySem.W.mg_of X G g_NoMachine
  have G_NoNumber := PySem.W.mg_of X G g_NoNumber
  have G_NoPlace := PySem.W.mg_of X G g_NoPlace
  have G_NoRibbon := PySem.W.mg_of X G g_NoRibbon
  have G_NoRow := PySem.W.mg_of X G g_NoRow
  have G_NoText := PySem.W.mg_of X G g_NoText
  have G_NothingLeft := PySem.W.mg_of X G g_NothingLeft
  have G_NoWord := PySem.W.mg_of X G g_NoWord
  have G_TooLow := PySem.W.mg_of X G g_TooLow
  have G_TooMany := PySem.W.mg_of X G g_TooMany
  have XC_NoRibbon : ExcC K qNoRibbon := ⟨c1_NoRibbon, c2_NoRibbon, c3_NoRibbon, hd_NoRibbon, c5_NoRibbon, c6_NoRibbon, c7_NoRibbon, c8_NoRibbon⟩
  have XO_NoRibbon : ExcOf K mg "NoRibbon" qNoRibbon := ⟨G_NoRibbon, k_NoRibbon, x_NoRibbon, c3_NoRibbon, ht_NoRibbon⟩
  have e_NoRibbon := PySem.W.exm_ref bs_StrikeError hd_StrikeError ht_StrikeError es_NoRibbon
  have W_NoRibbon : WordOf K mg qNoRibbon 5 := ⟨XC_NoRibbon, by decide, kit_type (by decide +kernel) vs_NoRibbon, fun i T h => match i, h with | 0, h => by cases h; exact ⟨_, G_Locked, kit_ref hd_Locked ht_Locked s_NoRibbon_NoRibbon s_NoRibbon_Locked⟩ | 1, h => by cases h; exact ⟨_, G_NoKey, kit_ref hd_NoKey ht_NoKey s_NoRibbon_NoRibbon s_NoRibbon_NoKey⟩ | 2, h => by cases h; exact ⟨_, G_NoMachine, kit_ref hd_NoMachine ht_NoMachine s_NoRibbon_NoRibbon s_NoRibbon_NoMachine⟩ | 3, h => by cases h; exact ⟨_, G_NoNumber, kit_ref hd_NoNumber ht_NoNumber s_NoRibbon_NoRibbon s_NoRibbon_NoNumber⟩ | 4, h => by cases h; exact ⟨_, G_NoPlace, kit_ref hd_NoPlace ht_NoPlace s_NoRibbon_NoRibbon s_NoRibbon_NoPlace⟩ | 5, h => by cases h; exact ⟨_, G_NoRibbon, kit_ref hd_NoRibbon ht_NoRibbon s_NoRibbon_NoRibbon s_NoRibbon_NoRibbon⟩ | 6, h => by cases h; exact ⟨_, G_NoRow, kit_ref hd_NoRow ht_NoRow s_NoRibbon_NoRibbon s_NoRibbon_NoRow⟩ | 7, h => by cases h; exact ⟨_, G_NoText, kit_ref hd_NoText ht_NoText s_NoRibbon_NoRibbon s_NoRibbon_NoText⟩ | 8, h => by cases h; exact ⟨_, G_NothingLeft, kit_ref hd_NothingLeft ht_NothingLeft s_NoRibbon_NoRibbon s_NoRibbon_NothingLeft⟩ | 9, h => by cases h; exact ⟨_, G_NoWord, kit_ref hd_NoWord ht_NoWord s_NoRibbon_NoRibbon s_NoRibbon_NoWord⟩ | 10, h => by cases h; exact ⟨_, G_TooLow, kit_ref hd_TooLow ht_TooLow s_NoRibbon_NoRibbon s_NoRibbon_TooLow⟩ | 11, h => by cases h; exact ⟨_, G_TooMany, kit_ref hd_TooMany ht_TooMany s_NoRibbon_NoRibbon s_NoRibbon_TooMany⟩ | (n + 12), h => by cases h⟩
  have TD : ToldR K mg qStrikeError qNoRibbon := ⟨G_StrikeError, e_NoRibbon, XO_NoRibbon⟩
  refine ⟨PySem.W.fnOf "law" "law" (defArgs sLaw) (defBody sLaw) (defScope sLaw) .none kV9 dc9 pm9 an9 cd9 ct9, fun s v => .of_eq rfl, fun base _ _ => ?_⟩
  have h_place_of : FnG l.prog w K mg base CX0 "place_of" 1 2 ctPlace := ⟨f0, _, ["places", "strike"], ok_place F0 m_min, PySem.W.mg_of X G a0, k0, b0, rfl⟩
  have h_text_from : FnG l.prog w K mg base CX0 "text_from" 2 2 ctTextFrom := ⟨f1, _, ["ribbon", "first"], ok_textFrom F1 h_place_of m_len m_range m_sum, PySem.W.mg_of X G a1, k1, b1, rfl⟩
  have h_ribbon_text : FnG l.prog w K mg base (L2.CX l.prog w) "ribbon_text" 3 1 (ctRibX qNoRibbon) := ⟨f2, _, ["ribbon"], ok_ribX F2 TD h_text_from, PySem.W.mg_of X G a2, k2, b2, rfl⟩
  have h__law_cell : FnG l.prog w K mg base CX0 "_law_cell" 1 2 ctCell := ⟨f3, _, ["script", "k"], ok_cell F3 m_len, PySem.W.mg_of X G a3, k3, b3, rfl⟩
  have h__law_draws : FnG l.prog w K mg base CX0 "_law_draws" 2 4 (ctDraws K) := ⟨f4, _, ["script", "k", "many", "base"], ok_draws F4 h__law_cell m_range, PySem.W.mg_of X G a4, k4, b4, rfl⟩
  have h_wordR : FnE l.prog w K mg base "_law_word" 1 qNoRibbon (.str (wordsN.getD 5 Str.empty)) := ok_word F5 (PySem.W.mg_of X G a5) b5 W_NoRibbon m_isinstance m_ValueError
  have h__law_walk : FnG l.prog w K mg base CX0 "_law_walk" 1 2 (ctWalk K) := ⟨f6, _, ["places", "many"], ok_walk F6 m_range, PySem.W.mg_of X G a6, k6, b6, rfl⟩
  have h__law_due : FnG l.prog w K mg base CX0 "_law_due" 2 1 ctDue := ⟨f7, _, ["ribbon"], ok_due F7 h__law_walk m_len m_range m_sum m_list, PySem.W.mg_of X G a7, k7, b7, rfl⟩
  have h__law_told : FnG l.prog w K mg base CX0 "_law_told" 4 1 ctDue := ⟨f8, _, ["ribbon"], ok_told F8 TD h_ribbon_text h_wordR, PySem.W.mg_of X G a8, k8, b8, rfl⟩
  exact ok_law F9 h__law_walk h__law_due h__law_told h__law_draws m_range m_list m_enumerate
end K31
open PySem PySem.W PyProof.Rows
set_option maxHeartbeats 0 in
theorem PySem.Challenge.cw_strikesheet_k31_ribbons_of_no_text_holds : PySem.Challenge.rw_strikesheet_k31_ribbons_of_no_text.Holds := by
  w_on; o_law; k_head; (case hw => w_witness2)
  k_fill
  refine L2.walk_of (l := PySem.Challenge.rw_strikesheet_k31_ribbons_of_no_text) (n := 63) (k := 5) (x := "script") (CX := fun _ => L2.CX0) (sp := fun w => G.spG _ G.ctLaw) rfl (by decide) rfl ⟨rfl, by decide, by decide⟩ (fun w h Y => PySem.W.kIn_of Y) ?F (fun _ _ a ns hl _ hS => G.law_sp hl hS) (fun _ _ _ _ _ h => h)
  case F =>
    intro w mg fa h KX G hmg
    refine' K31.all_mk KX G hmg ?a0 ?l0 ?c0 ?k0 ?a1 ?l1 ?c1 ?k1 ?a2 ?l2 ?c2 ?k2 ?a3 ?l3 ?c3 ?k3 ?a4 ?l4 ?c4 ?k4 ?a5 ?l5 ?c5 ?k5 ?a6 ?l6 ?c6 ?k6 ?a7 ?l7 ?c7 ?k7 ?a8 ?l8 ?c8 ?k8 ?a9 ?l9 ?c9 ?k9 ?z_len ?z_range ?z_min ?z_sum ?z_list ?z_enumerate ?z_isinstance ?z_ValueError ?g_StrikeError ?g_Locked ?g_NoKey ?g_NoMachine ?g_NoNumber ?g_NoPlace ?g_NoRibbon ?g_NoRow ?g_NoText ?g_NothingLeft ?g_NoWord ?g_TooLow ?g_TooMany ?hd_StrikeError ?hd_Locked ?hd_NoKey ?hd_NoMachine ?hd_NoNumber ?hd_NoPlace ?hd_NoRibbon ?hd_NoRow ?hd_NoText ?hd_NothingLeft ?hd_NoWord ?hd_TooLow ?hd_TooMany ?ht_StrikeError ?ht_Locked ?ht_NoKey ?ht_NoMachine ?ht_NoNumber ?ht_NoPlace ?ht_NoRibbon ?ht_NoRow ?ht_NoText ?ht_NothingLeft ?ht_NoWord ?ht_TooLow ?ht_TooMany ?bs_StrikeError ?k_NoRibbon ?x_NoRibbon ?c1_NoRibbon ?c2_NoRibbon ?c3_NoRibbon ?c5_NoRibbon ?c6_NoRibbon ?c7_NoRibbon ?c8_NoRibbon ?es_NoRibbon ?vs_NoRibbon ?s_NoRibbon_Locked ?s_NoRibbon_NoKey ?s_NoRibbon_NoMachine ?s_NoRibbon_NoNumber ?s_NoRibbon_NoPlace ?s_NoRibbon_NoRibbon ?s_NoRibbon_NoRow ?s_NoRibbon_NoText ?s_NoRibbon_NothingLeft ?s_NoRibbon_NoWord ?s_NoRibbon_TooLow ?s_NoRibbon_TooMany
    (case a0 => k_is); (case l0 => k_is); (case c0 => k_is); (case k0 => k_is); (case a1 => k_is); (case l1 => k_is); (case c1 => k_is); (case k1 => k_is); (case a2 => k_is); (case l2 => k_is); (case c2 => k_is); (case k2 => k_is); (case a3 => k_is); (case l3 => k_is); (case c3 => k_is); (case k3 => k_is); (case a4 => k_is); (case l4 => k_is); (case c4 => k_is); (case k4 => k_is); (case a5 => k_is); (case l5 => k_is); (case c5 => k_is); (case k5 => k_is); (case a6 => k_is); (case l6 => k_is); (case c6 => k_is); (case k6 => k_is); (case a7 => k_is); (case l7 => k_is); (case c7 => k_is); (case k7 => k_is); (case a8 => k_is); (case l8 => k_is); (case c8 => k_is); (case k8 => k_is); (case a9 => k_is); (case l9 => k_is); (case c9 => k_is); (case k9 => k_is); (case z_len => k_is); (case z_range => k_is); (case z_min => k_is); (case z_sum => k_is); (case z_list => k_is); (case z_enumerate => k_is); (case z_isinstance => k_is); (case z_ValueError => k_is); (case g_StrikeError => k_is); (case g_Locked => k_is); (case g_NoKey => k_is); (case g_NoMachine => k_is); (case g_NoNumber => k_is); (case g_NoPlace => k_is); (case g_NoRibbon => k_is); (case g_NoRow => k_is); (case g_NoText => k_is); (case g_NothingLeft => k_is); (case g_NoWord => k_is); (case g_TooLow => k_is); (case g_TooMany => k_is); (case hd_StrikeError => k_is); (case hd_Locked => k_is); (case hd_NoKey => k_is); (case hd_NoMachine => k_is); (case hd_NoNumber => k_is); (case hd_NoPlace => k_is); (case hd_NoRibbon => k_is); (case hd_NoRow => k_is); (case hd_NoText => k_is); (case hd_NothingLeft => k_is); (case hd_NoWord => k_is); (case hd_TooLow => k_is); (case hd_TooMany => k_is); (case ht_StrikeError => k_is); (case ht_Locked => k_is); (case ht_NoKey => k_is); (case ht_NoMachine => k_is); (case ht_NoNumber => k_is); (case ht_NoPlace => k_is); (case ht_NoRibbon => k_is); (case ht_NoRow => k_is); (case ht_NoText => k_is); (case ht_NothingLeft => k_is); (case ht_NoWord => k_is); (case ht_TooLow => k_is); (case ht_TooMany => k_is); (case bs_StrikeError => k_is); (case k_NoRibbon => k_is); (case x_NoRibbon => k_exc); (case c1_NoRibbon => k_is); (case c2_NoRibbon => k_is); (case c3_NoRibbon => k_is); (case c5_NoRibbon => k_is); (case c6_NoRibbon => k_is); (case c7_NoRibbon => k_is); (case c8_NoRibbon => k_is); (case es_NoRibbon => k_is); (case vs_NoRibbon => k_is); (case s_NoRibbon_Locked => k_is); (case s_NoRibbon_NoKey => k_is); (case s_NoRibbon_NoMachine => k_is); (case s_NoRibbon_NoNumber => k_is); (case s_NoRibbon_NoPlace => k_is); (case s_NoRibbon_NoRibbon => k_is); (case s_NoRibbon_NoRow => k_is); (case s_NoRibbon_NoText => k_is); (case s_NoRibbon_NothingLeft => k_is); (case s_NoRibbon_NoWord => k_is); (case s_NoRibbon_TooLow => k_is); (case s_NoRibbon_TooMany => k_is)
