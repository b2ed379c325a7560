import PyProof.Rows.All
import Wide.All
import OpenK.AllK
import Wide.FinOn
import HandS.ForMost
import HandS.IsInst
import HandS.Wide
import KE.GoesNew
import KE.GoesEnum
import KE.GoesZip
import KE.GoesMore
import HandS.TupAny
import HandS.Style
import HandS.WideBits
import HandS.SortInts
import HandS.Steps
import HandS.More
import HandS.EndBits
import KE.IntBitsLaws
import PySem.Challenge.RW_joinedheaps_k23_depths_by_steps
set_option Elab.async false
set_option linter.all false
set_option maxRecDepth 100000
set_option maxHeartbeats 4000000
namespace FL
open PySem PySem.Spec PyProof.Rows L2

/-- plain data -/
inductive D where
  | non | bl (b : Bool) | int (i : Int) | str (x : Str)
  | tup (xs : List D) | lst (xs : List D) | frl (xs : List D)
  | dK (ks : List (Key × D)) | dT (ks : List (List Key × D))
  | opq (v : V)

mutual
inductive Rep (K : PySem.W.Frag) (Z : Hp) : V → D → Prop
  | non : Rep K Z .non .non
  | bl (b : Bool) : Rep K Z (.bl b) (.bl b)
  | int (i : Int) : Rep K Z (.int i) (.int i)
  | str (x : Str) : Rep K Z (.str x) (.str x)
  | tup {a : Addr} {vs : List V} {ds : List D} : Rd Z a (.tup vs) → Reps K Z vs ds → Rep K Z (.ref a) (.tup ds)
  | lst {a : Addr} {vs : List V} {ds : List D} : Z a = some (.lst vs) → Reps K Z vs ds → Rep K Z (.ref a) (.lst ds)
  | frl {a : Addr} {vs : List V} {ds : List D} : SqL K Z a vs → Reps K Z vs ds → Rep K Z (.ref a) (.frl ds)
  | dK {a : Addr} {kvs : List (Key × V)} {kds : List (Key × D)} : Rd Z a (.dK kvs) → kvs.map (·.1) = kds.map (·.1) →
      Reps K Z (kvs.map (·.2)) (kds.map (·.2)) → Rep K Z (.ref a) (.dK kds)
  | dT {a : Addr} {kvs : List (List Key × V)} {kds : List (List Key × D)} : Rd Z a (.dT kvs) → kvs.map (·.1) = kds.map (·.1) →
      Reps K Z (kvs.map (·.2)) (kds.map (·.2)) → Rep K Z (.ref a) (.dT kds)
  | opq (v : V) : Rep K Z v (.opq v)
inductive Reps (K : PySem.W.Frag) (Z : Hp) : List V → List D → Prop
  | nil : Reps K Z [] []
  | cons {v : V} {vs : List V} {d : D} {ds : List D} : Rep K Z v d → Reps K Z vs ds → Reps K Z (v :: vs) (d :: ds)
end

theorem rd_mono {Z Z' : Hp} {a : Addr} {u : HO} (s : Same Z Z') (h : Rd Z a u) : Rd Z' a u := by
  rcases h with h | ⟨o, h⟩
  · exact .inl (s _ _ h)
  · exact .inr ⟨o, s _ _ h⟩
theorem sqT_mono {K : PySem.W.Frag} {Z Z' : Hp} {a : Addr} {xs : List V} (s : Same Z Z') (h : SqT K Z a xs) : SqT K Z' a xs := by
  rcases h with h | h
  · exact .inl (rd_mono s h)
  · exact .inr h
theorem sqL_mono {K : PySem.W.Frag} {Z Z' : Hp} {a : Addr} {xs : List V} (s : Same Z Z') (h : SqL K Z a xs) : SqL K Z' a xs := by
  rcases h with h | h
  · exact .inl (rd_mono s h)
  · exact .inr h
mutual
theorem Rep.mono {K : PySem.W.Frag} {Z Z' : Hp} (s : Same Z Z') : ∀ {v : V} {d : D}, Rep K Z v d → Rep K Z' v d
  | _, _, .non => .non
  | _, _, .bl b => .bl b
  | _, _, .int i => .int i
  | _, _, .str x => .str x
  | _, _, .tup h r => .tup (rd_mono s h) (Reps.mono s r)
  | _, _, .lst h r => .lst (s _ _ h) (Reps.mono s r)
  | _, _, .frl h r => .frl (sqL_mono s h) (Reps.mono s r)
  | _, _, .dK h e r => .dK (rd_mono s h) e (Reps.mono s r)
  | _, _, .dT h e r => .dT (rd_mono s h) e (Reps.mono s r)
  | _, _, .opq v => .opq v
theorem Reps.mono {K : PySem.W.Frag} {Z Z' : Hp} (s : Same Z Z') : ∀ {vs : List V} {ds : List D}, Reps K Z vs ds → Reps K Z' vs ds
  | _, _, .nil => .nil
  | _, _, .cons r t => .cons (Rep.mono s r) (Reps.mono s t)
end
end FL
namespace FL
open PySem PySem.Spec PyProof.Rows L2

/-- what a slot holds: nothing known, settled data, an owned object (its root may change), an owned list of owned objects -/
inductive C where
  | un | val (d : D) | own (t : Option Nat) (d : D) | nest (t : Option Nat) (ds : List D)
abbrev En := List C
/-- R: objects of others; pa: the addresses of the parameters' objects -/
structure Gh where
  R : Hp
  pa : Nat → Addr
abbrev Fr0 := PySem.W.Frag
abbrev Sl := L2.St

def Root (K : Fr0) (Z H : Hp) (a : Addr) : D → Prop
  | .lst xs => ∃ vs, H a = some (.lst vs) ∧ Reps K Z vs xs
  | .dK kds => ∃ kvs : List (Key × V), H a = some (.dK kvs) ∧ kvs.map (·.1) = kds.map (·.1) ∧ Reps K Z (kvs.map (·.2)) (kds.map (·.2))
  | .dT kds => ∃ kvs : List (List Key × V), H a = some (.dT kvs) ∧ kvs.map (·.1) = kds.map (·.1) ∧ Reps K Z (kvs.map (·.2)) (kds.map (·.2))
  | _ => False
def Roots (K : Fr0) (Z H : Hp) : List Addr → List D → Prop
  | [], [] => True
  | a :: as, d :: ds => Root K Z H a d ∧ Roots K Z H as ds
  | _, _ => False
theorem Root.mono {K : Fr0} {Z Z' H H' : Hp} {a : Addr} {d : D} (s : Same Z Z') (e : H' a = H a) (h : Root K Z H a d) : Root K Z' H' a d := by
  cases d with
  | lst xs => obtain ⟨vs, q, r⟩ := h; exact ⟨vs, e.trans q, r.mono s⟩
  | dK xs => obtain ⟨vs, q, k, r⟩ := h; exact ⟨vs, e.trans q, k, r.mono s⟩
  | dT xs => obtain ⟨vs, q, k, r⟩ := h; exact ⟨vs, e.trans q, k, r.mono s⟩
  | _ => exact h
theorem Root.ex {K : Fr0} {Z H : Hp} {a : Addr} {d : D} (h : Root K Z H a d) : ∃ o, H a = some o := by
  cases d with
  | lst xs => obtain ⟨vs, q, r⟩ := h; exact ⟨_, q⟩
  | dK xs => obtain ⟨vs, q, k, r⟩ := h; exact ⟨_, q⟩
  | dT xs => obtain ⟨vs, q, k, r⟩ := h; exact ⟨_, q⟩
  | _ => exact h.elim
theorem Roots.mono {K : Fr0} {Z Z' H H' : Hp} (s : Same Z Z') : ∀ {as : List Addr} {ds : List D}, (∀ a ∈ as, H' a = H a) → Roots K Z H as ds → Roots K Z' H' as ds
  | [], [], _, _ => trivial
  | [], _ :: _, _, h => h.elim
  | _ :: _, [], _, h => h.elim
  | a :: as, d :: ds, e, h => ⟨h.1.mono s (e a List.mem_cons_self), Roots.mono s (fun b hb => e b (List.mem_cons_of_mem _ hb)) h.2⟩
theorem Roots.ex {K : Fr0} {Z H : Hp} : ∀ {as : List Addr} {ds : List D}, Roots K Z H as ds → ∀ a ∈ as, ∃ o, H a = some o
  | [], _, _, a, ha => nomatch ha
  | _ :: _, [], h, _, _ => h.elim
  | a :: as, d :: ds, h, b, hb => by
    rcases List.mem_cons.mp hb with e | e
    · rw [e]; exact h.1.ex
    · exact Roots.ex h.2 b e

def SlotOk (K : Fr0) (G : Gh) (Z H : Hp) (ov : Option V) (F : List Addr) : C → Prop
  | .un => F = []
  | .val d => F = [] ∧ ∃ v, ov = some v ∧ Rep K Z v d
  | .own t d => ∃ a, ov = some (.ref a) ∧ F = [a] ∧ (∀ n, t = some n → G.pa n = a) ∧ Root K Z H a d
  | .nest t ds => ∃ a as, ov = some (.ref a) ∧ F = a :: as ∧ (∀ n, t = some n → G.pa n = a) ∧ H a = some (.lst (as.map V.ref)) ∧ Roots K Z H as ds ∧ (a :: as).Nodup
theorem SlotOk.mono {K : Fr0} {G : Gh} {Z Z' H H' : Hp} {ov : Option V} {F : List Addr} {c : C} (s : Same Z Z') (e : ∀ a ∈ F, H' a = H a) (h : SlotOk K G Z H ov F c) : SlotOk K G Z' H' ov F c := by
  cases c with
  | un => exact h
  | val d => obtain ⟨f, v, q, r⟩ := h; exact ⟨f, v, q, r.mono s⟩
  | own t d =>
    obtain ⟨a, q, f, p, r⟩ := h
    subst f
    exact ⟨a, q, rfl, p, r.mono s (e a List.mem_cons_self)⟩
  | nest t ds =>
    obtain ⟨a, as, q, f, p, r, rs, nd⟩ := h
    subst f
    exact ⟨a, as, q, rfl, p, (e a List.mem_cons_self).trans r, rs.mono s (fun b hb => e b (List.mem_cons_of_mem _ hb)), nd⟩
theorem SlotOk.ex {K : Fr0} {G : Gh} {Z H : Hp} {ov : Option V} {F : List Addr} {c : C} (h : SlotOk K G Z H ov F c) : ∀ a ∈ F, ∃ o, H a = some o := by
  intro b hb
  cases c with
  | un => cases (show F = [] from h); cases hb
  | val d => obtain ⟨f, _⟩ := h; subst f; cases hb
  | own t d =>
    obtain ⟨a, q, f, p, r⟩ := h
    subst f
    rcases List.mem_cons.mp hb with z | z
    · rw [z]; exact r.ex
    · cases z
  | nest t ds =>
    obtain ⟨a, as, q, f, p, r, rs, nd⟩ := h
    subst f
    rcases List.mem_cons.mp hb with z | z
    · rw [z]; exact ⟨_, r⟩
    · exact rs.ex b z
/-- the tag plays no part -/
theorem SlotOk.pa {K : Fr0} {G G' : Gh} {Z H : Hp} {ov : Option V} {F : List Addr} {c : C} (e : G'.pa = G.pa) (h : SlotOk K G Z H ov F c) : SlotOk K G' Z H ov F c := by
  cases c with
  | un => exact h
  | val d => exact h
  | own t d => obtain ⟨a, q, f, p, r⟩ := h; exact ⟨a, q, f, by rw [e]; exact p, r⟩
  | nest t d => obtain ⟨a, as, q, f, p, r⟩ := h; exact ⟨a, as, q, f, by rw [e]; exact p, r⟩

abbrev slv (σ : Sl) (i : Nat) : Option V := (σ[i]?).getD none
theorem slv_some {σ : Sl} {i : Nat} {v : V} (h : slv σ i = some v) : σ[i]? = some (some v) := by
  unfold slv at h
  cases e : σ[i]? with
  | none => rw [e] at h; cases h
  | some o => rw [e] at h; cases h; rfl

structure HF (K : Fr0) (G : Gh) (Z : Hp) (σ : Sl) (H : Hp) (env : En) (F : Nat → List Addr) : Prop where
  zh : Same Z H
  rh : Same G.R H
  zr : ∀ a o, G.R a = some o → Z a = none
  len : σ.length = env.length
  sl : ∀ i c, env[i]? = some c → SlotOk K G Z H (slv σ i) (F i) c
  fz : ∀ i a, a ∈ F i → Z a = none ∧ G.R a = none ∧ i < env.length
  dj : ∀ i j a, a ∈ F i → a ∈ F j → i = j
def Holds (K : Fr0) (G : Gh) (Z : Hp) (σ : Sl) (H : Hp) (env : En) : Prop := ∃ F, HF K G Z σ H env F

def updF (F : Nat → List Addr) (i : Nat) (l : List Addr) : Nat → List Addr := fun j => if j = i then l else F j
theorem updF_same {F : Nat → List Addr} {i : Nat} {l : List Addr} : updF F i l i = l := by simp [updF]
theorem updF_ne {F : Nat → List Addr} {i j : Nat} {l : List Addr} (h : j ≠ i) : updF F i l j = F j := by simp [updF, h]

section
variable {K : Fr0} {G : Gh} {Z : Hp} {σ : Sl} {H : Hp} {env : En} {F : Nat → List Addr} {i : Nat} {v : V} {c : C} {Fc : List Addr}
theorem updF_dj (h : ∀ i j a, a ∈ F i → a ∈ F j → i = j) (n : ∀ j a, a ∈ Fc → a ∈ F j → j = i) : ∀ k j a, a ∈ updF F i Fc k → a ∈ updF F i Fc j → k = j := by
  intro k j a h1 h2
  by_cases hk : k = i
  · by_cases hj : j = i
    · rw [hk, hj]
    · rw [hk, updF_same] at h1
      rw [updF_ne hj] at h2
      rw [hk, n j a h1 h2]
  · by_cases hj : j = i
    · rw [hj, updF_same] at h2
      rw [updF_ne hk] at h1
      rw [hj, n k a h2 h1]
    · rw [updF_ne hk] at h1
      rw [updF_ne hj] at h2
      exact h k j a h1 h2
/-- a slot gets a content -/
theorem HF.put (h : HF K G Z σ H env F) (hi : i < env.length) (s : SlotOk K G Z H (some v) Fc c) (n : ∀ a ∈ Fc, Z a = none ∧ G.R a = none) (d : ∀ j a, a ∈ Fc → a ∈ F j → j = i) :
    HF K G Z (σ.set i (some v)) H (env.set i c) (updF F i Fc) := by
  refine ⟨h.zh, h.rh, h.zr, by simp [h.len], fun j c' e => ?_, fun j a ha => ?_, updF_dj h.dj d⟩
  · by_cases hj : j = i
    · subst hj
      rw [List.getElem?_set_self hi] at e
      cases e
      rw [updF_same]
      have : slv (σ.set j (some v)) j = some v := by
        unfold slv
        rw [List.getElem?_set_self (by rw [h.len]; exact hi)]
        rfl
      rw [this]; exact s
    · rw [List.getElem?_set_ne (Ne.symm hj)] at e
      rw [updF_ne hj]
      have : slv (σ.set i (some v)) j = slv σ j := by unfold slv; rw [List.getElem?_set_ne (Ne.symm hj)]
      rw [this]; exact h.sl j c' e
  · rw [List.length_set]
    by_cases hj : j = i
    · subst hj
      rw [updF_same] at ha
      exact ⟨(n a ha).1, (n a ha).2, hi⟩
    · rw [updF_ne hj] at ha
      exact h.fz j a ha
/-- a slot is forgotten or settled: no footprint any more -/
theorem HF.settle {ov : Option V} (h : HF K G Z σ H env F) (hi : i < env.length) (s : SlotOk K G Z H ov [] c) : HF K G Z (σ.set i ov) H (env.set i c) (updF F i []) := by
  refine ⟨h.zh, h.rh, h.zr, by simp [h.len], fun j c' e => ?_, fun j a ha => ?_, updF_dj h.dj (fun j a q _ => nomatch q)⟩
  · by_cases hj : j = i
    · subst hj
      rw [List.getElem?_set_self hi] at e
      cases e
      rw [updF_same]
      have : slv (σ.set j ov) j = ov := by
        unfold slv
        rw [List.getElem?_set_self (by rw [h.len]; exact hi)]
        rfl
      rw [this]; exact s
    · rw [List.getElem?_set_ne (Ne.symm hj)] at e
      rw [updF_ne hj]
      have : slv (σ.set i ov) j = slv σ j := by unfold slv; rw [List.getElem?_set_ne (Ne.symm hj)]
      rw [this]; exact h.sl j c' e
  · rw [List.length_set]
    by_cases hj : j = i
    · subst hj
      rw [updF_same] at ha; cases ha
    · rw [updF_ne hj] at ha
      exact h.fz j a ha
/-- a temporary behind the slots -/
theorem HF.push (h : HF K G Z σ H env F) (s : SlotOk K G Z H (some v) Fc c) (n : ∀ a ∈ Fc, Z a = none ∧ G.R a = none) (d : ∀ j a, a ∈ Fc → a ∉ F j) :
    HF K G Z (σ ++ [some v]) H (env ++ [c]) (updF F env.length Fc) := by
  refine ⟨h.zh, h.rh, h.zr, by simp [h.len], fun j c' e => ?_, fun j a ha => ?_, updF_dj h.dj (fun j a q q' => (d j a q q').elim)⟩
  · by_cases hj : j = env.length
    · subst hj
      rw [List.getElem?_append_right (Nat.le_refl _), Nat.sub_self] at e
      cases e
      rw [updF_same]
      have : slv (σ ++ [some v]) env.length = some v := by
        unfold slv
        rw [List.getElem?_append_right (by rw [h.len]; exact Nat.le_refl _), h.len, Nat.sub_self]
        rfl
      rw [this]; exact s
    · have hl : j < env.length := by
        have := (List.getElem?_eq_some_iff.mp e).1
        rw [List.length_append, List.length_singleton] at this
        omega
      rw [List.getElem?_append_left hl] at e
      rw [updF_ne hj]
      have : slv (σ ++ [some v]) j = slv σ j := by unfold slv; rw [List.getElem?_append_left (by rw [h.len]; exact hl)]
      rw [this]; exact h.sl j c' e
  · rw [List.length_append, List.length_singleton]
    by_cases hj : j = env.length
    · subst hj
      rw [updF_same] at ha
      exact ⟨(n a ha).1, (n a ha).2, by omega⟩
    · rw [updF_ne hj] at ha
      obtain ⟨q1, q2, q3⟩ := h.fz j a ha
      exact ⟨q1, q2, by omega⟩
/-- .. and away again -/
theorem HF.pop {ov : Option V} (h : HF K G Z (σ ++ [ov]) H (env ++ [c]) F) : HF K G Z σ H env (updF F env.length []) ∧ SlotOk K G Z H ov (F env.length) c ∧ (∀ a ∈ F env.length, Z a = none ∧ G.R a = none) ∧
    ∀ j a, a ∈ F env.length → a ∉ updF F env.length [] j := by
  have hl : σ.length = env.length := by have := h.len; simp at this; exact this
  have s := h.sl env.length c (by rw [List.getElem?_append_right (Nat.le_refl _), Nat.sub_self]; rfl)
  have e1 : slv (σ ++ [ov]) env.length = ov := by
    unfold slv
    rw [List.getElem?_append_right (by rw [hl]; exact Nat.le_refl _), hl, Nat.sub_self]
    rfl
  rw [e1] at s
  refine ⟨⟨h.zh, h.rh, h.zr, hl, fun j c' e => ?_, fun j a ha => ?_, updF_dj h.dj (fun j a q _ => nomatch q)⟩, s, fun a ha => ?_, fun j a h1 h2 => ?_⟩
  · have hj : j < env.length := (List.getElem?_eq_some_iff.mp e).1
    rw [updF_ne (Nat.ne_of_lt hj)]
    have q := h.sl j c' (by rw [List.getElem?_append_left hj]; exact e)
    have : slv (σ ++ [ov]) j = slv σ j := by unfold slv; rw [List.getElem?_append_left (by rw [hl]; exact hj)]
    rw [this] at q; exact q
  · by_cases hj : j = env.length
    · rw [hj, updF_same] at ha; cases ha
    · rw [updF_ne hj] at ha
      obtain ⟨q1, q2, q3⟩ := h.fz j a ha
      rw [List.length_append, List.length_singleton] at q3
      exact ⟨q1, q2, by omega⟩
  · obtain ⟨q1, q2, _⟩ := h.fz _ a ha
    exact ⟨q1, q2⟩
  · by_cases hj : j = env.length
    · rw [hj, updF_same] at h2; cases h2
    · rw [updF_ne hj] at h2
      exact hj (h.dj j _ a h2 h1)
/-- another heap, another settled part: the owned objects as they were -/
theorem HF.heap {Z' H' : Hp} (h : HF K G Z σ H env F) (s : Same Z Z') (zh : Same Z' H') (rh : Same G.R H') (zr : ∀ a o, G.R a = some o → Z' a = none)
    (k : ∀ i a, a ∈ F i → H' a = H a ∧ Z' a = none) : HF K G Z' σ H' env F :=
  ⟨zh, rh, zr, h.len, fun i c e => (h.sl i c e).mono s fun a ha => (k i a ha).1, fun i a ha => ⟨(k i a ha).2, (h.fz i a ha).2⟩, h.dj⟩
/-- the object of one slot changes -/
theorem HF.mut {H' : Hp} (h : HF K G Z σ H env F) (hi : i < env.length) (k : ∀ b, b ∉ F i → H' b = H b) (s : SlotOk K G Z H' (slv σ i) (F i) c) : HF K G Z σ H' (env.set i c) F := by
  refine ⟨fun b o e => ?_, fun b o e => ?_, h.zr, by simp [h.len], fun j c' e => ?_, fun j a ha => by rw [List.length_set]; exact h.fz j a ha, h.dj⟩
  · rw [k b fun z => by rw [(h.fz i b z).1] at e; cases e]; exact h.zh b o e
  · rw [k b fun z => by rw [(h.fz i b z).2.1] at e; cases e]; exact h.rh b o e
  · by_cases hj : j = i
    · subst hj
      rw [List.getElem?_set_self hi] at e
      cases e; exact s
    · rw [List.getElem?_set_ne (Ne.symm hj)] at e
      exact (h.sl j c' e).mono (Same.refl _) fun a ha => k a fun z => hj (h.dj j i a ha z)
/-- settle all that stands at Fc -/
def zfrz (Z H : Hp) (Fc : List Addr) : Hp := fun b => if b ∈ Fc then H b else Z b
theorem zfrz_same (n : ∀ a ∈ Fc, Z a = none) : Same Z (zfrz Z H Fc) := fun b o e => by
  unfold zfrz
  rw [if_neg fun z => by rw [n b z] at e; cases e]; exact e
theorem zfrz_at {a : Addr} (h : a ∈ Fc) : zfrz Z H Fc a = H a := by unfold zfrz; rw [if_pos h]
theorem zfrz_ne {a : Addr} (h : a ∉ Fc) : zfrz Z H Fc a = Z a := by unfold zfrz; rw [if_neg h]
theorem HF.freeze (h : HF K G Z σ H env F) (n : ∀ a ∈ Fc, Z a = none ∧ G.R a = none) (d : ∀ j a, a ∈ Fc → a ∉ F j) : HF K G (zfrz Z H Fc) σ H env F := by
  refine h.heap (zfrz_same fun a ha => (n a ha).1) (fun b o e => ?_) h.rh (fun a o e => ?_) fun i a ha => ⟨rfl, ?_⟩
  · by_cases hb : b ∈ Fc
    · rw [zfrz_at hb] at e; exact e
    · rw [zfrz_ne hb] at e; exact h.zh b o e
  · rw [zfrz_ne fun z => by rw [(n a z).2] at e; cases e]; exact h.zr a o e
  · rw [zfrz_ne fun z => d i a z ha]; exact (h.fz i a ha).1
end

/-- a root settled -/
theorem Root.rep {K : Fr0} {Z H : Hp} {a : Addr} {d : D} (s : Same Z H) (h : Root K Z H a d) : Rep K H (.ref a) d := by
  cases d with
  | lst xs => obtain ⟨vs, q, r⟩ := h; exact .lst q (r.mono s)
  | dK xs => obtain ⟨vs, q, k, r⟩ := h; exact .dK (.of q) k (r.mono s)
  | dT xs => obtain ⟨vs, q, k, r⟩ := h; exact .dT (.of q) k (r.mono s)
  | _ => exact h.elim
theorem Root.zrep {K : Fr0} {Z Z' H : Hp} {a : Addr} {d : D} (s : Same Z Z') (e : Z' a = H a) (h : Root K Z H a d) : Rep K Z' (.ref a) d := by
  have h' : Root K Z Z' a d := h.mono (Same.refl _) e
  cases d with
  | lst xs => obtain ⟨vs, q, r⟩ := h'; exact .lst q (r.mono s)
  | dK xs => obtain ⟨vs, q, k, r⟩ := h'; exact .dK (.of q) k (r.mono s)
  | dT xs => obtain ⟨vs, q, k, r⟩ := h'; exact .dT (.of q) k (r.mono s)
  | _ => exact h'.elim
theorem Roots.zreps {K : Fr0} {Z Z' H : Hp} (s : Same Z Z') : ∀ {as : List Addr} {ds : List D}, (∀ a ∈ as, Z' a = H a) → Roots K Z H as ds → Reps K Z' (as.map V.ref) ds
  | [], [], _, _ => .nil
  | [], _ :: _, _, h => h.elim
  | _ :: _, [], _, h => h.elim
  | a :: as, d :: ds, e, h => .cons (h.1.zrep s (e a List.mem_cons_self)) (Roots.zreps s (fun b hb => e b (List.mem_cons_of_mem _ hb)) h.2)
/-- what is there, and so; else nothing is let -/
def someK {α : Type} (o : Option α) (P : α → Prop) : Prop := match o with
  | some a => P a
  | none => False
theorem someK_i {α : Type} {o : Option α} {P : α → Prop} {a : α} (h : o = some a) (q : P a) : someK o P := by
  rw [h]; exact q
theorem someK.mono {α : Type} {o : Option α} {P P' : α → Prop} (hP : ∀ a, P a → P' a) (h : someK o P) : someK o P' := by
  cases o with
  | none => exact h
  | some a => exact hP a h
theorem someK.get {α : Type} {o : Option α} {P : α → Prop} (h : someK o P) : ∃ a, o = some a ∧ P a := by
  cases o with
  | none => exact h.elim
  | some a => exact ⟨a, rfl, h⟩
/-- a tower that makes what mentions it higher than someK: the unifier opens the higher first -/
def hi0 : Unit := ()
def hi1 : Unit := hi0
def hi2 : Unit := hi1
def hi3 : Unit := hi2
def hi4 : Unit := hi3
/-- a content as data -/
def C.toD : C → Option D
  | .un => none
  | .val d => some d
  | .own _ d => some d
  | .nest _ ds => some (.lst ds)
theorem SlotOk.zrep {K : Fr0} {G : Gh} {Z Z' H : Hp} {v : V} {F : List Addr} {c : C} {d : D} (s : Same Z Z') (e : ∀ a ∈ F, Z' a = H a) (h : SlotOk K G Z H (some v) F c) (hd : c.toD = some d) : Rep K Z' v d := by
  cases c with
  | un => cases hd
  | val d' => cases hd; obtain ⟨_, v', q, r⟩ := h; cases q; exact r.mono s
  | own t d' =>
    cases hd
    obtain ⟨a, q, f, p, r⟩ := h
    cases q; subst f
    exact r.zrep s (e a List.mem_cons_self)
  | nest t ds =>
    cases hd
    obtain ⟨a, as, q, f, p, r, rs, nd⟩ := h
    cases q; subst f
    exact .lst ((e a List.mem_cons_self).trans r) (rs.zreps s fun b hb => e b (List.mem_cons_of_mem _ hb))

/-- a value as it is handed on within an expression -/
inductive Tk where
  | val (d : D) | loc (i : Nat) | new (c : C)
def PostE (K : Fr0) (G : Gh) (Z : Hp) (σ : Sl) (H : Hp) (env : En) (v : V) : Tk → Prop
  | .val d => Holds K G Z σ H env ∧ Rep K Z v d
  | .loc i => Holds K G Z σ H env ∧ σ[i]? = some (some v)
  | .new c => Holds K G Z (σ ++ [some v]) H (env ++ [c])
/-- as data, now -/
def C.now : C → Option D
  | .val d => some d
  | .own _ d => some d
  | _ => none
def res (env : En) : Tk → Option D
  | .val d => some d
  | .loc i => (env[i]?).bind C.now
  | .new c => c.now
inductive Now (K : Fr0) (Z H : Hp) : V → D → Prop
  | st {v : V} {d : D} : Rep K Z v d → Now K Z H v d
  | ow {a : Addr} {d : D} : Root K Z H a d → Now K Z H (.ref a) d
section
variable {K : Fr0} {G : Gh} {Z : Hp} {σ : Sl} {H : Hp} {env : En} {v : V} {tk : Tk} {d : D}
theorem PostE.holds (p : PostE K G Z σ H env v tk) : Holds K G Z σ H env := by
  cases tk with
  | val d => exact p.1
  | loc i => exact p.1
  | new c => obtain ⟨F, h⟩ := p; exact ⟨_, h.pop.1⟩
theorem SlotOk.now {F : List Addr} {c : C} (h : SlotOk K G Z H (some v) F c) (e : c.now = some d) : Now K Z H v d := by
  cases c with
  | un => cases e
  | val d' => cases e; obtain ⟨_, v', q, r⟩ := h; cases q; exact .st r
  | own t d' =>
    cases e
    obtain ⟨a, q, f, p, r⟩ := h
    cases q
    exact .ow r
  | nest t ds => cases e
theorem PostE.now (p : PostE K G Z σ H env v tk) (e : res env tk = some d) : Now K Z H v d := by
  cases tk with
  | val d' => cases e; exact .st p.2
  | loc i =>
    obtain ⟨⟨F, h⟩, q⟩ := p
    cases ec : env[i]? with
    | none => simp [res, ec] at e
    | some c =>
      have e' : c.now = some d := by simpa [res, ec] using e
      have s := h.sl i c ec
      have : slv σ i = some v := by unfold slv; rw [q]; rfl
      rw [this] at s
      exact s.now e'
  | new c => obtain ⟨F, h⟩ := p; exact h.pop.2.1.now e
/-- another ghost with more of others' objects -/
structure Le (G G' : Gh) : Prop where
  pa : G'.pa = G.pa
  R : Same G.R G'.R
theorem Le.refl (G : Gh) : Le G G := ⟨rfl, Same.refl _⟩
theorem Le.trans {G G1 G2 : Gh} (a : Le G G1) (b : Le G1 G2) : Le G G2 := ⟨b.pa.trans a.pa, a.R.trans b.R⟩
theorem HF.less {G G' : Gh} {F : Nat → List Addr} (l : Le G G') (h : HF K G' Z σ H env F) : HF K G Z σ H env F :=
  ⟨h.zh, fun b o e => h.rh b o (l.R b o e), fun b o e => h.zr b o (l.R b o e), h.len, fun i c e => (h.sl i c e).pa l.pa.symm,
    fun i a ha => ⟨(h.fz i a ha).1, l.R.free (h.fz i a ha).2.1, (h.fz i a ha).2.2⟩, h.dj⟩
theorem Holds.less {G G' : Gh} (l : Le G G') (h : Holds K G' Z σ H env) : Holds K G Z σ H env := let ⟨F, h⟩ := h; ⟨F, h.less l⟩
/-- a temporary is kept through what comes behind -/
theorem keepNew {c : C} (p : Holds K G Z (σ ++ [some v]) H (env ++ [c])) : ∃ G', Le G G' ∧ Holds K G' Z σ H env ∧ ∀ Z' σ' H' env', Same Z Z' → Holds K G' Z' σ' H' env' → Holds K G Z' (σ' ++ [some v]) H' (env' ++ [c]) := by
  obtain ⟨F, h⟩ := p
  obtain ⟨h1, s1, n1, d1⟩ := h.pop
  have rR : ∀ b o, G.R b = some o → zfrz G.R H (F env.length) b = some o := fun b o e => by
    rw [zfrz_ne fun z => by rw [(n1 b z).2] at e; cases e]; exact e
  have le : Le G ⟨zfrz G.R H (F env.length), G.pa⟩ := ⟨rfl, rR⟩
  refine ⟨⟨zfrz G.R H (F env.length), G.pa⟩, le, ⟨_, h1.zh, fun b o e => ?_, fun b o e => ?_, h1.len, fun i c' e => (h1.sl i c' e).pa rfl, fun i a ha => ⟨(h1.fz i a ha).1, ?_, (h1.fz i a ha).2.2⟩, h1.dj⟩, fun Z' σ' H' env' s hh => ?_⟩
  · by_cases hb : b ∈ F env.length
    · exact (zfrz_at (Z := G.R) (H := H) hb).symm.trans e
    · exact h1.rh b o ((zfrz_ne (Z := G.R) (H := H) hb).symm.trans e)
  · by_cases hb : b ∈ F env.length
    · exact (n1 b hb).1
    · exact h1.zr b o ((zfrz_ne (Z := G.R) (H := H) hb).symm.trans e)
  · have q := h1.fz i a ha
    exact (zfrz_ne (Z := G.R) (H := H) fun z => d1 i a z ha).trans q.2.1
  · obtain ⟨F2, h2⟩ := hh
    have at' : ∀ a ∈ F env.length, H' a = H a := fun a ha => by
      obtain ⟨o, eo⟩ := s1.ex a ha
      rw [eo]
      exact h2.rh a o ((zfrz_at (Z := G.R) (H := H) ha).trans eo)
    have rn : ∀ a ∈ F env.length, Z' a = none ∧ ∀ j, a ∉ F2 j := fun a ha => by
      obtain ⟨o, eo⟩ := s1.ex a ha
      have q : zfrz G.R H (F env.length) a = some o := (zfrz_at ha).trans eo
      refine ⟨h2.zr a o q, fun j hj => ?_⟩
      have q' : zfrz G.R H (F env.length) a = none := (h2.fz j a hj).2.1
      rw [q] at q'
      cases q'
    exact ⟨_, (h2.less le).push (s1.mono s at') (fun a ha => ⟨(rn a ha).1, (n1 a ha).2⟩) fun j a ha => (rn a ha).2 j⟩
/-- a token is kept through what comes behind -/
theorem PostE.keep (p : PostE K G Z σ H env v tk) : ∃ G', Le G G' ∧ Holds K G' Z σ H env ∧ ∀ Z' σ' H' env', Same Z Z' → (∀ (i : Nat) x, σ[i]? = some x → σ'[i]? = some x) → Holds K G' Z' σ' H' env' → PostE K G Z' σ' H' env' v tk := by
  cases tk with
  | val d => exact ⟨G, .refl G, p.1, fun Z' σ' H' env' s _ h => ⟨h, p.2.mono s⟩⟩
  | loc i => exact ⟨G, .refl G, p.1, fun Z' σ' H' env' s q h => ⟨h, q _ _ p.2⟩⟩
  | new c =>
    obtain ⟨G', l, h, k⟩ := keepNew p
    exact ⟨G', l, h, fun Z' σ' H' env' s _ hh => k Z' σ' H' env' s hh⟩
end
end FL
namespace FL
open PySem PySem.Spec PyProof.Rows L2

/-- an exception: its class, what its own dict holds -/
structure Ex where
  cls : Addr
  fs : Option (List (Str × D))
def ExOk (K : Fr0) (Z : Hp) (x : Ex) (cls : Value) (od : Option Addr) : Prop :=
  cls = .ref x.cls ∧ match x.fs with
    | none => od = none
    | some fs => ∃ (d : Addr) (vs : List (Str × V)), od = some d ∧ Z d = some (.xd vs) ∧ vs.map (·.1) = fs.map (·.1) ∧ Reps K Z (vs.map (·.2)) (fs.map (·.2))
abbrev XC := Ex → En → Prop
abbrev WE := En → (Tk → En → Prop) → XC → Prop
abbrev WT := En → (Bool → En → Prop) → XC → Prop
abbrev WA := En → (List Tk → En → Prop) → XC → Prop
structure KS where
  nx : En → Prop
  rt : Tk → En → Prop
  bk : En → Prop
  ct : En → Prop
  xr : XC
abbrev WS := En → KS → Prop

def xrOf (K : Fr0) (G : Gh) (Z : Hp) (Er : XK) : XC := fun x e => ∀ Z' σ' H' cls od, Same Z Z' → Holds K G Z' σ' H' e → ExOk K Z' x cls od → Er cls od H'
theorem xrOf.imp {K : Fr0} {G G' : Gh} {Z Z' : Hp} {Er : XK} (l : Le G G') (s : Same Z Z') : ∀ x e, xrOf K G Z Er x e → xrOf K G' Z' Er x e :=
  fun x e h Z2 σ2 H2 cls od s2 h2 q => h Z2 σ2 H2 cls od (s.trans s2) (h2.less l) q
def TEw (K : Fr0) (Er : XK) (w : WE) : TE := fun σ H Q => ∃ G Z env, Holds K G Z σ H env ∧ w env (fun tk e => ∀ Z' H' v, Same Z Z' → PostE K G Z' σ H' e v tk → Q v H') (xrOf K G Z Er)
def TTw (K : Fr0) (Er : XK) (w : WT) : TT := fun σ H Q => ∃ G Z env, Holds K G Z σ H env ∧ w env (fun b e => ∀ Z' H', Same Z Z' → Holds K G Z' σ H' e → Q b H') (xrOf K G Z Er)
/-- the temporaries among the arguments -/
def tmpV : List V → List Tk → Sl
  | v :: vs, .new _ :: tks => tmpV vs tks ++ [some v]
  | _ :: vs, _ :: tks => tmpV vs tks
  | _, _ => []
def tmpC : List Tk → En
  | .new c :: tks => tmpC tks ++ [c]
  | _ :: tks => tmpC tks
  | [] => []
def TksOk (K : Fr0) (Z : Hp) (σ : Sl) : List V → List Tk → Prop
  | [], [] => True
  | v :: vs, .val d :: tks => Rep K Z v d ∧ TksOk K Z σ vs tks
  | v :: vs, .loc i :: tks => σ[i]? = some (some v) ∧ TksOk K Z σ vs tks
  | _ :: vs, .new _ :: tks => TksOk K Z σ vs tks
  | _, _ => False
def PostA (K : Fr0) (G : Gh) (Z : Hp) (σ : Sl) (H : Hp) (env : En) (vs : List V) (tks : List Tk) : Prop :=
  Holds K G Z (σ ++ tmpV vs tks) H (env ++ tmpC tks) ∧ TksOk K Z σ vs tks
def TAw (K : Fr0) (Er : XK) (w : WA) : TA := fun σ H Q => ∃ G Z env, Holds K G Z σ H env ∧ w env (fun tks e => ∀ Z' H' vs, Same Z Z' → PostA K G Z' σ H' e vs tks → Q vs H') (xrOf K G Z Er)
def ksOf (K : Fr0) (G : Gh) (Z : Hp) (Er : XK) (D : Ends) : KS where
  nx := fun e => ∀ Z' σ' H', Same Z Z' → Holds K G Z' σ' H' e → D.nx σ' H'
  rt := fun tk e => ∀ Z' σ' H' v, Same Z Z' → PostE K G Z' σ' H' e v tk → D.rt v H'
  bk := fun e => ∀ Z' σ' H', Same Z Z' → Holds K G Z' σ' H' e → D.bk σ' H'
  ct := fun e => ∀ Z' σ' H', Same Z Z' → Holds K G Z' σ' H' e → D.ct σ' H'
  xr := xrOf K G Z Er
def TSw (K : Fr0) (Er : XK) (w : WS) : TS := fun D σ H => ∃ G Z env, Holds K G Z σ H env ∧ w env (ksOf K G Z Er D)

def MonoE {α : Type} (w : En → (α → En → Prop) → XC → Prop) : Prop :=
  ∀ env Q Q' x x', (∀ t e, Q t e → Q' t e) → (∀ a e, x a e → x' a e) → w env Q x → w env Q' x'
structure KS.Imp (k k' : KS) : Prop where
  nx : ∀ e, k.nx e → k'.nx e
  rt : ∀ t e, k.rt t e → k'.rt t e
  bk : ∀ e, k.bk e → k'.bk e
  ct : ∀ e, k.ct e → k'.ct e
  xr : ∀ a e, k.xr a e → k'.xr a e
theorem KS.Imp.refl (k : KS) : k.Imp k := ⟨fun _ h => h, fun _ _ h => h, fun _ h => h, fun _ h => h, fun _ _ h => h⟩
def MonoS (w : WS) : Prop := ∀ env k k', KS.Imp k k' → w env k → w env k'

structure EJ (X : Cx) (Er : XK) (e : Expr) (w : WE) : Prop where
  pe : PE X e (TEw X.K Er w)
  mono : MonoE w
structure TJ (X : Cx) (Er : XK) (e : Expr) (w : WT) : Prop where
  pt : PT X e (TTw X.K Er w)
  mono : MonoE w
structure WJ (X : Cx) (Er : XK) (e : Expr) (w : WT) : Prop where
  pw : PW X e (TTw X.K Er w)
  mono : MonoE w
structure AJ (X : Cx) (Er : XK) (es : List Expr) (w : WA) : Prop where
  pa : PA X es (TAw X.K Er w)
  mono : MonoE w
structure SJ (X : Cx) (Er : XK) (st : Stmt) (w : WS) : Prop where
  ps : PS X st (TSw X.K Er w)
  mono : MonoS w
structure BJ (X : Cx) (Er : XK) (sts : List Stmt) (w : WS) : Prop where
  ps : PSs X sts (TSw X.K Er w)
  mono : MonoS w

section
variable {X : Cx} {e : Expr}
theorem pe_imp {t t' : TE} (h : PE X e t) (i : ∀ σ H Q, t' σ H Q → t σ H Q) : PE X e t' := ⟨fun pins s σ H Q I q => h.run pins s σ H Q I (i σ H Q q)⟩
theorem pt_imp {t t' : TT} (h : PT X e t) (i : ∀ σ H Q, t' σ H Q → t σ H Q) : PT X e t' := ⟨fun pins s σ H Q I q => h.run pins s σ H Q I (i σ H Q q)⟩
theorem pw_imp {t t' : TT} (h : PW X e t) (i : ∀ σ H Q, t' σ H Q → t σ H Q) : PW X e t' := ⟨fun wh pins s σ H Q I q => h.run wh pins s σ H Q I (i σ H Q q)⟩
theorem pa_imp {es : List Expr} {t t' : TA} (h : PA X es t) (i : ∀ σ H Q, t' σ H Q → t σ H Q) : PA X es t' := ⟨fun pos pins s σ H Q I q => h.run pos pins s σ H Q I (i σ H Q q)⟩
theorem ps_imp {st : Stmt} {t t' : TS} (h : PS X st t) (i : ∀ D σ H, t' D σ H → t D σ H) : PS X st t' := ⟨fun pins s σ H D I q => h.run pins s σ H D I (i D σ H q)⟩
theorem pss_imp {st : List Stmt} {t t' : TS} (h : PSs X st t) (i : ∀ D σ H, t' D σ H → t D σ H) : PSs X st t' := ⟨fun pins s σ H D I q => h.run pins s σ H D I (i D σ H q)⟩
theorem pi_imp {tg : Expr} {t t' : TI} (h : PI X tg e t) (i : ∀ σ H Q, t' σ H Q → t σ H Q) : PI X tg e t' := ⟨fun pins s σ H Q I q => h.run pins s σ H Q I (i σ H Q q)⟩
theorem pg_imp {t t' : TG} (h : PG X e t) (i : ∀ v σ H Q, t' v σ H Q → t v σ H Q) : PG X e t' := ⟨fun pins s σ H v u Q I r q => h.run pins s σ H v u Q I r (i v σ H Q q)⟩
end

section
variable {X : Cx} {Er : XK} {pos : Pos}
/-! ### names, constants -/
def wNm (i : Nat) : WE := fun env Q _ => (fun (_ : Unit) => match env[i]? with
  | some (.val d) => Q (.val d) env
  | some (.own _ _) => Q (.loc i) env
  | some (.nest _ _) => Q (.loc i) env
  | _ => False) hi4
theorem e_nm (i : Nat) {x : Str} (h : PE X (.Name x pos) (tVar i)) : EJ X Er (.Name x pos) (wNm i) := by
  refine ⟨pe_imp h fun σ H Q q => ?_, fun env Q Q' x x' hQ hx h => ?_⟩
  · obtain ⟨G, Z, env, hh, q⟩ := q
    unfold wNm at q
    obtain ⟨F, hf⟩ := hh
    cases e : env[i]? with
    | none => rw [e] at q; exact q.elim
    | some c =>
      rw [e] at q
      have s := hf.sl i c e
      cases c with
      | un => exact q.elim
      | val d =>
        obtain ⟨_, v, ev, r⟩ := s
        exact ⟨v, slv_some ev, q Z H v (Same.refl _) ⟨⟨F, hf⟩, r⟩⟩
      | own t d =>
        obtain ⟨a, ev, _⟩ := s
        exact ⟨.ref a, slv_some ev, q Z H _ (Same.refl _) ⟨⟨F, hf⟩, slv_some ev⟩⟩
      | nest t ds =>
        obtain ⟨a, as, ev, _⟩ := s
        exact ⟨.ref a, slv_some ev, q Z H _ (Same.refl _) ⟨⟨F, hf⟩, slv_some ev⟩⟩
  · unfold wNm at h ⊢
    split at h <;> first | exact hQ _ _ h | exact h.elim
def wC (d : D) : WE := fun env Q _ => (fun (_ : Unit) => Q (.val d) env) hi4
theorem e_c {d : D} {v : V} (h : PE X e (tC v)) (r : ∀ K Z, Rep K Z v d) : EJ X Er e (wC d) := by
  refine ⟨pe_imp h fun σ H Q q => ?_, fun env Q Q' x x' hQ hx h => hQ _ _ h⟩
  obtain ⟨G, Z, env, hh, q⟩ := q
  exact q Z H v (Same.refl _) ⟨hh, r _ _⟩
theorem e_int {i j} : EJ X Er (.Constant (.int i) j pos) (wC (.int i)) := e_c pe_int fun _ _ => .int i
theorem e_bl {i j} : EJ X Er (.Constant (.bool i) j pos) (wC (.bl i)) := e_c pe_bl fun _ _ => .bl i
theorem e_str {i j} : EJ X Er (.Constant (.str i) j pos) (wC (.str i)) := e_c pe_str fun _ _ => .str i
theorem e_non {j} : EJ X Er (.Constant .none j pos) (wC .non) := e_c pe_non fun _ _ => .non

/-! ### two operands -/
abbrev OpF := D → D → (Tk → Prop) → Prop
structure OpS (K : Fr0) (r : R2) (f : OpF) : Prop where
  mono : ∀ d1 d2 (Q Q' : Tk → Prop), (∀ t, Q t → Q' t) → f d1 d2 Q → f d1 d2 Q'
  run : ∀ G Z σ H env v1 v2 d1 d2 Q, Holds K G Z σ H env → Now K Z H v1 d1 → Now K Z H v2 d2 → f d1 d2 (fun tk => ∀ Z' H' v, Same Z Z' → PostE K G Z' σ H' env v tk → Q v H') → r v1 v2 H Q
def opK (f : OpF) (e : En) (t1 t2 : Tk) (Q : Tk → Prop) : Prop := match res e t1, res e t2 with
  | some d1, some d2 => f d1 d2 Q
  | _, _ => False
def wOp (f : OpF) (wa wb : WE) : WE := fun env Q x => (fun (_ : Unit) => wa env (fun t1 e1 => wb e1 (fun t2 e2 => opK f e2 t1 t2 fun tk => Q tk e2) x) x) hi4
theorem opK.mono {f : OpF} (hf : ∀ d1 d2 (Q Q' : Tk → Prop), (∀ t, Q t → Q' t) → f d1 d2 Q → f d1 d2 Q') {e : En} {t1 t2 : Tk} {Q Q' : Tk → Prop} (hQ : ∀ t, Q t → Q' t) (h : opK f e t1 t2 Q) : opK f e t1 t2 Q' := by
  unfold opK at h ⊢
  split at h
  · exact hf _ _ _ _ hQ h
  · exact h.elim
theorem wOp.mono {f : OpF} {wa wb : WE} (hf : ∀ d1 d2 (Q Q' : Tk → Prop), (∀ t, Q t → Q' t) → f d1 d2 Q → f d1 d2 Q') (ha : MonoE wa) (hb : MonoE wb) : MonoE (wOp f wa wb) :=
  fun env Q Q' x x' hQ hx h => ha _ _ _ _ _ (fun t1 e1 h1 => hb _ _ _ _ _ (fun t2 e2 h2 => opK.mono hf (fun t => hQ t e2) h2) hx h1) hx h
theorem op_read {r : R2} {f : OpF} {wa wb : WE} (hs : OpS X.K r f) (ha : MonoE wa) (hb : MonoE wb) {σ : Sl} {H : Hp} {Q : VK} (h : TEw X.K Er (wOp f wa wb) σ H Q) : tOp r (TEw X.K Er wa) (TEw X.K Er wb) σ H Q := by
  obtain ⟨G, Z, env, hh, h⟩ := h
  refine ⟨G, Z, env, hh, ha _ _ _ _ _ (fun t1 e1 h1 Z1 H1 v1 s1 p1 => ?_) (fun _ _ q => q) h⟩
  obtain ⟨G1, l1, hg1, k1⟩ := p1.keep
  refine ⟨G1, Z1, e1, hg1, hb _ _ _ _ _ (fun t2 e2 h2 Z2 H2 v2 s2 p2 => ?_) (xrOf.imp l1 s1) h1⟩
  have p1' := k1 Z2 σ H2 e2 s2 (fun _ _ q => q) p2.holds
  unfold opK at h2
  split at h2
  · rename_i d1 d2 r1 r2
    exact hs.run G Z2 σ H2 e2 v1 v2 d1 d2 Q p1'.holds (p1'.now r1) (p2.now r2) (hs.mono _ _ _ _ (fun tk q Z' H' v s' p' => q Z' H' v ((s1.trans s2).trans s') p') h2)
  · exact h2.elim
variable {a b : Expr} {wa wb : WE} {r : R2} {f : OpF}
theorem e_op {op : Operator} (ho : OpR X (binaryOp op) r) (hs : OpS X.K r f) (ha : EJ X Er a wa) (hb : EJ X Er b wb) : EJ X Er (.BinOp a op b pos) (wOp f wa wb) :=
  ⟨pe_imp (pe_op ho ha.pe hb.pe) fun _ _ _ h => op_read hs ha.mono hb.mono h, wOp.mono hs.mono ha.mono hb.mono⟩
theorem e_cmp {op : CmpOp} (ho : OpR X (compareOp op) r) (hs : OpS X.K r f) (ha : EJ X Er a wa) (hb : EJ X Er b wb) (hm : behindInMarks op b = false) : EJ X Er (.Compare a [op] [b] pos) (wOp f wa wb) :=
  ⟨pe_imp (pe_cmpR ho ha.pe hb.pe hm) fun _ _ _ h => op_read hs ha.mono hb.mono h, wOp.mono hs.mono ha.mono hb.mono⟩
theorem e_ix (ho : IxR X r) (hs : OpS X.K r f) (ha : EJ X Er a wa) (hb : EJ X Er b wb) (hp : PlainIx b) : EJ X Er (.Subscript a b pos) (wOp f wa wb) :=
  ⟨pe_imp (pe_ix ho ha.pe hb.pe hp) fun _ _ _ h => op_read hs ha.mono hb.mono h, wOp.mono hs.mono ha.mono hb.mono⟩

/-! ### a test by its value -/
def bK (e : En) (t : Tk) (Q : Bool → Prop) : Prop := match res e t with
  | some (.bl b) => Q b
  | _ => False
def wB (w : WE) : WT := fun env Q x => (fun (_ : Unit) => w env (fun t e => bK e t fun b => Q b e) x) hi4
theorem wB.mono {w : WE} (h : MonoE w) : MonoE (wB w) := fun env Q Q' x x' hQ hx q => h _ _ _ _ _ (fun t e h2 => by
  unfold bK at h2 ⊢
  split at h2
  · exact hQ _ _ h2
  · exact h2.elim) hx q
theorem b_read {w : WE} (hw : MonoE w) {σ : Sl} {H : Hp} {Q : Bool → Hp → Prop} (h : TTw X.K Er (wB w) σ H Q) : TEw X.K Er w σ H fun x H' => ∃ k, x = .bl k ∧ Q k H' := by
  obtain ⟨G, Z, env, hh, h⟩ := h
  refine ⟨G, Z, env, hh, hw _ _ _ _ _ (fun t e h1 Z1 H1 v s1 p1 => ?_) (fun _ _ q => q) h⟩
  unfold bK at h1
  split at h1
  · rename_i b rb
    have n := p1.now rb
    cases n with
    | st q => cases q; exact ⟨b, rfl, h1 Z1 H1 s1 p1.holds⟩
    | ow q => exact q.elim
  · exact h1.elim
theorem t_cmp {op : CmpOp} (ho : OpR X (compareOp op) r) (hs : OpS X.K r f) (ha : EJ X Er a wa) (hb : EJ X Er b wb) (hm : behindInMarks op b = false) : TJ X Er (.Compare a [op] [b] pos) (wB (wOp f wa wb)) :=
  ⟨pt_imp (pt_cmpR ho ha.pe hb.pe hm) fun _ _ _ h => op_read hs ha.mono hb.mono (b_read (wOp.mono hs.mono ha.mono hb.mono) h), wB.mono (wOp.mono hs.mono ha.mono hb.mono)⟩
theorem t_val (ha : EJ X Er a wa) (he : ∀ whole, isTrue a X.env whole = (do let v ← whole; standAt a.pos; holding [v] (truthy v)) := by intro _; rfl) : TJ X Er a (wB wa) :=
  ⟨pt_imp (pt_val ha.pe he) fun _ _ _ h => b_read ha.mono h, wB.mono ha.mono⟩
variable {ta tb : WT} {rest : List Expr}
def wAnd (ta tb : WT) : WT := fun env Q x => (fun (_ : Unit) => ta env (fun c e => if c = true then tb e Q x else Q false e) x) hi4
def wOr (ta tb : WT) : WT := fun env Q x => (fun (_ : Unit) => ta env (fun c e => if c = true then Q true e else tb e Q x) x) hi4
def wNot (ta : WT) : WT := fun env Q x => (fun (_ : Unit) => ta env (fun c e => Q (!c) e) x) hi4
theorem wAnd.mono (ha : MonoE ta) (hb : MonoE tb) : MonoE (wAnd ta tb) := fun env Q Q' x x' hQ hx h => ha _ _ _ _ _ (fun c e h1 => by
  cases c with
  | true => exact hb _ _ _ _ _ hQ hx h1
  | false => exact hQ _ _ h1) hx h
theorem wOr.mono (ha : MonoE ta) (hb : MonoE tb) : MonoE (wOr ta tb) := fun env Q Q' x x' hQ hx h => ha _ _ _ _ _ (fun c e h1 => by
  cases c with
  | true => exact hQ _ _ h1
  | false => exact hb _ _ _ _ _ hQ hx h1) hx h
theorem WJ.t (h : WJ X Er a ta) : TJ X Er a ta := ⟨h.pw.pt, h.mono⟩
theorem w_and1 (ha : TJ X Er a ta) : WJ X Er (.BoolOp .And [a] pos) ta := ⟨pw_and1 ha.pt, ha.mono⟩
theorem w_or1 (ha : TJ X Er a ta) : WJ X Er (.BoolOp .Or [a] pos) ta := ⟨pw_or1 ha.pt, ha.mono⟩
theorem w_and (ha : TJ X Er a ta) (hb : WJ X Er (.BoolOp .And (b :: rest) pos) tb) : WJ X Er (.BoolOp .And (a :: b :: rest) pos) (wAnd ta tb) :=
  ⟨pw_imp (pw_and ha.pt hb.pw) fun σ H Q h => by
    obtain ⟨G, Z, env, hh, h⟩ := h
    refine ⟨G, Z, env, hh, ha.mono _ _ _ _ _ (fun c e h1 Z1 H1 s1 p1 => ?_) (fun _ _ q => q) h⟩
    cases c with
    | true => exact ⟨G, Z1, e, p1, hb.mono _ _ _ _ _ (fun b e' q Z' H' s' p' => q Z' H' (s1.trans s') p') (xrOf.imp (.refl G) s1) h1⟩
    | false => exact h1 Z1 H1 s1 p1, wAnd.mono ha.mono hb.mono⟩
theorem w_or (ha : TJ X Er a ta) (hb : WJ X Er (.BoolOp .Or (b :: rest) pos) tb) : WJ X Er (.BoolOp .Or (a :: b :: rest) pos) (wOr ta tb) :=
  ⟨pw_imp (pw_or ha.pt hb.pw) fun σ H Q h => by
    obtain ⟨G, Z, env, hh, h⟩ := h
    refine ⟨G, Z, env, hh, ha.mono _ _ _ _ _ (fun c e h1 Z1 H1 s1 p1 => ?_) (fun _ _ q => q) h⟩
    cases c with
    | true => exact h1 Z1 H1 s1 p1
    | false => exact ⟨G, Z1, e, p1, hb.mono _ _ _ _ _ (fun b e' q Z' H' s' p' => q Z' H' (s1.trans s') p') (xrOf.imp (.refl G) s1) h1⟩, wOr.mono ha.mono hb.mono⟩
theorem t_not (ha : TJ X Er a ta) : TJ X Er (.UnaryOp .Not a pos) (wNot ta) :=
  ⟨pt_imp (pt_not ha.pt) fun σ H Q h => by
    obtain ⟨G, Z, env, hh, h⟩ := h
    exact ⟨G, Z, env, hh, h⟩, fun env Q Q' x x' hQ hx h => ha.mono _ _ _ _ _ (fun c e h1 => hQ _ _ h1) hx h⟩
/-! ### and, or, not as values -/
def wAndV (wa wb : WE) : WE := fun env Q x => (fun (_ : Unit) => wa env (fun t e => bK e t fun c => if c = true then wb e Q x else Q (.val (.bl false)) e) x) hi4
def wOrV (wa wb : WE) : WE := fun env Q x => (fun (_ : Unit) => wa env (fun t e => bK e t fun c => if c = true then Q (.val (.bl true)) e else wb e Q x) x) hi4
def wNotV (wa : WE) : WE := fun env Q x => (fun (_ : Unit) => wa env (fun t e => bK e t fun c => Q (.val (.bl (!c))) e) x) hi4
theorem bK.mono {e : En} {t : Tk} {Q Q' : Bool → Prop} (hQ : ∀ b, Q b → Q' b) (h : bK e t Q) : bK e t Q' := by
  unfold bK at h ⊢
  split at h
  · exact hQ _ h
  · exact h.elim
theorem bK.get {K : Fr0} {G : Gh} {Z : Hp} {σ : Sl} {H : Hp} {e : En} {v : V} {t : Tk} {Q : Bool → Prop} (p : PostE K G Z σ H e v t) (h : bK e t Q) : ∃ b, v = .bl b ∧ Q b := by
  unfold bK at h
  split at h
  · rename_i b rb
    have n := p.now rb
    cases n with
    | st q => cases q; exact ⟨b, rfl, h⟩
    | ow q => exact q.elim
  · exact h.elim
theorem e_one {op} (ha : EJ X Er a wa) : EJ X Er (.BoolOp op [a] pos) wa := ⟨pe_one ha.pe, ha.mono⟩
theorem e_and (ha : EJ X Er a wa) (hb : EJ X Er (.BoolOp .And (b :: rest) pos) wb) : EJ X Er (.BoolOp .And (a :: b :: rest) pos) (wAndV wa wb) :=
  ⟨pe_imp (pe_and ha.pe hb.pe) fun σ H Q h => by
    obtain ⟨G, Z, env, hh, h⟩ := h
    refine ⟨G, Z, env, hh, ha.mono _ _ _ _ _ (fun t e h1 Z1 H1 v s1 p1 => ?_) (fun _ _ q => q) h⟩
    obtain ⟨c, ev, h1⟩ := bK.get p1 h1
    refine ⟨c, ev, ?_⟩
    cases c with
    | true => exact ⟨G, Z1, e, p1.holds, hb.mono _ _ _ _ _ (fun b e' q Z' H' v s' p' => q Z' H' v (s1.trans s') p') (xrOf.imp (.refl G) s1) h1⟩
    | false => exact h1 Z1 H1 _ s1 ⟨p1.holds, .bl false⟩,
   fun env Q Q' x x' hQ hx h => ha.mono _ _ _ _ _ (fun t e h1 => bK.mono (fun c h2 => by
    cases c with
    | true => exact hb.mono _ _ _ _ _ hQ hx h2
    | false => exact hQ _ _ h2) h1) hx h⟩
theorem e_or (ha : EJ X Er a wa) (hb : EJ X Er (.BoolOp .Or (b :: rest) pos) wb) : EJ X Er (.BoolOp .Or (a :: b :: rest) pos) (wOrV wa wb) :=
  ⟨pe_imp (pe_or ha.pe hb.pe) fun σ H Q h => by
    obtain ⟨G, Z, env, hh, h⟩ := h
    refine ⟨G, Z, env, hh, ha.mono _ _ _ _ _ (fun t e h1 Z1 H1 v s1 p1 => ?_) (fun _ _ q => q) h⟩
    obtain ⟨c, ev, h1⟩ := bK.get p1 h1
    refine ⟨c, ev, ?_⟩
    cases c with
    | true => exact h1 Z1 H1 _ s1 ⟨p1.holds, .bl true⟩
    | false => exact ⟨G, Z1, e, p1.holds, hb.mono _ _ _ _ _ (fun b e' q Z' H' v s' p' => q Z' H' v (s1.trans s') p') (xrOf.imp (.refl G) s1) h1⟩,
   fun env Q Q' x x' hQ hx h => ha.mono _ _ _ _ _ (fun t e h1 => bK.mono (fun c h2 => by
    cases c with
    | true => exact hQ _ _ h2
    | false => exact hb.mono _ _ _ _ _ hQ hx h2) h1) hx h⟩
theorem e_not (ha : EJ X Er a wa) : EJ X Er (.UnaryOp .Not a pos) (wNotV wa) :=
  ⟨pe_imp (pe_not ha.pe) fun σ H Q h => by
    obtain ⟨G, Z, env, hh, h⟩ := h
    refine ⟨G, Z, env, hh, ha.mono _ _ _ _ _ (fun t e h1 Z1 H1 v s1 p1 => ?_) (fun _ _ q => q) h⟩
    obtain ⟨c, ev, h1⟩ := bK.get p1 h1
    exact ⟨c, ev, h1 Z1 H1 _ s1 ⟨p1.holds, .bl _⟩⟩,
   fun env Q Q' x x' hQ hx h => ha.mono _ _ _ _ _ (fun t e h1 => bK.mono (fun c h2 => hQ _ _ h2) h1) hx h⟩
/-- a if t else b -/
def wIf (t : WT) (wa wb : WE) : WE := fun env Q x => (fun (_ : Unit) => t env (fun c e => if c = true then wa e Q x else wb e Q x) x) hi4
theorem e_ifx {c : Expr} (hc : TJ X Er c ta) (ha : EJ X Er a wa) (hb : EJ X Er b wb) : EJ X Er (.IfExp c a b pos) (wIf ta wa wb) :=
  ⟨pe_imp (pe_ifExp hc.pt ha.pe hb.pe) fun σ H Q h => by
    obtain ⟨G, Z, env, hh, h⟩ := h
    refine ⟨G, Z, env, hh, hc.mono _ _ _ _ _ (fun c e h1 Z1 H1 s1 p1 => ?_) (fun _ _ q => q) h⟩
    cases c with
    | true => exact ⟨G, Z1, e, p1, ha.mono _ _ _ _ _ (fun b e' q Z' H' v s' p' => q Z' H' v (s1.trans s') p') (xrOf.imp (.refl G) s1) h1⟩
    | false => exact ⟨G, Z1, e, p1, hb.mono _ _ _ _ _ (fun b e' q Z' H' v s' p' => q Z' H' v (s1.trans s') p') (xrOf.imp (.refl G) s1) h1⟩,
   fun env Q Q' x x' hQ hx h => hc.mono _ _ _ _ _ (fun c e h1 => by
    cases c with
    | true => exact ha.mono _ _ _ _ _ hQ hx h1
    | false => exact hb.mono _ _ _ _ _ hQ hx h1) hx h⟩

/-! ### settled -/
def frK (Q : Tk → En → Prop) (e : En) : Tk → Prop
  | .val d => Q (.val d) e
  | .loc i => match e[i]? with
    | some (.own none d) => Q (.val d) (e.set i (.val d))
    | some (.nest none ds) => Q (.val (.lst ds)) (e.set i (.val (.lst ds)))
    | some (.val d) => Q (.val d) e
    | _ => False
  | .new c => match c.toD with
    | some d => Q (.val d) e
    | none => False
def wFr (w : WE) : WE := fun env Q x => (fun (_ : Unit) => w env (fun t e => frK Q e t) x) hi4
theorem frK.mono {Q Q' : Tk → En → Prop} {e : En} {t : Tk} (hQ : ∀ t e, Q t e → Q' t e) (h : frK Q e t) : frK Q' e t := by
  cases t with
  | val d => exact hQ _ _ h
  | loc i => unfold frK at h ⊢; dsimp only at h ⊢; split at h <;> first | exact hQ _ _ h | exact h.elim
  | new c => unfold frK at h ⊢; dsimp only at h ⊢; split at h <;> first | exact hQ _ _ h | exact h.elim
theorem wFr.mono {w : WE} (hw : MonoE w) : MonoE (wFr w) := fun env Q Q' x x' hQ hx h => hw _ _ _ _ _ (fun t e h1 => frK.mono hQ h1) hx h
/-- an owned slot settled -/
theorem HF.frSlot {K : Fr0} {G : Gh} {Z : Hp} {σ : Sl} {H : Hp} {env : En} {F : Nat → List Addr} {i : Nat} {c : C} {d : D} {v : V} (h : HF K G Z σ H env F) (e : env[i]? = some c) (hv : σ[i]? = some (some v)) (hd : c.toD = some d) :
    ∃ Z', Same Z Z' ∧ Holds K G Z' σ H (env.set i (.val d)) ∧ Rep K Z' v d := by
  have hi : i < env.length := (List.getElem?_eq_some_iff.mp e).1
  have s := h.sl i c e
  have ev : slv σ i = some v := by unfold slv; rw [hv]; rfl
  rw [ev] at s
  have n : ∀ a ∈ F i, Z a = none ∧ G.R a = none := fun a ha => ⟨(h.fz i a ha).1, (h.fz i a ha).2.1⟩
  have sm : Same Z (zfrz Z H (F i)) := zfrz_same fun a ha => (n a ha).1
  have rp : Rep K (zfrz Z H (F i)) v d := s.zrep sm (fun a ha => zfrz_at ha) hd
  have h1 : HF K G Z (σ.set i (some v)) H (env.set i .un) (updF F i []) := h.settle hi rfl
  have h2 := h1.freeze (Fc := F i) n fun j a ha hj => by
    by_cases q : j = i
    · rw [q, updF_same] at hj; cases hj
    · rw [updF_ne q] at hj; exact q (h.dj j i a hj ha)
  have hi2 : i < (env.set i C.un).length := by rw [List.length_set]; exact hi
  have h3 := h2.settle (ov := some v) (c := .val d) hi2 ⟨rfl, v, rfl, rp⟩
  have eσ : (σ.set i (some v)).set i (some v) = σ := by
    rw [List.set_set]
    exact List.ext_getElem? fun j => by
      by_cases q : j = i
      · subst q; rw [List.getElem?_set_self (List.getElem?_eq_some_iff.mp hv).1, hv]
      · rw [List.getElem?_set_ne (Ne.symm q)]
  rw [eσ, List.set_set] at h3
  exact ⟨_, sm, ⟨_, h3⟩, rp⟩
theorem PostE.fr {K : Fr0} {G : Gh} {Z : Hp} {σ : Sl} {H : Hp} {e : En} {v : V} {t : Tk} {Q : Tk → En → Prop} (p : PostE K G Z σ H e v t) (h : frK Q e t) : ∃ d e' Z', Same Z Z' ∧ Q (.val d) e' ∧ Holds K G Z' σ H e' ∧ Rep K Z' v d := by
  cases t with
  | val d => exact ⟨d, e, Z, .refl _, h, p.1, p.2⟩
  | loc i =>
    obtain ⟨⟨F, hf⟩, hv⟩ := p
    unfold frK at h
    dsimp only at h
    split at h
    · rename_i d ec
      obtain ⟨Z', s, h', r⟩ := hf.frSlot ec hv rfl
      exact ⟨d, _, Z', s, h, h', r⟩
    · rename_i ds ec
      obtain ⟨Z', s, h', r⟩ := hf.frSlot ec hv rfl
      exact ⟨_, _, Z', s, h, h', r⟩
    · rename_i d ec
      have q := hf.sl i _ ec
      obtain ⟨_, v', ev, r⟩ := q
      have := slv_some ev
      rw [hv] at this
      cases this
      exact ⟨d, e, Z, .refl _, h, ⟨F, hf⟩, r⟩
    · exact h.elim
  | new c =>
    obtain ⟨F, hf⟩ := p
    unfold frK at h
    dsimp only at h
    split at h
    · rename_i d hd
      obtain ⟨h1, s1, n1, d1⟩ := hf.pop
      have sm : Same Z (zfrz Z H (F e.length)) := zfrz_same fun a ha => (n1 a ha).1
      exact ⟨d, e, _, sm, h, ⟨_, h1.freeze n1 d1⟩, s1.zrep sm (fun a ha => zfrz_at ha) hd⟩
    · exact h.elim
theorem e_fr (ha : EJ X Er a wa) : EJ X Er a (wFr wa) :=
  ⟨pe_imp ha.pe fun σ H Q h => by
    obtain ⟨G, Z, env, hh, h⟩ := h
    refine ⟨G, Z, env, hh, ha.mono _ _ _ _ _ (fun t e h1 Z1 H1 v s1 p1 => ?_) (fun _ _ q => q) h⟩
    obtain ⟨d, e', Z', s', q, hh', rp⟩ := p1.fr h1
    exact q Z' H1 v (s1.trans s') ⟨hh', rp⟩, wFr.mono ha.mono⟩
end
end FL
namespace FL
open PySem PySem.Spec PyProof.Rows L2

theorem MonoS.app {w : WS} (m : MonoS w) {env : En} {k k' : KS} (h : w env k) (i : KS.Imp k k') : w env k' := m env k k' i h
section
variable {K : Fr0} {G : Gh} {Z : Hp} {σ : Sl} {H : Hp} {env : En} {v : V} {d : D} {i : Nat}
theorem set_out {α : Type} {l : List α} {i : Nat} {x : α} (h : l.length ≤ i) : l.set i x = l := List.set_eq_of_length_le h
theorem Holds.len (h : Holds K G Z σ H env) : σ.length = env.length := let ⟨_, h⟩ := h; h.len
theorem Holds.zh (h : Holds K G Z σ H env) : Same Z H := let ⟨_, h⟩ := h; h.zh
theorem Holds.setVal (h : Holds K G Z σ H env) (r : Rep K Z v d) : Holds K G Z (σ.set i (some v)) H (env.set i (.val d)) := by
  obtain ⟨F, h⟩ := h
  by_cases hi : i < env.length
  · exact ⟨_, h.settle hi ⟨rfl, v, rfl, r⟩⟩
  · rw [set_out (l := σ) (by rw [h.len]; omega), set_out (l := env) (by omega)]; exact ⟨F, h⟩
theorem Holds.setUn (h : Holds K G Z σ H env) (ov : Option V) : Holds K G Z (σ.set i ov) H (env.set i .un) := by
  obtain ⟨F, h⟩ := h
  by_cases hi : i < env.length
  · exact ⟨_, h.settle hi rfl⟩
  · rw [set_out (l := σ) (by rw [h.len]; omega), set_out (l := env) (by omega)]; exact ⟨F, h⟩
theorem Holds.setNew {c : C} (h : Holds K G Z (σ ++ [some v]) H (env ++ [c])) : Holds K G Z (σ.set i (some v)) H (env.set i c) := by
  obtain ⟨F, h⟩ := h
  obtain ⟨h1, s1, n1, d1⟩ := h.pop
  by_cases hi : i < env.length
  · exact ⟨_, h1.put hi s1 n1 fun j a ha hj => (d1 j a ha hj).elim⟩
  · rw [set_out (l := σ) (by rw [h1.len]; omega), set_out (l := env) (by omega)]; exact ⟨_, h1⟩
/-- a new settled object -/
theorem Holds.laid {p : Addr} {o : HO} (h : Holds K G Z σ H env) (hp : H p = none) : Same Z (upd Z p o) ∧ Holds K G (upd Z p o) σ (upd H p o) env := by
  obtain ⟨F, h⟩ := h
  have zp : Z p = none := h.zh.free hp
  have sm : Same Z (upd Z p o) := fun b u e => by rw [upd_ne (ne_of_none e zp)]; exact e
  refine ⟨sm, F, h.heap sm (fun b u e => ?_) (fun b u e => ?_) (fun b u e => ?_) fun i a ha => ?_⟩
  · by_cases hb : b = p
    · subst hb; rw [upd_same] at e ⊢; exact e
    · rw [upd_ne hb] at e ⊢; exact h.zh b u e
  · rw [upd_ne (ne_of_none (h.rh b u e) hp)]; exact h.rh b u e
  · rw [upd_ne (ne_of_none (h.rh b u e) hp)]; exact h.zr b u e
  · have : ∃ o, H a = some o := (h.sl i _ (List.getElem?_eq_getElem (h.fz i a ha).2.2)).ex a ha
    obtain ⟨o', e⟩ := this
    rw [upd_ne (ne_of_none e hp), upd_ne (ne_of_none e hp)]
    exact ⟨rfl, (h.fz i a ha).1⟩
/-- a new owned object, a temporary -/
theorem Holds.laidOwn {p : Addr} {o : HO} {t : Option Nat} (h : Holds K G Z σ H env) (hp : H p = none) (r : Root K Z (upd H p o) p d) (ht : t = none) : Holds K G Z (σ ++ [some (.ref p)]) (upd H p o) (env ++ [.own t d]) := by
  obtain ⟨F, h⟩ := h
  have zp : Z p = none := h.zh.free hp
  have rp : G.R p = none := h.rh.free hp
  have ex : ∀ i a, a ∈ F i → ∃ o, H a = some o := fun i a ha => (h.sl i _ (List.getElem?_eq_getElem (h.fz i a ha).2.2)).ex a ha
  have h1 : HF K G Z σ (upd H p o) env F := h.heap (Same.refl _) (fun b u e => by rw [upd_ne (ne_of_none (h.zh b u e) hp)]; exact h.zh b u e) (fun b u e => by rw [upd_ne (ne_of_none (h.rh b u e) hp)]; exact h.rh b u e) h.zr
    fun i a ha => by
      obtain ⟨o', e⟩ := ex i a ha
      exact ⟨upd_ne (ne_of_none e hp), (h.fz i a ha).1⟩
  refine ⟨_, h1.push (Fc := [p]) ⟨p, rfl, rfl, (fun n q => by rw [ht] at q; cases q), r⟩ (fun a ha => ?_) fun j a ha hj => ?_⟩
  · rw [List.mem_singleton.mp ha]; exact ⟨zp, rp⟩
  · rw [List.mem_singleton.mp ha] at hj
    obtain ⟨o', e⟩ := ex j p hj
    rw [hp] at e; cases e
/-- an owned slot's object is changed -/
theorem Holds.mutate {a : Addr} {o : HO} {t : Option Nat} {d' : D} (h : Holds K G Z σ H env) (e : env[i]? = some (.own t d)) (hv : σ[i]? = some (some (.ref a))) (r : Root K Z (upd H a o) a d') : Holds K G Z σ (upd H a o) (env.set i (.own t d')) := by
  obtain ⟨F, h⟩ := h
  obtain ⟨a', ev, ef, ep, r'⟩ := h.sl i _ e
  have := slv_some ev
  rw [hv] at this
  cases this
  refine ⟨F, h.mut (List.getElem?_eq_some_iff.mp e).1 (fun b hb => ?_) ?_⟩
  · rw [ef] at hb
    exact upd_ne fun z => hb (by rw [z]; exact List.mem_singleton.mpr rfl)
  · rw [ev]; exact ⟨a, rfl, ef, ep, r⟩
theorem Holds.own {t : Option Nat} (h : Holds K G Z σ H env) (e : env[i]? = some (.own t d)) : ∃ a, σ[i]? = some (some (.ref a)) ∧ Root K Z H a d := by
  obtain ⟨F, h⟩ := h
  obtain ⟨a', ev, ef, ep, r'⟩ := h.sl i _ e
  exact ⟨a', slv_some ev, r'⟩
end

section
variable {X : Cx} {Er : XK} {pos : Pos} {a : Expr} {wa : WE}
/-! ### statements -/
def setK (Q : En → Prop) (i : Nat) (e : En) : Tk → Prop
  | .val d => Q (e.set i (.val d))
  | .new c => Q (e.set i c)
  | .loc _ => False
def wSet (i : Nat) (w : WE) : WS := fun env k => (fun (_ : Unit) => w env (fun t e => setK k.nx i e t) k.xr) hi4
theorem setK.mono {Q Q' : En → Prop} {i : Nat} {e : En} {t : Tk} (hQ : ∀ e, Q e → Q' e) (h : setK Q i e t) : setK Q' i e t := by
  cases t with
  | val d => exact hQ _ h
  | new c => exact hQ _ h
  | loc j => exact h
theorem s_set (i : Nat) {st : Stmt} (ha : MonoE wa) (hs : PS X st (tAsg (TEw X.K Er wa) (gName i))) : SJ X Er st (wSet i wa) := by
  refine ⟨ps_imp hs fun D σ H h => ?_, fun env k k' hk h => ha _ _ _ _ _ (fun t e h1 => setK.mono hk.nx h1) hk.xr h⟩
  obtain ⟨G, Z, env, hh, h⟩ := h
  refine ⟨G, Z, env, hh, ha _ _ _ _ _ (fun t e h1 Z1 H1 v s1 p1 => ?_) (fun _ _ q => q) h⟩
  show D.nx (σ.set i (some v)) H1
  cases t with
  | val d => exact h1 Z1 _ H1 s1 (p1.1.setVal p1.2)
  | new c => exact h1 Z1 _ H1 s1 (Holds.setNew p1)
  | loc j => exact h1.elim
def wDrop (w : WE) : WS := fun env k => (fun (_ : Unit) => w env (fun _ e => k.nx e) k.xr) hi4
theorem s_expr (ha : EJ X Er a wa) (hs : swapsWith a none pos.line X.env = pure false := by rfl) : SJ X Er (.Expr a pos) (wDrop wa) := by
  refine ⟨ps_imp (ps_expr ha.pe hs) fun D σ H h => ?_, fun env k k' hk h => ha.mono _ _ _ _ _ (fun t e h1 => hk.nx _ h1) hk.xr h⟩
  obtain ⟨G, Z, env, hh, h⟩ := h
  exact ⟨G, Z, env, hh, ha.mono _ _ _ _ _ (fun t e h1 Z1 H1 v s1 p1 => h1 Z1 σ H1 s1 p1.holds) (fun _ _ q => q) h⟩
def wRet (w : WE) : WS := fun env k => (fun (_ : Unit) => w env k.rt k.xr) hi4
theorem s_ret (ha : EJ X Er a wa) : SJ X Er (.Return (some a) pos) (wRet wa) := by
  refine ⟨ps_imp (ps_ret ha.pe) fun D σ H h => ?_, fun env k k' hk h => ha.mono _ _ _ _ _ (fun t e h1 => hk.rt _ _ h1) hk.xr h⟩
  obtain ⟨G, Z, env, hh, h⟩ := h
  exact ⟨G, Z, env, hh, ha.mono _ _ _ _ _ (fun t e h1 Z1 H1 v s1 p1 => h1 Z1 σ H1 v s1 p1) (fun _ _ q => q) h⟩
def wRetN : WS := fun env k => (fun (_ : Unit) => k.rt (.val .non) env) hi4
theorem s_retN : SJ X Er (.Return none pos) wRetN := by
  refine ⟨ps_imp ps_retN fun D σ H h => ?_, fun env k k' hk h => hk.rt _ _ h⟩
  obtain ⟨G, Z, env, hh, h⟩ := h
  exact h Z σ H .non (.refl _) ⟨hh, .non⟩
def wNx : WS := fun env k => (fun (_ : Unit) => k.nx env) hi4
theorem s_pass : SJ X Er (.Pass pos) wNx := by
  refine ⟨ps_imp ps_pass fun D σ H h => ?_, fun env k k' hk h => hk.nx _ h⟩
  obtain ⟨G, Z, env, hh, h⟩ := h
  exact h Z σ H (.refl _) hh
def wBrk : WS := fun env k => (fun (_ : Unit) => k.bk env) hi4
theorem s_break : SJ X Er (.Break pos) wBrk := by
  refine ⟨ps_imp ps_break fun D σ H h => ?_, fun env k k' hk h => hk.bk _ h⟩
  obtain ⟨G, Z, env, hh, h⟩ := h
  exact h Z σ H (.refl _) hh
def wCnt : WS := fun env k => (fun (_ : Unit) => k.ct env) hi4
theorem s_continue : SJ X Er (.Continue pos) wCnt := by
  refine ⟨ps_imp ps_continue fun D σ H h => ?_, fun env k k' hk h => hk.ct _ h⟩
  obtain ⟨G, Z, env, hh, h⟩ := h
  exact h Z σ H (.refl _) hh
/-- what is never come to -/
def wNo : WS := fun _ _ => (fun (_ : Unit) => False) hi4
theorem s_never {st : Stmt} : SJ X Er st wNo := ⟨ps_imp ps_never fun D σ H ⟨_, _, _, _, h⟩ => h, fun _ _ _ _ h => h⟩
theorem b_never {sts : List Stmt} : BJ X Er sts wNo := ⟨pss_imp pss_never fun D σ H ⟨_, _, _, _, h⟩ => h, fun _ _ _ _ h => h⟩

theorem ksOf.imp {K : Fr0} {G : Gh} {Z Z' : Hp} {D : Ends} (s : Same Z Z') : (ksOf K G Z Er D).Imp (ksOf K G Z' Er D) :=
  ⟨fun e h Z2 σ2 H2 s2 h2 => h Z2 σ2 H2 (s.trans s2) h2, fun t e h Z2 σ2 H2 v s2 h2 => h Z2 σ2 H2 v (s.trans s2) h2, fun e h Z2 σ2 H2 s2 h2 => h Z2 σ2 H2 (s.trans s2) h2,
    fun e h Z2 σ2 H2 s2 h2 => h Z2 σ2 H2 (s.trans s2) h2, xrOf.imp (.refl G) s⟩
variable {st : Stmt} {sts : List Stmt} {w1 w2 : WS} {tc : WT}
def wSeq (w1 w2 : WS) : WS := fun env k => (fun (_ : Unit) => w1 env { k with nx := fun e => w2 e k }) hi4
theorem wSeq.mono (h1 : MonoS w1) (h2 : MonoS w2) : MonoS (wSeq w1 w2) := fun env k k' hk h => h1.app (show w1 env _ from h) ⟨fun e q => h2 _ _ _ hk q, hk.rt, hk.bk, hk.ct, hk.xr⟩
theorem b_nil : BJ X Er [] wNx := by
  refine ⟨pss_imp pss_nil fun D σ H h => ?_, fun env k k' hk h => hk.nx _ h⟩
  obtain ⟨G, Z, env, hh, h⟩ := h
  exact h Z σ H (.refl _) hh
theorem b_one (h : SJ X Er st w1) : BJ X Er [st] w1 := ⟨pss_one h.ps, h.mono⟩
theorem b_cons (h1 : SJ X Er st w1) (h2 : BJ X Er sts w2) : BJ X Er (st :: sts) (wSeq w1 w2) := by
  refine ⟨pss_imp (pss_cons h1.ps h2.ps) fun D σ H h => ?_, wSeq.mono h1.mono h2.mono⟩
  obtain ⟨G, Z, env, hh, h⟩ := h
  refine ⟨G, Z, env, hh, h1.mono.app (show w1 env _ from h) ⟨fun e q Z1 σ1 H1 s1 p1 => ?_, fun _ _ q => q, fun _ q => q, fun _ q => q, fun _ _ q => q⟩⟩
  exact ⟨G, Z1, e, p1, h2.mono _ _ _ (ksOf.imp s1) q⟩
def wIfS (t : WT) (w1 w2 : WS) : WS := fun env k => (fun (_ : Unit) => t env (fun c e => if c = true then w1 e k else w2 e k) k.xr) hi4
theorem s_if {c : Expr} {s1 s2 : List Stmt} (hc : TJ X Er c tc) (h1 : BJ X Er s1 w1) (h2 : BJ X Er s2 w2) : SJ X Er (.If c s1 s2 pos) (wIfS tc w1 w2) := by
  refine ⟨ps_imp (ps_if hc.pt h1.ps h2.ps) fun D σ H h => ?_, fun env k k' hk h => hc.mono _ _ _ _ _ (fun c e q => ?_) hk.xr h⟩
  · obtain ⟨G, Z, env, hh, h⟩ := h
    refine ⟨G, Z, env, hh, hc.mono _ _ _ _ _ (fun c e q Z1 H1 s1 p1 => ?_) (fun _ _ q => q) h⟩
    cases c with
    | true => exact ⟨G, Z1, e, p1, h1.mono _ _ _ (ksOf.imp s1) q⟩
    | false => exact ⟨G, Z1, e, p1, h2.mono _ _ _ (ksOf.imp s1) q⟩
  · cases c with
    | true => exact h1.mono _ _ _ hk q
    | false => exact h2.mono _ _ _ hk q
/-! ### while -/
def wWhile (t : WT) (b : WS) : WS := fun env k => (fun (_ : Unit) => ∃ W : Nat → En → Prop, (∃ m, W m env) ∧ ∀ m e, W m e → t e (fun c e1 => if c = true then b e1 { k with nx := fun e' => ∃ m', m' < m ∧ W m' e', ct := fun e' => ∃ m', m' < m ∧ W m' e', bk := k.nx } else k.nx e1) k.xr) hi4
theorem s_while {c : Expr} {body : List Stmt} (hp : PassesOwn (model X.prog X.w) X.A X.env X.xe) (hc : TJ X Er c tc) (hb : BJ X Er body w1) : SJ X Er (.While c body [] pos) (wWhile tc w1) := by
  refine ⟨ps_imp (ps_while hp hc.pt hb.ps) fun D σ H h => ?_, fun env k k' hk h => ?_⟩
  · obtain ⟨G, Z, env, hh, W, ⟨m0, w0⟩, h⟩ := h
    refine ⟨fun m σ H => ∃ Z' e, Same Z Z' ∧ Holds X.K G Z' σ H e ∧ W m e, ⟨m0, Z, env, .refl _, hh, w0⟩, fun m σ' H' ⟨Z', e, s', hh', wm⟩ => ?_⟩
    refine ⟨G, Z', e, hh', hc.mono _ _ _ _ _ (fun c e1 q Z1 H1 s1 p1 => ?_) (xrOf.imp (.refl G) s') (h m e wm)⟩
    cases c with
    | true =>
      refine ⟨fun σ2 H2 => ∃ Z2 e2, Same Z Z2 ∧ Holds X.K G Z2 σ2 H2 e2 ∧ ∃ m', m' < m ∧ W m' e2, fun σ2 H2 ⟨Z2, e2, s2, h2, m', lt, w⟩ => ⟨m', lt, Z2, e2, s2, h2, w⟩, G, Z1, e1, p1, hb.mono.app (show w1 e1 _ from q) ?_⟩
      have s01 := s'.trans s1
      exact ⟨fun e ⟨m', lt, w⟩ Z2 σ2 H2 s2 h2 => ⟨Z2, e, s01.trans s2, h2, m', lt, w⟩, fun t e h Z2 σ2 H2 v s2 h2 => h Z2 σ2 H2 v (s01.trans s2) h2, fun e h Z2 σ2 H2 s2 h2 => h Z2 σ2 H2 (s01.trans s2) h2,
        fun e ⟨m', lt, w⟩ Z2 σ2 H2 s2 h2 => ⟨Z2, e, s01.trans s2, h2, m', lt, w⟩, xrOf.imp (.refl G) s01⟩
    | false => exact q Z1 σ' H1 (s'.trans s1) p1
  · obtain ⟨W, w0, h⟩ := h
    refine ⟨W, w0, fun m e wm => hc.mono _ _ _ _ _ (fun c e1 q => ?_) hk.xr (h m e wm)⟩
    cases c with
    | true => exact hb.mono.app (show w1 e1 _ from q) ⟨fun _ q => q, hk.rt, hk.nx, fun _ q => q, hk.xr⟩
    | false => exact hk.nx _ q
/-! ### targets -/
inductive Tg where
  | one (i : Nat) | tup (is : List Nat)
def gNames : List Nat → TGs
  | [] => gNil
  | i :: r => gCons (gName i) (gNames r)
def gOf (K : Fr0) : Tg → TG
  | .one i => gName i
  | .tup is => gTup K is.length (gNames is)
def setAll : List Nat → List D → En → En
  | i :: is, d :: ds, e => setAll is ds (e.set i (.val d))
  | _, _, e => e
def setT (Q : En → Prop) (e : En) : Tg → D → Prop
  | .one i, d => Q (e.set i (.val d))
  | .tup is, .tup ds => ds.length = is.length ∧ Q (setAll is ds e)
  | .tup _, _ => False
theorem setT.mono {Q Q' : En → Prop} {e : En} {g : Tg} {d : D} (hQ : ∀ e, Q e → Q' e) (h : setT Q e g d) : setT Q' e g d := by
  cases g with
  | one i => exact hQ _ h
  | tup is =>
    cases d with
    | tup ds => exact ⟨h.1, hQ _ h.2⟩
    | _ => exact h.elim
def setAllV : List Nat → List V → Sl → Sl
  | i :: is, v :: vs, σ => setAllV is vs (σ.set i (some v))
  | _, _, σ => σ
theorem Reps.length {K : Fr0} {Z : Hp} : ∀ {vs : List V} {ds : List D}, Reps K Z vs ds → vs.length = ds.length
  | _, _, .nil => rfl
  | _, _, .cons _ t => by rw [List.length_cons, List.length_cons, t.length]
theorem gNames_run {K : Fr0} {G : Gh} {Z : Hp} {H : Hp} : ∀ {is : List Nat} {vs : List V} {ds : List D} {σ : Sl} {e : En} {Q : Sl → Hp → Prop}, Holds K G Z σ H e → Reps K Z vs ds → ds.length = is.length → (Holds K G Z (setAllV is vs σ) H (setAll is ds e) → Q (setAllV is vs σ) H) → gNames is vs σ H Q
  | [], _, _, σ, e, Q, h, r, l, q => by
    cases r with
    | nil => exact ⟨rfl, q h⟩
    | cons _ _ => cases l
  | i :: is, _, _, σ, e, Q, h, r, l, q => by
    cases r with
    | nil => cases l
    | cons r1 rr => exact ⟨_, _, rfl, gNames_run (h.setVal r1) rr (Nat.succ.inj l) q⟩
/-- the slots behind the store -/
def putV (g : Tg) (v : V) (vs : List V) (σ : Sl) : Sl := match g with
  | .one i => σ.set i (some v)
  | .tup is => setAllV is vs σ
theorem Rep.tup' {K : Fr0} {Z : Hp} {v : V} {ds : List D} (h : Rep K Z v (.tup ds)) : ∃ a vs, v = .ref a ∧ Rd Z a (.tup vs) ∧ Reps K Z vs ds := by
  cases h with
  | tup h r => exact ⟨_, _, rfl, h, r⟩
theorem gOf_run {K : Fr0} {G : Gh} {Z : Hp} {H : Hp} {σ : Sl} {e : En} {g : Tg} {v : V} {d : D} {Q : Sl → Hp → Prop} {R : En → Prop} (h : Holds K G Z σ H e) (r : Rep K Z v d) (s : setT R e g d)
    (q : ∀ vs e', R e' → Holds K G Z (putV g v vs σ) H e' → Q (putV g v vs σ) H) : gOf K g v σ H Q := by
  cases g with
  | one i => exact q [] _ s (h.setVal r)
  | tup is =>
    cases d with
    | tup ds =>
      obtain ⟨a, vs, ev, hq, rs⟩ := r.tup'
      exact ⟨a, vs, ev, .inl (rd_mono h.zh hq), rs.length.trans s.1, gNames_run h rs s.1 fun hh => q vs _ s.2 hh⟩
    | _ => exact s.elim
/-! ### what is walked -/
def ItOk (K : Fr0) (Z : Hp) (J : It) (xs : List D) : Prop := ∀ Z' H', Same Z Z' → Same Z' H' →
  (∀ (i : Nat) d, xs[i]? = some d → J.go i H' ∧ ∀ x H3, J.yld i H' x H3 → (H3 = H' ∧ Rep K Z' x d) ∨ ∃ (T : Addr) (vs : List V) (ds : List D), x = .ref T ∧ d = .tup ds ∧ H' T = none ∧ H3 = upd H' T (.tup vs) ∧ Reps K Z' vs ds) ∧ J.stop xs.length H'
theorem ItOk.later {K : Fr0} {Z Z' : Hp} {J : It} {xs : List D} (h : ItOk K Z J xs) (s : Same Z Z') : ItOk K Z' J xs := fun Z2 H2 s2 zh => h Z2 H2 (s.trans s2) zh
theorem ItOk.yld {K : Fr0} {G : Gh} {Z Z1 : Hp} {J : It} {xs : List D} {σ : Sl} {H H3 : Hp} {e : En} {i : Nat} {d : D} {x : V} (h : ItOk K Z J xs) (s : Same Z Z1) (hh : Holds K G Z1 σ H e) (hx : xs[i]? = some d) (y : J.yld i H x H3) :
    ∃ Z2, Same Z1 Z2 ∧ Holds K G Z2 σ H3 e ∧ Rep K Z2 x d := by
  rcases ((h Z1 H s hh.zh).1 i d hx).2 x H3 y with ⟨e1, r⟩ | ⟨T, vs, ds, e1, e2, hT, e3, r⟩
  · subst e1; exact ⟨Z1, .refl _, hh, r⟩
  · subst e1 e2 e3
    obtain ⟨sm, h2⟩ := hh.laid (o := .tup vs) hT
    exact ⟨_, sm, h2, .tup (.of upd_same) (r.mono sm)⟩
abbrev WI := En → (List D → En → Prop) → XC → Prop
def TIw (K : Fr0) (Er : XK) (w : WI) : TI := fun σ H R => ∃ G Z env, Holds K G Z σ H env ∧ w env (fun xs e => ∀ Z' H' J, Same Z Z' → Holds K G Z' σ H' e → ItOk K Z' J xs → R J H') (xrOf K G Z Er)
structure IJ (X : Cx) (Er : XK) (tg e : Expr) (w : WI) : Prop where
  pi : PI X tg e (TIw X.K Er w)
  mono : MonoE w
def forR (g : Tg) (b : WS) (k : KS) : List D → En → Prop
  | [], e => k.nx e
  | d :: r, e => setT (fun e1 => b e1 { k with nx := forR g b k r, ct := forR g b k r, bk := k.nx }) e g d
theorem forR.mono {g : Tg} {b : WS} (hb : MonoS b) {k k' : KS} (hk : k.Imp k') : ∀ {xs : List D} {e : En}, forR g b k xs e → forR g b k' xs e
  | [], e, h => hk.nx e h
  | d :: r, e, h => by
    refine setT.mono ?_ h
    intro e1 q
    exact hb.app q ⟨fun _ z => forR.mono hb hk z, hk.rt, hk.nx, fun _ z => forR.mono hb hk z, hk.xr⟩
def wFor (wi : WI) (g : Tg) (b : WS) : WS := fun env k => (fun (_ : Unit) => wi env (fun xs e => forR g b k xs e) k.xr) hi4
theorem drop_cons {α : Type} {xs : List α} {i : Nat} {x : α} (h : xs[i]? = some x) : xs.drop i = x :: xs.drop (i + 1) := by
  obtain ⟨hl, e⟩ := List.getElem?_eq_some_iff.mp h
  rw [List.drop_eq_getElem_cons hl, e]
theorem s_for {tg iter : Expr} {body : List Stmt} {wi : WI} {g : Tg} (hp : PassesOwn (model X.prog X.w) X.A X.env X.xe) (hc : X.calm = true) (hi : IJ X Er tg iter wi) (hg : PG X tg (gOf X.K g)) (hb : BJ X Er body w1)
    (hs : ∀ x, foldedSetIterable iter X.env x = pure x := by intro _; rfl) : SJ X Er (.For tg iter body [] pos) (wFor wi g w1) := by
  refine ⟨ps_imp (ps_for hp hc hi.pi hg hb.ps hs) fun D σ H h => ?_, fun env k k' hk h => hi.mono _ _ _ _ _ (fun xs e q => forR.mono hb.mono hk q) hk.xr h⟩
  obtain ⟨G, Z, env, hh, h⟩ := h
  refine ⟨G, Z, env, hh, hi.mono _ _ _ _ _ (fun xs e q Z1 H1 J s1 p1 io => ?_) (fun _ _ q => q) h⟩
  refine ⟨fun i m σ H => m = xs.length - i ∧ i ≤ xs.length ∧ ∃ Z' e, Same Z1 Z' ∧ Holds X.K G Z' σ H e ∧ forR g w1 (ksOf X.K G Z Er D) (xs.drop i) e, ⟨_, rfl, Nat.zero_le _, Z1, e, .refl _, p1, q⟩, ?_⟩
  rintro i m σ2 H2 ⟨rfl, hle, Z2, e2, s2, h2, q2⟩
  have s02 := s1.trans s2
  by_cases hlt : i < xs.length
  · have hx : xs[i]? = some xs[i] := List.getElem?_eq_getElem hlt
    rw [drop_cons hx] at q2
    refine .inr ⟨((io Z2 H2 s2 h2.zh).1 i _ hx).1, fun σ' H' => ∃ Z' e, Same Z1 Z' ∧ Holds X.K G Z' σ' H' e ∧ forR g w1 (ksOf X.K G Z Er D) (xs.drop (i + 1)) e, fun σ' H' n => ⟨_, by omega, rfl, hlt, n⟩, fun x H3 y => ?_⟩
    obtain ⟨Z3, s3, h3, r3⟩ := io.yld s2 h2 hx y
    refine gOf_run h3 r3 q2 fun vs e4 q4 h4 => ?_
    have s03 := s02.trans s3
    refine ⟨G, Z3, e4, h4, hb.mono.app q4 ⟨fun e q Z5 σ5 H5 s5 h5 => ⟨Z5, e, (s2.trans s3).trans s5, h5, q⟩, fun t e h Z5 σ5 H5 v s5 h5 => h Z5 σ5 H5 v (s03.trans s5) h5, fun e h Z5 σ5 H5 s5 h5 => h Z5 σ5 H5 (s03.trans s5) h5,
      fun e q Z5 σ5 H5 s5 h5 => ⟨Z5, e, (s2.trans s3).trans s5, h5, q⟩, xrOf.imp (.refl G) s03⟩⟩
  · have ei : i = xs.length := by omega
    subst ei
    rw [List.drop_length] at q2
    exact .inl ⟨(io Z2 H2 s2 h2.zh).2, q2 Z2 σ2 H2 s02 h2⟩
end
end FL
namespace FL
open PySem PySem.Spec PyProof.Rows L2

/-! ### arguments -/
section
variable {X : Cx} {Er : XK} {pos : Pos} {a : Expr} {es : List Expr} {wa : WE} {wr : WA}
def wANil : WA := fun env Q _ => (fun (_ : Unit) => Q [] env) hi4
def wACons (w : WE) (wr : WA) : WA := fun env Q x => (fun (_ : Unit) => w env (fun t e => wr e (fun ts e' => Q (t :: ts) e') x) x) hi4
theorem a_nil : AJ X Er [] wANil := by
  refine ⟨pa_imp pa_nil fun σ H Q h => ?_, fun env Q Q' x x' hQ hx h => hQ _ _ h⟩
  obtain ⟨G, Z, env, hh, h⟩ := h
  exact h Z H [] (.refl _) ⟨by simpa [tmpV, tmpC] using hh, trivial⟩
theorem wACons.mono (ha : MonoE wa) (hr : MonoE wr) : MonoE (wACons wa wr) := fun env Q Q' x x' hQ hx h => ha _ _ _ _ _ (fun t e h1 => hr _ _ _ _ _ (fun ts e' h2 => hQ _ _ h2) hx h1) hx h
theorem a_cons (ha : EJ X Er a wa) (hr : AJ X Er es wr) (hs : starEach (a :: es) X.env = (false, eval a X.env) :: starEach es X.env := by rfl) : AJ X Er (a :: es) (wACons wa wr) := by
  refine ⟨pa_imp (pa_cons ha.pe hr.pa hs) fun σ H Q h => ?_, wACons.mono ha.mono hr.mono⟩
  obtain ⟨G, Z, env, hh, h⟩ := h
  refine ⟨G, Z, env, hh, ha.mono _ _ _ _ _ (fun t e h1 Z1 H1 v s1 p1 => ?_) (fun _ _ q => q) h⟩
  obtain ⟨G1, l1, hg1, k1⟩ := p1.keep
  refine ⟨G1, Z1, e, hg1, hr.mono _ _ _ _ _ (fun ts e2 h2 Z2 H2 vs s2 p2 => ?_) (xrOf.imp l1 s1) h1⟩
  have hlt : ∀ (i : Nat) x, σ[i]? = some x → (σ ++ tmpV vs ts)[i]? = some x := fun i x q => by
    rw [List.getElem?_append_left (List.getElem?_eq_some_iff.mp q).1]; exact q
  have p := k1 Z2 _ H2 _ s2 hlt p2.1
  refine h2 Z2 H2 (v :: vs) (s1.trans s2) ?_
  cases t with
  | val d => exact ⟨p.1, p.2, p2.2⟩
  | loc i => exact ⟨p.1, p1.2, p2.2⟩
  | new c =>
    refine ⟨?_, p2.2⟩
    have q : Holds X.K G Z2 ((σ ++ tmpV vs ts) ++ [some v]) H2 ((e2 ++ tmpC ts) ++ [c]) := p
    rw [List.append_assoc, List.append_assoc] at q
    exact q
/-- settled arguments -/
def vals : List Tk → Option (List D)
  | [] => some []
  | .val d :: r => (vals r).map (d :: ·)
  | _ :: _ => none
theorem vals_cons {t : Tk} {ts : List Tk} {ds : List D} (h : vals (t :: ts) = some ds) : ∃ d ds', t = .val d ∧ vals ts = some ds' ∧ ds = d :: ds' := by
  cases t with
  | val d =>
    cases e : vals ts with
    | none => simp [vals, e] at h
    | some ds' => simp [vals, e] at h; exact ⟨d, ds', rfl, rfl, h.symm⟩
  | loc i => cases h
  | new c => cases h
section
variable {K : Fr0} {G : Gh} {Z : Hp} {σ : Sl} {H : Hp} {env : En}
theorem vals_run : ∀ {ts : List Tk} {vs : List V} {ds : List D}, vals ts = some ds → TksOk K Z σ vs ts → Reps K Z vs ds ∧ tmpV vs ts = [] ∧ tmpC ts = []
  | [], [], ds, e, _ => by cases e; exact ⟨.nil, rfl, rfl⟩
  | [], _ :: _, _, _, h => h.elim
  | t :: ts, [], _, _, h => by cases t <;> exact h.elim
  | t :: ts, v :: vs, ds, e, h => by
    obtain ⟨d, ds', rfl, e', rfl⟩ := vals_cons e
    obtain ⟨r, t1, t2⟩ := vals_run e' h.2
    exact ⟨.cons h.1 r, t1, t2⟩
theorem PostA.vals {ts : List Tk} {vs : List V} {ds : List D} (p : PostA K G Z σ H env vs ts) (e : vals ts = some ds) : Holds K G Z σ H env ∧ Reps K Z vs ds := by
  obtain ⟨r, t1, t2⟩ := vals_run e p.2
  have h := p.1
  rw [t1, t2, List.append_nil, List.append_nil] at h
  exact ⟨h, r⟩
inductive Nows (K : Fr0) (Z H : Hp) : List V → List D → Prop
  | nil : Nows K Z H [] []
  | cons {v : V} {vs : List V} {d : D} {ds : List D} : Now K Z H v d → Nows K Z H vs ds → Nows K Z H (v :: vs) (d :: ds)
def resAll (env : En) : List Tk → Option (List D)
  | [] => some []
  | t :: r => match res env t, resAll env r with
    | some d, some ds => some (d :: ds)
    | _, _ => none
theorem nows_run : ∀ {ts : List Tk} {vs : List V} {ds : List D}, Holds K G Z (σ ++ tmpV vs ts) H (env ++ tmpC ts) → TksOk K Z σ vs ts → resAll env ts = some ds → Nows K Z H vs ds ∧ Holds K G Z σ H env
  | [], [], ds, h, _, e => by
    cases e
    exact ⟨.nil, by simpa [tmpV, tmpC] using h⟩
  | [], _ :: _, _, _, h, _ => h.elim
  | t :: ts, [], _, _, h, _ => by cases t <;> exact h.elim
  | t :: ts, v :: vs, ds, h, ok, e => by
    unfold resAll at e
    split at e
    · rename_i d ds' e1 e2
      cases e
      cases t with
      | val d' =>
        cases e1
        obtain ⟨n, h'⟩ := nows_run (ts := ts) (vs := vs) h ok.2 e2
        exact ⟨.cons (.st ok.1) n, h'⟩
      | loc i =>
        obtain ⟨n, h'⟩ := nows_run (ts := ts) (vs := vs) h ok.2 e2
        exact ⟨.cons (PostE.now (tk := .loc i) ⟨h', ok.1⟩ e1) n, h'⟩
      | new c =>
        have q : Holds K G Z (σ ++ (tmpV vs ts ++ [some v])) H (env ++ (tmpC ts ++ [c])) := h
        rw [← List.append_assoc, ← List.append_assoc] at q
        have qn := PostE.now (tk := .new c) (σ := σ ++ tmpV vs ts) (env := env ++ tmpC ts) q e1
        obtain ⟨n, h'⟩ := nows_run (ts := ts) (vs := vs) (PostE.holds (tk := .new c) q) ok e2
        exact ⟨.cons qn n, h'⟩
    · cases e
end
/-! ### displays -/
def valK (ts : List Tk) (Q : List D → Prop) : Prop := match vals ts with
  | some ds => ds.length ≤ sizeLine ∧ Q ds
  | none => False
theorem valK.mono {ts : List Tk} {Q Q' : List D → Prop} (hQ : ∀ d, Q d → Q' d) (h : valK ts Q) : valK ts Q' := by
  unfold valK at h ⊢
  split at h
  · exact ⟨h.1, hQ _ h.2⟩
  · exact h.elim
def wTup (wr : WA) : WE := fun env Q x => (fun (_ : Unit) => wr env (fun ts e => valK ts fun ds => Q (.val (.tup ds)) e) x) hi4
def wLst (wr : WA) : WE := fun env Q x => (fun (_ : Unit) => wr env (fun ts e => valK ts fun ds => Q (.new (.own none (.lst ds))) e) x) hi4
theorem e_tup {x1} (ha : AJ X Er es wr) : EJ X Er (.Tuple es x1 pos) (wTup wr) := by
  refine ⟨pe_imp (pe_tup ha.pa) fun σ H Q h => ?_, fun env Q Q' x x' hQ hx h => ha.mono _ _ _ _ _ (fun t e h1 => valK.mono (fun ds => hQ _ _) h1) hx h⟩
  obtain ⟨G, Z, env, hh, h⟩ := h
  refine ⟨G, Z, env, hh, ha.mono _ _ _ _ _ (fun t e h1 Z1 H1 vs s1 p1 => ?_) (fun _ _ q => q) h⟩
  unfold valK at h1
  split at h1
  · rename_i ds ed
    obtain ⟨hd, rs⟩ := p1.vals ed
    refine ⟨by rw [rs.length]; exact h1.1, fun p hp => ?_⟩
    obtain ⟨sm, h2⟩ := hd.laid (o := .tup vs) hp
    exact h1.2 _ _ _ (s1.trans sm) ⟨h2, .tup (.of upd_same) (rs.mono sm)⟩
  · exact h1.elim
theorem e_lst (ha : AJ X Er es wr) : EJ X Er (.List es pos) (wLst wr) := by
  refine ⟨pe_imp (pe_lst ha.pa) fun σ H Q h => ?_, fun env Q Q' x x' hQ hx h => ha.mono _ _ _ _ _ (fun t e h1 => valK.mono (fun ds => hQ _ _) h1) hx h⟩
  obtain ⟨G, Z, env, hh, h⟩ := h
  refine ⟨G, Z, env, hh, ha.mono _ _ _ _ _ (fun t e h1 Z1 H1 vs s1 p1 => ?_) (fun _ _ q => q) h⟩
  unfold valK at h1
  split at h1
  · rename_i ds ed
    obtain ⟨hd, rs⟩ := p1.vals ed
    refine ⟨by rw [rs.length]; exact h1.1, fun p hp => ?_⟩
    exact h1.2 _ _ _ s1 (hd.laidOwn hp ⟨vs, upd_same, rs⟩ rfl)
  · exact h1.elim
/-! ### built-ins -/
abbrev CaF := List D → (Tk → Prop) → Prop
structure CallS (K : Fr0) (r : List V → Hp → VK → Prop) (f : CaF) : Prop where
  mono : ∀ ds (Q Q' : Tk → Prop), (∀ t, Q t → Q' t) → f ds Q → f ds Q'
  run : ∀ G Z σ H env vs ds Q, Holds K G Z σ H env → Nows K Z H vs ds → f ds (fun tk => ∀ Z' H' v, Same Z Z' → PostE K G Z' σ H' env v tk → Q v H') → r vs H Q
def caK (f : CaF) (e : En) (ts : List Tk) (Q : Tk → Prop) : Prop := match resAll e ts with
  | some ds => f ds Q
  | none => False
def wCa (f : CaF) (wr : WA) : WE := fun env Q x => (fun (_ : Unit) => wr env (fun ts e => caK f e ts fun tk => Q tk e) x) hi4
theorem wCa.mono {f : CaF} (hf : ∀ ds (Q Q' : Tk → Prop), (∀ t, Q t → Q' t) → f ds Q → f ds Q') (hr : MonoE wr) : MonoE (wCa f wr) := fun env Q Q' x x' hQ hx h => hr _ _ _ _ _ (fun ts e h1 => by
  unfold caK at h1 ⊢
  split at h1
  · exact hf _ _ _ (fun t => hQ t e) h1
  · exact h1.elim) hx h
theorem ca_read {r : List V → Hp → VK → Prop} {f : CaF} (hs : CallS X.K r f) (hr : MonoE wr) {σ : Sl} {H : Hp} {Q : VK} (h : TEw X.K Er (wCa f wr) σ H Q) : tCB r (TAw X.K Er wr) σ H Q := by
  obtain ⟨G, Z, env, hh, h⟩ := h
  refine ⟨G, Z, env, hh, hr _ _ _ _ _ (fun ts e h1 Z1 H1 vs s1 p1 => ?_) (fun _ _ q => q) h⟩
  unfold caK at h1
  split at h1
  · rename_i ds ed
    obtain ⟨n, hd⟩ := nows_run p1.1 p1.2 ed
    exact hs.run G Z1 σ H1 e vs ds Q hd n (hs.mono _ _ _ (fun tk q Z' H' v s' p' => q Z' H' v (s1.trans s') p') h1)
  · exact h1.elim
theorem e_callB {x : Str} {id : String} {p : Pos} {r : List V → Hp → VK → Prop} {f : CaF} (hc : CallR X (.builtin id) r) (hs : CallS X.K r f) (ha : AJ X Er (a :: es) wr) (hp : PE X (.Call (.Name x p) (a :: es) [] pos) (tCB r (TAw X.K Er wr))) :
    EJ X Er (.Call (.Name x p) (a :: es) [] pos) (wCa f wr) := ⟨pe_imp hp fun _ _ _ h => ca_read hs ha.mono h, wCa.mono hs.mono ha.mono⟩
theorem e_callTy {x : Str} {T : String} {p : Pos} {r : List V → Hp → VK → Prop} {f : CaF} (hc : CallR X (.type T) r) (hs : CallS X.K r f) (ha : AJ X Er (a :: es) wr) (hp : PE X (.Call (.Name x p) (a :: es) [] pos) (tCB r (TAw X.K Er wr))) :
    EJ X Er (.Call (.Name x p) (a :: es) [] pos) (wCa f wr) := ⟨pe_imp hp fun _ _ _ h => ca_read hs ha.mono h, wCa.mono hs.mono ha.mono⟩
/-! ### methods of an owned list -/
abbrev MtF := D → List D → (D → Tk → Prop) → Prop
structure MthS (K : Fr0) (r : V → List V → Hp → VK → Prop) (f : MtF) : Prop where
  mono : ∀ d ds (Q Q' : D → Tk → Prop), (∀ d t, Q d t → Q' d t) → f d ds Q → f d ds Q'
  run : ∀ G Z σ H env (i : Nat) t a d vs ds Q, Holds K G Z σ H env → env[i]? = some (.own t d) → σ[i]? = some (some (.ref a)) → Root K Z H a d → Reps K Z vs ds →
    f d ds (fun d' tk => ∀ Z' H' v, Same Z Z' → PostE K G Z' σ H' (env.set i (.own t d')) v tk → Q v H') → r (.ref a) vs H Q
def isLst (e : En) (i : Nat) : Prop := match e[i]? with
  | some (.own _ (.lst _)) => True
  | _ => False
theorem isLst.get {e : En} {i : Nat} (h : isLst e i) : ∃ t xs, e[i]? = some (.own t (.lst xs)) := by
  unfold isLst at h
  split at h
  · rename_i t xs q; exact ⟨t, xs, q⟩
  · exact h.elim
def mthK (f : MtF) (i : Nat) (e : En) (ts : List Tk) (Q : Tk → En → Prop) : Prop := match e[i]?, vals ts with
  | some (.own t d), some ds => f d ds (fun d' tk => Q tk (e.set i (.own t d')))
  | _, _ => False
theorem mthK.mono {f : MtF} (hf : ∀ d ds (Q Q' : D → Tk → Prop), (∀ d t, Q d t → Q' d t) → f d ds Q → f d ds Q') {i : Nat} {e : En} {ts : List Tk} {Q Q' : Tk → En → Prop} (hQ : ∀ t e, Q t e → Q' t e) (h : mthK f i e ts Q) : mthK f i e ts Q' := by
  unfold mthK at h ⊢
  split at h
  · exact hf _ _ _ _ (fun d t => hQ t _) h
  · exact h.elim
def wMth (f : MtF) (i : Nat) (wr : WA) : WE := fun env Q x => (fun (_ : Unit) => isLst env i ∧ wr env (fun ts e => mthK f i e ts Q) x) hi4
theorem mth_run {r : V → List V → Hp → VK → Prop} {f : MtF} (hs : MthS X.K r f) {G : Gh} {Z Z1 : Hp} {σ : Sl} {H1 : Hp} {e : En} {i : Nat} {ts : List Tk} {vs : List V} {Q : VK} {v : V} (hv : σ[i]? = some (some v)) (s1 : Same Z Z1) (p1 : PostA X.K G Z1 σ H1 e vs ts)
    (h1 : mthK f i e ts fun tk e' => ∀ Z' H' v, Same Z Z' → PostE X.K G Z' σ H' e' v tk → Q v H') : r v vs H1 Q := by
  unfold mthK at h1
  split at h1
  · rename_i t d ds ei ed
    obtain ⟨hd, rs⟩ := p1.vals ed
    obtain ⟨a, ea, ra⟩ := hd.own ei
    rw [hv] at ea
    cases ea
    exact hs.run G Z1 σ H1 e i t a d vs ds Q hd ei hv ra rs (hs.mono _ _ _ _ (fun d' tk q Z' H' v s' p' => q Z' H' v (s1.trans s') p') h1)
  · exact h1.elim
theorem e_mth {r : V → List V → Hp → VK → Prop} {f : MtF} {o : Expr} {name : Str} {apos cpos : Pos} (i : Nat) (hs : MthS X.K r f) (ha : AJ X Er (a :: es) wr) (hp : PE X (.Call (.Attribute o name apos) (a :: es) [] cpos) (tBM X.K "list" r (tVar i) (TAw X.K Er wr))) :
    EJ X Er (.Call (.Attribute o name apos) (a :: es) [] cpos) (wMth f i wr) := by
  refine ⟨pe_imp hp fun σ H Q h => ?_, fun env Q Q' x x' hQ hx h => ⟨h.1, ha.mono _ _ _ _ _ (fun ts e h1 => mthK.mono hs.mono hQ h1) hx h.2⟩⟩
  obtain ⟨G, Z, env, hh, hl, h⟩ := h
  obtain ⟨t, xs, ei⟩ := hl.get
  obtain ⟨p, ep, vs, ev, _⟩ := hh.own ei
  refine ⟨.ref p, ep, .inl ⟨rfl, vs, .of ev⟩, G, Z, env, hh, ha.mono _ _ _ _ _ (fun ts e h1 Z1 H1 vs s1 p1 => ?_) (fun _ _ q => q) h⟩
  exact mth_run hs ep s1 p1 h1
theorem e_mth0 {r : V → List V → Hp → VK → Prop} {f : MtF} {o : Expr} {name : Str} {apos cpos : Pos} (i : Nat) (hs : MthS X.K r f) (hp : PE X (.Call (.Attribute o name apos) [] [] cpos) (tBM0 X.K "list" r (tVar i))) :
    EJ X Er (.Call (.Attribute o name apos) [] [] cpos) (wMth f i wANil) := by
  refine ⟨pe_imp hp fun σ H Q h => ?_, fun env Q Q' x x' hQ hx h => ⟨h.1, mthK.mono hs.mono hQ h.2⟩⟩
  obtain ⟨G, Z, env, hh, hl, h⟩ := h
  obtain ⟨t, xs, ei⟩ := hl.get
  obtain ⟨p, ep, vs, ev, _⟩ := hh.own ei
  refine ⟨.ref p, ep, .inl ⟨rfl, vs, .of ev⟩, ?_⟩
  exact mth_run (ts := []) hs ep (.refl _) ⟨by simpa [tmpV, tmpC] using hh, trivial⟩ h
/-! ### xs[i] = e -/
def stIt (Q : En → Prop) (i : Nat) (e : En) (t1 t2 : Tk) : Prop := match t1, res e t2, e[i]? with
  | .val d, some (.int j), some (.own t (.lst xs)) => someK (ixN xs.length j) fun n => Q (e.set i (.own t (.lst (xs.set n d))))
  | _, _, _ => False
theorem stIt.mono {Q Q' : En → Prop} {i : Nat} {e : En} {t1 t2 : Tk} (hQ : ∀ e, Q e → Q' e) (h : stIt Q i e t1 t2) : stIt Q' i e t1 t2 := by
  unfold stIt at h ⊢
  split at h
  · exact someK.mono (fun n => hQ _) h
  · exact h.elim
def wStIt (i : Nat) (we wi : WE) : WS := fun env k => (fun (_ : Unit) => we env (fun t1 e1 => isLst e1 i ∧ wi e1 (fun t2 e2 => stIt k.nx i e2 t1 t2) k.xr) k.xr) hi4
theorem Reps.set {K : Fr0} {Z : Hp} {v : V} {d : D} (r : Rep K Z v d) : ∀ {vs : List V} {ds : List D} (n : Nat), Reps K Z vs ds → Reps K Z (vs.set n v) (ds.set n d)
  | _, _, _, .nil => .nil
  | _, _, 0, .cons _ t => .cons r t
  | _, _, n + 1, .cons q t => .cons q (Reps.set r n t)
theorem Now.int' {K : Fr0} {Z H : Hp} {v : V} {i : Int} (n : Now K Z H v (.int i)) : v = .int i := by
  cases n with
  | st r => cases r; rfl
  | ow r => exact r.elim
theorem s_setIt (i : Nat) {st : Stmt} {we wi : WE} (he : MonoE we) (hi : MonoE wi) (hs : PS X st (tAsg (TEw X.K Er we) (gSub (tVar i) (TEw X.K Er wi) rSetL))) : SJ X Er st (wStIt i we wi) := by
  refine ⟨ps_imp hs fun D σ H h => ?_, fun env k k' hk h => he _ _ _ _ _ (fun t e h1 => ⟨h1.1, hi _ _ _ _ _ (fun t2 e2 h2 => stIt.mono hk.nx h2) hk.xr h1.2⟩) hk.xr h⟩
  obtain ⟨G, Z, env, hh, h⟩ := h
  refine ⟨G, Z, env, hh, he _ _ _ _ _ (fun t1 e1 h1 Z1 H1 v1 s1 p1 => ?_) (fun _ _ q => q) h⟩
  obtain ⟨hl, h1⟩ := h1
  obtain ⟨t, xs, ei⟩ := hl.get
  obtain ⟨a, ea, _⟩ := p1.holds.own ei
  obtain ⟨G1, l1, hg1, k1⟩ := p1.keep
  refine ⟨.ref a, ea, G1, Z1, e1, hg1, hi _ _ _ _ _ (fun t2 e2 h2 Z2 H2 v2 s2 p2 => ?_) (xrOf.imp l1 s1) h1⟩
  have p1' := k1 Z2 σ H2 e2 s2 (fun _ _ q => q) p2.holds
  unfold stIt at h2
  split at h2
  · rename_i d j t' ys rj ei2
    obtain ⟨n, en, h2⟩ := h2.get
    obtain ⟨a', ea', vs, ev, rs⟩ := p1'.holds.own ei2
    rw [ea] at ea'
    cases ea'
    refine ⟨a, vs, j, n, rfl, (p2.now rj).int', ev, by rw [rs.length]; exact en, ?_⟩
    exact h2 Z2 σ _ (s1.trans s2) (p1'.holds.mutate ei2 ea ⟨_, upd_same, rs.set p1'.2 n⟩)
  · exact h2.elim
end
end FL
namespace FL
open PySem PySem.Spec PyProof.Rows L2

/-- a list or a tuple, tracked, as it is walked by an iterator -/
structure Src (P : Program) (w : World) (a : Addr) where
  st : Addr → Nat → Heap → Prop
  ok : Heap → Array Value → Prop
  sq : Hp → List V → Prop
  o : Obj
  begins : ∀ items, Begins (.ref a) o (fun h => ok h items)
  st0 : ∀ h it, h.get? it = some o → st it 0 h
  obj : ∀ it i h, st it i h → ∃ ob, h.get? it = some ob ∧ ∀ v, ob.data ≠ .cell v
  keep : ∀ it i h h', st it i h → (∀ ob, h.get? it = some ob → h'.get? it = some ob) → st it i h'
  draws : ∀ (A : Around) (it : Addr) (items : Array Value), A.handled = none → a ≠ it → Draws P w A it [it, a] items.size (fun i v => items[i]? = some v) (fun i h => st it i h ∧ ok h items)
  inv : ∀ (X : Cx), X.prog = P → X.w = w → ∀ pins σ H s xs, Inv X pins σ H s → sq H xs → ∃ its : List Value, Vals xs its ∧ ok s.heap its.toArray ∧ a < s.heap.objs.size
  trk : ∀ H xs, sq H xs → ∃ u, H a = some u
def srcL (P : Program) (w : World) (a : Addr) : Src P w a where
  st := fun it i h => h.IsListIter it a i
  ok := fun h its => h.IsList a its
  sq := fun H xs => Rd H a (.lst xs)
  o := { cls := .type "list_iterator", data := .fields #[.ref a, .int 0 0] }
  begins := fun items => begins_list a items
  st0 := fun h it e => ⟨_, e, rfl, rfl⟩
  obj := fun it i h ⟨ob, e, _, d⟩ => ⟨ob, e, fun v z => by rw [d] at z; cases z⟩
  keep := fun it i h h' st k => st.at k
  draws := fun A it items hh hne => Draws.list hh it a hne items
  inv := fun X _ _ pins σ H s xs I h => by
    obtain ⟨its, rv, p, _⟩ := I.list (.inl h)
    exact ⟨its, rv, p.isList, p.lt⟩
  trk := fun H xs h => by
    rcases h with h | ⟨o, h⟩
    · exact ⟨_, h⟩
    · exact ⟨_, h⟩
def srcT (P : Program) (w : World) (a : Addr) : Src P w a where
  st := fun it i h => h.IsTupleIter it a i
  ok := fun h its => h.IsTuple a its
  sq := fun H xs => Rd H a (.tup xs)
  o := { cls := .type "tuple_iterator", data := .fields #[.ref a, .int 0 0] }
  begins := fun items => begins_tuple a items
  st0 := fun h it e => ⟨_, e, rfl, rfl⟩
  obj := fun it i h ⟨ob, e, _, d⟩ => ⟨ob, e, fun v z => by rw [d] at z; cases z⟩
  keep := fun it i h h' st k => st.at k
  draws := fun A it items hh hne => Draws.tuple hh it a hne items
  inv := fun X _ _ pins σ H s xs I h => by
    obtain ⟨its, rv, p, _⟩ := I.tuple (.inl h)
    exact ⟨its, rv, p, p.lt⟩
  trk := fun H xs h => by
    rcases h with h | ⟨o, h⟩
    · exact ⟨_, h⟩
    · exact ⟨_, h⟩
section
variable {P : Program} {w : World} {a b : Addr}
/-- new pairs (i, x) -/
def ItE (S : Src P w a) (xs : List V) : It :=
  ⟨fun i H => i < xs.length ∧ S.sq H xs, fun i H v H' => ∃ T x, v = .ref T ∧ H T = none ∧ H' = upd H T (.tup [.int (i : Nat), x]) ∧ xs[i]? = some x, fun i H => i = xs.length ∧ S.sq H xs⟩
def ItZ (S : Src P w a) (S2 : Src P w b) (xs ys : List V) : It :=
  ⟨fun i H => i < min xs.length ys.length ∧ S.sq H xs ∧ S2.sq H ys, fun i H v H' => ∃ T x y, v = .ref T ∧ H T = none ∧ H' = upd H T (.tup [x, y]) ∧ xs[i]? = some x ∧ ys[i]? = some y,
    fun i H => i = min xs.length ys.length ∧ S.sq H xs ∧ S2.sq H ys⟩
theorem two_small {x y : V} : [x, y].length ≤ sizeLine := by show 2 ≤ sizeLine; decide
/-- a new pair tracked, an iterator's own records turned -/
theorem pair_in {X : Cx} {pins : List (Addr × Obj)} {σ : Sl} {H : Hp} {s : Shared} {h' : Heap} {tk : Nat} {ch : List Addr} {T : Addr} {x y : V} {u v : Value} (I : Inv X pins σ H s) (hf : ∀ b ∈ ch, FpOk X pins H b)
    (hk : ∀ b o, b ∉ ch → s.heap.get? b = some o → h'.get? b = some o) (hT : s.heap.objs.size ≤ T) (t : h'.IsTuple T #[u, v]) (ru : RelV x u) (rv : RelV y v) :
    Inv X pins σ (upd H T (.tup [x, y])) { s with heap := h', toks := tk } :=
  I.turnedNew (ch := ch) hk hf hT ⟨two_small, [u, v], .cons ru (.cons rv .nil), t⟩
theorem turnE {K : Fr0} {elts : List Expr} {kk : Nat} {tpos : Pos} (S : Src P w a) (xs : List V) (e it : Addr) :
    Turn P w K (.Tuple elts kk tpos) (ItE S xs) [e, it] e (fun i h => (∃ old, IsEnum h e it (0 + ((i : Nat) : Int)) old) ∧ S.st it i h ∧ e ≠ it) where
  mem := List.mem_cons_self
  obj := fun i h st c hc => by
    obtain ⟨⟨old, he⟩, hs, _⟩ := st
    rcases List.mem_cons.mp hc with q | q
    · rw [q]; exact ⟨_, he, fun v z => nomatch z⟩
    · rw [List.mem_singleton.mp q]; exact S.obj it i h hs
  keep := fun i h h' st k => by
    obtain ⟨⟨old, he⟩, hs, hne⟩ := st
    exact ⟨⟨old, k e (by simp) _ he⟩, S.keep it i h h' hs fun ob q => k it (by simp) ob q, hne⟩
  item := by
    intro X h1 h2 h3 hc i pins s σ H E I hf st hg
    obtain ⟨hi, hq⟩ := hg
    obtain ⟨⟨old, he⟩, hs, hne⟩ := st
    obtain ⟨its, rv, hok, ha⟩ := S.inv X h1 h2 pins σ H s xs I hq
    obtain ⟨u0, eu⟩ := S.trk H xs hq
    have nai : a ≠ it := ne_of_none eu (hf it (by simp)).1
    have nae : a ≠ e := ne_of_none eu (hf e (by simp)).1
    have hh : X.A.in1.handled = none := I.ok.hd hc
    have D := S.draws X.A.in1 it its.toArray hh nai
    have W := GoesN.enumFrom (elts := elts) (x1 := kk) (pos := tpos) 0 D e hne (fun z => by
      rcases List.mem_cons.mp z with q | q
      · exact hne q
      · exact nae (List.mem_singleton.mp q).symm) List.mem_cons_self
    have hx : xs[i]? = some xs[i] := List.getElem?_eq_getElem hi
    obtain ⟨u, hu, ru⟩ := rv.get hx
    have hn : i < its.toArray.size := by rw [List.size_toArray, ← rv.length]; exact hi
    refine W.goes i s _ E hn ⟨⟨old, he⟩, hs, hok⟩ fun v h' tk hY st' hk _ => ?_
    obtain ⟨T, t, x, ev, hT, hx2, hTt⟩ := hY
    have ex : x = u := by
      rw [List.getElem?_toArray, hu] at hx2
      exact (Option.some.inj hx2).symm
    subst ex
    have hTn : H T = none := I.hok.fresh hT
    have e0 : (0 : Int) + (i : Int) = i := by omega
    refine ⟨.ref T, _, pair_in (x := .int (i : Nat)) (y := xs[i]) I hf hk hT hTt ⟨t, by rw [e0]⟩ ru, ev, ⟨T, xs[i], rfl, hTn, rfl, hx⟩, ⟨st'.1, st'.2.1, hne⟩, fun c hc => ?_⟩
    rw [upd_ne fun z => ?_]
    · exact (hf c hc).1
    · rcases List.mem_cons.mp hc with q | q
      · exact absurd (Heap.lt_size he) (by rw [← q, z]; exact Nat.not_lt.mpr hT)
      · obtain ⟨ob, eo, _⟩ := S.obj it i _ hs
        exact absurd (Heap.lt_size eo) (by rw [← List.mem_singleton.mp q, z]; exact Nat.not_lt.mpr hT)
  done := by
    intro X h1 h2 h3 hc i pins s σ H E I hf st hg
    obtain ⟨hi, hq⟩ := hg
    obtain ⟨⟨old, he⟩, hs, hne⟩ := st
    obtain ⟨its, rv, hok, ha⟩ := S.inv X h1 h2 pins σ H s xs I hq
    obtain ⟨u0, eu⟩ := S.trk H xs hq
    have nai : a ≠ it := ne_of_none eu (hf it (by simp)).1
    have nae : a ≠ e := ne_of_none eu (hf e (by simp)).1
    have hh : X.A.in1.handled = none := I.ok.hd hc
    have D := S.draws X.A.in1 it its.toArray hh nai
    have W := GoesN.enumFrom (elts := elts) (x1 := kk) (pos := tpos) 0 D e hne (fun z => by
      rcases List.mem_cons.mp z with q | q
      · exact hne q
      · exact nae (List.mem_singleton.mp q).symm) List.mem_cons_self
    have hn : i = its.toArray.size := by rw [List.size_toArray, ← rv.length]; exact hi
    subst hn
    exact W.stops s _ E ⟨⟨old, he⟩, hs, hok⟩ fun h' tk hk _ => I.turnedL (ch := [e, it]) hk hf
  self := fun A i s Q E st h => let ⟨⟨_, he⟩, _⟩ := st; wpAny_pyIter_enum he h

theorem turnZ {K : Fr0} {elts : List Expr} {kk : Nat} {tpos : Pos} (S : Src P w a) (S2 : Src P w b) (xs ys : List V) {z TI TO i1 i2 : Addr} (sp : ZipSep2 z TI TO i1 i2 [i1] [i2]) :
    Turn P w K (.Tuple elts kk tpos) (ItZ S S2 xs ys) [z, TI, TO, i1, i2] z (fun i h => IsZip h z TI TO .none ∧ IsTupOf2 h TI (.ref i1) (.ref i2) ∧ (∃ a1 a2, IsTupOf2 h TO a1 a2) ∧ S.st i1 i h ∧ S2.st i2 i h) where
  mem := List.mem_cons_self
  obj := fun i h st c hc => by
    obtain ⟨hz, hI, ⟨_, _, hO⟩, s1, s2⟩ := st
    simp only [List.mem_cons, List.not_mem_nil, or_false] at hc
    rcases hc with q | q | q | q | q
    · rw [q]; exact ⟨_, hz, fun v z => nomatch z⟩
    · rw [q]; exact ⟨_, hI, fun v z => nomatch z⟩
    · rw [q]; exact ⟨_, hO, fun v z => nomatch z⟩
    · rw [q]; exact S.obj i1 i h s1
    · rw [q]; exact S2.obj i2 i h s2
  keep := fun i h h' st k => by
    obtain ⟨hz, hI, ⟨x, y, hO⟩, s1, s2⟩ := st
    exact ⟨k z (by simp) _ hz, k TI (by simp) _ hI, ⟨x, y, k TO (by simp) _ hO⟩, S.keep i1 i h h' s1 fun ob q => k i1 (by simp) ob q, S2.keep i2 i h h' s2 fun ob q => k i2 (by simp) ob q⟩
  item := by
    intro X h1 h2 h3 hc i pins s σ H E I hf st hg
    obtain ⟨hi, hq, hq2⟩ := hg
    obtain ⟨hz, hI, hO, s1, s2⟩ := st
    obtain ⟨its, rv, hok, ha⟩ := S.inv X h1 h2 pins σ H s xs I hq
    obtain ⟨its2, rv2, hok2, hb⟩ := S2.inv X h1 h2 pins σ H s ys I hq2
    obtain ⟨ua, eua⟩ := S.trk H xs hq
    obtain ⟨ub, eub⟩ := S2.trk H ys hq2
    have na : ∀ c ∈ [z, TI, TO, i1, i2], a ≠ c := fun c hc => ne_of_none eua (hf c hc).1
    have nb : ∀ c ∈ [z, TI, TO, i1, i2], b ≠ c := fun c hc => ne_of_none eub (hf c hc).1
    have hh : X.A.in1.handled = none := I.ok.hd hc
    have D1 := S.draws X.A.in1 i1 its.toArray hh (na i1 (by simp))
    have D2 := S2.draws X.A.in1 i2 its2.toArray hh (nb i2 (by simp))
    have ni : ∀ {c d x : Addr}, c ≠ d → x ≠ c → c ∉ [d, x] := fun h1 h2 hm => by
      rcases List.mem_cons.mp hm with q | q
      · exact h1 q
      · exact h2 (List.mem_singleton.mp q).symm
    have sep : ZipSep2 z TI TO i1 i2 [i1, a] [i2, b] := ⟨sp.TIz, sp.TOz, sp.TITO, sp.TIi1, List.mem_cons_self, ni sp.zi1 (na z (by simp)), ni sp.Ti1 (na TO (by simp)), sp.TIi2, List.mem_cons_self, ni sp.zi2 (nb z (by simp)), ni sp.Ti2 (nb TO (by simp)),
      ni (fun q => sp.sep1_2 (by simp [q])) (nb i1 (by simp)), ni (fun q => sp.sep2_1 (by simp [q])) (na i2 (by simp))⟩
    have W := GoesN.zip2 (elts := elts) (x1 := kk) (pos := tpos) sep D1 D2
    have l1 : i < xs.length := by omega
    have l2 : i < ys.length := by omega
    have hx : xs[i]? = some xs[i] := List.getElem?_eq_getElem l1
    have hy : ys[i]? = some ys[i] := List.getElem?_eq_getElem l2
    obtain ⟨u, hu, ru⟩ := rv.get hx
    obtain ⟨u2, hu2, ru2⟩ := rv2.get hy
    have hn : i < min its.toArray.size its2.toArray.size := by rw [List.size_toArray, List.size_toArray, ← rv.length, ← rv2.length]; exact hi
    refine W.goes i s _ E hn ⟨hz, hI, hO, ⟨s1, hok⟩, ⟨s2, hok2⟩⟩ fun v h' tk hY st' hk _ => ?_
    obtain ⟨T, x, y, ev, hT, hx2, hy2, hTt⟩ := hY
    have ex : x = u := by
      rw [List.getElem?_toArray, hu] at hx2
      exact (Option.some.inj hx2).symm
    have ey : y = u2 := by
      rw [List.getElem?_toArray, hu2] at hy2
      exact (Option.some.inj hy2).symm
    subst ex ey
    have hTn : H T = none := I.hok.fresh hT
    have hk' : ∀ c o, c ∉ [z, TI, TO, i1, i2] → s.heap.get? c = some o → h'.get? c = some o := fun c o hc q => hk c o (fun m => hc (by
      simp only [List.mem_cons, List.not_mem_nil, or_false] at m ⊢
      rcases m with m | m | m | m
      · exact .inl m
      · exact .inr (.inr (.inl m))
      · exact .inr (.inr (.inr (.inl m)))
      · exact .inr (.inr (.inr (.inr m))))) q
    refine ⟨.ref T, _, pair_in (x := xs[i]) (y := ys[i]) I hf hk' hT hTt ru ru2, ev, ⟨T, xs[i], ys[i], rfl, hTn, rfl, hx, hy⟩, ⟨st'.1, st'.2.1, st'.2.2.1, st'.2.2.2.1.1, st'.2.2.2.2.1⟩, fun c hc => ?_⟩
    rw [upd_ne fun q => ?_]
    · exact (hf c hc).1
    · have lt : c < s.heap.objs.size := by
        simp only [List.mem_cons, List.not_mem_nil, or_false] at hc
        rcases hc with m | m | m | m | m
        · rw [m]; exact Heap.lt_size hz
        · rw [m]; exact Heap.lt_size hI
        · rw [m]; obtain ⟨_, _, hO⟩ := hO; exact Heap.lt_size hO
        · rw [m]; obtain ⟨ob, eo, _⟩ := S.obj i1 i _ s1; exact Heap.lt_size eo
        · rw [m]; obtain ⟨ob, eo, _⟩ := S2.obj i2 i _ s2; exact Heap.lt_size eo
      exact absurd lt (by rw [q]; exact Nat.not_lt.mpr hT)
  done := by
    intro X h1 h2 h3 hc i pins s σ H E I hf st hg
    obtain ⟨hi, hq, hq2⟩ := hg
    obtain ⟨hz, hI, hO, s1, s2⟩ := st
    obtain ⟨its, rv, hok, ha⟩ := S.inv X h1 h2 pins σ H s xs I hq
    obtain ⟨its2, rv2, hok2, hb⟩ := S2.inv X h1 h2 pins σ H s ys I hq2
    obtain ⟨ua, eua⟩ := S.trk H xs hq
    obtain ⟨ub, eub⟩ := S2.trk H ys hq2
    have na : ∀ c ∈ [z, TI, TO, i1, i2], a ≠ c := fun c hc => ne_of_none eua (hf c hc).1
    have nb : ∀ c ∈ [z, TI, TO, i1, i2], b ≠ c := fun c hc => ne_of_none eub (hf c hc).1
    have hh : X.A.in1.handled = none := I.ok.hd hc
    have D1 := S.draws X.A.in1 i1 its.toArray hh (na i1 (by simp))
    have D2 := S2.draws X.A.in1 i2 its2.toArray hh (nb i2 (by simp))
    have ni : ∀ {c d x : Addr}, c ≠ d → x ≠ c → c ∉ [d, x] := fun h1 h2 hm => by
      rcases List.mem_cons.mp hm with q | q
      · exact h1 q
      · exact h2 (List.mem_singleton.mp q).symm
    have sep : ZipSep2 z TI TO i1 i2 [i1, a] [i2, b] := ⟨sp.TIz, sp.TOz, sp.TITO, sp.TIi1, List.mem_cons_self, ni sp.zi1 (na z (by simp)), ni sp.Ti1 (na TO (by simp)), sp.TIi2, List.mem_cons_self, ni sp.zi2 (nb z (by simp)), ni sp.Ti2 (nb TO (by simp)),
      ni (fun q => sp.sep1_2 (by simp [q])) (nb i1 (by simp)), ni (fun q => sp.sep2_1 (by simp [q])) (na i2 (by simp))⟩
    have W := GoesN.zip2 (elts := elts) (x1 := kk) (pos := tpos) sep D1 D2
    have hn : i = min its.toArray.size its2.toArray.size := by rw [List.size_toArray, List.size_toArray, ← rv.length, ← rv2.length]; exact hi
    subst hn
    refine W.stops s _ E ⟨hz, hI, hO, ⟨s1, hok⟩, ⟨s2, hok2⟩⟩ fun h' tk hk _ => I.turnedL (ch := [z, TI, TO, i1, i2]) (fun c o hc q => hk c o (fun m => hc (by
      simp only [List.mem_cons, List.not_mem_nil, or_false] at m ⊢
      rcases m with m | m | m | m
      · exact .inl m
      · exact .inr (.inr (.inl m))
      · exact .inr (.inr (.inr (.inl m)))
      · exact .inr (.inr (.inr (.inr m))))) q) hf
  self := fun A i s Q E st h => wpAny_pyIter_zip st.1 h
end

set_option maxHeartbeats 4000000 in
theorem meets_enum1 {v : Value} {o : Obj} {H : Heap → Prop} (B : Begins v o H) :
    Meets (Builtin.«enumerate.__new__» ⟨[.type "enumerate", v], []⟩) (fun _ R s => H s.heap ∧
      R (.ok (.ret (.ref (s.heap.push o).objs.size))) { s with heap := (s.heap.push o).push { cls := .type "enumerate", data := .fields #[.none, .bool false, .ref s.heap.objs.size, rawInt 0, .none, .none] } }) :=
  .of_wp fun prog w A R s h => by
    obtain ⟨hp, g, d, tk, os⟩ := s
    obtain ⟨h1, h⟩ := h
    have hsub := sub_enumerate
    have q1 : ∀ {A' : Around} {E : Value → Shared → Prop} {Q : Value → Shared → Prop}, Q (.ref hp.objs.size) ⟨hp.push o, g, d, tk, os⟩ →
        wpAny (model prog w) A' (pyIter v) Q E ⟨hp, g, d, tk, os⟩ := fun q => B.iter prog w _ _ ⟨hp, g, d, tk, os⟩ _ h1 q
    wp_walk using q1
    refine wpAny_stack_any fun st => wpAny_pure ?_
    split
    · rename_i c _ _ _ _ _
      cases (c == Value.type "enumerate") <;> (wp_walk using q1; exact ⟨_, rfl, h⟩)
    · wp_walk using q1
      exact ⟨_, rfl, h⟩
theorem enum1_begins {prog : Program} {w : World} {A : Around} {E : Value → Shared → Prop} {s : Shared} {v : Value} {o : Obj} {H : Heap → Prop} {Q : Value → Shared → Prop} (B : Begins v o H) (h1 : H s.heap)
    (h : ∀ h', IsEnum h' (s.heap.objs.size + 1) s.heap.objs.size 0 .none → h'.get? s.heap.objs.size = some o → (∀ b o, s.heap.get? b = some o → h'.get? b = some o) → Q (.ref (s.heap.objs.size + 1)) { s with heap := h' }) :
    wpAny (model prog w) A (call (.type "enumerate") [v]) Q E s := by
  refine callType_new F.called_enumerate (by decide) (F.typeCall_enumerate_1 _) (F.newCall_enumerate_1 _) (fun obj => F.args_object_init_2 obj _) F.entry_enumerate_new (meets_enum1 B) ⟨h1, ?_⟩
  have hz : (s.heap.push o).objs.size = s.heap.objs.size + 1 := Heap.size_push ..
  show _ ∧ _
  rw [hz]
  have he : IsEnum ((s.heap.push o).push { cls := .type "enumerate", data := .fields #[.none, .bool false, .ref s.heap.objs.size, rawInt 0, .none, .none] }) (s.heap.objs.size + 1) s.heap.objs.size 0 .none := by
    have q := Heap.get?_push_size (s.heap.push o) (o := { cls := .type "enumerate", data := .fields #[.none, .bool false, .ref s.heap.objs.size, rawInt 0, .none, .none] }) rfl
    rw [hz] at q
    exact q
  exact ⟨⟨_, he, rfl⟩, h _ he (Heap.get?_push_of_some _ (Heap.get?_push_size _ B.free)) fun b o x => Heap.get?_push_of_some _ (Heap.get?_push_of_some _ x)⟩
end FL
namespace FL
open PySem PySem.Spec PyProof.Rows L2

section
variable {X : Cx} {Er : XK} {tg : Expr} {pos : Pos}
/-! ### iterators over a list, a tuple, a text -/
def iAny (K : Fr0) (tl : TE) : TI := fun σ H R => tl σ H fun x H1 => (∃ a xs, x = .ref a ∧ SqL K H1 a xs ∧ R (Itl K a) H1) ∨ (∃ a xs, x = .ref a ∧ SqT K H1 a xs ∧ R (Itt K a) H1) ∨ ∃ z, x = .str z ∧ R (Its z) H1
theorem pi_any {l : Expr} {tl : TE} (hl : PE X l tl) : PI X tg l (iAny X.K tl) := by
  refine ⟨fun pins s σ H R I h => ?_⟩
  refine thn (hl.run pins s σ H _ I h) fun v s1 ⟨x, H1, I1, r1, q1⟩ => ?_
  rcases q1 with ⟨a, xs, e, hq, q⟩ | ⟨a, xs, e, hq, q⟩ | ⟨z, e, q⟩
  · subst e
    cases r1
    obtain ⟨its, rv, p, hz⟩ := I1.list hq
    exact wpAny_pyIter_list p.isList (pi_one (tk := s1.toks) I1 _ (turn_list a _) ⟨_, Heap.get?_push_size _ rfl, rfl, rfl⟩ q)
  · subst e
    cases r1
    obtain ⟨its, rv, p, hz⟩ := I1.tuple hq
    exact wpAny_pyIter_tuple (show s1.heap.IsTuple a its.toArray from p) (pi_one (tk := s1.toks) I1 _ (turn_tuple a _) ⟨_, Heap.get?_push_size _ rfl, rfl, rfl⟩ q)
  · subst e
    obtain ⟨t, rfl⟩ := r1
    cases ha : z.cps.all (· < 128) with
    | false => exact wpAny_pyIter_wide ha (pi_one (tk := s1.toks) I1 _ (turn_str _ z t "str_iterator" (.inr rfl)) ⟨_, Heap.get?_push_size _ rfl, rfl, rfl⟩ q)
    | true => exact wpAny_pyIter_ascii ha (pi_one (tk := s1.toks) I1 _ (turn_str _ z t "str_ascii_iterator" (.inl rfl)) ⟨_, Heap.get?_push_size _ rfl, rfl, rfl⟩ q)
/-- a list or a tuple with its Src -/
inductive SrcOf (P : Program) (w : World) (H : Hp) (a : Addr) (xs : List V) : Src P w a → Prop
  | l (h : Rd H a (.lst xs)) : SrcOf P w H a xs (srcL P w a)
  | t (h : Rd H a (.tup xs)) : SrcOf P w H a xs (srcT P w a)
theorem SrcOf.sq {P : Program} {w : World} {H : Hp} {a : Addr} {xs : List V} {S : Src P w a} (h : SrcOf P w H a xs S) : S.sq H xs := by
  cases h with
  | l h => exact h
  | t h => exact h
def iEnumS (P : Program) (w : World) (ta : TA) : TI := fun σ H R => ta σ H fun vs H1 => ∃ (a : Addr) (xs : List V) (S : Src P w a), vs = [.ref a] ∧ SrcOf P w H1 a xs S ∧ R (ItE S xs) H1
theorem pi_enumS {e : Expr} {ta : TA} {p tpos : Pos} {elts : List Expr} {kk : Nat} (hg : Gl X "enumerate") (hm : X.mg "enumerate" = none) (ha : PA X [e] ta) (hs : starEach [e] X.env = [(false, eval e X.env)] := by rfl) :
    PI X (.Tuple elts kk tpos) (.Call (.Name "enumerate" p) [e] [] pos) (iEnumS X.prog X.w ta) := by
  refine ⟨fun pins s σ H R I h => Call_ (ld_blt I hg hm boot_enumerate (PyProof.Rows.callWith_type1 (thn (ha.run pos pins s σ H _ I h) fun us s1 ⟨vs, H1, I1, r1, q1⟩ => ?_) hs rfl))⟩
  obtain ⟨a, xs, S, ex, sq, q⟩ := q1
  subst ex
  cases r1 with
  | cons r rr =>
    cases rr
    cases r
    obtain ⟨its, rv, hok, ha⟩ := S.inv X rfl rfl pins σ H1 s1 xs I1 sq.sq
    refine enum1_begins (S.begins its.toArray) hok fun h' he ho hk => wpAny_pyIter_enum he ?_
    have fr : ∀ b ∈ [s1.heap.objs.size + 1, s1.heap.objs.size], FpOk X pins H1 b := fun b hb => by
      have hle : s1.heap.objs.size ≤ b := by
        rcases List.mem_cons.mp hb with z | z
        · rw [z]; exact Nat.le_add_right _ _
        · rw [List.mem_singleton.mp z]; exact Nat.le_refl _
      exact I1.fpOk hle (I1.hok.fresh hle)
    exact ⟨_, _, _, _, H1, rfl, I1.kept (t' := s1.toks) hk, turnE S xs (s1.heap.objs.size + 1) s1.heap.objs.size, ⟨⟨.none, he⟩, S.st0 _ _ ho, Nat.succ_ne_self _⟩, fr, q⟩
def iZipS (P : Program) (w : World) (ta : TA) : TI := fun σ H R => ta σ H fun vs H1 => ∃ (a b : Addr) (xs ys : List V) (S : Src P w a) (S2 : Src P w b), vs = [.ref a, .ref b] ∧ SrcOf P w H1 a xs S ∧ SrcOf P w H1 b ys S2 ∧ R (ItZ S S2 xs ys) H1
theorem pi_zipS {e e2 : Expr} {ta : TA} {p tpos : Pos} {elts : List Expr} {kk : Nat} (hg : Gl X "zip") (hm : X.mg "zip" = none) (ha : PA X [e, e2] ta)
    (hs : starEach [e, e2] X.env = (false, eval e X.env) :: starEach [e2] X.env := by rfl) (hpl : (backTo pos (starEach [e2] X.env)).any (·.1) = false := by rfl) :
    PI X (.Tuple elts kk tpos) (.Call (.Name "zip" p) [e, e2] [] pos) (iZipS X.prog X.w ta) := by
  refine ⟨fun pins s σ H R I h => Call_ (ld_blt I hg hm PyProof.Rows.boot_zip (PyProof.Rows.callWith_type1 (thn (ha.run pos pins s σ H _ I h) fun us s1 ⟨vs, H1, I1, r1, q1⟩ => ?_) hs hpl))⟩
  obtain ⟨a, b, xs, ys, S, S2, ex, sq, sq2, q⟩ := q1
  subst ex
  obtain ⟨u, w', rfl, ru, rw'⟩ := vals2 r1
  cases ru
  cases rw'
  obtain ⟨its, rv, hok, ha⟩ := S.inv X rfl rfl pins σ H1 s1 xs I1 sq.sq
  obtain ⟨its2, rv2, hok2, hb⟩ := S2.inv X rfl rfl pins σ H1 s1 ys I1 sq2.sq
  refine zip_begins2 (S.begins its.toArray) (S2.begins its2.toArray) hok hok2 fun h' hz hI hO ho1 ho2 _ hk => wpAny_pyIter_zip hz ?_
  have fr : ∀ c ∈ [s1.heap.objs.size + 4, s1.heap.objs.size + 2, s1.heap.objs.size + 3, s1.heap.objs.size, s1.heap.objs.size + 1], FpOk X pins H1 c := fun c hc => by
    have hle : s1.heap.objs.size ≤ c := by
      simp only [List.mem_cons, List.not_mem_nil, or_false] at hc
      rcases hc with z | z | z | z | z <;> (rw [z]; first | exact Nat.le_refl _ | exact Nat.le_add_right _ _)
    exact I1.fpOk hle (I1.hok.fresh hle)
  exact ⟨_, _, _, _, H1, rfl, I1.kept (t' := s1.toks) hk, turnZ S S2 xs ys (zip_sep2 (fp1 := []) (fp2 := []) (fun _ z => nomatch z) (fun _ z => nomatch z)), ⟨hz, hI, ⟨_, _, hO⟩, S.st0 _ _ ho1, S2.st0 _ _ ho2⟩, fr, q⟩

/-! ### the same over data -/
theorem Reps.get {K : Fr0} {Z : Hp} : ∀ {vs : List V} {ds : List D} {i : Nat} {d : D}, Reps K Z vs ds → ds[i]? = some d → ∃ v, vs[i]? = some v ∧ Rep K Z v d
  | _, _, _, _, .nil, h => by cases h
  | _, _, 0, _, .cons r _, h => by cases h; exact ⟨_, rfl, r⟩
  | _, _, i + 1, _, .cons _ t, h => Reps.get (i := i) t h
def chD (c : Nat) : D := .str ⟨#[c]⟩
def itemsD : D → Option (List D)
  | .lst xs => some xs
  | .tup xs => some xs
  | .frl xs => some xs
  | .str z => some (z.cps.toList.map chD)
  | _ => none
/-- a settled value's items -/
def itK (f : D → Option (List D)) (e : En) (Q : List D → En → Prop) : Tk → Prop
  | .val d => match f d with
    | some xs => Q xs e
    | none => False
  | _ => False
theorem itK.mono {f : D → Option (List D)} {e : En} {Q Q' : List D → En → Prop} {t : Tk} (hQ : ∀ x e, Q x e → Q' x e) (h : itK f e Q t) : itK f e Q' t := by
  cases t with
  | val d =>
    unfold itK at h ⊢
    dsimp only at h ⊢
    split at h
    · exact hQ _ _ h
    · exact h.elim
  | loc i => exact h
  | new c => exact h
theorem itK.get {f : D → Option (List D)} {e : En} {Q : List D → En → Prop} {t : Tk} (h : itK f e Q t) : ∃ d xs, t = .val d ∧ f d = some xs ∧ Q xs e := by
  cases t with
  | val d =>
    unfold itK at h
    dsimp only at h
    split at h
    · rename_i xs ex; exact ⟨d, xs, rfl, ex, h⟩
    · exact h.elim
  | loc i => exact h.elim
  | new c => exact h.elim
theorem itl_ok {K : Fr0} {Z : Hp} {a : Addr} {vs : List V} {ds : List D} (h : SqL K Z a vs) (r : Reps K Z vs ds) : ItOk K Z (Itl K a) ds := fun Z' H' s zh => by
  have q : SqL K H' a vs := sqL_mono zh (sqL_mono s h)
  refine ⟨fun i d hd => ?_, vs, q, by rw [r.length]; exact Nat.le_refl _⟩
  obtain ⟨v, ev, rv⟩ := r.get hd
  exact ⟨⟨vs, v, q, ev⟩, fun x H3 ⟨e3, y⟩ => .inl ⟨e3, by
    have := y vs q
    rw [ev] at this
    cases this
    exact rv.mono s⟩⟩
theorem itt_ok {K : Fr0} {Z : Hp} {a : Addr} {vs : List V} {ds : List D} (h : SqT K Z a vs) (r : Reps K Z vs ds) : ItOk K Z (Itt K a) ds := fun Z' H' s zh => by
  have q : SqT K H' a vs := sqT_mono zh (sqT_mono s h)
  refine ⟨fun i d hd => ?_, vs, q, by rw [r.length]; exact Nat.le_refl _⟩
  obtain ⟨v, ev, rv⟩ := r.get hd
  exact ⟨⟨vs, v, q, ev⟩, fun x H3 ⟨e3, y⟩ => .inl ⟨e3, by
    have := y vs q
    rw [ev] at this
    cases this
    exact rv.mono s⟩⟩
theorem its_ok {K : Fr0} {Z : Hp} {z : Str} : ItOk K Z (Its z) (z.cps.toList.map chD) := fun Z' H' s zh => by
  refine ⟨fun i d hd => ?_, by show z.cps.size ≤ _; simp⟩
  rw [List.getElem?_map] at hd
  cases ec : z.cps.toList[i]? with
  | none => rw [ec] at hd; cases hd
  | some c =>
    rw [ec] at hd
    cases hd
    have lt : i < z.cps.size := by
      have := (List.getElem?_eq_some_iff.mp ec).1
      simpa using this
    refine ⟨lt, fun x H3 ⟨e3, c', hc', ex⟩ => .inl ⟨e3, ?_⟩⟩
    rw [Array.getElem?_toList] at ec
    rw [ec] at hc'
    cases hc'
    rw [ex]
    exact .str _
theorem ite_ok {P : Program} {w : World} {K : Fr0} {Z : Hp} {a : Addr} {vs : List V} {ds es : List D} {S : Src P w a} (h : ∀ Z' H', Same Z Z' → Same Z' H' → S.sq H' vs) (r : Reps K Z vs ds) (hl : es.length = ds.length)
    (he : ∀ (i : Nat) d, ds[i]? = some d → es[i]? = some (.tup [.int (i : Nat), d])) : ItOk K Z (ItE S vs) es := fun Z' H' s zh => by
  have q := h Z' H' s zh
  refine ⟨fun i d hd => ?_, ⟨by rw [hl, r.length], q⟩⟩
  have li : i < ds.length := by rw [← hl]; exact (List.getElem?_eq_some_iff.mp hd).1
  obtain ⟨v, ev, rv⟩ := r.get (List.getElem?_eq_getElem li)
  have e2 := he i _ (List.getElem?_eq_getElem li)
  rw [hd] at e2
  cases e2
  refine ⟨⟨by rw [r.length]; exact li, q⟩, fun x H3 ⟨T, y, ex, hT, e3, hy⟩ => .inr ⟨T, _, _, ex, rfl, hT, e3, ?_⟩⟩
  rw [ev] at hy
  cases hy
  exact .cons (.int _) (.cons (rv.mono s) .nil)
theorem itz_ok {P : Program} {w : World} {K : Fr0} {Z : Hp} {a b : Addr} {vs vs2 : List V} {ds ds2 : List D} {S : Src P w a} {S2 : Src P w b} (h : ∀ Z' H', Same Z Z' → Same Z' H' → S.sq H' vs) (h2 : ∀ Z' H', Same Z Z' → Same Z' H' → S2.sq H' vs2) (r : Reps K Z vs ds) (r2 : Reps K Z vs2 ds2) :
    ItOk K Z (ItZ S S2 vs vs2) (List.zipWith (fun x y => D.tup [x, y]) ds ds2) := fun Z' H' s zh => by
  have q := h Z' H' s zh
  have q2 := h2 Z' H' s zh
  refine ⟨fun i d hd => ?_, ⟨by rw [List.length_zipWith, r.length, r2.length], q, q2⟩⟩
  have li := (List.getElem?_eq_some_iff.mp hd).1
  rw [List.length_zipWith] at li
  have l1 : i < ds.length := by omega
  have l2 : i < ds2.length := by omega
  obtain ⟨v, ev, rv⟩ := r.get (List.getElem?_eq_getElem l1)
  obtain ⟨v2, ev2, rv2⟩ := r2.get (List.getElem?_eq_getElem l2)
  rw [List.getElem?_zipWith, List.getElem?_eq_getElem l1, List.getElem?_eq_getElem l2] at hd
  cases hd
  refine ⟨⟨by rw [r.length, r2.length]; exact li, q, q2⟩, fun x H3 ⟨T, y, y2, ex, hT, e3, hy, hy2⟩ => .inr ⟨T, _, _, ex, rfl, hT, e3, ?_⟩⟩
  rw [ev] at hy
  rw [ev2] at hy2
  cases hy
  cases hy2
  exact .cons (rv.mono s) (.cons (rv2.mono s) .nil)
variable {a b : Expr} {wa : WE} {wr : WA}
def wSq (w : WE) : WI := fun env Q x => (fun (_ : Unit) => w env (fun t e => itK itemsD e Q t) x) hi4
theorem i_seq (ha : EJ X Er a wa) : IJ X Er tg a (wSq wa) := by
  refine ⟨pi_imp (pi_any ha.pe) fun σ H R h => ?_, fun env Q Q' x x' hQ hx h => ha.mono _ _ _ _ _ (fun t e h1 => itK.mono hQ h1) hx h⟩
  obtain ⟨G, Z, env, hh, h⟩ := h
  refine ⟨G, Z, env, hh, ha.mono _ _ _ _ _ (fun t e h1 Z1 H1 v s1 p1 => ?_) (fun _ _ q => q) h⟩
  obtain ⟨d, xs, rfl, ex, q⟩ := h1.get
  obtain ⟨hd, r⟩ := p1
  cases r with
  | lst hz rs => cases ex; exact .inl ⟨_, _, rfl, .of (hd.zh _ _ hz), q Z1 H1 _ s1 hd (itl_ok (.of hz) rs)⟩
  | frl hz rs => cases ex; exact .inl ⟨_, _, rfl, sqL_mono hd.zh hz, q Z1 H1 _ s1 hd (itl_ok hz rs)⟩
  | tup hz rs => cases ex; exact .inr (.inl ⟨_, _, rfl, .inl (rd_mono hd.zh hz), q Z1 H1 _ s1 hd (itt_ok (.inl hz) rs)⟩)
  | str z => cases ex; exact .inr (.inr ⟨_, rfl, q Z1 H1 _ s1 hd its_ok⟩)
  | _ => cases ex
/-- items of what enumerate, zip take here -/
def items2 : D → Option (List D)
  | .lst xs => some xs
  | .tup xs => some xs
  | _ => none
theorem items2.src {K : Fr0} {P : Program} {w : World} {Z : Hp} {v : V} {d : D} {xs : List D} (r : Rep K Z v d) (h : items2 d = some xs) : ∃ (a : Addr) (vs : List V) (S : Src P w a), v = .ref a ∧ Reps K Z vs xs ∧ ∀ Z' H', Same Z Z' → Same Z' H' → SrcOf P w H' a vs S := by
  cases r with
  | lst hz rs => cases h; exact ⟨_, _, srcL P w _, rfl, rs, fun Z' H' s zh => .l (.inl (zh _ _ (s _ _ hz)))⟩
  | tup hz rs => cases h; exact ⟨_, _, srcT P w _, rfl, rs, fun Z' H' s zh => .t (rd_mono zh (rd_mono s hz))⟩
  | _ => cases h
def enumD : Nat → List D → List D
  | _, [] => []
  | i, x :: r => .tup [.int (i : Nat), x] :: enumD (i + 1) r
theorem enumD_length : ∀ (k : Nat) (xs : List D), (enumD k xs).length = xs.length
  | _, [] => rfl
  | k, x :: r => by rw [enumD, List.length_cons, List.length_cons, enumD_length]
theorem enumD_get : ∀ (k : Nat) (xs : List D) (i : Nat) (d : D), xs[i]? = some d → (enumD k xs)[i]? = some (.tup [.int ((k + i : Nat) : Int), d])
  | _, [], _, _, h => by cases h
  | k, x :: r, 0, d, h => by cases h; rfl
  | k, x :: r, i + 1, d, h => by
    have := enumD_get (k + 1) r i d h
    rw [show k + 1 + i = k + (i + 1) by omega] at this
    exact this
/-- arguments that are settled -/
def valsK (ts : List Tk) (e : En) (Q : List D → En → Prop) : Prop := match vals ts with
  | some ds => Q ds e
  | none => False
theorem valsK.mono {ts : List Tk} {e : En} {Q Q' : List D → En → Prop} (hQ : ∀ x e, Q x e → Q' x e) (h : valsK ts e Q) : valsK ts e Q' := by
  unfold valsK at h ⊢
  split at h
  · exact hQ _ _ h
  · exact h.elim
def enK (Q : List D → En → Prop) (e : En) : List D → Prop
  | [d] => match items2 d with
    | some xs => Q (enumD 0 xs) e
    | none => False
  | _ => False
def ziK (Q : List D → En → Prop) (e : En) : List D → Prop
  | [d, d2] => match items2 d, items2 d2 with
    | some xs, some ys => Q (List.zipWith (fun x y => D.tup [x, y]) xs ys) e
    | _, _ => False
  | _ => False
def wEnum (wr : WA) : WI := fun env Q x => (fun (_ : Unit) => wr env (fun ts e => valsK ts e fun ds e => enK Q e ds) x) hi4
def wZip (wr : WA) : WI := fun env Q x => (fun (_ : Unit) => wr env (fun ts e => valsK ts e fun ds e => ziK Q e ds) x) hi4
theorem enK.mono {Q Q' : List D → En → Prop} {e : En} {ds : List D} (hQ : ∀ x e, Q x e → Q' x e) (h : enK Q e ds) : enK Q' e ds := by
  unfold enK at h ⊢
  split at h
  · split at h
    · exact hQ _ _ h
    · exact h.elim
  · exact h.elim
theorem ziK.mono {Q Q' : List D → En → Prop} {e : En} {ds : List D} (hQ : ∀ x e, Q x e → Q' x e) (h : ziK Q e ds) : ziK Q' e ds := by
  unfold ziK at h ⊢
  split at h
  · split at h
    · exact hQ _ _ h
    · exact h.elim
  · exact h.elim
theorem i_enum {e : Expr} (ha : AJ X Er [a] wr) (hp : PI X tg e (iEnumS X.prog X.w (TAw X.K Er wr))) : IJ X Er tg e (wEnum wr) := by
  refine ⟨pi_imp hp fun σ H R h => ?_, fun env Q Q' x x' hQ hx h => ha.mono _ _ _ _ _ (fun t e h1 => valsK.mono (fun ds e h2 => enK.mono hQ h2) h1) hx h⟩
  obtain ⟨G, Z, env, hh, h⟩ := h
  refine ⟨G, Z, env, hh, ha.mono _ _ _ _ _ (fun ts e h1 Z1 H1 vs s1 p1 => ?_) (fun _ _ q => q) h⟩
  unfold valsK at h1
  split at h1
  · rename_i ds ed
    obtain ⟨hd, rs⟩ := p1.vals ed
    unfold enK at h1
    split at h1
    · split at h1
      · rename_i d xs ex
        cases rs with
        | cons r rr =>
          cases rr
          obtain ⟨c, us, S, ev, ru, sq⟩ := items2.src (P := X.prog) (w := X.w) r ex
          subst ev
          exact ⟨c, us, S, rfl, sq Z1 H1 (.refl _) hd.zh, h1 Z1 H1 _ s1 hd (ite_ok (fun Z' H' s zh => (sq Z' H' s zh).sq) ru (enumD_length 0 xs) fun i d q => by
            have := enumD_get 0 xs i d q
            rw [Nat.zero_add] at this
            exact this)⟩
      · exact h1.elim
    · exact h1.elim
  · exact h1.elim
theorem i_zip {e : Expr} (ha : AJ X Er [a, b] wr) (hp : PI X tg e (iZipS X.prog X.w (TAw X.K Er wr))) : IJ X Er tg e (wZip wr) := by
  refine ⟨pi_imp hp fun σ H R h => ?_, fun env Q Q' x x' hQ hx h => ha.mono _ _ _ _ _ (fun t e h1 => valsK.mono (fun ds e h2 => ziK.mono hQ h2) h1) hx h⟩
  obtain ⟨G, Z, env, hh, h⟩ := h
  refine ⟨G, Z, env, hh, ha.mono _ _ _ _ _ (fun ts e h1 Z1 H1 vs s1 p1 => ?_) (fun _ _ q => q) h⟩
  unfold valsK at h1
  split at h1
  · rename_i ds ed
    obtain ⟨hd, rs⟩ := p1.vals ed
    unfold ziK at h1
    split at h1
    · split at h1
      · rename_i d d2 xs ys ex ey
        cases rs with
        | cons r rr =>
          cases rr with
          | cons r2 rr =>
            cases rr
            obtain ⟨c, us, S, ev, ru, sq⟩ := items2.src (P := X.prog) (w := X.w) r ex
            obtain ⟨c2, us2, S2, ev2, ru2, sq2⟩ := items2.src (P := X.prog) (w := X.w) r2 ey
            subst ev ev2
            exact ⟨c, c2, us, us2, S, S2, rfl, sq Z1 H1 (.refl _) hd.zh, sq2 Z1 H1 (.refl _) hd.zh, h1 Z1 H1 _ s1 hd (itz_ok (fun Z' H' s zh => (sq Z' H' s zh).sq) (fun Z' H' s zh => (sq2 Z' H' s zh).sq) ru ru2)⟩
      · exact h1.elim
    · exact h1.elim
  · exact h1.elim
/-! ### ranges -/
def rangeD (lo : Int) (n : Nat) : List D := (List.range n).map fun i => .int (lo + (i : Nat))
def rangeC (lo c : Int) (n : Nat) : List D := (List.range n).map fun i => .int (lo + (i : Nat) * c)
theorem itr_ok {K : Fr0} {Z : Hp} {lo : Int} {n : Nat} : ItOk K Z (Itr lo n) (rangeD lo n) := fun Z' H' s zh => by
  refine ⟨fun i d hd => ?_, by show n ≤ _; simp [rangeD]⟩
  have li := (List.getElem?_eq_some_iff.mp hd).1
  simp [rangeD] at li
  simp [rangeD, li] at hd
  subst hd
  exact ⟨li, fun x H3 ⟨e3, ex⟩ => .inl ⟨e3, by rw [ex]; exact .int _⟩⟩
theorem itc_ok {K : Fr0} {Z : Hp} {lo c : Int} {n : Nat} : ItOk K Z (Itc lo c n) (rangeC lo c n) := fun Z' H' s zh => by
  refine ⟨fun i d hd => ?_, by show n ≤ _; simp [rangeC]⟩
  have li := (List.getElem?_eq_some_iff.mp hd).1
  simp [rangeC] at li
  simp [rangeC, li] at hd
  subst hd
  exact ⟨li, fun x H3 ⟨e3, ex⟩ => .inl ⟨e3, by rw [ex]; exact .int _⟩⟩
/-- an index that a range takes -/
def small (i : Int) : Prop := -(2 ^ 62) ≤ i ∧ i < 2 ^ 62
def rgK (Q : List D → En → Prop) (e : En) : List D → Prop
  | [.int j] => small j ∧ Q (rangeD 0 j.toNat) e
  | [.int i, .int j] => small i ∧ small j ∧ Q (rangeD i (j - i).toNat) e
  | [.int i, .int j, .int c] => c = -1 ∧ small i ∧ small j ∧ Q (rangeC i (-1) (i - j).toNat) e
  | _ => False
theorem rgK.mono {Q Q' : List D → En → Prop} {e : En} {ds : List D} (hQ : ∀ x e, Q x e → Q' x e) (h : rgK Q e ds) : rgK Q' e ds := by
  unfold rgK at h ⊢
  split at h
  · exact ⟨h.1, hQ _ _ h.2⟩
  · exact ⟨h.1, h.2.1, hQ _ _ h.2.2⟩
  · exact ⟨h.1, h.2.1, h.2.2.1, hQ _ _ h.2.2.2⟩
  · exact h.elim
def wRng (wr : WA) : WI := fun env Q x => (fun (_ : Unit) => wr env (fun ts e => valsK ts e fun ds e => rgK Q e ds) x) hi4
theorem wRng.mono (ha : MonoE wr) : MonoE (wRng wr) := fun env Q Q' x x' hQ hx h => ha _ _ _ _ _ (fun t e h1 => valsK.mono (fun ds e h2 => rgK.mono hQ h2) h1) hx h
theorem reps_ints {K : Fr0} {Z : Hp} : ∀ {is : List Int} {vs : List V}, Reps K Z vs (is.map D.int) → vs = is.map V.int
  | [], _, .nil => rfl
  | i :: is, _, .cons r t => by cases r; rw [reps_ints t]; rfl
theorem rng_read {ti : TI} {k : Nat} (hm : MonoE wr) (hp : ∀ σ H R, TAw X.K Er wr σ H (fun vs H1 => (∃ j : Int, k = 1 ∧ vs = [.int j] ∧ small j ∧ R (Itr 0 j.toNat) H1) ∨ (∃ i j : Int, k = 2 ∧ vs = [.int i, .int j] ∧ small i ∧ small j ∧ R (Itr i (j - i).toNat) H1) ∨
      (∃ i j : Int, k = 3 ∧ vs = [.int i, .int j, .int (-1)] ∧ small i ∧ small j ∧ R (Itc i (-1) (i - j).toNat) H1)) → ti σ H R)
    (hk : ∀ env Q x, wr env Q x → wr env (fun ts e => ts.length = k ∧ Q ts e) x) (σ : Sl) (H : Hp) (R : It → Hp → Prop) (h : TIw X.K Er (wRng wr) σ H R) : ti σ H R := by
  refine hp σ H R ?_
  obtain ⟨G, Z, env, hh, h⟩ := h
  refine ⟨G, Z, env, hh, hm _ _ _ _ _ (fun ts e h1 Z1 H1 vs s1 p1 => ?_) (fun _ _ q => q) (hk _ _ _ h)⟩
  obtain ⟨lk, h1⟩ := h1
  unfold valsK at h1
  split at h1
  · rename_i ds ed
    obtain ⟨hd, rs⟩ := p1.vals ed
    have vl : ∀ {ts : List Tk} {ds : List D}, vals ts = some ds → ds.length = ts.length := by
      intro ts
      induction ts with
      | nil => intro ds e; cases e; rfl
      | cons t ts ih => intro ds e; obtain ⟨d, ds', _, e', e2⟩ := vals_cons e; rw [e2, List.length_cons, List.length_cons, ih e']
    have lk2 := (vl ed).trans lk
    unfold rgK at h1
    split at h1
    · rename_i j
      exact .inl ⟨j, lk2.symm, reps_ints (is := [j]) rs, h1.1, h1.2 Z1 H1 _ s1 hd itr_ok⟩
    · rename_i i j
      exact .inr (.inl ⟨i, j, lk2.symm, reps_ints (is := [i, j]) rs, h1.1, h1.2.1, h1.2.2 Z1 H1 _ s1 hd itr_ok⟩)
    · rename_i i j c
      obtain ⟨ec, h1⟩ := h1
      subst ec
      exact .inr (.inr ⟨i, j, lk2.symm, reps_ints (is := [i, j, -1]) rs, h1.1, h1.2.1, h1.2.2 Z1 H1 _ s1 hd itc_ok⟩)
    · exact h1.elim
  · exact h1.elim
theorem a_len1 {wa : WE} : ∀ env Q x, wACons wa wANil env Q x → MonoE wa → wACons wa wANil env (fun ts e => ts.length = 1 ∧ Q ts e) x := fun env Q x h m => m _ _ _ _ _ (fun t e q => ⟨rfl, q⟩) (fun _ _ q => q) h
theorem i_rng1 {p : Pos} (hg : Gl X "range") (hm : X.mg "range" = none) (ha : EJ X Er a wa) (hp : AJ X Er [a] (wACons wa wANil)) (hs : starEach [a] X.env = [(false, eval a X.env)] := by rfl) : IJ X Er tg (.Call (.Name "range" p) [a] [] pos) (wRng (wACons wa wANil)) := by
  refine ⟨pi_imp (pi_range1 hg hm hp.pa hs) (rng_read (k := 1) hp.mono (fun σ H R h => ?_) fun env Q x h => a_len1 env Q x h ha.mono), wRng.mono hp.mono⟩
  obtain ⟨G, Z, env, hh, h⟩ := h
  refine ⟨G, Z, env, hh, hp.mono _ _ _ _ _ (fun ts e h1 Z1 H1 vs s1 p1 => ?_) (fun _ _ q => q) h⟩
  rcases h1 Z1 H1 vs s1 p1 with ⟨j, _, e, s, q⟩ | ⟨_, _, z, _⟩ | ⟨_, _, z, _⟩
  · exact ⟨j, e, s.1, s.2, q⟩
  · cases z
  · cases z
theorem i_rng2 {p : Pos} {wb : WE} (hg : Gl X "range") (hm : X.mg "range" = none) (ha : EJ X Er a wa) (hb : EJ X Er b wb) (hp : AJ X Er [a, b] (wACons wa (wACons wb wANil))) (hs : starEach [a, b] X.env = [(false, eval a X.env), (false, eval b X.env)] := by rfl) (hs2 : starEach [b] X.env = [(false, eval b X.env)] := by rfl) :
    IJ X Er tg (.Call (.Name "range" p) [a, b] [] pos) (wRng (wACons wa (wACons wb wANil))) := by
  refine ⟨pi_imp (pi_range2 hg hm hp.pa hs hs2) (rng_read (k := 2) hp.mono (fun σ H R h => ?_) fun env Q x h => ha.mono _ _ _ _ _ (fun t e q => hb.mono _ _ _ _ _ (fun t e q => ⟨rfl, q⟩) (fun _ _ q => q) q) (fun _ _ q => q) h), wRng.mono hp.mono⟩
  obtain ⟨G, Z, env, hh, h⟩ := h
  refine ⟨G, Z, env, hh, hp.mono _ _ _ _ _ (fun ts e h1 Z1 H1 vs s1 p1 => ?_) (fun _ _ q => q) h⟩
  rcases h1 Z1 H1 vs s1 p1 with ⟨_, z, _⟩ | ⟨i, j, _, e, s, s2, q⟩ | ⟨_, _, z, _⟩
  · cases z
  · exact ⟨i, j, e, ⟨s.1, s.2, s2.1, s2.2⟩, q⟩
  · cases z
theorem i_rng3 {p : Pos} {c : Expr} {wb wc : WE} (hg : Gl X "range") (hm : X.mg "range" = none) (ha : EJ X Er a wa) (hb : EJ X Er b wb) (hc : EJ X Er c wc) (hp : AJ X Er [a, b, c] (wACons wa (wACons wb (wACons wc wANil))))
    (hs : starEach [a, b, c] X.env = (false, eval a X.env) :: starEach [b, c] X.env := by rfl) (hpl : (backTo pos (starEach [b, c] X.env)).any (·.1) = false := by rfl) :
    IJ X Er tg (.Call (.Name "range" p) [a, b, c] [] pos) (wRng (wACons wa (wACons wb (wACons wc wANil)))) := by
  refine ⟨pi_imp (pi_range3 hg hm hp.pa hs hpl) (rng_read (k := 3) hp.mono (fun σ H R h => ?_) fun env Q x h => ha.mono _ _ _ _ _ (fun t e q => hb.mono _ _ _ _ _ (fun t e q => hc.mono _ _ _ _ _ (fun t e q => ⟨rfl, q⟩) (fun _ _ q => q) q) (fun _ _ q => q) q) (fun _ _ q => q) h), wRng.mono hp.mono⟩
  obtain ⟨G, Z, env, hh, h⟩ := h
  refine ⟨G, Z, env, hh, hp.mono _ _ _ _ _ (fun ts e h1 Z1 H1 vs s1 p1 => ?_) (fun _ _ q => q) h⟩
  rcases h1 Z1 H1 vs s1 p1 with ⟨_, z, _⟩ | ⟨_, _, z, _⟩ | ⟨i, j, _, e, s, s2, q⟩
  · cases z
  · cases z
  · exact ⟨i, j, -1, _, e, RgC.neg s.1 s.2 s2.1 s2.2, q⟩
end
end FL
namespace FL
open PySem PySem.Spec PyProof.Rows L2

def wipeE : List Nat → En → En
  | [], e => e
  | v :: vs, e => (wipeE vs e).set v .un
def okVs : List Nat → En → Prop
  | [], _ => True
  | v :: vs, e => (match e[v]? with
    | some (.own _ _) => False
    | some (.nest _ _) => False
    | _ => True) ∧ okVs vs e
def restE : List Nat → En → En → En
  | [], _, e => e
  | v :: vs, e0, e => (restE vs e0 e).set v (e0.getD v .un)
def resV : List Nat → Sl → Sl → Sl
  | [], _, s => s
  | v :: vs, s0, s => (resV vs s0 s).set v (slv s0 v)
theorem resV_length (s0 s : Sl) : ∀ vs : List Nat, (resV vs s0 s).length = s.length
  | [] => rfl
  | v :: vs => by rw [resV, List.length_set, resV_length s0 s vs]
theorem resV_in {s0 s : Sl} {j : Nat} (hj : j < s.length) : ∀ {vs : List Nat}, j ∈ vs → (resV vs s0 s)[j]? = some (slv s0 j)
  | v :: vs, h => by
    rw [resV]
    by_cases e : v = j
    · subst e; rw [List.getElem?_set_self (by rw [resV_length]; exact hj)]
    · rw [List.getElem?_set_ne e]
      exact resV_in hj ((List.mem_cons.mp h).resolve_left fun z => e z.symm)
theorem resV_out {s0 s : Sl} {j : Nat} : ∀ {vs : List Nat}, j ∉ vs → (resV vs s0 s)[j]? = s[j]?
  | [], _ => rfl
  | v :: vs, h => by
    rw [resV, List.getElem?_set_ne fun z => h (by rw [z]; exact List.mem_cons_self)]
    exact resV_out fun z => h (List.mem_cons_of_mem _ z)
theorem wipe_in {s : Sl} {j : Nat} (hj : j < s.length) : ∀ {vs : List Nat}, j ∈ vs → (wipe s vs)[j]? = some none
  | v :: vs, h => by
    unfold wipe
    by_cases e : v = j
    · subst e; rw [List.getElem?_set_self (by rw [wipe_length]; exact hj)]
    · rw [List.getElem?_set_ne e]
      exact wipe_in hj ((List.mem_cons.mp h).resolve_left fun z => e z.symm)
theorem resV_wipe (s : Sl) (vs : List Nat) : resV vs s (wipe s vs) = s := by
  refine List.ext_getElem? fun j => ?_
  by_cases hj : j ∈ vs
  · by_cases hl : j < s.length
    · rw [resV_in (by rw [wipe_length]; exact hl) hj]
      unfold slv
      rw [List.getElem?_eq_getElem hl]
      rfl
    · rw [List.getElem?_eq_none (by rw [resV_length, wipe_length]; omega), List.getElem?_eq_none (by omega)]
  · rw [resV_out hj, wipe_out hj]
theorem wipe_set {s : Sl} {i : Nat} {o : Option V} {vs : List Nat} (h : i ∈ vs) : wipe (s.set i o) vs = wipe s vs := by
  refine List.ext_getElem? fun j => ?_
  by_cases hj : j ∈ vs
  · by_cases hl : j < s.length
    · rw [wipe_in (by rw [List.length_set]; exact hl) hj, wipe_in hl hj]
    · rw [List.getElem?_eq_none (by rw [wipe_length, List.length_set]; omega), List.getElem?_eq_none (by rw [wipe_length]; omega)]
  · rw [wipe_out hj, wipe_out hj, List.getElem?_set_ne fun z => hj (by rw [← z]; exact h)]
theorem wipe_wipe {s : Sl} {vs : List Nat} : wipe (wipe s vs) vs = wipe s vs := by
  refine List.ext_getElem? fun j => ?_
  by_cases hj : j ∈ vs
  · by_cases hl : j < s.length
    · rw [wipe_in (by rw [wipe_length]; exact hl) hj, wipe_in hl hj]
    · rw [List.getElem?_eq_none (by rw [wipe_length, wipe_length]; omega), List.getElem?_eq_none (by rw [wipe_length]; omega)]
  · rw [wipe_out hj]
def Tg.slots : Tg → List Nat
  | .one i => [i]
  | .tup is => is
theorem wipe_all {vs : List Nat} : ∀ {is : List Nat} {ws : List V} {s : Sl}, (∀ i ∈ is, i ∈ vs) → wipe (setAllV is ws s) vs = wipe s vs
  | [], _, _, _ => rfl
  | _ :: _, [], _, _ => rfl
  | i :: is, w :: ws, s, h => by
    rw [setAllV, wipe_all fun j hj => h j (List.mem_cons_of_mem _ hj), wipe_set (h i List.mem_cons_self)]
theorem wipe_put {g : Tg} {x : V} {ws : List V} {s : Sl} {vs : List Nat} (h : ∀ i ∈ g.slots, i ∈ vs) : wipe (putV g x ws (wipe s vs)) vs = wipe s vs := by
  cases g with
  | one i => rw [putV, wipe_set (h i List.mem_cons_self), wipe_wipe]
  | tup is => rw [putV, wipe_all (is := is) h, wipe_wipe]
section
variable {K : Fr0} {G : Gh} {Z : Hp} {σ : Sl} {H : Hp} {e : En}
theorem Holds.wipe (h : Holds K G Z σ H e) : ∀ vs : List Nat, Holds K G Z (L2.wipe σ vs) H (wipeE vs e)
  | [] => h
  | v :: vs => (Holds.wipe h vs).setUn none
theorem Holds.rest {G0 : Gh} {Z0 H0 : Hp} {σ0 : Sl} {e0 : En} (h : Holds K G Z σ H e) (h0 : Holds K G0 Z0 σ0 H0 e0) (s : Same Z0 Z) : ∀ vs : List Nat, okVs vs e0 → Holds K G Z (resV vs σ0 σ) H (restE vs e0 e)
  | [], _ => h
  | v :: vs, ok => by
    have ih := Holds.rest h h0 s vs ok.2
    obtain ⟨F, hf⟩ := id h0
    cases ec : e0[v]? with
    | none => rw [resV, restE, List.getD_eq_getElem?_getD, ec]; exact ih.setUn _
    | some c =>
      have q := hf.sl v c ec
      have okv := ok.1
      rw [ec] at okv
      rw [resV, restE, List.getD_eq_getElem?_getD, ec]
      cases c with
      | un => exact ih.setUn _
      | val d =>
        obtain ⟨_, x, ex, r⟩ := q
        rw [ex]
        exact ih.setVal (r.mono s)
      | own t d => exact okv.elim
      | nest t ds => exact okv.elim
end

def noX : XC := fun _ _ => False
def lcK (Q : D → En → Prop) (e : En) : Tk → Prop
  | .val y => Q y e
  | _ => False
def lcR (vs : List Nat) (g : Tg) (t : WT) (w : WE) (Q : List D → En → Prop) : List D → List D → En → Prop
  | [], acc, e => Q acc e
  | d :: r, acc, e => setT (fun e1 => t e1 (fun b e2 => if b = true then w e2 (fun tk e3 => lcK (fun y e4 => acc.length < sizeLine ∧ lcR vs g t w Q r (acc ++ [y]) (wipeE vs e4)) e3 tk) noX else lcR vs g t w Q r acc (wipeE vs e2)) noX) e g d
theorem lcR.mono {vs : List Nat} {g : Tg} {t : WT} {w : WE} (ht : MonoE t) (hw : MonoE w) {Q Q' : List D → En → Prop} (hQ : ∀ x e, Q x e → Q' x e) : ∀ {xs acc : List D} {e : En}, lcR vs g t w Q xs acc e → lcR vs g t w Q' xs acc e
  | [], acc, e, h => hQ _ _ h
  | d :: r, acc, e, h => by
    refine setT.mono ?_ h
    intro e1 q
    refine ht _ _ _ _ _ (fun b e2 q2 => ?_) (fun _ _ z => z) q
    cases b with
    | true =>
      refine hw _ _ _ _ _ (fun tk e3 q3 => ?_) (fun _ _ z => z) q2
      cases tk with
      | val y => exact ⟨q3.1, lcR.mono ht hw hQ q3.2⟩
      | loc i => exact q3
      | new c => exact q3
    | false => exact lcR.mono ht hw hQ q2
def wLc (wi : WI) (vs : List Nat) (g : Tg) (t : WT) (w : WE) : WE := fun env Q x => (fun (_ : Unit) => wi env (fun xs e => okVs vs e ∧ lcR vs g t w (fun acc e' => Q (.new (.own none (.lst acc))) (restE vs e e')) xs [] (wipeE vs e)) x) hi4
theorem wLc.mono {wi : WI} {vs : List Nat} {g : Tg} {t : WT} {w : WE} (hi : MonoE wi) (ht : MonoE t) (hw : MonoE w) : MonoE (wLc wi vs g t w) :=
  fun env Q Q' x x' hQ hx h => hi _ _ _ _ _ (fun xs e q => ⟨q.1, lcR.mono ht hw (fun acc e' => hQ _ _) q.2⟩) hx h
theorem Reps.snoc {K : Fr0} {Z : Hp} {v : V} {d : D} (r : Rep K Z v d) : ∀ {vs : List V} {ds : List D}, Reps K Z vs ds → Reps K Z (vs ++ [v]) (ds ++ [d])
  | _, _, .nil => .cons r .nil
  | _, _, .cons q t => .cons q (Reps.snoc r t)
theorem last_get {α : Type} (l : List α) (x : α) : (l ++ [x])[l.length]? = some x := by
  rw [List.getElem?_append_right (Nat.le_refl _), Nat.sub_self]
  rfl
theorem last_set {α : Type} (l : List α) (x y : α) : (l ++ [x]).set l.length y = l ++ [y] := by
  rw [List.set_append_right _ _ (Nat.le_refl _), Nat.sub_self]
  rfl
theorem lc_read {K : Fr0} {Er : XK} {wi : WI} {vs : List Nat} {g : Tg} {t : WT} {w : WE} (hi : MonoE wi) (ht : MonoE t) (hw : MonoE w) (hsub : ∀ i ∈ g.slots, i ∈ vs) {σ : Sl} {H : Hp} {Q : VK} (h : TEw K Er (wLc wi vs g t w) σ H Q) :
    tLc (TIw K Er wi) (gOf K g) (TTw K E0 t) (TEw K E0 w) vs σ H Q := by
  obtain ⟨G, Z, env, hh, h⟩ := h
  refine ⟨G, Z, env, hh, hi _ _ _ _ _ (fun xs e q Z1 H1 J s1 p1 io D hD => ?_) (fun _ _ q => q) h⟩
  obtain ⟨okv, q⟩ := q
  have h0 : Holds K G Z1 (wipe σ vs ++ [some (.ref D)]) (upd H1 D (.lst [])) (wipeE vs e ++ [.own none (.lst [])]) := (p1.wipe vs).laidOwn hD ⟨[], upd_same, .nil⟩ rfl
  refine ⟨fun i m H => m = xs.length - i ∧ i ≤ xs.length ∧ ∃ Z' e' acc, Same Z1 Z' ∧ Holds K G Z' (wipe σ vs ++ [some (.ref D)]) H (e' ++ [.own none (.lst acc)]) ∧
    lcR vs g t w (fun acc e' => ∀ Z' H' v, Same Z Z' → PostE K G Z' σ H' (restE vs e e') v (.new (.own none (.lst acc))) → Q v H') (xs.drop i) acc e', ⟨_, rfl, Nat.zero_le _, Z1, _, [], .refl _, h0, q⟩, ?_⟩
  rintro i m H2 ⟨rfl, hle, Z2, e2, acc, s2, h2, q2⟩
  by_cases hlt : i < xs.length
  · have hx : xs[i]? = some xs[i] := List.getElem?_eq_getElem hlt
    rw [drop_cons hx] at q2
    refine .inr ⟨((io Z2 H2 s2 h2.zh).1 i _ hx).1, fun H' => ∃ Z' e' acc, Same Z1 Z' ∧ Holds K G Z' (wipe σ vs ++ [some (.ref D)]) H' (e' ++ [.own none (.lst acc)]) ∧
      lcR vs g t w (fun acc e' => ∀ Z' H' v, Same Z Z' → PostE K G Z' σ H' (restE vs e e') v (.new (.own none (.lst acc))) → Q v H') (xs.drop (i + 1)) acc e', fun H' n => ⟨_, by omega, rfl, hlt, n⟩, fun x H3 y => ?_⟩
    obtain ⟨Z3, s3, h3, r3⟩ := io.yld s2 h2 hx y
    obtain ⟨G1, l1, hg1, k1⟩ := keepNew h3
    refine gOf_run hg1 r3 q2 fun ws e4 q4 h4 => ⟨wipe_put hsub, ?_⟩
    refine ⟨G1, Z3, e4, h4, ht _ _ _ _ _ (fun b e5 q5 Z5 H5 s5 p5 => ?_) (fun _ _ z => z.elim) q4⟩
    cases b with
    | true =>
      refine ⟨G1, Z5, e5, p5, hw _ _ _ _ _ (fun tk e6 q6 Z6 H6 yv s6 p6 => ?_) (fun _ _ z => z.elim) q5⟩
      cases tk with
      | val yd =>
        obtain ⟨lz, q6⟩ := q6
        obtain ⟨h6, r6⟩ := p6
        have h7 := h6.wipe vs
        rw [wipe_put hsub] at h7
        have h8 := k1 Z6 _ H6 _ (s5.trans s6) h7
        have hl8 := h7.len
        obtain ⟨a, ea, us, eu, ru⟩ := h8.own (last_get _ _)
        rw [← hl8, last_get] at ea
        cases ea
        refine ⟨us, eu, by rw [ru.length]; exact lz, Z6, wipeE vs e6, acc ++ [yd], ((s2.trans s3).trans s5).trans s6, ?_, q6⟩
        have h9 := h8.mutate (o := .lst (us ++ [yv])) (d' := .lst (acc ++ [yd])) (last_get _ _) (by rw [← hl8, last_get]) ⟨_, upd_same, ru.snoc r6⟩
        rw [last_set] at h9
        exact h9
      | loc j => exact q6.elim
      | new c => exact q6.elim
    | false =>
      have h7 := p5.wipe vs
      rw [wipe_put hsub] at h7
      exact ⟨Z5, wipeE vs e5, acc, (s2.trans s3).trans s5, k1 Z5 _ H5 _ s5 h7, q5⟩
  · have ei : i = xs.length := by omega
    subst ei
    rw [List.drop_length] at q2
    refine .inl ⟨(io Z2 H2 s2 h2.zh).2, ?_⟩
    obtain ⟨G1, l1, hg1, k1⟩ := keepNew h2
    have h3 := hg1.rest p1 s2 vs okv
    rw [resV_wipe] at h3
    exact q2 Z2 H2 _ (s1.trans s2) (k1 Z2 _ H2 _ (.refl _) h3)
section
variable {X : Cx} {Er : XK} {pos : Pos}
def wYes : WT := fun env Q _ => (fun (_ : Unit) => Q true env) hi4
theorem wYes.mono : MonoE wYes := fun env Q Q' x x' hQ hx h => hQ _ _ h
theorem pts_yes {X : Cx} : PTs X [] (TTw X.K E0 wYes) := ⟨fun pins s σ H Q I ⟨G, Z, env, hh, h⟩ => pts_nil.run pins s σ H Q I (h Z H (.refl _) hh)⟩
theorem pts_t {X : Cx} {c : Expr} {t : WT} (h : TJ X E0 c t) : PTs X [c] (TTw X.K E0 t) := pts_one h.pt
theorem e_lc {elt tg iter : Expr} {ifs : List Expr} {scope : Scope} {own : List (Str × Nat)} {wi : WI} {g : Tg} {t : WT} {w : WE} (hi : MonoE wi) (ht : MonoE t) (hw : MonoE w) (hsub : ∀ i ∈ g.slots, i ∈ own.map (·.2))
    (hp : PE X (.ListComp elt [⟨tg, iter, ifs, 0⟩] scope pos) (tLc (TIw X.K Er wi) (gOf X.K g) (TTw X.K E0 t) (TEw X.K E0 w) (own.map (·.2)))) : EJ X Er (.ListComp elt [⟨tg, iter, ifs, 0⟩] scope pos) (wLc wi (own.map (·.2)) g t w) :=
  ⟨pe_imp hp fun σ H Q h => lc_read hi ht hw hsub h, wLc.mono hi ht hw⟩
theorem s_setLc (i : Nat) {st : Stmt} {vs : List Nat} {wi : WI} {g : Tg} {t : WT} {w : WE} (hi : MonoE wi) (ht : MonoE t) (hw : MonoE w) (hsub : ∀ i ∈ g.slots, i ∈ vs)
    (hp : PS X st (tAsg (tLc (TIw X.K Er wi) (gOf X.K g) (TTw X.K E0 t) (TEw X.K E0 w) vs) (gName i))) : SJ X Er st (wSet i (wLc wi vs g t w)) :=
  s_set i (wLc.mono hi ht hw) (ps_imp hp fun D σ H h => lc_read hi ht hw hsub h)
end
end FL
namespace FL
open PySem PySem.Spec PyProof.Rows L2

/-- what a def is worth: the contents of its arguments, what is wanted of the answer and of the arguments behind it, of an exception -/
abbrev Fs := List C → (Tk → List C → Prop) → (Ex → List C → Prop) → Prop
def spF (K : Fr0) (s : Fs) : Sp := fun vs H Q E => ∃ G Z cs, Holds K G Z (vs.map some) H cs ∧
  s cs (fun r cs' => ∀ Z' H' v, Same Z Z' → PostE K G Z' (vs.map some) H' cs' v r → Q v H') (fun x cs' => ∀ Z' H' cls od, Same Z Z' → Holds K G Z' (vs.map some) H' cs' → ExOk K Z' x cls od → E cls od H')

/-! ### within the def -/
/-- the arguments as they are left: what was settled stays, what was owned is where it was -/
def outC : Nat → List C → En → Option (List C)
  | _, [], _ => some []
  | i, .val d :: r, e => (outC (i + 1) r e).map (C.val d :: ·)
  | i, .own (some n) _ :: r, e => match e[i]? with
    | some (.own (some m) d') => if n = i ∧ m = i then (outC (i + 1) r e).map (C.own (some i) d' :: ·) else none
    | _ => none
  | i, .nest (some n) _ :: r, e => match e[i]? with
    | some (.nest (some m) d') => if n = i ∧ m = i then (outC (i + 1) r e).map (C.nest (some i) d' :: ·) else none
    | _ => none
  | _, _ :: _, _ => none
def retT (e : En) : Tk → Option Tk
  | .val d => some (.val d)
  | .new c => some (.new c)
  | .loc i => match e[i]? with
    | some (.own none d) => some (.new (.own none d))
    | some (.nest none d) => some (.new (.nest none d))
    | _ => none
def retK (cs : List C) (Q : Tk → List C → Prop) (x : Ex → List C → Prop) : KS where
  nx := fun e => ∃ cs', outC 0 cs e = some cs' ∧ Q (.val .non) cs'
  rt := fun tk e => ∃ cs' tk', outC 0 cs e = some cs' ∧ retT e tk = some tk' ∧ Q tk' cs'
  bk := fun _ => False
  ct := fun _ => False
  xr := fun ex e => ∃ cs', outC 0 cs e = some cs' ∧ x ex cs'
def fnW (n m : Nat) (wb : WS) : Fs := fun cs Q x => cs.length = n ∧ wb (cs ++ List.replicate m .un) (retK cs Q x)
section
variable {K : Fr0} {G : Gh} {Z : Hp} {σ : Sl} {H : Hp} {env : En}
theorem Holds.pad (h : Holds K G Z σ H env) : ∀ m : Nat, Holds K G Z (σ ++ List.replicate m none) H (env ++ List.replicate m .un)
  | 0 => by simpa using h
  | m + 1 => by
    obtain ⟨F, h⟩ := Holds.pad h m
    rw [List.replicate_succ', ← List.append_assoc, List.replicate_succ', ← List.append_assoc]
    refine ⟨F, h.zh, h.rh, h.zr, by (have q := h.len; simp only [List.length_append, List.length_replicate, List.length_singleton] at q ⊢; omega), fun i c e => ?_, fun i a ha => ?_, h.dj⟩
    · by_cases hi : i < (env ++ List.replicate m C.un).length
      · rw [List.getElem?_append_left hi] at e
        have q := h.sl i c e
        have : slv ((σ ++ List.replicate m none) ++ [none]) i = slv (σ ++ List.replicate m none) i := by unfold slv; rw [List.getElem?_append_left (by rw [h.len]; exact hi)]
        rw [this]; exact q
      · have hl : i = (env ++ List.replicate m C.un).length := by
          have := (List.getElem?_eq_some_iff.mp e).1
          rw [List.length_append, List.length_singleton] at this
          omega
        subst hl
        rw [last_get] at e
        cases e
        show F _ = []
        cases q : F (env ++ List.replicate m C.un).length with
        | nil => rfl
        | cons b r =>
          have := (h.fz _ b (by rw [q]; exact List.mem_cons_self)).2.2
          exact absurd this (Nat.lt_irrefl _)
    · obtain ⟨q1, q2, q3⟩ := h.fz i a ha
      exact ⟨q1, q2, by rw [List.length_append]; omega⟩
/-- arguments of a call as slots: what outC tells of them -/
theorem out_sl {Z' H' : Hp} {σ' : Sl} {e : En} {F F' : Nat → List Addr} (h0 : HF K G Z σ H env F) (h : HF K G Z' σ' H' e F') (s : Same Z Z') : ∀ {cs cs' : List C} {k : Nat}, (∀ (i : Nat) c, cs[i]? = some c → env[k + i]? = some c) → outC k cs e = some cs' →
    cs'.length = cs.length ∧ ∀ (i : Nat) c, cs'[i]? = some c → ∃ Fc, SlotOk K G Z' H' (slv σ (k + i)) Fc c ∧ (Fc = [] ∨ (Fc = F' (k + i) ∧ ∃ t, e[k + i]? = some t ∧ (∀ d, t ≠ .own none d) ∧ ∀ d, t ≠ .nest none d))
  | [], cs', k, _, ho => by cases ho; exact ⟨rfl, fun i c q => by cases q⟩
  | c0 :: cs, cs', k, hc, ho => by
    have hc0 := hc 0 c0 rfl
    have hcs : ∀ (i : Nat) c, cs[i]? = some c → env[k + 1 + i]? = some c := fun i c q => by
      have := hc (i + 1) c q
      rw [show k + 1 + i = k + (i + 1) by omega]; exact this
    have step : ∀ {c' : C} {r : List C}, outC (k + 1) cs e = some r → cs' = c' :: r → (∃ Fc, SlotOk K G Z' H' (slv σ (k + 0)) Fc c' ∧ (Fc = [] ∨ (Fc = F' (k + 0) ∧ ∃ t, e[k + 0]? = some t ∧ (∀ d, t ≠ .own none d) ∧ ∀ d, t ≠ .nest none d))) →
        cs'.length = (c0 :: cs).length ∧ ∀ (i : Nat) c, cs'[i]? = some c → ∃ Fc, SlotOk K G Z' H' (slv σ (k + i)) Fc c ∧ (Fc = [] ∨ (Fc = F' (k + i) ∧ ∃ t, e[k + i]? = some t ∧ (∀ d, t ≠ .own none d) ∧ ∀ d, t ≠ .nest none d)) := by
      intro c' r hr ecs hF
      obtain ⟨l, ih⟩ := out_sl h0 h s hcs hr
      subst ecs
      refine ⟨by rw [List.length_cons, List.length_cons, l], fun i c q => ?_⟩
      cases i with
      | zero => cases q; exact hF
      | succ i =>
        have := ih i c q
        rw [show k + 1 + i = k + (i + 1) by omega] at this
        exact this
    cases c0 with
    | un => cases ho
    | val d =>
      cases hr : outC (k + 1) cs e with
      | none => simp [outC, hr] at ho
      | some r =>
        simp [outC, hr] at ho
        obtain ⟨_, v, ev, rv⟩ := h0.sl _ _ hc0
        exact step hr ho.symm ⟨[], ⟨rfl, v, ev, rv.mono s⟩, .inl rfl⟩
    | own t d =>
      cases t with
      | none => cases ho
      | some n =>
        unfold outC at ho
        split at ho
        · rename_i m d' ee
          split at ho
          · rename_i hnm
            obtain ⟨e1, e2⟩ := hnm
            subst e1 e2
            cases hr : outC (m + 1) cs e with
            | none => simp [hr] at ho
            | some r =>
              simp [hr] at ho
              obtain ⟨a, ev, _, pa, _⟩ := h0.sl _ _ hc0
              obtain ⟨a', ev', ef', pa', r'⟩ := h.sl _ _ ee
              have ea : a' = a := (pa' m rfl).symm.trans (pa m rfl)
              subst ea
              exact step hr ho.symm ⟨[a'], ⟨a', ev, rfl, pa', r'⟩, .inr ⟨ef'.symm, _, ee, (fun d q => by cases q), fun d q => by cases q⟩⟩
          · cases ho
        · cases ho
    | nest t d =>
      cases t with
      | none => cases ho
      | some n =>
        unfold outC at ho
        split at ho
        · rename_i m d' ee
          split at ho
          · rename_i hnm
            obtain ⟨e1, e2⟩ := hnm
            subst e1 e2
            cases hr : outC (m + 1) cs e with
            | none => simp [hr] at ho
            | some r =>
              simp [hr] at ho
              obtain ⟨a, as, ev, _, pa, _⟩ := h0.sl _ _ hc0
              obtain ⟨a', as', ev', ef', pa', r'⟩ := h.sl _ _ ee
              have ea : a' = a := (pa' m rfl).symm.trans (pa m rfl)
              subst ea
              exact step hr ho.symm ⟨a' :: as', ⟨a', as', ev, rfl, pa', r'⟩, .inr ⟨ef'.symm, _, ee, (fun d q => by cases q), fun d q => by cases q⟩⟩
          · cases ho
        · cases ho
/-- from the def's end to its caller -/
theorem out_hf {Z' H' : Hp} {σ' : Sl} {e : En} {F' : Nat → List Addr} {cs cs' : List C} {vs : List V} (h0 : Holds K G Z (vs.map some) H cs) (h : HF K G Z' σ' H' e F') (s : Same Z Z') (ho : outC 0 cs e = some cs') :
    ∃ F2, HF K G Z' (vs.map some) H' cs' F2 ∧ ∀ (i : Nat) a, a ∈ F2 i → a ∈ F' i ∧ ∃ t, e[i]? = some t ∧ (∀ d, t ≠ .own none d) ∧ ∀ d, t ≠ .nest none d := by
  obtain ⟨F, h0⟩ := h0
  obtain ⟨l, sl⟩ := out_sl h0 h s (k := 0) (fun i c q => by rw [Nat.zero_add]; exact q) ho
  have sl' : ∀ (i : Nat), ∃ Fc, (∀ c, cs'[i]? = some c → SlotOk K G Z' H' (slv (vs.map some) i) Fc c) ∧ (Fc = [] ∨ (Fc = F' i ∧ i < cs'.length ∧ ∃ t, e[i]? = some t ∧ (∀ d, t ≠ .own none d) ∧ ∀ d, t ≠ .nest none d)) := fun i => by
    cases q : cs'[i]? with
    | none => exact ⟨[], fun c z => (by cases z), .inl rfl⟩
    | some c =>
      obtain ⟨Fc, q1, q2⟩ := sl i c q
      rw [Nat.zero_add] at q1 q2
      refine ⟨Fc, fun c' z => by cases z; exact q1, q2.imp id fun z => ⟨z.1, (List.getElem?_eq_some_iff.mp q).1, z.2⟩⟩
  refine ⟨fun i => (sl' i).choose, ⟨h.zh, h.rh, h.zr, by rw [h0.len, l], fun i c q => (sl' i).choose_spec.1 c q, fun i a ha => ?_, fun i j a ha hb => ?_⟩, fun i a ha => ?_⟩
  · rcases (sl' i).choose_spec.2 with z | z
    · rw [z] at ha; cases ha
    · rw [z.1] at ha
      exact ⟨(h.fz i a ha).1, (h.fz i a ha).2.1, z.2.1⟩
  · rcases (sl' i).choose_spec.2 with z | z
    · rw [z] at ha; cases ha
    · rcases (sl' j).choose_spec.2 with y | y
      · rw [y] at hb; cases hb
      · rw [z.1] at ha
        rw [y.1] at hb
        exact h.dj i j a ha hb
  · have ha' : a ∈ (sl' i).choose := ha
    rcases (sl' i).choose_spec.2 with z | z
    · rw [z] at ha'; cases ha'
    · rw [z.1] at ha'
      exact ⟨ha', z.2.2⟩
theorem out_post {Z' H' : Hp} {σ' : Sl} {e : En} {cs cs' : List C} {vs : List V} {v : V} {tk tk' : Tk} (h0 : Holds K G Z (vs.map some) H cs) (s : Same Z Z') (p : PostE K G Z' σ' H' e v tk) (ho : outC 0 cs e = some cs') (hr : retT e tk = some tk') : PostE K G Z' (vs.map some) H' cs' v tk' := by
  cases tk with
  | val d =>
    cases hr
    obtain ⟨⟨F', h⟩, r⟩ := p
    obtain ⟨F2, h2, _⟩ := out_hf h0 h s ho
    exact ⟨⟨F2, h2⟩, r⟩
  | new c =>
    cases hr
    obtain ⟨F', h⟩ := p
    obtain ⟨h1, s1, n1, d1⟩ := h.pop
    obtain ⟨F2, h2, sub⟩ := out_hf h0 h1 s ho
    exact ⟨_, h2.push s1 n1 fun j a ha hj => d1 j a ha (sub j a hj).1⟩
  | loc i =>
    obtain ⟨⟨F', h⟩, ev⟩ := p
    obtain ⟨F2, h2, sub⟩ := out_hf h0 h s ho
    have esl : slv σ' i = some v := by unfold slv; rw [ev]; rfl
    unfold retT at hr
    dsimp only at hr
    have fin : ∀ {c : C}, e[i]? = some c → (∀ a, a ∈ F' i → Z' a = none ∧ G.R a = none) := fun {c} _ a ha => ⟨(h.fz i a ha).1, (h.fz i a ha).2.1⟩
    split at hr
    · rename_i d ec
      cases hr
      have q := h.sl i _ ec
      rw [esl] at q
      refine ⟨_, h2.push q (fin ec) fun j a ha hj => ?_⟩
      obtain ⟨hj', t, et, n1, n2⟩ := sub j a hj
      have := h.dj j i a hj' ha
      subst this
      rw [ec] at et
      cases et
      exact n1 d rfl
    · rename_i d ec
      cases hr
      have q := h.sl i _ ec
      rw [esl] at q
      refine ⟨_, h2.push q (fin ec) fun j a ha hj => ?_⟩
      obtain ⟨hj', t, et, n1, n2⟩ := sub j a hj
      have := h.dj j i a hj' ha
      subst this
      rw [ec] at et
      cases et
      exact n2 d rfl
    · cases hr
/-- THE RULE for a def: its body's reading from the reading of its worth -/
theorem fn_read {Er : XK} {N : List Str} {n m : Nat} {wb : WS} (hm : MonoS wb) {vs : List V} {Q : VK} (hn : N.length = n + m) (h : spF K (fnW n m wb) vs H Q Er) :
    vs.length = n ∧ TSw K Er wb { nx := fun _ H' => Q .non H', rt := Q } (L2.start N vs) H := by
  obtain ⟨G, Z, cs, hh, hl, h⟩ := h
  have lv : vs.length = n := by have := hh.len; rw [List.length_map] at this; rw [this, hl]
  refine ⟨lv, G, Z, cs ++ List.replicate m .un, ?_, hm.app h ?_⟩
  · have q := hh.pad m
    unfold L2.start
    rw [hn, lv, Nat.add_sub_cancel_left]
    exact q
  · refine ⟨fun e ⟨cs', ho, q⟩ Z' σ' H' s' h' => ?_, fun tk e ⟨cs', tk', ho, hr, q⟩ Z' σ' H' v s' p' => q Z' H' v s' (out_post hh s' p' ho hr), fun e z => z.elim, fun e z => z.elim, fun x e ⟨cs', ho, q⟩ Z' σ' H' cls od s' h' hx => ?_⟩
    · exact q Z' H' .non s' (out_post (tk := .val .non) hh s' ⟨h', .non⟩ ho rfl)
    · obtain ⟨F', h'⟩ := h'
      obtain ⟨F2, h2, _⟩ := out_hf hh h' s' ho
      exact q Z' H' cls od s' ⟨F2, h2⟩ hx
end
end FL
namespace FL
open PySem PySem.Spec PyProof.Rows L2

/-! ### the caller's side -/
/-- a content under another tag -/
def C.tag (t : Option Nat) : C → C
  | .own _ d => .own t d
  | .nest _ d => .nest t d
  | c => c
def C.tagOf : C → Option Nat
  | .own t _ => t
  | .nest t _ => t
  | _ => none
def C.isOwn : C → Bool
  | .own _ _ => true
  | .nest _ _ => true
  | _ => false
/-- the arguments' contents, and the slots (of the extended ones) that they come from -/
def argC : Nat → List Tk → En → Option (List C)
  | _, [], _ => some []
  | i, .val d :: r, e => (argC (i + 1) r e).map (C.val d :: ·)
  | i, .loc j :: r, e => match e[j]? with
    | some (.own _ d) => (argC (i + 1) r e).map (C.own (some i) d :: ·)
    | some (.nest _ d) => (argC (i + 1) r e).map (C.nest (some i) d :: ·)
    | _ => none
  | i, .new (.own _ d) :: r, e => (argC (i + 1) r e).map (C.own (some i) d :: ·)
  | i, .new (.nest _ d) :: r, e => (argC (i + 1) r e).map (C.nest (some i) d :: ·)
  | _, .new _ :: _, _ => none
def locs : List Tk → List Nat
  | .loc j :: r => j :: locs r
  | _ :: r => locs r
  | [] => []
/-- what the call left, back in the slots -/
def putB : List Tk → List C → En → En
  | .loc j :: r, c :: cs, e => putB r cs (match e[j]? with
    | some c0 => e.set j (c.tag c0.tagOf)
    | none => e)
  | _ :: r, _ :: cs, e => putB r cs e
  | _, _, e => e
def retOk (P : Tk → Prop) : Tk → Prop
  | .val d => P (.val d)
  | .new c => P (.new (c.tag none))
  | .loc _ => False
def callK (s : Fs) (ts : List Tk) (e : En) (Q : Tk → En → Prop) (x : XC) : Prop := match argC 0 ts e with
  | some cs => (locs ts).Nodup ∧ s cs (fun r cs' => cs'.length = cs.length ∧ retOk (fun tk => Q tk (putB ts cs' e)) r) (fun ex cs' => cs'.length = cs.length ∧ x ex (putB ts cs' e))
  | none => False
def wCall (s : Fs) (wr : WA) : WE := fun env Q x => (fun (_ : Unit) => wr env (fun ts e => callK s ts e Q x) x) hi4
def MonoF (s : Fs) : Prop := ∀ cs Q Q' x x', (∀ t e, Q t e → Q' t e) → (∀ a e, x a e → x' a e) → s cs Q x → s cs Q' x'
/-- arguments as places in the extended slots -/
def idxs (n : Nat) : List Tk → List (Option Nat)
  | [] => []
  | .val _ :: r => none :: idxs n r
  | .loc j :: r => some j :: idxs n r
  | .new _ :: r => some (n + (tmpC r).length) :: idxs n r
theorem idxs_len (n : Nat) : ∀ ts : List Tk, (idxs n ts).length = ts.length
  | [] => rfl
  | .val _ :: r => by rw [idxs, List.length_cons, List.length_cons, idxs_len]
  | .loc _ :: r => by rw [idxs, List.length_cons, List.length_cons, idxs_len]
  | .new _ :: r => by rw [idxs, List.length_cons, List.length_cons, idxs_len]
/-- no place twice -/
def Inj (ids : List (Option Nat)) : Prop := ∀ (k l : Nat) j, ids[k]? = some (some j) → ids[l]? = some (some j) → k = l
theorem idx_bound {n : Nat} : ∀ {ts : List Tk} {k j : Nat}, (idxs n ts)[k]? = some (some j) → j ∈ locs ts ∨ (n ≤ j ∧ j < n + (tmpC ts).length)
  | .val _ :: r, 0, j, h => by cases h
  | .val d :: r, k + 1, j, h => idx_bound (ts := r) h
  | .loc i :: r, 0, j, h => by cases h; exact .inl List.mem_cons_self
  | .loc i :: r, k + 1, j, h => (idx_bound (ts := r) h).imp (List.mem_cons_of_mem _) id
  | .new c :: r, 0, j, h => by cases h; exact .inr ⟨Nat.le_add_right _ _, by rw [tmpC, List.length_append, List.length_singleton]; omega⟩
  | .new c :: r, k + 1, j, h => (idx_bound (ts := r) h).imp id fun q => ⟨q.1, by rw [tmpC, List.length_append, List.length_singleton]; omega⟩
theorem idx_inj {n : Nat} : ∀ {ts : List Tk}, (locs ts).Nodup → (∀ j ∈ locs ts, j < n) → Inj (idxs n ts)
  | [], _, _, k, l, j, h, _ => by cases h
  | .val _ :: r, nd, lt, k, l, j, h1, h2 => by
    cases k with
    | zero => cases h1
    | succ k =>
      cases l with
      | zero => cases h2
      | succ l => rw [idx_inj (ts := r) nd lt k l j h1 h2]
  | .loc i :: r, nd, lt, k, l, j, h1, h2 => by
    have nd' := List.nodup_cons.mp nd
    have lt' : ∀ j ∈ locs r, j < n := fun j hj => lt j (List.mem_cons_of_mem _ hj)
    have li : i < n := lt i List.mem_cons_self
    have no : ∀ {k : Nat}, (idxs n r)[k]? = some (some i) → False := fun h => by
      rcases idx_bound h with q | q
      · exact nd'.1 q
      · omega
    cases k with
    | zero =>
      cases h1
      cases l with
      | zero => rfl
      | succ l => exact (no h2).elim
    | succ k =>
      cases l with
      | zero => cases h2; exact (no h1).elim
      | succ l => rw [idx_inj (ts := r) nd'.2 lt' k l j h1 h2]
  | .new c :: r, nd, lt, k, l, j, h1, h2 => by
    have no : ∀ {k : Nat}, (idxs n r)[k]? = some (some (n + (tmpC r).length)) → False := fun h => by
      rcases idx_bound h with q | q
      · have := lt _ q; omega
      · omega
    cases k with
    | zero =>
      cases h1
      cases l with
      | zero => rfl
      | succ l => exact (no h2).elim
    | succ k =>
      cases l with
      | zero => cases h2; exact (no h1).elim
      | succ l => rw [idx_inj (ts := r) nd lt k l j h1 h2]
theorem map_cons {α : Type} {o : Option (List α)} {c : α} {cs : List α} (h : o.map (c :: ·) = some cs) : ∃ r, o = some r ∧ cs = c :: r := by
  cases o with
  | none => cases h
  | some r => cases h; exact ⟨r, rfl, rfl⟩
/-- an argument: settled, or the content at a place, under the argument's tag -/
def ArgAt (K : Fr0) (Z : Hp) (σE : Sl) (E : En) (k : Nat) (v : V) (c : C) : Option Nat → Prop
  | none => ∃ d, c = .val d ∧ Rep K Z v d
  | some j => ∃ c0, E[j]? = some c0 ∧ c0.isOwn = true ∧ c = c0.tag (some k) ∧ σE[j]? = some (some v)
theorem arg_at {K : Fr0} {Z : Hp} {σ : Sl} {e : En} (hl : σ.length = e.length) : ∀ {ts : List Tk} {vs : List V} {cs : List C} {k : Nat} {p : Sl} {q : En}, p.length = q.length → TksOk K Z σ vs ts → argC k ts e = some cs →
    vs.length = ts.length ∧ cs.length = ts.length ∧ ∀ (i : Nat) v c id, vs[i]? = some v → cs[i]? = some c → (idxs e.length ts)[i]? = some id → ArgAt K Z (σ ++ (tmpV vs ts ++ p)) (e ++ (tmpC ts ++ q)) (k + i) v c id
  | [], [], cs, k, p, q, _, _, h => by cases h; exact ⟨rfl, rfl, fun i v c id z => by cases z⟩
  | [], _ :: _, _, _, _, _, _, h, _ => h.elim
  | t :: ts, [], _, _, _, _, _, h, _ => by cases t <;> exact h.elim
  | t :: ts, v0 :: vs, cs, k, p, q, hpq, ok, h => by
    have tl : ∀ {ts : List Tk} {vs : List V}, TksOk K Z σ vs ts → (tmpV vs ts).length = (tmpC ts).length := by
      intro ts
      induction ts with
      | nil => intro vs h; cases vs <;> first | rfl | exact h.elim
      | cons t ts ih =>
        intro vs h
        cases vs with
        | nil => cases t <;> exact h.elim
        | cons v vs =>
          cases t with
          | val d => exact ih h.2
          | loc i => exact ih h.2
          | new c => rw [tmpV, tmpC, List.length_append, List.length_append, ih h]; rfl
    have fin : ∀ {c' : C} {r : List C} {p' : Sl} {q' : En}, p'.length = q'.length → TksOk K Z σ vs ts → argC (k + 1) ts e = some r → cs = c' :: r → tmpV (v0 :: vs) (t :: ts) ++ p = tmpV vs ts ++ p' → tmpC (t :: ts) ++ q = tmpC ts ++ q' →
        (∀ id, (idxs e.length (t :: ts))[0]? = some id → ArgAt K Z (σ ++ (tmpV (v0 :: vs) (t :: ts) ++ p)) (e ++ (tmpC (t :: ts) ++ q)) k v0 c' id) → (∀ i, (idxs e.length (t :: ts))[i + 1]? = (idxs e.length ts)[i]?) →
        (v0 :: vs).length = (t :: ts).length ∧ cs.length = (t :: ts).length ∧ ∀ (i : Nat) v c id, (v0 :: vs)[i]? = some v → cs[i]? = some c → (idxs e.length (t :: ts))[i]? = some id → ArgAt K Z (σ ++ (tmpV (v0 :: vs) (t :: ts) ++ p)) (e ++ (tmpC (t :: ts) ++ q)) (k + i) v c id := by
      intro c' r p' q' hpq' ok' hr ec e1 e2 h0 hid
      obtain ⟨l1, l2, ih⟩ := arg_at hl (p := p') (q := q') hpq' ok' hr
      subst ec
      refine ⟨by rw [List.length_cons, List.length_cons, l1], by rw [List.length_cons, List.length_cons, l2], fun i v c id a1 a2 a3 => ?_⟩
      cases i with
      | zero => cases a1; cases a2; exact h0 id a3
      | succ i =>
        rw [hid] at a3
        have := ih i v c id a1 a2 a3
        rw [e1, e2, show k + (i + 1) = k + 1 + i by omega]
        exact this
    cases t with
    | val d =>
      cases hr : argC (k + 1) ts e with
      | none => simp [argC, hr] at h
      | some r =>
        simp [argC, hr] at h
        exact fin hpq ok.2 hr h.symm rfl rfl (fun id a => by cases a; exact ⟨d, rfl, ok.1⟩) fun i => rfl
    | loc j =>
      unfold argC at h
      have at0 : ∀ {c0 : C}, e[j]? = some c0 → c0.isOwn = true → ∀ id, (idxs e.length (Tk.loc j :: ts))[0]? = some id → ArgAt K Z (σ ++ (tmpV (v0 :: vs) (Tk.loc j :: ts) ++ p)) (e ++ (tmpC (Tk.loc j :: ts) ++ q)) k v0 (c0.tag (some k)) id := fun {c0} ec hc0 id a => by
        cases a
        refine ⟨c0, ?_, hc0, rfl, ?_⟩
        · rw [List.getElem?_append_left (List.getElem?_eq_some_iff.mp ec).1]; exact ec
        · rw [List.getElem?_append_left (List.getElem?_eq_some_iff.mp ok.1).1]; exact ok.1
      split at h
      · rename_i t d ec
        obtain ⟨r, hr, er⟩ := map_cons h
        exact fin hpq ok.2 hr er rfl rfl (at0 ec rfl) fun i => rfl
      · rename_i t d ec
        obtain ⟨r, hr, er⟩ := map_cons h
        exact fin hpq ok.2 hr er rfl rfl (at0 ec rfl) fun i => rfl
      · cases h
    | new c0 =>
      have at0 : c0.isOwn = true → ∀ id, (idxs e.length (Tk.new c0 :: ts))[0]? = some id → ArgAt K Z (σ ++ (tmpV (v0 :: vs) (Tk.new c0 :: ts) ++ p)) (e ++ (tmpC (Tk.new c0 :: ts) ++ q)) k v0 (c0.tag (some k)) id := fun hc0 id a => by
        cases a
        refine ⟨c0, ?_, hc0, rfl, ?_⟩
        · rw [tmpC, List.append_assoc, ← List.append_assoc, List.getElem?_append_right (by rw [List.length_append]; exact Nat.le_refl _), List.length_append, Nat.sub_self]; rfl
        · rw [tmpV, List.append_assoc, ← List.append_assoc, List.getElem?_append_right (by rw [List.length_append, hl, tl (ts := ts) (vs := vs) ok]; exact Nat.le_refl _), List.length_append, hl, tl (ts := ts) (vs := vs) ok, Nat.sub_self]; rfl
      have pq : ([some v0] ++ p).length = ([c0] ++ q).length := by simp [hpq]
      cases c0 with
      | un => cases h
      | val d => cases h
      | own t d =>
        obtain ⟨r, hr, er⟩ := map_cons h
        exact fin pq ok hr er (by rw [tmpV, List.append_assoc]) (by rw [tmpC, List.append_assoc]) (at0 rfl) fun i => rfl
      | nest t d =>
        obtain ⟨r, hr, er⟩ := map_cons h
        exact fin pq ok hr er (by rw [tmpV, List.append_assoc]) (by rw [tmpC, List.append_assoc]) (at0 rfl) fun i => rfl

section
open Classical
variable {K : Fr0} {G : Gh} {Z : Hp} {σ τ : Sl} {H : Hp} {e t : En} {F : Nat → List Addr}
/-- the addresses that an argument brings -/
def ownr (F : Nat → List Addr) (ids : List (Option Nat)) (k : Nat) : List Addr := match ids[k]? with
  | some (some j) => F j
  | _ => []
noncomputable def restR (Z H : Hp) (F : Nat → List Addr) (ids : List (Option Nat)) : Hp := fun b => if Z b = none ∧ ∀ k, b ∉ ownr F ids k then H b else none
def adrOf (vs : List V) (k : Nat) : Addr := match vs[k]? with
  | some (.ref a) => a
  | _ => 0
theorem restR_some {ids : List (Option Nat)} {b : Addr} {o : HO} (h : restR Z H F ids b = some o) : H b = some o ∧ Z b = none ∧ ∀ k, b ∉ ownr F ids k := by
  unfold restR at h
  split at h
  · rename_i q; exact ⟨h, q⟩
  · cases h
theorem restR_at {ids : List (Option Nat)} {b : Addr} {o : HO} (h : H b = some o) (hz : Z b = none) (ho : ∀ k, b ∉ ownr F ids k) : restR Z H F ids b = some o := by
  unfold restR
  rw [if_pos ⟨hz, ho⟩]; exact h
theorem slv_at {σ : Sl} {j : Nat} {v : V} (h : σ[j]? = some (some v)) : slv σ j = some v := by unfold slv; rw [h]; rfl
theorem slv_map {vs : List V} {k : Nat} {v : V} (h : vs[k]? = some v) : slv (vs.map some) k = some v := by unfold slv; rw [List.getElem?_map, h]; rfl
theorem SlotOk.tag {G' : Gh} {v : V} {Fc : List Addr} {c : C} {t : Option Nat} (h : SlotOk K G Z H (some v) Fc c) (hp : ∀ a n, v = .ref a → t = some n → G'.pa n = a) : SlotOk K G' Z H (some v) Fc (c.tag t) := by
  cases c with
  | un => exact h
  | val d => exact h
  | own t' d => obtain ⟨a, q, f, p, r⟩ := h; cases q; exact ⟨a, rfl, f, fun n e => hp a n rfl e, r⟩
  | nest t' d => obtain ⟨a, as, q, f, p, r⟩ := h; cases q; exact ⟨a, as, rfl, f, fun n e => hp a n rfl e, r⟩
theorem SlotOk.tagged {v : V} {Fc : List Addr} {c : C} (h : SlotOk K G Z H (some v) Fc c) : ∀ a n, v = .ref a → c.tagOf = some n → G.pa n = a := by
  intro a n ev en
  cases c with
  | un => cases en
  | val d => cases en
  | own t' d => obtain ⟨a', q, f, p, r⟩ := h; cases q; cases ev; exact p n en
  | nest t' d => obtain ⟨a', as, q, f, p, r⟩ := h; cases q; cases ev; exact p n en
theorem ownr_some {ids : List (Option Nat)} {k : Nat} {a : Addr} (h : a ∈ ownr F ids k) : ∃ j, ids[k]? = some (some j) ∧ a ∈ F j := by
  unfold ownr at h
  split at h
  · rename_i j e; exact ⟨j, e, h⟩
  · cases h
theorem ownr_at {ids : List (Option Nat)} {k j : Nat} (h : ids[k]? = some (some j)) : ownr F ids k = F j := by unfold ownr; rw [h]
theorem call_in {σE : Sl} {E : En} {vs : List V} {cs : List C} {ids : List (Option Nat)} (h : HF K G Z σE H E F) (l1 : vs.length = ids.length) (l2 : cs.length = ids.length) (ij : Inj ids)
    (aa : ∀ (i : Nat) v c id, vs[i]? = some v → cs[i]? = some c → ids[i]? = some id → ArgAt K Z σE E i v c id) : HF K ⟨restR Z H F ids, adrOf vs⟩ Z (vs.map some) H cs (ownr F ids) := by
  refine ⟨h.zh, fun b o e => (restR_some e).1, fun b o e => (restR_some e).2.1, by rw [List.length_map, l1, l2], fun i c ec => ?_, fun i a ha => ?_, fun i j a ha hb => ?_⟩
  · have li : i < cs.length := (List.getElem?_eq_some_iff.mp ec).1
    have ev : vs[i]? = some vs[i] := List.getElem?_eq_getElem (by omega)
    have ei : ids[i]? = some ids[i] := List.getElem?_eq_getElem (by omega)
    have q := aa i _ c _ ev ec ei
    rw [slv_map ev]
    cases hid : ids[i] with
    | none =>
      rw [hid] at q ei
      obtain ⟨d, ecd, r⟩ := q
      subst ecd
      unfold ownr
      rw [ei]
      exact ⟨rfl, _, rfl, r⟩
    | some j =>
      rw [hid] at q ei
      obtain ⟨c0, e0, _, ecd, es⟩ := q
      subst ecd
      rw [ownr_at ei]
      have s := h.sl j c0 e0
      rw [slv_at es] at s
      refine s.tag fun a n ea en => ?_
      cases en
      show adrOf vs i = a
      unfold adrOf
      rw [ev, ea]
  · obtain ⟨j, ei, hj⟩ := ownr_some ha
    refine ⟨(h.fz j a hj).1, ?_, by rw [l2]; exact (List.getElem?_eq_some_iff.mp ei).1⟩
    cases q : restR Z H F ids a with
    | none => exact q
    | some o => exact absurd ha ((restR_some q).2.2 i)
  · obtain ⟨j1, e1, h1⟩ := ownr_some ha
    obtain ⟨j2, e2, h2⟩ := ownr_some hb
    have := h.dj j1 j2 a h1 h2
    subst this
    exact ij i j j1 e1 e2
theorem call_out {vs : List V} {cs cs' : List C} {ids : List (Option Nat)} {Z' H' : Hp} {F2 : Nat → List Addr} {e' : En} (hl : σ.length = e.length) (h : HF K G Z (σ ++ τ) H (e ++ t) F) (l1 : vs.length = ids.length) (l2 : cs.length = ids.length) (l3 : cs'.length = cs.length) (ij : Inj ids)
    (aa : ∀ (i : Nat) v c id, vs[i]? = some v → cs[i]? = some c → ids[i]? = some id → ArgAt K Z (σ ++ τ) (e ++ t) i v c id) (s : Same Z Z') (h2 : HF K ⟨restR Z H F ids, adrOf vs⟩ Z' (vs.map some) H' cs' F2)
    (le : e'.length = e.length) (eo : ∀ j, j < e.length → (∀ k : Nat, ids[k]? ≠ some (some j)) → e'[j]? = e[j]?) (ei : ∀ (k j : Nat) c c0, ids[k]? = some (some j) → cs'[k]? = some c → e[j]? = some c0 → e'[j]? = some (c.tag c0.tagOf)) :
    ∃ F3, HF K G Z' σ H' e' F3 ∧ ∀ j a, a ∈ F3 j → (∃ k, a ∈ F2 k) ∨ ∃ o, restR Z H F ids a = some o := by
  have ex : ∀ i a, a ∈ F i → ∃ o, H a = some o := fun i a ha => (h.sl i _ (List.getElem?_eq_getElem (h.fz i a ha).2.2)).ex a ha
  have rs : ∀ j a, a ∈ F j → (∀ k : Nat, ids[k]? ≠ some (some j)) → ∃ o, restR Z H F ids a = some o := fun j a ha nk => by
    obtain ⟨o, eo⟩ := ex j a ha
    refine ⟨o, restR_at eo (h.fz j a ha).1 fun k hk => ?_⟩
    obtain ⟨j', e1, h1⟩ := ownr_some hk
    have := h.dj j' j a h1 ha
    subst this
    exact nk k e1
  have rG : ∀ b o, G.R b = some o → restR Z H F ids b = some o := fun b o eb => restR_at (h.rh b o eb) (h.zr b o eb) fun k hk => by
    obtain ⟨j', e1, h1⟩ := ownr_some hk
    rw [(h.fz j' b h1).2.1] at eb; cases eb
  let F3 : Nat → List Addr := fun j => if j < e.length then (if q : ∃ k : Nat, ids[k]? = some (some j) then F2 q.choose else F j) else []
  have F3k : ∀ j (k : Nat), j < e.length → ids[k]? = some (some j) → F3 j = F2 k := fun j k hj hk => by
    have q : ∃ k : Nat, ids[k]? = some (some j) := ⟨k, hk⟩
    show (if j < e.length then (if q : ∃ k : Nat, ids[k]? = some (some j) then F2 q.choose else F j) else []) = F2 k
    rw [if_pos hj, dif_pos q, ij _ _ _ q.choose_spec hk]
  have F3o : ∀ j, j < e.length → (∀ k : Nat, ids[k]? ≠ some (some j)) → F3 j = F j := fun j hj hk => by
    show (if j < e.length then (if q : ∃ k : Nat, ids[k]? = some (some j) then F2 q.choose else F j) else []) = F j
    rw [if_pos hj, dif_neg fun ⟨k, q⟩ => hk k q]
  have F3n : ∀ j a, a ∈ F3 j → j < e.length := fun j a ha => by
    by_cases hj : j < e.length
    · exact hj
    · have : F3 j = [] := if_neg hj
      rw [this] at ha; cases ha
  have F3c : ∀ j a, a ∈ F3 j → (∃ k : Nat, ids[k]? = some (some j) ∧ a ∈ F2 k) ∨ ((∀ k : Nat, ids[k]? ≠ some (some j)) ∧ a ∈ F j) := fun j a ha => by
    have hj := F3n j a ha
    by_cases q : ∃ k : Nat, ids[k]? = some (some j)
    · obtain ⟨k, hk⟩ := q
      rw [F3k j k hj hk] at ha
      exact .inl ⟨k, hk, ha⟩
    · have nk : ∀ k : Nat, ids[k]? ≠ some (some j) := fun k hk => q ⟨k, hk⟩
      rw [F3o j hj nk] at ha
      exact .inr ⟨nk, ha⟩
  have r2 : ∀ k a, a ∈ F2 k → restR Z H F ids a = none := fun k a ha => (h2.fz k a ha).2.1
  refine ⟨F3, ⟨h2.zh, fun b o eb => h2.rh b o (rG b o eb), fun b o eb => h2.zr b o (rG b o eb), by rw [hl, le], fun j c ec => ?_, fun j a ha => ?_, fun i j a ha hb => ?_⟩, fun j a ha => ?_⟩
  · have hj : j < e.length := by rw [← le]; exact (List.getElem?_eq_some_iff.mp ec).1
    have sj : slv (σ ++ τ) j = slv σ j := by unfold slv; rw [List.getElem?_append_left (by rw [hl]; exact hj)]
    have e0 : e[j]? = some e[j] := List.getElem?_eq_getElem hj
    have E0 : (e ++ t)[j]? = some e[j] := by rw [List.getElem?_append_left hj]; exact e0
    have s0 := h.sl j _ E0
    rw [sj] at s0
    by_cases q : ∃ k : Nat, ids[k]? = some (some j)
    · obtain ⟨k, hk⟩ := q
      have lk : k < ids.length := (List.getElem?_eq_some_iff.mp hk).1
      have ek : cs'[k]? = some cs'[k] := List.getElem?_eq_getElem (by omega)
      have ec' := ei k j _ _ hk ek e0
      rw [ec] at ec'
      cases ec'
      rw [F3k j k hj hk]
      have a1 := aa k vs[k] cs[k] _ (List.getElem?_eq_getElem (by omega)) (List.getElem?_eq_getElem (by omega)) hk
      obtain ⟨c0, ea, _, _, es⟩ := a1
      rw [slv_at es] at sj
      rw [← sj] at s0 ⊢
      have s2 := h2.sl k _ ek
      rw [slv_map (List.getElem?_eq_getElem (show k < vs.length by omega))] at s2
      exact s2.tag fun a n ev en => s0.tagged a n ev en
    · have nk : ∀ k : Nat, ids[k]? ≠ some (some j) := fun k hk => q ⟨k, hk⟩
      rw [F3o j hj nk]
      rw [eo j hj nk, e0] at ec
      cases ec
      refine s0.mono s fun a ha => ?_
      obtain ⟨o, ho⟩ := rs j a ha nk
      rw [(restR_some ho).1]
      exact h2.rh a o ho
  · have hj := F3n j a ha
    rcases F3c j a ha with ⟨k, hk, hm⟩ | ⟨nk, hm⟩
    · refine ⟨(h2.fz k a hm).1, ?_, by rw [le]; exact hj⟩
      cases q : G.R a with
      | none => rfl
      | some o => have := r2 k a hm; rw [rG a o q] at this; cases this
    · obtain ⟨o, ho⟩ := rs j a hm nk
      exact ⟨h2.zr a o ho, (h.fz j a hm).2.1, by rw [le]; exact hj⟩
  · rcases F3c i a ha with ⟨k, hk, hm⟩ | ⟨nk, hm⟩
    · rcases F3c j a hb with ⟨k', hk', hm'⟩ | ⟨nk', hm'⟩
      · have := h2.dj k k' a hm hm'
        subst this
        rw [hk] at hk'
        cases hk'; rfl
      · obtain ⟨o, ho⟩ := rs j a hm' nk'
        rw [r2 k a hm] at ho; cases ho
    · rcases F3c j a hb with ⟨k', hk', hm'⟩ | ⟨nk', hm'⟩
      · obtain ⟨o, ho⟩ := rs i a hm nk
        rw [r2 k' a hm'] at ho; cases ho
      · exact h.dj i j a hm hm'
  · rcases F3c j a ha with ⟨k, hk, hm⟩ | ⟨nk, hm⟩
    · exact .inl ⟨k, hm⟩
    · exact .inr (rs j a hm nk)
end
theorem putB_len : ∀ (ts : List Tk) (cs : List C) (e : En), (putB ts cs e).length = e.length
  | [], _, _ => by simp [putB]
  | .val _ :: r, [], e => by simp [putB]
  | .val _ :: r, c :: cs, e => by rw [putB, putB_len r cs e]; intro j h; cases h
  | .new _ :: r, [], e => by simp [putB]
  | .new _ :: r, c :: cs, e => by rw [putB, putB_len r cs e]; intro j h; cases h
  | .loc j :: r, [], e => by simp [putB]
  | .loc j :: r, c :: cs, e => by
    rw [putB, putB_len]
    split
    · rw [List.length_set]
    · rfl
theorem putB_out : ∀ {ts : List Tk} {cs : List C} {e : En} {j : Nat}, j ∉ locs ts → (putB ts cs e)[j]? = e[j]?
  | [], _, _, _, _ => by simp [putB]
  | .val _ :: r, [], e, j, _ => by simp [putB]
  | .val _ :: r, c :: cs, e, j, h => by
    rw [putB]
    · exact putB_out (ts := r) h
    · intro j h; cases h
  | .new _ :: r, [], e, j, _ => by simp [putB]
  | .new _ :: r, c :: cs, e, j, h => by
    rw [putB]
    · exact putB_out (ts := r) h
    · intro j h; cases h
  | .loc i :: r, [], e, j, _ => by simp [putB]
  | .loc i :: r, c :: cs, e, j, h => by
    have hij : i ≠ j := fun z => h (by rw [z]; exact List.mem_cons_self)
    rw [putB, putB_out fun z => h (List.mem_cons_of_mem _ z)]
    split
    · rw [List.getElem?_set_ne hij]
    · rfl
theorem putB_in {n : Nat} : ∀ {ts : List Tk} {cs : List C} {e : En} {k j : Nat} {c c0 : C}, (locs ts).Nodup → j < n → (idxs n ts)[k]? = some (some j) → cs[k]? = some c → e[j]? = some c0 → (putB ts cs e)[j]? = some (c.tag c0.tagOf)
  | [], _, _, k, j, _, _, _, _, h, _, _ => by cases h
  | .val _ :: r, [], e, k, j, c, c0, _, _, _, h, _ => by cases h
  | .val _ :: r, c' :: cs, e, k, j, c, c0, nd, hj, h1, h2, h3 => by
    rw [putB]
    · cases k with
      | zero => cases h1
      | succ k => exact putB_in (ts := r) nd hj h1 h2 h3
    · intro j h; cases h
  | .new _ :: r, [], e, k, j, c, c0, _, _, _, h, _ => by cases h
  | .new _ :: r, c' :: cs, e, k, j, c, c0, nd, hj, h1, h2, h3 => by
    rw [putB]
    · cases k with
      | zero => cases h1; omega
      | succ k => exact putB_in (ts := r) nd hj h1 h2 h3
    · intro j h; cases h
  | .loc i :: r, [], e, k, j, c, c0, _, _, _, h, _ => by cases h
  | .loc i :: r, c' :: cs, e, k, j, c, c0, nd, hj, h1, h2, h3 => by
    have nd' := List.nodup_cons.mp nd
    rw [putB]
    cases k with
    | zero =>
      cases h1
      cases h2
      rw [putB_out nd'.1, h3]
      exact List.getElem?_set_self (List.getElem?_eq_some_iff.mp h3).1
    | succ k =>
      have hij : i ≠ j := fun z => by
        rcases idx_bound (ts := r) h1 with q | q
        · rw [← z] at q; exact nd'.1 q
        · omega
      refine putB_in (ts := r) nd'.2 hj h1 h2 ?_
      split
      · rw [List.getElem?_set_ne hij]; exact h3
      · exact h3
end FL
namespace FL
open PySem PySem.Spec PyProof.Rows L2

theorem tmp_len {K : Fr0} {Z : Hp} {σ : Sl} : ∀ {ts : List Tk} {vs : List V}, TksOk K Z σ vs ts → (tmpV vs ts).length = (tmpC ts).length
  | [], [], _ => rfl
  | [], _ :: _, h => h.elim
  | t :: ts, [], h => by cases t <;> exact h.elim
  | .val d :: ts, v :: vs, h => tmp_len (ts := ts) (vs := vs) h.2
  | .loc d :: ts, v :: vs, h => tmp_len (ts := ts) (vs := vs) h.2
  | .new c :: ts, v :: vs, h => by rw [tmpV, tmpC, List.length_append, List.length_append, tmp_len (ts := ts) (vs := vs) h]; rfl
theorem argC_locs {e : En} : ∀ {ts : List Tk} {cs : List C} {k : Nat}, argC k ts e = some cs → ∀ j ∈ locs ts, j < e.length
  | [], _, _, _, j, hj => nomatch hj
  | .val d :: ts, cs, k, h, j, hj => by
    obtain ⟨r, hr, _⟩ := map_cons h
    exact argC_locs hr j hj
  | .loc i :: ts, cs, k, h, j, hj => by
    unfold argC at h
    split at h
    · rename_i t d ec
      obtain ⟨r, hr, _⟩ := map_cons h
      rcases List.mem_cons.mp hj with q | q
      · rw [q]; exact (List.getElem?_eq_some_iff.mp ec).1
      · exact argC_locs hr j q
    · rename_i t d ec
      obtain ⟨r, hr, _⟩ := map_cons h
      rcases List.mem_cons.mp hj with q | q
      · rw [q]; exact (List.getElem?_eq_some_iff.mp ec).1
      · exact argC_locs hr j q
    · cases h
  | .new c :: ts, cs, k, h, j, hj => by
    cases c with
    | un => cases h
    | val d => cases h
    | own t d =>
      obtain ⟨r, hr, _⟩ := map_cons h
      exact argC_locs hr j hj
    | nest t d =>
      obtain ⟨r, hr, _⟩ := map_cons h
      exact argC_locs hr j hj
theorem wCall.mono {s : Fs} {wr : WA} (hs : MonoF s) (hr : MonoE wr) : MonoE (wCall s wr) := fun env Q Q' x x' hQ hx h => hr _ _ _ _ _ (fun ts e h1 => by
  unfold callK at h1 ⊢
  split at h1
  · refine ⟨h1.1, hs _ _ _ _ _ (fun r cs' q => ⟨q.1, ?_⟩) (fun ex cs' q => ⟨q.1, hx _ _ q.2⟩) h1.2⟩
    cases r with
    | val d => exact hQ _ _ q.2
    | new c => exact hQ _ _ q.2
    | loc i => exact q.2.elim
  · exact h1.elim) hx h
theorem call_read {K : Fr0} {Er : XK} {s : Fs} {wr : WA} (hs : MonoF s) (hr : MonoE wr) {σ : Sl} {H : Hp} {Q : VK} (h : TEw K Er (wCall s wr) σ H Q) : tCall (spF K s) [] Er (TAw K Er wr) σ H Q := by
  obtain ⟨G, Z, env, hh, h⟩ := h
  refine ⟨G, Z, env, hh, hr _ _ _ _ _ (fun ts e h1 Z1 H1 vs s1 p1 => ?_) (fun _ _ q => q) h⟩
  show spF K s (vs ++ []) H1 Q Er
  rw [List.append_nil]
  unfold callK at h1
  split at h1
  · rename_i cs ec
    obtain ⟨nd, h1⟩ := h1
    obtain ⟨⟨F, hF⟩, ok⟩ := p1
    have tl := tmp_len ok
    have hl : σ.length = e.length := by have := hF.len; rw [List.length_append, List.length_append, tl] at this; omega
    obtain ⟨l1, l2, aa⟩ := arg_at hl (p := []) (q := []) rfl ok ec
    simp only [List.append_nil, Nat.zero_add] at aa
    have ij := idx_inj (n := e.length) nd (argC_locs ec)
    have li := idxs_len e.length ts
    have L1 : vs.length = (idxs e.length ts).length := by rw [l1, li]
    have L2 : cs.length = (idxs e.length ts).length := by rw [l2, li]
    have hin := call_in hF L1 L2 ij aa
    have out : ∀ {Z' H' : Hp} {cs' : List C} {F2 : Nat → List Addr}, cs'.length = cs.length → Same Z1 Z' → HF K ⟨restR Z1 H1 F (idxs e.length ts), adrOf vs⟩ Z' (vs.map some) H' cs' F2 →
        ∃ F3, HF K G Z' σ H' (putB ts cs' e) F3 ∧ ∀ j a, a ∈ F3 j → (∃ k, a ∈ F2 k) ∨ ∃ o, restR Z1 H1 F (idxs e.length ts) a = some o := fun l3 s' h2 =>
      call_out hl hF L1 L2 l3 ij aa s' h2 (putB_len _ _ _) (fun j hj nk => putB_out fun hm => by
        have fnd : ∀ {ts : List Tk}, j ∈ locs ts → ∃ k : Nat, (idxs e.length ts)[k]? = some (some j) := by
          intro ts
          induction ts with
          | nil => intro q; cases q
          | cons t ts ih =>
            intro q
            cases t with
            | val d => obtain ⟨k, hk⟩ := ih q; exact ⟨k + 1, hk⟩
            | new d => obtain ⟨k, hk⟩ := ih q; exact ⟨k + 1, hk⟩
            | loc i =>
              rcases List.mem_cons.mp q with z | z
              · rw [z]; exact ⟨0, rfl⟩
              · obtain ⟨k, hk⟩ := ih z; exact ⟨k + 1, hk⟩
        obtain ⟨k, hk⟩ := fnd hm
        exact nk k hk) (fun k j c c0 hk hc h0 => putB_in nd (List.getElem?_eq_some_iff.mp h0).1 hk hc h0)
    refine ⟨_, Z1, cs, ⟨_, hin⟩, hs _ _ _ _ _ (fun r cs' ⟨l3, q⟩ Z' H' v s' p' => ?_) (fun ex cs' ⟨l3, q⟩ Z' H' cls od s' h2 hx => ?_) h1⟩
    · cases r with
      | val d =>
        obtain ⟨⟨F2, h2⟩, rp⟩ := p'
        obtain ⟨F3, h3, _⟩ := out l3 s' h2
        exact q Z' H' v (s1.trans s') ⟨⟨F3, h3⟩, rp⟩
      | new c =>
        obtain ⟨F2, h2⟩ := p'
        obtain ⟨h2, sl, n1, d1⟩ := h2.pop
        obtain ⟨F3, h3, src⟩ := out l3 s' h2
        refine q Z' H' v (s1.trans s') ⟨_, h3.push (sl.tag (G' := G) (t := none) fun _ _ _ z => by cases z) (fun a ha => ⟨(n1 a ha).1, ?_⟩) fun j a ha hj => ?_⟩
        · cases eg : G.R a with
          | none => rfl
          | some o =>
            have z : restR Z1 H1 F (idxs e.length ts) a = none := (n1 a ha).2
            have y : restR Z1 H1 F (idxs e.length ts) a = some o := restR_at (hF.rh a o eg) (hF.zr a o eg) fun k hk => by
              obtain ⟨j', _, hj'⟩ := ownr_some hk
              rw [(hF.fz j' a hj').2.1] at eg; cases eg
            rw [y] at z; cases z
        · rcases src j a hj with ⟨k, hk⟩ | ⟨o, ho⟩
          · exact d1 k a ha hk
          · have z : restR Z1 H1 F (idxs e.length ts) a = none := (n1 a ha).2
            rw [ho] at z; cases z
      | loc i => exact q.elim
    · obtain ⟨F2, h2⟩ := h2
      obtain ⟨F3, h3, _⟩ := out l3 s' h2
      exact q Z' σ H' cls od (s1.trans s') ⟨F3, h3⟩ hx
  · exact h1.elim
section
variable {X : Cx} {Er : XK} {a : Expr} {es : List Expr} {wr : WA}
theorem e_call {e : Expr} {s : Fs} (hs : MonoF s) (hr : MonoE wr) (hp : PE X e (tCall (spF X.K s) [] Er (TAw X.K Er wr))) : EJ X Er e (wCall s wr) :=
  ⟨pe_imp hp fun _ _ _ h => call_read hs hr h, wCall.mono hs hr⟩
end
/-- a def from its body -/
theorem fn_ok {P : Program} {w : World} {K : Fr0} {mg : Str → Option Value} {base : Heap} {x qual : Str} {st : Stmt} {f : Addr} {fd : FuncData} {N ps : List Str} {k n m : Nat} {sp : Fs} {wb : WS} (F : Fun K x qual st f fd) (S : FnScope N ps (defScope st))
    (hn : N.length = n + m) (hp : ps.length = n) (hm : MonoS wb)
    (body : ∀ (cdv : Value) (A : Around) (outer : List Env) (s : Shared) (H : Hp) (E : XK), Room k (A.deeper (envOfC qual (defScope st) s.heap.objs.size f cdv)) → PSs (cxOf CX0 P w K mg base N qual (defScope st) f cdv A outer s H E).nox (defBody st) (TSw K E wb))
    (hs : ∀ cs Q x, sp cs Q x → fnW n m wb cs Q x) : FnOk P w K mg base CX0 (k + 1) f fd ps (spF K sp) := by
  have up : ∀ vs H Q E, spF K sp vs H Q E → spF K (fnW n m wb) vs H Q E := fun vs H Q E ⟨G, Z, cs, hh, h⟩ => ⟨G, Z, cs, hh, hs _ _ _ h⟩
  refine F.ok S (fun vs H Q E h => ?_) fun cdv A outer s H vs Q E hr h => ?_
  · rw [hp]; exact (fn_read (Er := E) hm hn (up vs H Q E h)).1
  · exact ⟨_, body cdv A outer s H E hr, (fn_read hm hn (up vs H Q E h)).2⟩
end FL
namespace FL
open PySem PySem.Spec PyProof.Rows L2

section
variable {K : Fr0} {Z H : Hp} {v : V}
theorem Now.bl' {b : Bool} (n : Now K Z H v (.bl b)) : v = .bl b := by
  cases n with
  | st r => cases r; rfl
  | ow r => exact r.elim
theorem Now.str' {b : Str} (n : Now K Z H v (.str b)) : v = .str b := by
  cases n with
  | st r => cases r; rfl
  | ow r => exact r.elim
theorem Now.non' (n : Now K Z H v .non) : v = .non := by
  cases n with
  | st r => cases r; rfl
  | ow r => exact r.elim
theorem Now.opq' {w : V} (n : Now K Z H v (.opq w)) : v = w := by
  cases n with
  | st r => cases r; rfl
  | ow r => exact r.elim
theorem Now.lst' {ds : List D} (n : Now K Z H v (.lst ds)) (zh : Same Z H) : ∃ a vs, v = .ref a ∧ H a = some (.lst vs) ∧ Reps K Z vs ds := by
  cases n with
  | st r => cases r with | lst h r => exact ⟨_, _, rfl, zh _ _ h, r⟩
  | ow r => obtain ⟨vs, h, r⟩ := r; exact ⟨_, vs, rfl, h, r⟩
theorem Now.tup' {ds : List D} (n : Now K Z H v (.tup ds)) (zh : Same Z H) : ∃ a vs, v = .ref a ∧ Rd H a (.tup vs) ∧ Reps K Z vs ds := by
  cases n with
  | st r => cases r with | tup h r => exact ⟨_, _, rfl, rd_mono zh h, r⟩
  | ow r => exact r.elim
theorem Now.frl' {ds : List D} (n : Now K Z H v (.frl ds)) (zh : Same Z H) : ∃ a vs, v = .ref a ∧ SqL K H a vs ∧ Reps K Z vs ds := by
  cases n with
  | st r => cases r with | frl h r => exact ⟨_, _, rfl, sqL_mono zh h, r⟩
  | ow r => exact r.elim
theorem Now.tupR {ds : List D} (n : Now K Z H v (.tup ds)) : Rep K Z v (.tup ds) := by
  cases n with
  | st r => exact r
  | ow r => exact r.elim
end
theorem Reps.append {K : Fr0} {Z : Hp} : ∀ {vs vs' : List V} {ds ds' : List D}, Reps K Z vs ds → Reps K Z vs' ds' → Reps K Z (vs ++ vs') (ds ++ ds')
  | _, _, _, _, .nil, q => q
  | _, _, _, _, .cons r t, q => .cons r (Reps.append t q)
theorem Reps.take {K : Fr0} {Z : Hp} : ∀ (n : Nat) {vs : List V} {ds : List D}, Reps K Z vs ds → Reps K Z (vs.take n) (ds.take n)
  | 0, _, _, _ => .nil
  | _ + 1, _, _, .nil => .nil
  | n + 1, _, _, .cons r t => .cons r (Reps.take n t)
theorem Reps.drop {K : Fr0} {Z : Hp} : ∀ (n : Nat) {vs : List V} {ds : List D}, Reps K Z vs ds → Reps K Z (vs.drop n) (ds.drop n)
  | 0, _, _, h => h
  | _ + 1, _, _, .nil => .nil
  | n + 1, _, _, .cons r t => Reps.drop n t
theorem Reps.reverse {K : Fr0} {Z : Hp} : ∀ {vs : List V} {ds : List D}, Reps K Z vs ds → Reps K Z vs.reverse ds.reverse
  | _, _, .nil => .nil
  | _, _, .cons r t => by rw [List.reverse_cons, List.reverse_cons]; exact (Reps.reverse t).append (.cons r .nil)
theorem Reps.nil_iff {K : Fr0} {Z : Hp} {vs : List V} {ds : List D} (r : Reps K Z vs ds) : vs = [] ↔ ds = [] := by
  cases r with
  | nil => exact ⟨fun _ => rfl, fun _ => rfl⟩
  | cons _ _ => exact ⟨(fun h => by cases h), (fun h => by cases h)⟩
theorem Reps.rep {K : Fr0} {Z : Hp} {vs : List V} {ds : List D} (r : Reps K Z vs ds) : ∀ k : Nat, Reps K Z (List.replicate k vs).flatten (List.replicate k ds).flatten
  | 0 => .nil
  | k + 1 => by rw [List.replicate_succ, List.replicate_succ, List.flatten_cons, List.flatten_cons]; exact r.append (Reps.rep r k)
/-- a new list, the caller's own -/
theorem post_lst {K : Fr0} {G : Gh} {Z : Hp} {σ : Sl} {H : Hp} {e : En} {p : Addr} {vs : List V} {ds : List D} (h : Holds K G Z σ H e) (hp : H p = none) (r : Reps K Z vs ds) : PostE K G Z σ (upd H p (.lst vs)) e (.ref p) (.new (.own none (.lst ds))) :=
  h.laidOwn hp ⟨vs, upd_same, r⟩ rfl
theorem post_tup {K : Fr0} {G : Gh} {Z : Hp} {σ : Sl} {H : Hp} {e : En} {p : Addr} {vs : List V} {ds : List D} (h : Holds K G Z σ H e) (hp : H p = none) (r : Reps K Z vs ds) : Same Z (upd Z p (.tup vs)) ∧ PostE K G (upd Z p (.tup vs)) σ (upd H p (.tup vs)) e (.ref p) (.val (.tup ds)) := by
  obtain ⟨sm, h2⟩ := h.laid (o := .tup vs) hp
  exact ⟨sm, h2, .tup (.inl upd_same) (r.mono sm)⟩

/-! ### + -/
def fAdd : OpF := fun d1 d2 Q => match d1, d2 with
  | .int i, .int j => Q (.val (.int (i + j)))
  | .str a, .str b => a.length + b.length ≤ sizeLine ∧ Q (.val (.str (a ++ b)))
  | .lst a, .lst b => a.length + b.length ≤ sizeLine ∧ Q (.new (.own none (.lst (a ++ b))))
  | .tup a, .tup b => a.length + b.length ≤ sizeLine ∧ Q (.val (.tup (a ++ b)))
  | _, _ => False
section
variable {X : Cx} {Er : XK} {pos : Pos}
abbrev rAddA (K : Fr0) : R2 := fun x y H Q => rI0 (fun i j => .int (i + j)) x y H Q ∨ ((∃ i j, x = .str i ∧ y = .str j ∧ i.length + j.length ≤ sizeLine ∧ Q (.str (i ++ j)) H) ∨ (rCat x y H Q ∨ rCatA K x y H Q))
theorem o_add : OpR X (binaryOp .Add) (rAddA X.K) := op_add.or (op_add_str.or (op_cat.or op_catA))
theorem os_add {K : Fr0} : OpS K (rAddA K) fAdd where
  mono := fun d1 d2 Q Q' hQ h => by
    unfold fAdd at h ⊢
    split at h <;> first | exact hQ _ h | exact ⟨h.1, hQ _ h.2⟩ | exact h.elim
  run := fun G Z σ H env v1 v2 d1 d2 Q hh n1 n2 h => by
    unfold fAdd at h
    split at h
    · rw [n1.int', n2.int']
      exact .inl ⟨_, _, rfl, rfl, h Z H _ (.refl _) ⟨hh, .int _⟩⟩
    · rw [n1.str', n2.str']
      exact .inr (.inl ⟨_, _, rfl, rfl, h.1, h.2 Z H _ (.refl _) ⟨hh, .str _⟩⟩)
    · obtain ⟨a, vs, e1, h1, r1⟩ := n1.lst' hh.zh
      obtain ⟨b, us, e2, h2, r2⟩ := n2.lst' hh.zh
      refine .inr (.inr (.inl ⟨a, b, vs, us, e1, e2, h1, h2, by rw [r1.length, r2.length]; exact h.1, fun p hp => ?_⟩))
      exact h.2 Z _ _ (.refl _) (post_lst hh hp (r1.append r2))
    · obtain ⟨a, vs, e1, h1, r1⟩ := n1.tup' hh.zh
      obtain ⟨b, us, e2, h2, r2⟩ := n2.tup' hh.zh
      refine .inr (.inr (.inr ⟨a, b, vs, us, e1, e2, .inl h1, .inl h2, by rw [r1.length, r2.length]; exact h.1, fun z => ?_, fun z y => ?_, fun z y p hp => ?_⟩))
      · have := r1.nil_iff.mp z
        subst this
        exact h.2 Z H _ (.refl _) ⟨hh, e2 ▸ n2.tupR⟩
      · have := r2.nil_iff.mp y
        subst this
        rw [List.append_nil] at h
        exact h.2 Z H _ (.refl _) ⟨hh, e1 ▸ n1.tupR⟩
      · obtain ⟨sm, q⟩ := post_tup hh hp (r1.append r2)
        exact h.2 _ _ _ sm q
    · exact h.elim
theorem e_add {a b : Expr} {wa wb : WE} (ha : EJ X Er a wa) (hb : EJ X Er b wb) : EJ X Er (.BinOp a .Add b pos) (wOp fAdd wa wb) := e_op o_add os_add ha hb
/-! ### other operators on whole numbers -/
/-- from two ints, under a condition -/
def fI (c : Int → Int → Prop) (g : Int → Int → D) : OpF := fun d1 d2 Q => match d1, d2 with
  | .int i, .int j => c i j ∧ Q (.val (g i j))
  | _, _ => False
theorem os_I {K : Fr0} {c : Int → Int → Prop} {g : Int → Int → D} {gv : Int → Int → V} (hg : ∀ K Z i j, Rep K Z (gv i j) (g i j)) : OpS K (rI c gv) (fI c g) where
  mono := fun d1 d2 Q Q' hQ h => by
    unfold fI at h ⊢
    split at h <;> first | exact ⟨h.1, hQ _ h.2⟩ | exact h.elim
  run := fun G Z σ H env v1 v2 d1 d2 Q hh n1 n2 h => by
    unfold fI at h
    split at h
    · rw [n1.int', n2.int']
      exact ⟨_, _, rfl, rfl, h.1, h.2 Z H _ (.refl _) ⟨hh, hg _ _ _ _⟩⟩
    · exact h.elim
def fI0 (g : Int → Int → D) : OpF := fun d1 d2 Q => match d1, d2 with
  | .int i, .int j => Q (.val (g i j))
  | _, _ => False
theorem os_I0 {K : Fr0} {g : Int → Int → D} {gv : Int → Int → V} (hg : ∀ K Z i j, Rep K Z (gv i j) (g i j)) : OpS K (rI0 gv) (fI0 g) where
  mono := fun d1 d2 Q Q' hQ h => by
    unfold fI0 at h ⊢
    split at h <;> first | exact hQ _ h | exact h.elim
  run := fun G Z σ H env v1 v2 d1 d2 Q hh n1 n2 h => by
    unfold fI0 at h
    split at h
    · rw [n1.int', n2.int']
      exact ⟨_, _, rfl, rfl, h Z H _ (.refl _) ⟨hh, hg _ _ _ _⟩⟩
    · exact h.elim
variable {a b : Expr} {wa wb : WE}
def fSub : OpF := fI0 fun i j => .int (i - j)
theorem e_sub (ha : EJ X Er a wa) (hb : EJ X Er b wb) : EJ X Er (.BinOp a .Sub b pos) (wOp fSub wa wb) := e_op op_sub (os_I0 fun _ _ _ _ => .int _) ha hb
def fMod : OpF := fI (fun _ j => 0 < j) fun i j => .int (i % j)
theorem e_mod (ha : EJ X Er a wa) (hb : EJ X Er b wb) : EJ X Er (.BinOp a .Mod b pos) (wOp fMod wa wb) := e_op op_mod (os_I fun _ _ _ _ => .int _) ha hb
def fDiv : OpF := fI CDivW fun i j => .int (i / j)
theorem e_fdiv (ha : EJ X Er a wa) (hb : EJ X Er b wb) : EJ X Er (.BinOp a .FloorDiv b pos) (wOp fDiv wa wb) := e_op op_fdivW (os_I fun _ _ _ _ => .int _) ha hb
def fPow : OpF := fI CPow fun i j => .int (i ^ j.toNat)
theorem e_pow (ha : EJ X Er a wa) (hb : EJ X Er b wb) : EJ X Er (.BinOp a .Pow b pos) (wOp fPow wa wb) := e_op op_pow (os_I fun _ _ _ _ => .int _) ha hb
def fShl : OpF := fI CShl fun i j => .int (i * 2 ^ j.toNat)
theorem e_shl (ha : EJ X Er a wa) (hb : EJ X Er b wb) : EJ X Er (.BinOp a .LShift b pos) (wOp fShl wa wb) := e_op op_shlW (os_I fun _ _ _ _ => .int _) ha hb
/-! ### * -/
def fMul : OpF := fun d1 d2 Q => match d1, d2 with
  | .int i, .int j => CMul i j ∧ Q (.val (.int (i * j)))
  | .lst xs, .int k => -(2 ^ 63) ≤ k ∧ k < 2 ^ 63 ∧ xs.length * k.toNat ≤ sizeLine ∧ Q (.new (.own none (.lst (List.replicate k.toNat xs).flatten)))
  | _, _ => False
abbrev rMulA : R2 := fun x y H Q => rI CMul (fun i j => .int (i * j)) x y H Q ∨ rRep x y H Q
theorem o_mul : OpR X (binaryOp .Mult) rMulA := op_mul.or op_rep
theorem os_mul {K : Fr0} : OpS K rMulA fMul where
  mono := fun d1 d2 Q Q' hQ h => by
    unfold fMul at h ⊢
    split at h <;> first | exact ⟨h.1, hQ _ h.2⟩ | exact ⟨h.1, h.2.1, h.2.2.1, hQ _ h.2.2.2⟩ | exact h.elim
  run := fun G Z σ H env v1 v2 d1 d2 Q hh n1 n2 h => by
    unfold fMul at h
    split at h
    · rw [n1.int', n2.int']
      exact .inl ⟨_, _, rfl, rfl, h.1, h.2 Z H _ (.refl _) ⟨hh, .int _⟩⟩
    · obtain ⟨a, vs, e1, h1, r1⟩ := n1.lst' hh.zh
      refine .inr ⟨a, _, vs, e1, n2.int', h1, h.1, h.2.1, by rw [r1.length]; exact h.2.2.1, fun p hp => ?_⟩
      exact h.2.2.2 Z _ _ (.refl _) (post_lst hh hp (r1.rep _))
    · exact h.elim
theorem e_mul (ha : EJ X Er a wa) (hb : EJ X Er b wb) : EJ X Er (.BinOp a .Mult b pos) (wOp fMul wa wb) := e_op o_mul os_mul ha hb
/-! ### -x -/
def wNeg (w : WE) : WE := fun env Q x => (fun (_ : Unit) => w env (fun t e => match res e t with
  | some (.int i) => Q (.val (.int (-i))) e
  | _ => False) x) hi4
theorem e_neg (ha : EJ X Er a wa) : EJ X Er (.UnaryOp .USub a pos) (wNeg wa) := by
  refine ⟨pe_imp (pe_un un_neg ha.pe) fun σ H Q h => ?_, fun env Q Q' x x' hQ hx h => ha.mono _ _ _ _ _ (fun t e h1 => ?_) hx h⟩
  · obtain ⟨G, Z, env, hh, h⟩ := h
    refine ⟨G, Z, env, hh, ha.mono _ _ _ _ _ (fun t e h1 Z1 H1 v s1 p1 => ?_) (fun _ _ q => q) h⟩
    split at h1
    · rename_i i ei
      exact ⟨i, (p1.now ei).int', h1 Z1 H1 _ s1 ⟨p1.holds, .int _⟩⟩
    · exact h1.elim
  · split at h1
    · rename_i i ei
      exact hQ _ _ h1
    · exact h1.elim
/-! ### comparisons -/
def fLt : OpF := fI0 fun i j => .bl (decide (i < j))
def fLe : OpF := fI0 fun i j => .bl (decide (i ≤ j))
def fGt : OpF := fI0 fun i j => .bl (decide (j < i))
def fGe : OpF := fI0 fun i j => .bl (decide (j ≤ i))
theorem os_lt {K : Fr0} : OpS K (rI0 fun i j => .bl (decide (i < j))) fLt := os_I0 fun _ _ _ _ => .bl _
theorem os_le {K : Fr0} : OpS K (rI0 fun i j => .bl (decide (i ≤ j))) fLe := os_I0 fun _ _ _ _ => .bl _
theorem os_gt {K : Fr0} : OpS K (rI0 fun i j => .bl (decide (j < i))) fGt := os_I0 fun _ _ _ _ => .bl _
theorem os_ge {K : Fr0} : OpS K (rI0 fun i j => .bl (decide (j ≤ i))) fGe := os_I0 fun _ _ _ _ => .bl _
theorem t_lt (ha : EJ X Er a wa) (hb : EJ X Er b wb) : TJ X Er (.Compare a [.Lt] [b] pos) (wB (wOp fLt wa wb)) := t_cmp op_lt os_lt ha hb (nomark _)
theorem t_le (ha : EJ X Er a wa) (hb : EJ X Er b wb) : TJ X Er (.Compare a [.LtE] [b] pos) (wB (wOp fLe wa wb)) := t_cmp op_le os_le ha hb (nomark _)
theorem t_gt (ha : EJ X Er a wa) (hb : EJ X Er b wb) : TJ X Er (.Compare a [.Gt] [b] pos) (wB (wOp fGt wa wb)) := t_cmp op_gt os_gt ha hb (nomark _)
theorem t_ge (ha : EJ X Er a wa) (hb : EJ X Er b wb) : TJ X Er (.Compare a [.GtE] [b] pos) (wB (wOp fGe wa wb)) := t_cmp op_ge os_ge ha hb (nomark _)
theorem e_lt (ha : EJ X Er a wa) (hb : EJ X Er b wb) : EJ X Er (.Compare a [.Lt] [b] pos) (wOp fLt wa wb) := e_cmp op_lt os_lt ha hb (nomark _)
theorem e_le (ha : EJ X Er a wa) (hb : EJ X Er b wb) : EJ X Er (.Compare a [.LtE] [b] pos) (wOp fLe wa wb) := e_cmp op_le os_le ha hb (nomark _)
theorem e_gt (ha : EJ X Er a wa) (hb : EJ X Er b wb) : EJ X Er (.Compare a [.Gt] [b] pos) (wOp fGt wa wb) := e_cmp op_gt os_gt ha hb (nomark _)
theorem e_ge (ha : EJ X Er a wa) (hb : EJ X Er b wb) : EJ X Er (.Compare a [.GtE] [b] pos) (wOp fGe wa wb) := e_cmp op_ge os_ge ha hb (nomark _)
end
/-! ### == of data -/
mutual
def toPy : D → PyData
  | .non => .none
  | .bl b => .bool b
  | .int i => .int i
  | .str x => .str x
  | .tup xs => .tuple (toPys xs)
  | .lst xs => .list (toPys xs)
  | .frl xs => .list (toPys xs)
  | .dK _ => .none
  | .dT _ => .none
  | .opq _ => .none
def toPys : List D → List PyData
  | [] => []
  | x :: r => toPy x :: toPys r
end
mutual
/-- data that is compared by what it is -/
def plain : D → Bool
  | .dK _ => false
  | .dT _ => false
  | .opq _ => false
  | .tup xs => plains xs
  | .lst xs => plains xs
  | .frl xs => plains xs
  | _ => true
def plains : List D → Bool
  | [] => true
  | x :: r => plain x && plains r
end
mutual
theorem Rep.dp {K : Fr0} {Z H : Hp} (zh : Same Z H) : ∀ {v : V} {d : D}, Rep K Z v d → plain d = true → Dp K H v (toPy d)
  | _, _, .non, _ => .non
  | _, _, .bl b, _ => .bl b
  | _, _, .int i, _ => .int i
  | _, _, .str x, _ => .str x
  | _, _, .tup h r, p => .tup (.inl (rd_mono zh h)) (Reps.dp zh r p)
  | _, _, .lst h r, p => .lst (.of (zh _ _ h)) (Reps.dp zh r p)
  | _, _, .frl h r, p => .lst (sqL_mono zh h) (Reps.dp zh r p)
  | _, _, .dK _ _ _, p => by cases p
  | _, _, .dT _ _ _, p => by cases p
  | _, _, .opq v, p => by cases p
theorem Reps.dp {K : Fr0} {Z H : Hp} (zh : Same Z H) : ∀ {vs : List V} {ds : List D}, Reps K Z vs ds → plains ds = true → DpAll K H vs (toPys ds)
  | _, _, .nil, _ => .nil
  | _, _, .cons r t, p => by
    have p' := Bool.and_eq_true_iff.mp p
    exact .cons (Rep.dp zh r p'.1) (Reps.dp zh t p'.2)
end
theorem Now.dp {K : Fr0} {Z H : Hp} {v : V} {d : D} (zh : Same Z H) (n : Now K Z H v d) (p : plain d = true) : Dp K H v (toPy d) := by
  cases n with
  | st r => exact r.dp zh p
  | ow r =>
    cases d with
    | lst xs => obtain ⟨vs, h, r⟩ := r; exact .lst (.of h) (r.dp zh p)
    | _ => first | exact r.elim | cases p
def shp (d : D) : Prop := plain d = true ∧ SeqAt.shaped (toPy d) = true
def eqD (d1 d2 : D) : Bool := PyData.eqv (toPy d1) (toPy d2)
def fEq : OpF := fun d1 d2 Q => match d1, d2 with
  | .int i, .int j => Q (.val (.bl (decide (i = j))))
  | .str i, .str j => Q (.val (.bl (decide (i = j))))
  | .bl i, .bl j => Q (.val (.bl (decide (i = j))))
  | d1, d2 => shp d1 ∧ shp d2 ∧ Q (.val (.bl (eqD d1 d2)))
def fNe : OpF := fun d1 d2 Q => match d1, d2 with
  | .int i, .int j => Q (.val (.bl (!decide (i = j))))
  | .str i, .str j => Q (.val (.bl (!decide (i = j))))
  | .bl i, .bl j => Q (.val (.bl (!decide (i = j))))
  | d1, d2 => shp d1 ∧ shp d2 ∧ Q (.val (.bl (!eqD d1 d2)))
section
variable {X : Cx} {Er : XK} {pos : Pos} {a b : Expr} {wa wb : WE}
abbrev rEqA (K : Fr0) : R2 := fun x y H Q => rEq x y H Q ∨ rEqD K x y H Q
abbrev rNeA (K : Fr0) : R2 := fun x y H Q => rNe x y H Q ∨ rNeD K x y H Q
theorem V_int_inj {i j : Int} : decide (V.int i = V.int j) = decide (i = j) := by
  by_cases h : i = j
  · subst h; simp
  · simp [h]
theorem V_str_inj {i j : Str} : decide (V.str i = V.str j) = decide (i = j) := by
  by_cases h : i = j
  · subst h; simp
  · simp [h]
theorem V_bl_inj {i j : Bool} : decide (V.bl i = V.bl j) = decide (i = j) := by
  by_cases h : i = j
  · subst h; simp
  · simp [h]
theorem os_eq {K : Fr0} : OpS K (rEqA K) fEq where
  mono := fun d1 d2 Q Q' hQ h => by
    unfold fEq at h ⊢
    split at h
    · exact hQ _ h
    · exact hQ _ h
    · exact hQ _ h
    · exact ⟨h.1, h.2.1, hQ _ h.2.2⟩
  run := fun G Z σ H env v1 v2 d1 d2 Q hh n1 n2 h => by
    unfold fEq at h
    split at h
    · rw [n1.int', n2.int']
      exact .inl ⟨rfl, by rw [V_int_inj]; exact h Z H _ (.refl _) ⟨hh, .bl _⟩⟩
    · rw [n1.str', n2.str']
      exact .inl ⟨rfl, by rw [V_str_inj]; exact h Z H _ (.refl _) ⟨hh, .bl _⟩⟩
    · rw [n1.bl', n2.bl']
      exact .inl ⟨rfl, by rw [V_bl_inj]; exact h Z H _ (.refl _) ⟨hh, .bl _⟩⟩
    · exact .inr ⟨_, _, n1.dp hh.zh h.1.1, n2.dp hh.zh h.2.1.1, h.1.2, h.2.1.2, h.2.2 Z H _ (.refl _) ⟨hh, .bl _⟩⟩
theorem os_ne {K : Fr0} : OpS K (rNeA K) fNe where
  mono := fun d1 d2 Q Q' hQ h => by
    unfold fNe at h ⊢
    split at h
    · exact hQ _ h
    · exact hQ _ h
    · exact hQ _ h
    · exact ⟨h.1, h.2.1, hQ _ h.2.2⟩
  run := fun G Z σ H env v1 v2 d1 d2 Q hh n1 n2 h => by
    unfold fNe at h
    split at h
    · rw [n1.int', n2.int']
      exact .inl ⟨rfl, by rw [V_int_inj]; exact h Z H _ (.refl _) ⟨hh, .bl _⟩⟩
    · rw [n1.str', n2.str']
      exact .inl ⟨rfl, by rw [V_str_inj]; exact h Z H _ (.refl _) ⟨hh, .bl _⟩⟩
    · rw [n1.bl', n2.bl']
      exact .inl ⟨rfl, by rw [V_bl_inj]; exact h Z H _ (.refl _) ⟨hh, .bl _⟩⟩
    · exact .inr ⟨_, _, n1.dp hh.zh h.1.1, n2.dp hh.zh h.2.1.1, h.1.2, h.2.1.2, h.2.2 Z H _ (.refl _) ⟨hh, .bl _⟩⟩
variable {k : Nat}
theorem t_eq (hr : Room k X.A) (ha : EJ X Er a wa) (hb : EJ X Er b wb) : TJ X Er (.Compare a [.Eq] [b] pos) (wB (wOp fEq wa wb)) := t_cmp (op_eq.or (op_eqD hr.units)) os_eq ha hb (nomark _)
theorem t_ne (hr : Room k X.A) (ha : EJ X Er a wa) (hb : EJ X Er b wb) : TJ X Er (.Compare a [.NotEq] [b] pos) (wB (wOp fNe wa wb)) := t_cmp (op_ne.or (op_neD hr.units)) os_ne ha hb (nomark _)
theorem e_eq (hr : Room k X.A) (ha : EJ X Er a wa) (hb : EJ X Er b wb) : EJ X Er (.Compare a [.Eq] [b] pos) (wOp fEq wa wb) := e_cmp (op_eq.or (op_eqD hr.units)) os_eq ha hb (nomark _)
theorem e_ne (hr : Room k X.A) (ha : EJ X Er a wa) (hb : EJ X Er b wb) : EJ X Er (.Compare a [.NotEq] [b] pos) (wOp fNe wa wb) := e_cmp (op_ne.or (op_neD hr.units)) os_ne ha hb (nomark _)
end
/-! ### places -/
def fIx : OpF := fun d1 d2 Q => match d1, d2 with
  | .lst xs, .int i => someK (atI xs i) fun d => Q (.val d)
  | .tup xs, .int i => someK (atI xs i) fun d => Q (.val d)
  | .frl xs, .int i => someK (atI xs i) fun d => Q (.val d)
  | .str z, .int i => z.length ≤ sizeLine ∧ someK (atI z.cps.toList i) fun c => Q (.val (.str ⟨#[c]⟩))
  | _, _ => False
theorem atI_rep {K : Fr0} {Z : Hp} {vs : List V} {ds : List D} {i : Int} {d : D} (r : Reps K Z vs ds) (h : atI ds i = some d) : ∃ v, atI vs i = some v ∧ Rep K Z v d := by
  unfold atI at h ⊢
  rw [r.length]
  cases e : ixN ds.length i with
  | none => rw [e] at h; cases h
  | some j =>
    rw [e] at h
    exact r.get (i := j) h
section
variable {X : Cx} {Er : XK} {pos : Pos} {a b : Expr} {wa wb : WE}
theorem os_ix {K : Fr0} : OpS K (rIx K) fIx where
  mono := fun d1 d2 Q Q' hQ h => by
    unfold fIx at h ⊢
    split at h
    · exact someK.mono (fun _ => hQ _) h
    · exact someK.mono (fun _ => hQ _) h
    · exact someK.mono (fun _ => hQ _) h
    · exact ⟨h.1, someK.mono (fun _ => hQ _) h.2⟩
    · exact h.elim
  run := fun G Z σ H env v1 v2 d1 d2 Q hh n1 n2 h => by
    unfold fIx at h
    split at h
    · obtain ⟨d, ed, h⟩ := h.get
      obtain ⟨a, vs, e1, h1, r1⟩ := n1.lst' hh.zh
      obtain ⟨v, ev, rv⟩ := atI_rep r1 ed
      exact .inl ⟨a, vs, _, v, e1, n2.int', .of h1, ev, h Z H v (.refl _) ⟨hh, rv⟩⟩
    · obtain ⟨d, ed, h⟩ := h.get
      obtain ⟨a, vs, e1, h1, r1⟩ := n1.tup' hh.zh
      obtain ⟨v, ev, rv⟩ := atI_rep r1 ed
      exact .inr (.inl ⟨a, vs, _, v, e1, n2.int', .inl h1, ev, h Z H v (.refl _) ⟨hh, rv⟩⟩)
    · obtain ⟨d, ed, h⟩ := h.get
      obtain ⟨a, vs, e1, h1, r1⟩ := n1.frl' hh.zh
      obtain ⟨v, ev, rv⟩ := atI_rep r1 ed
      exact .inl ⟨a, vs, _, v, e1, n2.int', h1, ev, h Z H v (.refl _) ⟨hh, rv⟩⟩
    · obtain ⟨hz, h⟩ := h
      obtain ⟨c, ec, h⟩ := h.get
      exact .inr (.inr ⟨_, _, c, n1.str', n2.int', hz, ec, h Z H _ (.refl _) ⟨hh, .str _⟩⟩)
    · exact h.elim
theorem e_at (ha : EJ X Er a wa) (hb : EJ X Er b wb) (hp : PlainIx b := by intro _ _; rfl) : EJ X Er (.Subscript a b pos) (wOp fIx wa wb) := e_ix ix_seq os_ix ha hb hp
/-! ### slices -/
abbrev WO := En → (Option Int → En → Prop) → XC → Prop
def TOw (K : Fr0) (Er : XK) (w : WO) : TO := fun σ H Q => ∃ G Z env, Holds K G Z σ H env ∧ w env (fun o e => ∀ Z' H', Same Z Z' → Holds K G Z' σ H' e → Q o H') (xrOf K G Z Er)
structure OJ (X : Cx) (Er : XK) (o : Option Expr) (w : WO) : Prop where
  po : PO X o (TOw X.K Er w)
  mono : MonoE w
def wO0 : WO := fun env Q _ => (fun (_ : Unit) => Q none env) hi4
def inK (e : En) (t : Tk) (Q : Int → Prop) : Prop := match res e t with
  | some (.int i) => Q i
  | _ => False
def wO1 (w : WE) : WO := fun env Q x => (fun (_ : Unit) => w env (fun t e => inK e t fun i => Q (some i) e) x) hi4
theorem po_imp {o : Option Expr} {t t' : TO} (h : PO X o t) (i : ∀ σ H Q, t' σ H Q → t σ H Q) : PO X o t' := ⟨fun pins s σ H Q I q => h.run pins s σ H Q I (i σ H Q q)⟩
theorem inK.mono {e : En} {t : Tk} {Q Q' : Int → Prop} (hQ : ∀ i, Q i → Q' i) (h : inK e t Q) : inK e t Q' := by
  unfold inK at h ⊢
  split at h
  · exact hQ _ h
  · exact h.elim
theorem inK.get {K : Fr0} {G : Gh} {Z : Hp} {σ : Sl} {H : Hp} {e : En} {v : V} {t : Tk} {Q : Int → Prop} (p : PostE K G Z σ H e v t) (h : inK e t Q) : ∃ i, v = .int i ∧ Q i := by
  unfold inK at h
  split at h
  · rename_i i ei; exact ⟨i, (p.now ei).int', h⟩
  · exact h.elim
theorem o_none : OJ X Er none wO0 := ⟨po_imp po_none fun σ H Q ⟨G, Z, env, hh, h⟩ => h Z H (.refl _) hh, fun env Q Q' x x' hQ hx h => hQ _ _ h⟩
theorem o_some (ha : EJ X Er a wa) : OJ X Er (some a) (wO1 wa) := by
  refine ⟨po_imp (po_some ha.pe) fun σ H Q h => ?_, fun env Q Q' x x' hQ hx h => ha.mono _ _ _ _ _ (fun t e h1 => inK.mono (fun i => hQ _ _) h1) hx h⟩
  obtain ⟨G, Z, env, hh, h⟩ := h
  refine ⟨G, Z, env, hh, ha.mono _ _ _ _ _ (fun t e h1 Z1 H1 v s1 p1 => ?_) (fun _ _ q => q) h⟩
  obtain ⟨i, ev, h1⟩ := inK.get p1 h1
  exact ⟨i, ev, h1 Z1 H1 s1 p1.holds⟩
def cutD (xs : List D) (lo hi : Option Int) : List D := (xs.drop (HT.sIx xs.length 0 lo)).take (HT.sIx xs.length xs.length hi - HT.sIx xs.length 0 lo)
theorem Reps.cut {K : Fr0} {Z : Hp} {vs : List V} {ds : List D} (r : Reps K Z vs ds) (lo hi : Option Int) : Reps K Z (cutV vs lo hi) (cutD ds lo hi) := by
  unfold cutV cutD
  rw [r.length]
  exact (r.drop _).take _
abbrev SlF := D → Option Int → Option Int → (Tk → Prop) → Prop
def fSl : SlF := fun d lo hi Q => match d with
  | .lst xs => Q (.new (.own none (.lst (cutD xs lo hi))))
  | .frl xs => Q (.new (.own none (.lst (cutD xs lo hi))))
  | .tup xs => Q (.val (.tup (cutD xs lo hi)))
  | .str z => z.length ≤ sizeLine ∧ Q (.val (.str (cutS z lo hi)))
  | _ => False
theorem fSl.mono {d : D} {lo hi : Option Int} {Q Q' : Tk → Prop} (hQ : ∀ t, Q t → Q' t) (h : fSl d lo hi Q) : fSl d lo hi Q' := by
  unfold fSl at h ⊢
  split at h <;> first | exact hQ _ h | exact ⟨h.1, hQ _ h.2⟩ | exact h.elim
def slK (e : En) (t : Tk) (lo hi : Option Int) (Q : Tk → Prop) : Prop := match res e t with
  | some d => fSl d lo hi Q
  | none => False
def wSl (w : WE) (wl wh : WO) : WE := fun env Q x => (fun (_ : Unit) => w env (fun t e => wl e (fun lo e1 => wh e1 (fun hi e2 => slK e2 t lo hi fun tk => Q tk e2) x) x) x) hi4
abbrev rSlAll (K : Fr0) : V → Option Int → Option Int → Hp → VK → Prop := fun x lo hi H Q => rSlL K x lo hi H Q ∨ (rSlA K x lo hi H Q ∨ rSlS x lo hi H Q)
theorem whole_cut {α : Type} {xs : List α} {lo hi : Option Int} (h : HT.sIx xs.length 0 lo = 0 ∧ HT.sIx xs.length xs.length hi = xs.length) : (xs.drop (HT.sIx xs.length 0 lo)).take (HT.sIx xs.length xs.length hi - HT.sIx xs.length 0 lo) = xs := by
  rw [h.1, h.2, Nat.sub_zero, List.drop_zero, List.take_length]
theorem e_slice {lo hi : Option Expr} {p2 : Pos} {wl wh : WO} (ha : EJ X Er a wa) (hl : OJ X Er lo wl) (hu : OJ X Er hi wh) : EJ X Er (.Subscript a (.Slice lo hi none p2) pos) (wSl wa wl wh) := by
  refine ⟨pe_imp (pe_slice (sl_list.or (sl_tupA.or sl_str)) ha.pe hl.po hu.po) fun σ H Q h => ?_, fun env Q Q' x x' hQ hx h => ha.mono _ _ _ _ _ (fun t e h1 => hl.mono _ _ _ _ _ (fun l e1 h2 => hu.mono _ _ _ _ _ (fun u e2 h3 => ?_) hx h2) hx h1) hx h⟩
  · obtain ⟨G, Z, env, hh, h⟩ := h
    refine ⟨G, Z, env, hh, ha.mono _ _ _ _ _ (fun t e h1 Z1 H1 v s1 p1 => ?_) (fun _ _ q => q) h⟩
    obtain ⟨G1, l1, hg1, k1⟩ := p1.keep
    refine ⟨G1, Z1, e, hg1, hl.mono _ _ _ _ _ (fun l e1 h2 Z2 H2 s2 p2 => ?_) (xrOf.imp l1 s1) h1⟩
    refine ⟨G1, Z2, e1, p2, hu.mono _ _ _ _ _ (fun u e2 h3 Z3 H3 s3 p3 => ?_) (xrOf.imp l1 (s1.trans s2)) h2⟩
    have p1' := k1 Z3 σ H3 e2 (s2.trans s3) (fun _ _ q => q) p3
    have hh3 := p1'.holds
    have s13 := (s1.trans s2).trans s3
    unfold slK at h3
    split at h3
    · rename_i d ed
      have n := p1'.now ed
      unfold fSl at h3
      split at h3
      · obtain ⟨c, vs, ec, hc, rc⟩ := n.lst' hh3.zh
        exact .inl ⟨c, vs, ec, .of hc, fun p hp => h3 Z3 _ _ s13 (post_lst hh3 hp (rc.cut l u))⟩
      · obtain ⟨c, vs, ec, hc, rc⟩ := n.frl' hh3.zh
        exact .inl ⟨c, vs, ec, hc, fun p hp => h3 Z3 _ _ s13 (post_lst hh3 hp (rc.cut l u))⟩
      · obtain ⟨c, vs, ec, hc, rc⟩ := n.tup' hh3.zh
        refine .inr (.inl ⟨c, vs, ec, .inl hc, fun hw => ?_, fun _ p hp => ?_⟩)
        · rename_i ds
          rw [rc.length] at hw
          have ec2 : cutD ds l u = ds := whole_cut hw
          rw [ec2] at h3
          exact h3 Z3 H3 _ s13 ⟨hh3, ec ▸ n.tupR⟩
        · obtain ⟨sm, q⟩ := post_tup hh3 hp (rc.cut l u)
          exact h3 _ _ _ (s13.trans sm) q
      · exact .inr (.inr ⟨_, n.str', h3.1, h3.2 Z3 H3 _ s13 ⟨hh3, .str _⟩⟩)
      · exact h3.elim
    · exact h3.elim
  · unfold slK at h3 ⊢
    split at h3
    · exact fSl.mono (fun t => hQ t _) h3
    · exact h3.elim
end
end FL
namespace FL
open PySem PySem.Spec PyProof.Rows L2

section
variable {X : Cx} {Er : XK} {pos : Pos} {K : Fr0}
theorem nows1 {Z H : Hp} {vs : List V} {d : D} (n : Nows K Z H vs [d]) : ∃ v, vs = [v] ∧ Now K Z H v d := by
  cases n with
  | cons h t => cases t; exact ⟨_, rfl, h⟩
theorem nows2 {Z H : Hp} {vs : List V} {d d2 : D} (n : Nows K Z H vs [d, d2]) : ∃ v v2, vs = [v, v2] ∧ Now K Z H v d ∧ Now K Z H v2 d2 := by
  cases n with
  | cons h t => cases t with | cons h2 t => cases t; exact ⟨_, _, rfl, h, h2⟩
/-! ### len -/
def fLen : CaF := fun ds Q => match ds with
  | [.lst xs] => Q (.val (.int xs.length))
  | [.tup xs] => Q (.val (.int xs.length))
  | [.frl xs] => Q (.val (.int xs.length))
  | [.str z] => z.length ≤ sizeLine ∧ Q (.val (.int z.length))
  | _ => False
abbrev rLenA (K : Fr0) : List V → Hp → VK → Prop := fun xs H Q => (∃ p ys, xs = [.ref p] ∧ (SqL K H p ys ∨ SqT K H p ys) ∧ Q (.int ys.length) H) ∨ (∃ z, xs = [.str z] ∧ z.length ≤ sizeLine ∧ Q (.int z.length) H)
theorem c_len : CallR X (.builtin "len") (rLenA X.K) := call_len_seq.or call_len_str
theorem cs_len : CallS K (rLenA K) fLen where
  mono := fun ds Q Q' hQ h => by
    unfold fLen at h ⊢
    split at h <;> first | exact hQ _ h | exact ⟨h.1, hQ _ h.2⟩ | exact h.elim
  run := fun G Z σ H env vs ds Q hh n h => by
    unfold fLen at h
    split at h
    · obtain ⟨v, rfl, n1⟩ := nows1 n
      obtain ⟨a, us, e1, h1, r1⟩ := n1.lst' hh.zh
      exact .inl ⟨a, us, by rw [e1], .inl (.of h1), by rw [r1.length]; exact h Z H _ (.refl _) ⟨hh, .int _⟩⟩
    · obtain ⟨v, rfl, n1⟩ := nows1 n
      obtain ⟨a, us, e1, h1, r1⟩ := n1.tup' hh.zh
      exact .inl ⟨a, us, by rw [e1], .inr (.inl h1), by rw [r1.length]; exact h Z H _ (.refl _) ⟨hh, .int _⟩⟩
    · obtain ⟨v, rfl, n1⟩ := nows1 n
      obtain ⟨a, us, e1, h1, r1⟩ := n1.frl' hh.zh
      exact .inl ⟨a, us, by rw [e1], .inl h1, by rw [r1.length]; exact h Z H _ (.refl _) ⟨hh, .int _⟩⟩
    · obtain ⟨v, rfl, n1⟩ := nows1 n
      exact .inr ⟨_, by rw [n1.str'], h.1, h.2 Z H _ (.refl _) ⟨hh, .int _⟩⟩
    · exact h.elim
/-! ### sum -/
/-- whole numbers as they stand in data -/
def intsD : List D → Option (List Int)
  | [] => some []
  | .int i :: r => (intsD r).map (i :: ·)
  | _ :: _ => none
theorem intsD_run {Z : Hp} : ∀ {ds : List D} {vs : List V} {is : List Int}, Reps K Z vs ds → intsD ds = some is → vs = is.map V.int
  | [], _, _, .nil, h => by cases h; rfl
  | .int i :: ds, _, is, .cons r t, h => by
    obtain ⟨r', hr, e⟩ := map_cons h
    subst e
    cases r
    rw [intsD_run t hr]
    rfl
theorem sum_tup {prog : Program} {w : World} {A : Around} {E : Value → Shared → Prop} {s : Shared} {l : Addr} {its : List Value} {ns : List Int} {Q : Value → Shared → Prop} (hh : A.handled = none) (hl : s.heap.IsTuple l its.toArray) (hi : IntsAre its ns)
    (h : ∀ h' tk t', (∀ b o, s.heap.get? b = some o → h'.get? b = some o) → Q (.int ns.sum t') { s with heap := h', toks := tk }) : wpAny (model prog w) A (call (.builtin "sum") [.ref l]) Q E s := by
  obtain ⟨xs, e⟩ := hi.allInts.items
  have hn : numsOf (intItems xs).toList = ns := by rw [← e]; exact hi.numsOf
  rw [nums_intItems] at hn
  rw [e] at hl
  have hlI : l ≠ s.heap.objs.size := by obtain ⟨o, ho, _⟩ := hl; exact Nat.ne_of_lt (Heap.lt_size ho)
  refine call_sum_walkG (wpAny_pyIter_tuple hl ⟨_, _, _, _, _, _, numAt xs, rfl, Walks.tuple (A := A.in1) hh _ l hlI (intItems xs), ⟨⟨_, Heap.get?_push_size _ rfl, rfl, rfl⟩, hl.push _⟩, fun b hb => ?_, fun _ _ => intItems_at, fun h' tk t' hk => ?_⟩)
  · rw [Heap.size_push]
    rcases List.mem_cons.mp hb with q | q
    · rw [q]; exact Nat.lt_succ_self _
    · rw [List.mem_singleton.mp q]
      obtain ⟨o, ho, _⟩ := hl
      exact Nat.lt_succ_of_lt (Heap.lt_size ho)
  · have q := h h' tk t' fun b o e => hk b o (fun z => by
      rw [List.mem_singleton.mp z] at e
      exact absurd (Heap.lt_size e) (Nat.lt_irrefl _)) (Heap.get?_push_of_some _ e)
    rw [preSum_eq, List.take_of_length_le (by simp [intItems]), hn]
    exact q
def rSumT (K : Fr0) : List V → Hp → VK → Prop := fun vs H Q => ∃ (a : Addr) (ns : List Int), vs = [V.ref a] ∧ SqT K H a (ns.map V.int) ∧ Q (.int ns.sum) H
theorem c_sumT (hc : X.calm = true) : CallR X (.builtin "sum") (rSumT X.K) := by
  intro pins s σ H xs us Q I r h
  obtain ⟨a, ns, rfl, ha, q⟩ := h
  obtain ⟨u, rfl, ru⟩ := vals1 r
  cases ru
  obtain ⟨its, rv, p, _⟩ := I.tuple ha
  exact sum_tup (I.ok.hd hc) p rv.ints fun h' tk t' hk => ⟨.int ns.sum, H, I.kept hk, ⟨t', rfl⟩, q⟩
def fSum : CaF := fun ds Q => match ds with
  | [.lst xs] => someK (intsD xs) fun is => Q (.val (.int is.sum))
  | [.frl xs] => someK (intsD xs) fun is => Q (.val (.int is.sum))
  | [.tup xs] => someK (intsD xs) fun is => Q (.val (.int is.sum))
  | _ => False
abbrev rSumA (K : Fr0) : List V → Hp → VK → Prop := fun xs H Q => rSum K xs H Q ∨ rSumT K xs H Q
theorem c_sum (hc : X.calm = true) : CallR X (.builtin "sum") (rSumA X.K) := (cr_sum hc).or (c_sumT hc)
theorem cs_sum : CallS K (rSumA K) fSum where
  mono := fun ds Q Q' hQ h => by
    unfold fSum at h ⊢
    split at h
    · exact someK.mono (fun _ => hQ _) h
    · exact someK.mono (fun _ => hQ _) h
    · exact someK.mono (fun _ => hQ _) h
    · exact h.elim
  run := fun G Z σ H env vs ds Q hh n h => by
    unfold fSum at h
    split at h
    · obtain ⟨is, ei, h⟩ := h.get
      obtain ⟨v, rfl, n1⟩ := nows1 n
      obtain ⟨a, us, e1, h1, r1⟩ := n1.lst' hh.zh
      have := intsD_run r1 ei
      subst this
      exact .inl ⟨a, is, by rw [e1], .of h1, h Z H _ (.refl _) ⟨hh, .int _⟩⟩
    · obtain ⟨is, ei, h⟩ := h.get
      obtain ⟨v, rfl, n1⟩ := nows1 n
      obtain ⟨a, us, e1, h1, r1⟩ := n1.frl' hh.zh
      have := intsD_run r1 ei
      subst this
      exact .inl ⟨a, is, by rw [e1], h1, h Z H _ (.refl _) ⟨hh, .int _⟩⟩
    · obtain ⟨is, ei, h⟩ := h.get
      obtain ⟨v, rfl, n1⟩ := nows1 n
      obtain ⟨a, us, e1, h1, r1⟩ := n1.tup' hh.zh
      have := intsD_run r1 ei
      subst this
      exact .inr ⟨a, is, by rw [e1], .inl h1, h Z H _ (.refl _) ⟨hh, .int _⟩⟩
    · exact h.elim
/-! ### tuple(..), list(..) -/
def fTuple : CaF := fun ds Q => match ds with
  | [.lst xs] => Q (.val (.tup xs))
  | [.frl xs] => Q (.val (.tup xs))
  | [.tup xs] => Q (.val (.tup xs))
  | _ => False
theorem cs_tuple : CallS K (fun xs H Q => ∃ p ys, xs = [.ref p] ∧ ((SqL K H p ys ∧ ∀ l, H l = none → Q (.ref l) (upd H l (.tup ys))) ∨ (SqT K H p ys ∧ Q (.ref p) H))) fTuple where
  mono := fun ds Q Q' hQ h => by
    unfold fTuple at h ⊢
    split at h <;> first | exact hQ _ h | exact h.elim
  run := fun G Z σ H env vs ds Q hh n h => by
    unfold fTuple at h
    split at h
    · obtain ⟨v, rfl, n1⟩ := nows1 n
      obtain ⟨a, us, e1, h1, r1⟩ := n1.lst' hh.zh
      refine ⟨a, us, by rw [e1], .inl ⟨.of h1, fun p hp => ?_⟩⟩
      obtain ⟨sm, q⟩ := post_tup hh hp r1
      exact h _ _ _ sm q
    · obtain ⟨v, rfl, n1⟩ := nows1 n
      obtain ⟨a, us, e1, h1, r1⟩ := n1.frl' hh.zh
      refine ⟨a, us, by rw [e1], .inl ⟨h1, fun p hp => ?_⟩⟩
      obtain ⟨sm, q⟩ := post_tup hh hp r1
      exact h _ _ _ sm q
    · obtain ⟨v, rfl, n1⟩ := nows1 n
      obtain ⟨a, us, e1, h1, r1⟩ := n1.tup' hh.zh
      exact ⟨a, us, by rw [e1], .inr ⟨.inl h1, h Z H _ (.refl _) ⟨hh, e1 ▸ n1.tupR⟩⟩⟩
    · exact h.elim
def fList : CaF := fun ds Q => match ds with
  | [.lst xs] => Q (.new (.own none (.lst xs)))
  | [.frl xs] => Q (.new (.own none (.lst xs)))
  | [.tup xs] => Q (.new (.own none (.lst xs)))
  | _ => False
theorem cs_list : CallS K (fun xs H Q => ∃ p ys, xs = [.ref p] ∧ (SqL K H p ys ∨ SqT K H p ys) ∧ ∀ l, H l = none → Q (.ref l) (upd H l (.lst ys))) fList where
  mono := fun ds Q Q' hQ h => by
    unfold fList at h ⊢
    split at h <;> first | exact hQ _ h | exact h.elim
  run := fun G Z σ H env vs ds Q hh n h => by
    unfold fList at h
    split at h
    · obtain ⟨v, rfl, n1⟩ := nows1 n
      obtain ⟨a, us, e1, h1, r1⟩ := n1.lst' hh.zh
      exact ⟨a, us, by rw [e1], .inl (.of h1), fun p hp => h Z _ _ (.refl _) (post_lst hh hp r1)⟩
    · obtain ⟨v, rfl, n1⟩ := nows1 n
      obtain ⟨a, us, e1, h1, r1⟩ := n1.frl' hh.zh
      exact ⟨a, us, by rw [e1], .inl h1, fun p hp => h Z _ _ (.refl _) (post_lst hh hp r1)⟩
    · obtain ⟨v, rfl, n1⟩ := nows1 n
      obtain ⟨a, us, e1, h1, r1⟩ := n1.tup' hh.zh
      exact ⟨a, us, by rw [e1], .inr (.inl h1), fun p hp => h Z _ _ (.refl _) (post_lst hh hp r1)⟩
    · exact h.elim
/-! ### int(..), abs(..), min, max of two -/
def fInt : CaF := fun ds Q => match ds with
  | [.int i] => Q (.val (.int i))
  | [.bl b] => Q (.val (.int (if b then 1 else 0)))
  | _ => False
theorem cs_int : CallS K (fun xs H Q => (∃ i, xs = [.int i] ∧ Q (.int i) H) ∨ ∃ k, xs = [.bl k] ∧ Q (.int (if k then 1 else 0)) H) fInt where
  mono := fun ds Q Q' hQ h => by
    unfold fInt at h ⊢
    split at h <;> first | exact hQ _ h | exact h.elim
  run := fun G Z σ H env vs ds Q hh n h => by
    unfold fInt at h
    split at h
    · obtain ⟨v, rfl, n1⟩ := nows1 n
      exact .inl ⟨_, by rw [n1.int'], h Z H _ (.refl _) ⟨hh, .int _⟩⟩
    · obtain ⟨v, rfl, n1⟩ := nows1 n
      exact .inr ⟨_, by rw [n1.bl'], h Z H _ (.refl _) ⟨hh, .int _⟩⟩
    · exact h.elim
def fAbs : CaF := fun ds Q => match ds with
  | [.int i] => Q (.val (.int (if i < 0 then -i else i)))
  | _ => False
theorem cs_abs : CallS K (fun xs H Q => ∃ i, xs = [.int i] ∧ Q (.int (if i < 0 then -i else i)) H) fAbs where
  mono := fun ds Q Q' hQ h => by
    unfold fAbs at h ⊢
    split at h <;> first | exact hQ _ h | exact h.elim
  run := fun G Z σ H env vs ds Q hh n h => by
    unfold fAbs at h
    split at h
    · obtain ⟨v, rfl, n1⟩ := nows1 n
      exact ⟨_, by rw [n1.int'], h Z H _ (.refl _) ⟨hh, .int _⟩⟩
    · exact h.elim
/-! ### isinstance -/
def kindD : D → Option String
  | .non => some "NoneType"
  | .bl _ => some "bool"
  | .int _ => some "int"
  | .str _ => some "str"
  | .tup _ => some "tuple"
  | .lst _ => some "list"
  | _ => none
def fIsi : CaF := fun ds Q => match ds with
  | [d, .opq (.ty T)] => someK (kindD d) fun k => someK (kitB k T) fun b => Q (.val (.bl b))
  | _ => False
theorem ty_of {Z H : Hp} {v : V} {d : D} {k : String} (zh : Same Z H) (n : Now K Z H v d) (e : kindD d = some k) : TyX K H v (.type k) := by
  cases d with
  | non => cases e; rw [n.non']; exact .base .non
  | bl b => cases e; rw [n.bl']; exact .base (.bl b)
  | int b => cases e; rw [n.int']; exact .base (.int b)
  | str b => cases e; rw [n.str']; exact .base (.str b)
  | tup xs =>
    cases e
    obtain ⟨a, vs, e1, h1, _⟩ := n.tup' zh
    rw [e1]
    rcases h1 with h1 | ⟨o, h1⟩
    · exact .base (.tup h1)
    · exact .fTuple h1
  | lst xs =>
    cases e
    obtain ⟨a, vs, e1, h1, _⟩ := n.lst' zh
    rw [e1]
    exact .base (.lst h1)
  | _ => cases e
theorem cs_isi : CallS K (rIsi K) fIsi where
  mono := fun ds Q Q' hQ h => by
    unfold fIsi at h ⊢
    split at h
    · exact someK.mono (fun _ => someK.mono fun _ => hQ _) h
    · exact h.elim
  run := fun G Z σ H env vs ds Q hh n h => by
    unfold fIsi at h
    split at h
    · rename_i d T
      obtain ⟨k, ek, h⟩ := h.get
      obtain ⟨b, eb, h⟩ := h.get
      obtain ⟨v, v2, rfl, n1, n2⟩ := nows2 n
      rw [n2.opq']
      exact ⟨v, .ty T, .type k, .type T, b, rfl, .ty T, ty_of hh.zh n1 ek, kit_ty eb, h Z H _ (.refl _) ⟨hh, .bl _⟩⟩
    · exact h.elim
end
section
variable {K : Fr0}
/-! ### methods of an owned list -/
def fAppend : MtF := fun d ds Q => match d, ds with
  | .lst xs, [y] => xs.length < sizeLine ∧ Q (.lst (xs ++ [y])) (.val .non)
  | _, _ => False
theorem ms_append : MthS K rAppend fAppend where
  mono := fun d ds Q Q' hQ h => by
    unfold fAppend at h ⊢
    split at h <;> first | exact ⟨h.1, hQ _ _ h.2⟩ | exact h.elim
  run := fun G Z σ H env i t a d vs ds Q hh ei ev ra rs h => by
    unfold fAppend at h
    split at h
    · obtain ⟨us, eu, ru⟩ := ra
      cases rs with
      | cons r rr =>
        cases rr
        exact ⟨a, us, _, rfl, rfl, eu, by rw [ru.length]; exact h.1, h.2 Z _ _ (.refl _) ⟨hh.mutate ei ev ⟨_, upd_same, ru.snoc r⟩, .non⟩⟩
    · exact h.elim
def fPop0 : MtF := fun d ds Q => match d, ds with
  | .lst xs, [] => someK xs[xs.length - 1]? fun y => Q (.lst xs.dropLast) (.val y)
  | _, _ => False
theorem Reps.dropLast {Z : Hp} {vs : List V} {ds : List D} (r : Reps K Z vs ds) : Reps K Z vs.dropLast ds.dropLast := by
  rw [List.dropLast_eq_take, List.dropLast_eq_take, r.length]
  exact r.take _
theorem ms_pop0 : MthS K rPop fPop0 where
  mono := fun d ds Q Q' hQ h => by
    unfold fPop0 at h ⊢
    split at h
    · exact someK.mono (fun _ => hQ _ _) h
    · exact h.elim
  run := fun G Z σ H env i t a d vs ds Q hh ei ev ra rs h => by
    unfold fPop0 at h
    split at h
    · obtain ⟨y, ey, h⟩ := h.get
      obtain ⟨us, eu, ru⟩ := ra
      cases rs
      obtain ⟨v, hv, rv⟩ := ru.get ey
      rw [← ru.length] at hv
      exact ⟨a, us, v, rfl, rfl, eu, hv, h Z _ _ (.refl _) ⟨hh.mutate ei ev ⟨_, upd_same, ru.dropLast⟩, rv⟩⟩
    · exact h.elim
def fPop1 : MtF := fun d ds Q => match d, ds with
  | .lst xs, [.int i] => -(2 ^ 63) ≤ i ∧ i < 2 ^ 63 ∧ someK (seqIndex? i xs.length) fun k => someK xs[k]? fun y => Q (.lst (xs.eraseIdx k)) (.val y)
  | _, _ => False
theorem Reps.eraseIdx {Z : Hp} : ∀ {vs : List V} {ds : List D} (n : Nat), Reps K Z vs ds → Reps K Z (vs.eraseIdx n) (ds.eraseIdx n)
  | _, _, _, .nil => .nil
  | _, _, 0, .cons _ t => t
  | _, _, n + 1, .cons r t => .cons r (Reps.eraseIdx n t)
theorem ms_pop1 : MthS K rPopAt fPop1 where
  mono := fun d ds Q Q' hQ h => by
    unfold fPop1 at h ⊢
    split at h
    · exact ⟨h.1, h.2.1, someK.mono (fun _ => someK.mono fun _ => hQ _ _) h.2.2⟩
    · exact h.elim
  run := fun G Z σ H env i t a d vs ds Q hh ei ev ra rs h => by
    unfold fPop1 at h
    split at h
    · obtain ⟨h1, h2, h⟩ := h
      obtain ⟨k, ek, h⟩ := h.get
      obtain ⟨y, ey, h⟩ := h.get
      obtain ⟨us, eu, ru⟩ := ra
      cases rs with
      | cons r rr =>
        cases rr
        cases r
        obtain ⟨v, hv, rv⟩ := ru.get ey
        exact ⟨a, us, _, k, v, rfl, rfl, eu, h1, h2, by rw [ru.length]; exact ek, hv, h Z _ _ (.refl _) ⟨hh.mutate ei ev ⟨_, upd_same, ru.eraseIdx k⟩, rv⟩⟩
    · exact h.elim
def fExtend : MtF := fun d ds Q => match d, ds with
  | .lst xs, [.lst ys] => xs.length + ys.length ≤ sizeLine ∧ Q (.lst (xs ++ ys)) (.val .non)
  | _, _ => False
theorem ms_extend : MthS K rExtend fExtend where
  mono := fun d ds Q Q' hQ h => by
    unfold fExtend at h ⊢
    split at h <;> first | exact ⟨h.1, hQ _ _ h.2⟩ | exact h.elim
  run := fun G Z σ H env i t a d vs ds Q hh ei ev ra rs h => by
    unfold fExtend at h
    split at h
    · obtain ⟨us, eu, ru⟩ := ra
      cases rs with
      | cons r rr =>
        cases rr
        cases r with
        | lst hz rz =>
          exact ⟨a, _, us, _, rfl, rfl, eu, hh.zh _ _ hz, by rw [ru.length, rz.length]; exact h.1, h.2 Z _ _ (.refl _) ⟨hh.mutate ei ev ⟨_, upd_same, ru.append rz⟩, .non⟩⟩
    · exact h.elim
end
end FL
namespace FL
open PySem PySem.Spec PyProof.Rows L2

/-- a def as its callers know it -/
structure Cal (P : Program) (w : World) (K : Fr0) (mg : Str → Option Value) (base : Heap) (x : Str) (k : Nat) (ps : List Str) (s : Fs) : Prop where
  ex : ∃ (f : Addr) (fd : FuncData), FnOk P w K mg base CX0 k f fd ps (spF K s) ∧ mg x = some (.ref f) ∧ PySem.W.keepIn K (.ref f) = true ∧ Binds K fd ps []
  mono : MonoF s
section
variable {X : Cx} {Er : XK} {pos : Pos} {a : Expr} {es : List Expr} {wa : WE} {wr : WA}
theorem e_fn {x : Str} {k j : Nat} {ps : List Str} {s : Fs} {p : Pos} (C : Cal X.prog X.w X.K X.mg X.base x k ps s) (hr : Room j X.A) (hk : k ≤ j) (hg : Gl X x) (ha : AJ X Er (a :: es) wr)
    (hdb : (x == ("__debug__" : Str)) = false := by decide) (he : starEach (a :: es) X.env = (false, eval a X.env) :: starEach es X.env := by rfl) (hpl : (backTo pos (starEach es X.env)).any (·.1) = false := by rfl) : EJ X Er (.Call (.Name x p) (a :: es) [] pos) (wCall s wr) := by
  obtain ⟨f, fd, F, hm, hkp, hb⟩ := C.ex
  exact e_call C.mono ha.mono (pe_call F (hr.mono hk) hg hm hkp hb .nil (fun _ _ _ _ _ _ _ h => h.elim) ha.pa hdb he hpl)
/-- a built-in type as a value -/
theorem e_ty {x : Str} {T : String} (hg : Gl X x) (hm : X.mg x = none) (hv : bootBuiltins x = some (.type T)) (hn : x ≠ "__name__" := by decide) (hd : (x == ("__debug__" : Str)) = false := by decide) : EJ X Er (.Name x pos) (wC (.opq (.ty T))) :=
  e_c (v := .ty T) (pe_bltn hg hm hv rfl hn hd) fun _ _ => .opq _
/-- a module's constant text or number -/
theorem e_glob {x : Str} {v : V} {u : Value} {d : D} (hg : Gl X x) (hm : X.mg x = some u) (r : RelV v u) (hr : ∀ K Z, Rep K Z v d) (hd : (x == ("__debug__" : Str)) = false := by decide) : EJ X Er (.Name x pos) (wC d) :=
  e_c (pe_glob hg hm r hd) hr
theorem e_blt {x : Str} {id : String} {p : Pos} {r : List V → Hp → VK → Prop} {f : CaF} (hc : CallR X (.builtin id) r) (hs : CallS X.K r f) (hg : Gl X x) (hm : X.mg x = none) (hv : bootBuiltins x = some (.builtin id)) (ha : AJ X Er (a :: es) wr) (hn : x ≠ "__name__" := by decide) (hdb : (x == ("__debug__" : Str)) = false := by decide)
    (he : starEach (a :: es) X.env = (false, eval a X.env) :: starEach es X.env := by rfl) (hpl : (backTo pos (starEach es X.env)).any (·.1) = false := by rfl) : EJ X Er (.Call (.Name x p) (a :: es) [] pos) (wCa f wr) :=
  e_callB hc hs ha (pe_callB hc hg hm hv ha.pa hn hdb he hpl)
theorem e_bty {x : Str} {T : String} {p : Pos} {r : List V → Hp → VK → Prop} {f : CaF} (hc : CallR X (.type T) r) (hs : CallS X.K r f) (hg : Gl X x) (hm : X.mg x = none) (hv : bootBuiltins x = some (.type T)) (ha : AJ X Er (a :: es) wr) (hn : x ≠ "__name__" := by decide) (hdb : (x == ("__debug__" : Str)) = false := by decide)
    (he : starEach (a :: es) X.env = (false, eval a X.env) :: starEach es X.env := by rfl) (hpl : (backTo pos (starEach es X.env)).any (·.1) = false := by rfl) : EJ X Er (.Call (.Name x p) (a :: es) [] pos) (wCa f wr) :=
  e_callTy hc hs ha (pe_callTy hc hg hm hv ha.pa hn hdb he hpl)
/-! ### stores -/
theorem s_nm (i : Nat) {x : Str} {pos' : Pos} (hN : X.N.Nodup) (hi : X.N[i]? = some x) (hx : Loc X.env.scope x) (he : EJ X Er a wa) (hs : swapsWith a (some (.Name x pos')) pos.line X.env = pure false := by rfl)
    (hf : X.fn x = true ∨ X.env.scope.names.lookup x = some .local := by first | exact .inl rfl | exact .inr rfl) : SJ X Er (.Assign [.Name x pos'] a pos) (wSet i wa) :=
  s_set i he.mono (ps_set hN hi hx he.pe hs hf)
def wSetT (g : Tg) (w : WE) : WS := fun env k => (fun (_ : Unit) => w env (fun t e => match t with
  | .val d => setT k.nx e g d
  | _ => False) k.xr) hi4
theorem s_tgt {g : Tg} {st : Stmt} (ha : MonoE wa) (hs : PS X st (tAsg (TEw X.K Er wa) (gOf X.K g))) : SJ X Er st (wSetT g wa) := by
  refine ⟨ps_imp hs fun D σ H h => ?_, fun env k k' hk h => ha _ _ _ _ _ (fun t e h1 => ?_) hk.xr h⟩
  · obtain ⟨G, Z, env, hh, h⟩ := h
    refine ⟨G, Z, env, hh, ha _ _ _ _ _ (fun t e h1 Z1 H1 v s1 p1 => ?_) (fun _ _ q => q) h⟩
    cases t with
    | val d => exact gOf_run p1.1 p1.2 h1 fun vs e' q hh' => q Z1 _ H1 s1 hh'
    | loc i => exact h1.elim
    | new c => exact h1.elim
  · cases t with
    | val d => exact setT.mono hk.nx h1
    | loc i => exact h1
    | new c => exact h1
/-- name += e, whole numbers -/
def augK (Q : En → Prop) (i : Nat) (f : Int → Int → Int) (e : En) (t : Tk) (d0 : D) : Prop := match d0, res e t with
  | .int a, some (.int b) => Q (e.set i (.val (.int (f a b))))
  | _, _ => False
def wAug (i : Nat) (f : Int → Int → Int) (w : WE) : WS := fun env k => (fun (_ : Unit) => match env[i]? with
  | some (.val d0) => w env (fun t e => augK k.nx i f e t d0) k.xr
  | _ => False) hi4
theorem s_aug (i : Nat) {st : Stmt} {f : Int → Int → Int} (ha : MonoE wa) (hs : PS X st (tAug i (TEw X.K Er wa) (ipI f))) : SJ X Er st (wAug i f wa) := by
  have am : ∀ {Q Q' : En → Prop} {e : En} {t : Tk} {d0 : D}, (∀ e, Q e → Q' e) → augK Q i f e t d0 → augK Q' i f e t d0 := fun hQ h => by
    unfold augK at h ⊢
    split at h
    · exact hQ _ h
    · exact h.elim
  refine ⟨ps_imp hs fun D σ H h => ?_, fun env k k' hk h => ?_⟩
  · obtain ⟨G, Z, env, hh, h⟩ := h
    unfold wAug at h
    split at h
    · rename_i d0 e0
      obtain ⟨F, hf⟩ := id hh
      obtain ⟨_, v0, ev0, r0⟩ := hf.sl i _ e0
      refine ⟨v0, slv_some ev0, G, Z, env, hh, ha _ _ _ _ _ (fun t e h1 Z1 H1 v s1 p1 => ?_) (fun _ _ q => q) h⟩
      unfold augK at h1
      split at h1
      · rename_i x y ey
        cases r0
        exact ⟨x, y, rfl, (p1.now ey).int', h1 Z1 _ H1 s1 (p1.holds.setVal (.int _))⟩
      · exact h1.elim
    · exact h.elim
  · unfold wAug at h ⊢
    split at h
    · exact ha _ _ _ _ _ (fun t e h1 => am hk.nx h1) hk.xr h
    · exact h.elim
/-! ### comprehensions -/
structure TsJ (X : Cx) (ifs : List Expr) (t : WT) : Prop where
  ps : PTs X ifs (TTw X.K E0 t)
  mono : MonoE t
theorem ts_nil : TsJ X [] wYes := ⟨pts_yes, wYes.mono⟩
theorem ts_one {c : Expr} {t : WT} (h : TJ X E0 c t) : TsJ X [c] t := ⟨pts_t h, h.mono⟩
section
variable {elt tg iter : Expr} {ifs : List Expr} {scope : Scope} {own : List (Str × Nat)} {wi : WI} {g : Tg} {t : WT} {w : WE}
theorem e_comp (hN : X.N.Nodup) (hi : IJ X Er tg iter wi) (ok : BlkOk X.N X.env.scope scope own) (hg : ∀ (s : Shared) (H : Hp) (C : Addr) (cl : List (Str × Addr)) (fp : List Addr), PG (X.blk s H scope (compEnvC scope cl C X.env) fp) tg (gOf X.K g))
    (ht : ∀ (s : Shared) (H : Hp) (C : Addr) (cl : List (Str × Addr)) (fp : List Addr), TsJ (X.blk s H scope (compEnvC scope cl C X.env) fp) ifs t) (he : ∀ (s : Shared) (H : Hp) (C : Addr) (cl : List (Str × Addr)) (fp : List Addr), EJ (X.blk s H scope (compEnvC scope cl C X.env) fp) E0 elt w)
    (hsub : ∀ i ∈ g.slots, i ∈ own.map (·.2) := by decide) (hc : X.calm = true := by rfl) (hs : ∀ x, foldedSetIterable iter X.env x = pure x := by intro _; rfl) : EJ X Er (.ListComp elt [⟨tg, iter, ifs, 0⟩] scope pos) (wLc wi (own.map (·.2)) g t w) :=
  e_lc hi.mono (ht X.s_0 X.H_0 0 [] []).mono (he X.s_0 X.H_0 0 [] []).mono hsub (pe_lc hc hN hi.pi ok hg (fun s H C cl fp => (ht s H C cl fp).ps) (fun s H C cl fp => (he s H C cl fp).pe) hs)
theorem s_comp (i : Nat) {y : Str} {py spos : Pos} (hN : X.N.Nodup) (hy : X.N[i]? = some y) (hyl : X.env.scope.names.lookup y = some .local) (hsw : swapsWith (.ListComp elt [⟨tg, iter, ifs, 0⟩] scope pos) (some (.Name y py)) spos.line X.env = pure true)
    (hi : IJ X Er tg iter wi) (ok : BlkOk X.N X.env.scope scope own) (hg : ∀ (s : Shared) (H : Hp) (C : Addr) (cl : List (Str × Addr)) (fp : List Addr), PG (X.blk s H scope (compEnvC scope cl C X.env) fp) tg (gOf X.K g))
    (ht : ∀ (s : Shared) (H : Hp) (C : Addr) (cl : List (Str × Addr)) (fp : List Addr), TsJ (X.blk s H scope (compEnvC scope cl C X.env) fp) ifs t) (he : ∀ (s : Shared) (H : Hp) (C : Addr) (cl : List (Str × Addr)) (fp : List Addr), EJ (X.blk s H scope (compEnvC scope cl C X.env) fp) E0 elt w)
    (hsub : ∀ i ∈ g.slots, i ∈ own.map (·.2) := by decide) (hc : X.calm = true := by rfl) (hs : ∀ x, foldedSetIterable iter X.env x = pure x := by intro _; rfl) : SJ X Er (.Assign [.Name y py] (.ListComp elt [⟨tg, iter, ifs, 0⟩] scope pos) spos) (wSet i (wLc wi (own.map (·.2)) g t w)) :=
  s_setLc i hi.mono (ht X.s_0 X.H_0 0 [] []).mono (he X.s_0 X.H_0 0 [] []).mono hsub (ps_setLc hc hN hy hyl hsw hi.pi ok hg (fun s H C cl fp => (ht s H C cl fp).ps) (fun s H C cl fp => (he s H C cl fp).pe) hs)
end
/-! ### walks with built-ins -/
theorem i_en {e : Expr} {p tpos : Pos} {elts : List Expr} {kk : Nat} (hg : Gl X "enumerate") (hm : X.mg "enumerate" = none) (ha : AJ X Er [e] wr) (hs : starEach [e] X.env = [(false, eval e X.env)] := by rfl) : IJ X Er (.Tuple elts kk tpos) (.Call (.Name "enumerate" p) [e] [] pos) (wEnum wr) :=
  i_enum ha (pi_enumS hg hm ha.pa hs)
theorem i_zi {e e2 : Expr} {p tpos : Pos} {elts : List Expr} {kk : Nat} (hg : Gl X "zip") (hm : X.mg "zip" = none) (ha : AJ X Er [e, e2] wr) (hs : starEach [e, e2] X.env = (false, eval e X.env) :: starEach [e2] X.env := by rfl) (hpl : (backTo pos (starEach [e2] X.env)).any (·.1) = false := by rfl) :
    IJ X Er (.Tuple elts kk tpos) (.Call (.Name "zip" p) [e, e2] [] pos) (wZip wr) :=
  i_zip ha (pi_zipS hg hm ha.pa hs hpl)
end
theorem pg_one {X : Cx} (i : Nat) {x : Str} {pos : Pos} (hN : X.N.Nodup) (hi : X.N[i]? = some x) (hx : Loc X.env.scope x) (hf : X.fn x = true ∨ X.env.scope.names.lookup x = some .local := by first | exact .inl rfl | exact .inr rfl) : PG X (.Name x pos) (gOf X.K (.one i)) := pg_name hN hi hx hf
section
variable {X : Cx} {Er : XK} {pos : Pos} {a b c o : Expr} {es : List Expr} {wa wb wc : WE} {wr : WA}
/-- a method of an owned list -/
theorem e_ml (i : Nat) {r : V → List V → Hp → VK → Prop} {f : MtF} {name : Str} {id : String} {apos cpos : Pos} (slot : Slot "list" name id) (hty : typeOf (.builtin id) = pure (.type "method_descriptor")) (hm : MtR X id r) (hs : MthS X.K r f) (ho : PE X o (tVar i)) (ha : AJ X Er (a :: es) wr)
    (hbase : attributeBase o name X.env (eval o X.env) = eval o X.env := by rfl)
    (hfew : ((backTo cpos (starEach (a :: es) X.env)).all (fun x => !x.1) && (backToKw cpos (keywordEach [] X.env)).all (fun x => x.1.isSome)
      && decide ((a :: es).length + ([] : List Keyword).length + (if ([] : List Keyword).isEmpty then 0 else 1) < 30)) = true := by rfl)
    (hline : (apos.endLine == cpos.line) = true := by rfl) (hs1 : starEach (a :: es) X.env = (false, eval a X.env) :: starEach es X.env := by rfl) (hpl : (backTo cpos (starEach es X.env)).any (·.1) = false := by rfl) :
    EJ X Er (.Call (.Attribute o name apos) (a :: es) [] cpos) (wMth f i wr) :=
  e_mth i hs ha (pe_bm PySem.F.plainAttrs_list slot hty hm ho ha.pa hbase hfew hline hs1 hpl)
theorem e_ml0 (i : Nat) {r : V → List V → Hp → VK → Prop} {f : MtF} {name : Str} {id : String} {apos cpos : Pos} (slot : Slot "list" name id) (hty : typeOf (.builtin id) = pure (.type "method_descriptor")) (hm : MtR X id r) (hs : MthS X.K r f) (ho : PE X o (tVar i))
    (hbase : attributeBase o name X.env (eval o X.env) = eval o X.env := by rfl) (hline : (apos.endLine == cpos.line) = true := by rfl) : EJ X Er (.Call (.Attribute o name apos) [] [] cpos) (wMth f i wANil) :=
  e_mth0 i hs (pe_bm0 PySem.F.plainAttrs_list slot hty hm ho hbase hline)
/-- xs[i] = e -/
theorem s_st (i : Nat) {p : Pos} (ho : PE X o (tVar i)) (he : EJ X Er a wa) (hi : EJ X Er b wb)
    (ha : ∀ v, assign (.Subscript o b p) X.env v = (do
      let ov ← holding [v] (eval o X.env)
      let iv ← holding [v, ov] (eval b X.env)
      standAt p
      holding [v, ov, iv] (setItem ov iv v)
      release [v, ov, iv] []) := by intro _; rfl)
    (hs : swapsWithSole [.Subscript o b p] a pos.line X.env = pure false := by rfl) (hw : swappedStores [.Subscript o b p] a X.env = pure none := by rfl)
    (h1 : (assignEach [.Subscript o b p] X.env).map (·.2) = [assign (.Subscript o b p) X.env] := by rfl) : SJ X Er (.Assign [.Subscript o b p] a pos) (wStIt i wa wb) :=
  s_setIt i he.mono hi.mono (ps_asg he.pe (pg_sub ho hi.pe set_list ha) hs hw h1)
/-- several names at once -/
theorem s_tg {g : Tg} {tg : Expr} (he : EJ X Er a wa) (hg : PG X tg (gOf X.K g)) (hs : swapsWithSole [tg] a pos.line X.env = pure false := by rfl) (hw : swappedStores [tg] a X.env = pure none := by rfl)
    (h1 : (assignEach [tg] X.env).map (·.2) = [assign tg X.env] := by rfl) : SJ X Er (.Assign [tg] a pos) (wSetT g wa) :=
  s_tgt he.mono (ps_asg he.pe hg hs hw h1)
theorem s_ag (i : Nat) {x : Str} {pos' : Pos} (hN : X.N.Nodup) (hi : X.N[i]? = some x) (hx : Loc X.env.scope x) (he : EJ X Er a wa) (hf : X.fn x = true ∨ X.env.scope.names.lookup x = some .local := by first | exact .inl rfl | exact .inr rfl) :
    SJ X Er (.AugAssign (.Name x pos') .Add a pos) (wAug i (fun i j => i + j) wa) := s_aug i he.mono (ps_aug hN hi hx he.pe ip_add hf)
theorem i_r1 {tg : Expr} {p : Pos} (hg : Gl X "range") (hm : X.mg "range" = none) (ha : EJ X Er a wa) (hs : starEach [a] X.env = [(false, eval a X.env)] := by rfl) : IJ X Er tg (.Call (.Name "range" p) [a] [] pos) (wRng (wACons wa wANil)) :=
  i_rng1 hg hm ha (a_cons ha a_nil hs) hs
theorem i_r2 {tg : Expr} {p : Pos} (hg : Gl X "range") (hm : X.mg "range" = none) (ha : EJ X Er a wa) (hb : EJ X Er b wb) (h1 : starEach [a, b] X.env = (false, eval a X.env) :: starEach [b] X.env := by rfl) (hs2 : starEach [b] X.env = [(false, eval b X.env)] := by rfl) :
    IJ X Er tg (.Call (.Name "range" p) [a, b] [] pos) (wRng (wACons wa (wACons wb wANil))) :=
  i_rng2 hg hm ha hb (a_cons ha (a_cons hb a_nil hs2) h1) (by rw [h1, hs2]) hs2
theorem i_r3 {tg : Expr} {p : Pos} (hg : Gl X "range") (hm : X.mg "range" = none) (ha : EJ X Er a wa) (hb : EJ X Er b wb) (hc : EJ X Er c wc) (h1 : starEach [a, b, c] X.env = (false, eval a X.env) :: starEach [b, c] X.env := by rfl) (h2 : starEach [b, c] X.env = (false, eval b X.env) :: starEach [c] X.env := by rfl)
    (h3 : starEach [c] X.env = [(false, eval c X.env)] := by rfl) (hpl : (backTo pos (starEach [b, c] X.env)).any (·.1) = false := by rfl) : IJ X Er tg (.Call (.Name "range" p) [a, b, c] [] pos) (wRng (wACons wa (wACons wb (wACons wc wANil)))) :=
  i_rng3 hg hm ha hb hc (a_cons ha (a_cons hb (a_cons hc a_nil h3) h2) h1) h1 hpl
end
end FL
namespace FL
open PySem PySem.Spec PyProof.Rows L2
/-! ### small tools of the plain side -/
theorem iteB {c : Prop} [Decidable c] {A B : Prop} (h1 : c → A) (h2 : ¬ c → B) : if decide c = true then A else B := by
  by_cases h : c
  · rw [decide_eq_true h]; exact h1 h
  · rw [decide_eq_false h]; exact h2 h
theorem iteN {c : Prop} [Decidable c] {A B : Prop} (h1 : ¬ c → A) (h2 : c → B) : if (!decide c) = true then A else B := by
  by_cases h : c
  · rw [decide_eq_true h]; exact h2 h
  · rw [decide_eq_false h]; exact h1 h
theorem iteE {b : Bool} {A B : Prop} (h1 : b = true → A) (h2 : b = false → B) : if b = true then A else B := by
  cases b with
  | true => exact h1 rfl
  | false => exact h2 rfl
theorem iteT' {b : Bool} {A B : Prop} (hb : b = true) (h : A) : if b = true then A else B := by rw [hb]; exact h
theorem iteF' {b : Bool} {A B : Prop} (hb : b = false) (h : B) : if b = true then A else B := by rw [hb]; exact h
theorem atI_in {α : Type} {xs : List α} {i : Int} (h0 : 0 ≤ i) (h1 : i < xs.length) : atI xs i = some (xs[i.toNat]'(by omega)) := by
  have q := atI_nat (xs := xs) (j := i.toNat) (List.getElem?_eq_getElem (by omega))
  rw [Int.toNat_of_nonneg h0] at q
  exact q
theorem divOk {i j : Int} (h : 0 < j) (h2 : j ≤ 2 ^ 62) : CDivW i j := ⟨h, by
  have : j.natAbs < 2 ^ 63 := by omega
  exact Nat.lt_of_lt_of_le (PySem.Flt.log2_lt_of (by decide) this) (by decide)⟩
theorem rangeD_succ (lo : Int) (n : Nat) : rangeD lo (n + 1) = .int lo :: rangeD (lo + 1) n := by
  unfold rangeD
  rw [List.range_succ_eq_map, List.map_cons, List.map_map]
  congr 1
  · simp
  · apply List.map_congr_left
    intro i _
    show D.int (lo + ((i + 1 : Nat) : Int)) = D.int (lo + 1 + (i : Nat))
    congr 1
    omega
theorem rangeD_zero (lo : Int) : rangeD lo 0 = [] := rfl
/-- data no deeper than n -/
def shN : Nat → D → Prop
  | _, .int _ => True
  | _, .bl _ => True
  | _, .non => True
  | _, .str x => PyData.canLay0 (.str x) = true
  | n + 1, .tup xs => ∀ x ∈ xs, shN n x
  | n + 1, .lst xs => ∀ x ∈ xs, shN n x
  | _, _ => False
theorem shN_run : ∀ {n : Nat} {d : D}, shN n d → plain d = true ∧ (toPy d).canLay0 = true ∧ (toPy d).depth ≤ n := by
  have all : ∀ {n : Nat}, (∀ d, shN n d → plain d = true ∧ (toPy d).canLay0 = true ∧ (toPy d).depth ≤ n) → ∀ xs : List D, (∀ x ∈ xs, shN n x) → plains xs = true ∧ PyData.canLayAll0 (toPys xs) = true ∧ PyData.depthAll (toPys xs) ≤ n := by
    intro n ih xs
    induction xs with
    | nil => intro _; exact ⟨rfl, rfl, Nat.zero_le _⟩
    | cons x r ihr =>
      intro h
      obtain ⟨a1, a2, a3⟩ := ih x (h x List.mem_cons_self)
      obtain ⟨b1, b2, b3⟩ := ihr fun y hy => h y (List.mem_cons_of_mem _ hy)
      refine ⟨?_, ?_, ?_⟩
      · show (plain x && plains r) = true
        rw [a1, b1]; rfl
      · show (PyData.canLay0 (toPy x) && PyData.canLayAll0 (toPys r)) = true
        rw [a2, b2]; rfl
      · show max (PyData.depth (toPy x)) (PyData.depthAll (toPys r)) ≤ n
        omega
  intro n
  induction n with
  | zero =>
    intro d h
    cases d with
    | int i => exact ⟨rfl, rfl, Nat.le_refl _⟩
    | bl i => exact ⟨rfl, rfl, Nat.le_refl _⟩
    | non => exact ⟨rfl, rfl, Nat.le_refl _⟩
    | str x => exact ⟨rfl, h, Nat.le_refl _⟩
    | _ => exact h.elim
  | succ n ih =>
    intro d h
    cases d with
    | int i => exact ⟨rfl, rfl, Nat.zero_le _⟩
    | bl i => exact ⟨rfl, rfl, Nat.zero_le _⟩
    | non => exact ⟨rfl, rfl, Nat.zero_le _⟩
    | str x => exact ⟨rfl, h, Nat.zero_le _⟩
    | tup xs =>
      obtain ⟨a1, a2, a3⟩ := all (fun d => ih (d := d)) xs h
      exact ⟨a1, a2, Nat.succ_le_succ a3⟩
    | lst xs =>
      obtain ⟨a1, a2, a3⟩ := all (fun d => ih (d := d)) xs h
      exact ⟨a1, a2, Nat.succ_le_succ a3⟩
    | _ => exact h.elim
theorem shp_of {n : Nat} {d : D} (h : shN n d) (hn : n ≤ 64) : shp d := by
  obtain ⟨a, b, c⟩ := shN_run h
  refine ⟨a, ?_⟩
  show ((toPy d).canLay0 && decide ((toPy d).depth ≤ 64)) = true
  rw [b, decide_eq_true (Nat.le_trans c hn)]; rfl
theorem shN_mono : ∀ {n m : Nat} {d : D}, n ≤ m → shN n d → shN m d := by
  intro n
  induction n with
  | zero =>
    intro m d _ h
    cases d with
    | int i => cases m <;> trivial
    | bl i => cases m <;> trivial
    | non => cases m <;> trivial
    | str x => cases m <;> exact h
    | _ => exact h.elim
  | succ n ih =>
    intro m d hm h
    cases m with
    | zero => omega
    | succ m =>
      cases d with
      | int i => trivial
      | bl i => trivial
      | non => trivial
      | str x => exact h
      | tup xs => exact fun x hx => ih (by omega) (h x hx)
      | lst xs => exact fun x hx => ih (by omega) (h x hx)
      | _ => exact h.elim
theorem shN_int {n : Nat} (i : Int) : shN n (.int i) := by cases n <;> trivial
theorem shp_nil : shp (.lst []) := shp_of (n := 1) (fun x hx => nomatch hx) (by decide)
theorem shp_nilT : shp (.tup []) := shp_of (n := 1) (fun x hx => nomatch hx) (by decide)
theorem eqD_nil (xs : List D) : eqD (.lst xs) (.lst []) = xs.isEmpty := by cases xs <;> rfl
theorem eqD_refl {d : D} (h : shp d) : eqD d d = true := SeqAt.eqv_refl _ (SeqAt.canLay_of_shaped h.2)
theorem intsD_map : ∀ ns : List Int, intsD (ns.map D.int) = some ns
  | [] => rfl
  | n :: r => by
    show (intsD (r.map D.int)).map (n :: ·) = some (n :: r)
    rw [intsD_map r]; rfl
theorem cutD_to {xs : List D} {n : Nat} (h : xs.length ≤ n) : cutD xs none (some (n : Int)) = xs := by
  unfold cutD
  rw [HT.sIx_none, HT.sIx_nat, Nat.min_eq_right h, Nat.sub_zero, List.drop_zero, List.take_length]
theorem cutD_take {xs : List D} {n : Nat} : cutD xs none (some (n : Int)) = xs.take n := by
  unfold cutD
  rw [HT.sIx_none, HT.sIx_nat, Nat.sub_zero, List.drop_zero]
  by_cases h : n ≤ xs.length
  · rw [Nat.min_eq_left h]
  · rw [Nat.min_eq_right (by omega), List.take_length, List.take_of_length_le (by omega)]
theorem kb_int_int : kitB "int" "int" = some true := by decide +kernel
theorem kb_int_bool : kitB "int" "bool" = some false := by decide +kernel
theorem kb_int_str : kitB "int" "str" = some false := by decide +kernel
theorem kb_int_tuple : kitB "int" "tuple" = some false := by decide +kernel
theorem kb_int_list : kitB "int" "list" = some false := by decide +kernel
theorem kb_bool_int : kitB "bool" "int" = some true := by decide +kernel
theorem kb_bool_bool : kitB "bool" "bool" = some true := by decide +kernel
theorem kb_bool_str : kitB "bool" "str" = some false := by decide +kernel
theorem kb_bool_tuple : kitB "bool" "tuple" = some false := by decide +kernel
theorem kb_bool_list : kitB "bool" "list" = some false := by decide +kernel
theorem kb_str_int : kitB "str" "int" = some false := by decide +kernel
theorem kb_str_bool : kitB "str" "bool" = some false := by decide +kernel
theorem kb_str_str : kitB "str" "str" = some true := by decide +kernel
theorem kb_str_tuple : kitB "str" "tuple" = some false := by decide +kernel
theorem kb_str_list : kitB "str" "list" = some false := by decide +kernel
theorem kb_tuple_int : kitB "tuple" "int" = some false := by decide +kernel
theorem kb_tuple_bool : kitB "tuple" "bool" = some false := by decide +kernel
theorem kb_tuple_str : kitB "tuple" "str" = some false := by decide +kernel
theorem kb_tuple_tuple : kitB "tuple" "tuple" = some true := by decide +kernel
theorem kb_tuple_list : kitB "tuple" "list" = some false := by decide +kernel
theorem kb_list_int : kitB "list" "int" = some false := by decide +kernel
theorem kb_list_bool : kitB "list" "bool" = some false := by decide +kernel
theorem kb_list_str : kitB "list" "str" = some false := by decide +kernel
theorem kb_list_tuple : kitB "list" "tuple" = some false := by decide +kernel
theorem kb_list_list : kitB "list" "list" = some true := by decide +kernel
theorem kb_NoneType_int : kitB "NoneType" "int" = some false := by decide +kernel
theorem kb_NoneType_bool : kitB "NoneType" "bool" = some false := by decide +kernel
theorem kb_NoneType_str : kitB "NoneType" "str" = some false := by decide +kernel
theorem kb_NoneType_tuple : kitB "NoneType" "tuple" = some false := by decide +kernel
theorem kb_NoneType_list : kitB "NoneType" "list" = some false := by decide +kernel
theorem nil_or_snoc {α : Type} (s : List α) : s = [] ∨ ∃ s' p, s = s' ++ [p] := by
  rcases List.eq_nil_or_concat s with h | ⟨a, b, h⟩
  · exact .inl h
  · exact .inr ⟨a, b, by rw [h, List.concat_eq_append]⟩
theorem atI_last2 {α : Type} (xs : List α) (u v : α) : atI (xs ++ [u, v]) (-2) = some u := by
  unfold atI ixN
  rw [if_neg (by omega), List.length_append]
  have e : ((-2 : Int) + ((xs.length + [u, v].length : Nat) : Int)).toNat = xs.length := by
    show ((-2 : Int) + ((xs.length + 2 : Nat) : Int)).toNat = xs.length
    omega
  rw [if_pos (by show -((xs.length + 2 : Nat) : Int) ≤ -2; omega), e]
  show (xs ++ [u, v])[xs.length]? = some u
  rw [List.getElem?_append_right (Nat.le_refl _), Nat.sub_self]; rfl
theorem last_ix {α : Type} (xs : List α) (v : α) : (xs ++ [v])[(xs ++ [v]).length - 1]? = some v := by
  rw [List.length_append, List.length_singleton, Nat.add_sub_cancel]
  exact last_get xs v
theorem small_of {i : Int} (h0 : -1000000 ≤ i) (h1 : i ≤ 1000000000000) : small i := ⟨by omega, by omega⟩
theorem szk (n : Nat) (h : n ≤ 1000 := by decide) : n ≤ sizeLine := Nat.le_trans h (by decide)
theorem nd1 (i : Nat) : [i].Nodup := List.nodup_cons.mpr ⟨(fun h => by cases h), List.nodup_nil⟩
theorem nd0 : ([] : List Nat).Nodup := List.nodup_nil
theorem sz {n : Nat} (h : n ≤ 16777216) : n ≤ sizeLine := by rw [sizeLine_eq]; exact h
theorem sz' {n : Nat} (h : n < 16777216) : n < sizeLine := by rw [sizeLine_eq]; exact h
end FL
namespace FL
open PySem PySem.Spec PyProof.Rows L2

section
variable {P : Program} {w : World} {K : Fr0} {mg : Str → Option Value} {base : Heap} {x qual : Str} {st : Stmt} {f : Addr} {fd : FuncData} {N ps : List Str} {k n m : Nat} {sp : Fs} {wb : WS}
/-- a def from its body's derivation -/
theorem fn_go (F : Fun K x qual st f fd) (S : FnScope N ps (defScope st)) (hn : N.length = n + m) (hp : ps.length = n)
    (body : ∀ (cdv : Value) (A : Around) (outer : List Env) (s : Shared) (H : Hp) (E : XK), Room k (A.deeper (envOfC qual (defScope st) s.heap.objs.size f cdv)) → BJ (cxOf CX0 P w K mg base N qual (defScope st) f cdv A outer s H E).nox E (defBody st) wb)
    (hs : ∀ cs Q x, sp cs Q x → fnW n m wb cs Q x) : FnOk P w K mg base CX0 (k + 1) f fd ps (spF K sp) := by
  have up : ∀ vs H Q E, spF K sp vs H Q E → spF K (fnW n m wb) vs H Q E := fun vs H Q E ⟨G, Z, cs, hh, h⟩ => ⟨G, Z, cs, hh, hs _ _ _ h⟩
  refine F.ok S (fun vs H Q E h => ?_) fun cdv A outer s H vs Q E hr h => ?_
  · obtain ⟨G, Z, cs, ⟨_, hh⟩, h⟩ := up vs H Q E h
    have := hh.len
    rw [List.length_map] at this
    rw [this, h.1, hp]
  · have b := body cdv A outer s H E hr
    exact ⟨_, b.ps, (fn_read b.mono hn (up vs H Q E h)).2⟩
/-- a def that nobody may call -/
theorem fn_no (F : Fun K x qual st f fd) (S : FnScope N ps (defScope st)) (hs : ∀ cs Q x, ¬ sp cs Q x) : FnOk P w K mg base CX0 (k + 1) f fd ps (spF K sp) :=
  F.ok S (fun vs H Q E ⟨G, Z, cs, hh, h⟩ => (hs _ _ _ h).elim) fun cdv A outer s H vs Q E hr ⟨G, Z, cs, hh, h⟩ => (hs _ _ _ h).elim
theorem cal_of {lv : Nat} (h : FnOk P w K mg base CX0 lv f fd ps (spF K sp)) (hm : mg x = some (.ref f)) (F : Fun K x qual st f fd) (b : Binds K fd ps []) (mf : MonoF sp) : Cal P w K mg base x lv ps sp :=
  ⟨⟨f, fd, h, hm, F.kp, b⟩, mf⟩
end
theorem repsInts {K : Fr0} {Z : Hp} : ∀ ns : List Int, Reps K Z (ns.map V.int) (ns.map D.int)
  | [] => .nil
  | n :: r => .cons (.int n) (repsInts r)
/-- the law is called -/
theorem sp_start {K : Fr0} {s : Fs} {H : Hp} {a : Addr} {ns : List Int} (hs : s [.val (.frl (ns.map D.int))] (fun r cs => r = .val (.bl true)) (fun _ _ => False)) (mf : MonoF s) (hS : SqL K H a (ns.map V.int)) : spF K s [.ref a] H (fun v _ => v = .bl true) fun _ _ _ => False := by
  refine ⟨⟨fun _ => none, fun _ => a⟩, H, _, ⟨fun _ => [], ⟨fun _ _ h => h, fun _ _ h => (nomatch h), fun _ _ h => (nomatch h), rfl, fun i c hc => ?_, fun _ _ h => (nomatch h), fun _ _ _ h => (nomatch h)⟩⟩, mf _ _ _ _ _ (fun r cs e Z' H' v _ p => ?_) (fun _ _ h => h.elim) hs⟩
  · match i, hc with
    | 0, hc =>
      cases hc
      exact ⟨rfl, .ref a, rfl, .frl hS (repsInts ns)⟩
    | i + 1, hc => exact absurd hc (by simp)
  · subst e
    obtain ⟨_, rp⟩ := p
    cases rp
    rfl
end FL
namespace FL
open PySem PySem.Spec PyProof.Rows L2

section
variable {X : Cx} {Er : XK} {pos : Pos} {K : Fr0} {a b : Expr} {wa wb : WE}
/-! ### is, is not -/
def isNonD : D → Option Bool
  | .non => some true
  | .opq _ => none
  | _ => some false
theorem now_isNon {Z H : Hp} {v : V} {d : D} {b : Bool} (n : Now K Z H v d) (e : isNonD d = some b) : decide (v = .non) = b := by
  cases n with
  | st r => cases r <;> cases e <;> rfl
  | ow r => cases d <;> first | exact r.elim | (cases e; rfl) | cases e
def fIs : OpF := fun d1 d2 Q => match d1, d2 with
  | .bl i, .bl j => Q (.val (.bl (decide (i = j))))
  | d, .non => someK (isNonD d) fun b => Q (.val (.bl b))
  | _, _ => False
def fIsN : OpF := fun d1 d2 Q => match d1, d2 with
  | .bl i, .bl j => Q (.val (.bl (!decide (i = j))))
  | d, .non => someK (isNonD d) fun b => Q (.val (.bl (!b)))
  | _, _ => False
abbrev rIsA : R2 := fun x y H Q => rIsN x y H Q ∨ rIsB x y H Q
abbrev rIsNA : R2 := fun x y H Q => rNotN x y H Q ∨ rNotB x y H Q
theorem os_is : OpS K rIsA fIs where
  mono := fun d1 d2 Q Q' hQ h => by
    unfold fIs at h ⊢
    split at h
    · exact hQ _ h
    · exact someK.mono (fun _ => hQ _) h
    · exact h.elim
  run := fun G Z σ H env v1 v2 d1 d2 Q hh n1 n2 h => by
    unfold fIs at h
    split at h
    · exact .inr ⟨_, _, n1.bl', n2.bl', h Z H _ (.refl _) ⟨hh, .bl _⟩⟩
    · obtain ⟨b, e, h⟩ := h.get
      refine .inl ⟨n2.non', ?_⟩
      rw [now_isNon n1 e]
      exact h Z H _ (.refl _) ⟨hh, .bl _⟩
    · exact h.elim
theorem os_isN : OpS K rIsNA fIsN where
  mono := fun d1 d2 Q Q' hQ h => by
    unfold fIsN at h ⊢
    split at h
    · exact hQ _ h
    · exact someK.mono (fun _ => hQ _) h
    · exact h.elim
  run := fun G Z σ H env v1 v2 d1 d2 Q hh n1 n2 h => by
    unfold fIsN at h
    split at h
    · exact .inr ⟨_, _, n1.bl', n2.bl', h Z H _ (.refl _) ⟨hh, .bl _⟩⟩
    · obtain ⟨b, e, h⟩ := h.get
      refine .inl ⟨n2.non', ?_⟩
      rw [now_isNon n1 e]
      exact h Z H _ (.refl _) ⟨hh, .bl _⟩
    · exact h.elim
theorem e_is (ha : EJ X Er a wa) (hb : EJ X Er b wb) : EJ X Er (.Compare a [.Is] [b] pos) (wOp fIs wa wb) := e_cmp (op_isN1.or op_isBl) os_is ha hb (nomark _)
theorem t_is (ha : EJ X Er a wa) (hb : EJ X Er b wb) : TJ X Er (.Compare a [.Is] [b] pos) (wB (wOp fIs wa wb)) := t_cmp (op_isN1.or op_isBl) os_is ha hb (nomark _)
theorem e_isn (ha : EJ X Er a wa) (hb : EJ X Er b wb) : EJ X Er (.Compare a [.IsNot] [b] pos) (wOp fIsN wa wb) := e_cmp (op_notN1.or op_notBl) os_isN ha hb (nomark _)
theorem t_isn (ha : EJ X Er a wa) (hb : EJ X Er b wb) : TJ X Er (.Compare a [.IsNot] [b] pos) (wB (wOp fIsN wa wb)) := t_cmp (op_notN1.or op_notBl) os_isN ha hb (nomark _)
/-! ### min, max of two numbers, of a list of numbers -/
def fMin : CaF := fun ds Q => match ds with
  | [.int i, .int j] => Q (.val (.int (if j < i then j else i)))
  | [.lst xs] => someK (intsD xs) fun is => someK is.min? fun m => Q (.val (.int m))
  | _ => False
def fMax : CaF := fun ds Q => match ds with
  | [.int i, .int j] => Q (.val (.int (if j > i then j else i)))
  | [.lst xs] => someK (intsD xs) fun is => someK is.max? fun m => Q (.val (.int m))
  | _ => False
abbrev rMin2 : List V → Hp → VK → Prop := fun xs H Q => ∃ i j, xs = [.int i, .int j] ∧ Q (.int (if j < i then j else i)) H
abbrev rMax2 : List V → Hp → VK → Prop := fun xs H Q => ∃ i j, xs = [.int i, .int j] ∧ Q (.int (if j > i then j else i)) H
abbrev rMinA (K : Fr0) : List V → Hp → VK → Prop := fun xs H Q => rMin2 xs H Q ∨ rMin K xs H Q
abbrev rMaxA (K : Fr0) : List V → Hp → VK → Prop := fun xs H Q => rMax2 xs H Q ∨ rMax K xs H Q
theorem c_min (hc : X.calm = true) : CallR X (.builtin "min") (rMinA X.K) := (call_min2 hc).or (cr_min hc)
theorem c_max (hc : X.calm = true) : CallR X (.builtin "max") (rMaxA X.K) := (call_max2 hc).or (cr_max hc)
theorem cs_min : CallS K (rMinA K) fMin where
  mono := fun ds Q Q' hQ h => by
    unfold fMin at h ⊢
    split at h
    · exact hQ _ h
    · exact someK.mono (fun _ => someK.mono fun _ => hQ _) h
    · exact h.elim
  run := fun G Z σ H env vs ds Q hh n h => by
    unfold fMin at h
    split at h
    · obtain ⟨v, v2, rfl, n1, n2⟩ := nows2 n
      exact .inl ⟨_, _, by rw [n1.int', n2.int'], h Z H _ (.refl _) ⟨hh, .int _⟩⟩
    · obtain ⟨is, ei, h⟩ := h.get
      obtain ⟨m, em, h⟩ := h.get
      obtain ⟨v, rfl, n1⟩ := nows1 n
      obtain ⟨p, us, e1, h1, r1⟩ := n1.lst' hh.zh
      have := intsD_run r1 ei
      subst this
      refine .inr ⟨p, is, by rw [e1], .of h1, ?_, fun m' hm hl => ?_⟩
      · cases is with
        | nil => cases em
        | cons => exact Nat.succ_pos _
      · have q := List.min?_eq_some_iff.mp em
        have : m' = m := Int.le_antisymm (hl m q.1) (q.2 m' hm)
        subst this
        exact h Z H _ (.refl _) ⟨hh, .int _⟩
    · exact h.elim
theorem cs_max : CallS K (rMaxA K) fMax where
  mono := fun ds Q Q' hQ h => by
    unfold fMax at h ⊢
    split at h
    · exact hQ _ h
    · exact someK.mono (fun _ => someK.mono fun _ => hQ _) h
    · exact h.elim
  run := fun G Z σ H env vs ds Q hh n h => by
    unfold fMax at h
    split at h
    · obtain ⟨v, v2, rfl, n1, n2⟩ := nows2 n
      exact .inl ⟨_, _, by rw [n1.int', n2.int'], h Z H _ (.refl _) ⟨hh, .int _⟩⟩
    · obtain ⟨is, ei, h⟩ := h.get
      obtain ⟨m, em, h⟩ := h.get
      obtain ⟨v, rfl, n1⟩ := nows1 n
      obtain ⟨p, us, e1, h1, r1⟩ := n1.lst' hh.zh
      have := intsD_run r1 ei
      subst this
      refine .inr ⟨p, is, by rw [e1], .of h1, ?_, fun m' hm hl => ?_⟩
      · cases is with
        | nil => cases em
        | cons => exact Nat.succ_pos _
      · have q := List.max?_eq_some_iff.mp em
        have : m' = m := Int.le_antisymm (q.2 m' hm) (hl m q.1)
        subst this
        exact h Z H _ (.refl _) ⟨hh, .int _⟩
    · exact h.elim
/-! ### sorted, of numbers -/
def fSorted : CaF := fun ds Q => match ds with
  | [.lst xs] => someK (intsD xs) fun is => ∀ js : List Int, js.Perm is → js.Pairwise (· ≤ ·) → Q (.new (.own none (.lst (js.map D.int))))
  | _ => False
theorem cs_sorted : CallS K (rSortedI K) fSorted where
  mono := fun ds Q Q' hQ h => by
    unfold fSorted at h ⊢
    split at h
    · exact someK.mono (fun _ q js h1 h2 => hQ _ (q js h1 h2)) h
    · exact h.elim
  run := fun G Z σ H env vs ds Q hh n h => by
    unfold fSorted at h
    split at h
    · obtain ⟨is, ei, h⟩ := h.get
      obtain ⟨v, rfl, n1⟩ := nows1 n
      obtain ⟨p, us, e1, h1, r1⟩ := n1.lst' hh.zh
      have := intsD_run r1 ei
      subst this
      exact ⟨p, is, by rw [e1], .of h1, fun js q hp ho hq => h js hp ho Z _ _ (.refl _) (post_lst hh hq (repsInts js))⟩
    · exact h.elim
/-! ### xs[::-1] of a list -/
def wRev (w : WE) : WE := fun env Q x => (fun (_ : Unit) => w env (fun t e => match res e t with
  | some (.lst xs) => Q (.new (.own none (.lst xs.reverse))) e
  | some (.frl xs) => Q (.new (.own none (.lst xs.reverse))) e
  | _ => False) x) hi4
theorem e_rev {k : Nat} {p1 p2 p3 : Pos} (ha : EJ X Er a wa) : EJ X Er (.Subscript a (.Slice none none (some (.UnaryOp .USub (.Constant (.int 1) k p1) p2)) p3) pos) (wRev wa) := by
  refine ⟨pe_imp (pe_revL ha.pe) fun σ H Q h => ?_, fun env Q Q' x x' hQ hx h => ha.mono _ _ _ _ _ (fun t e h1 => ?_) hx h⟩
  · obtain ⟨G, Z, env, hh, h⟩ := h
    refine ⟨G, Z, env, hh, ha.mono _ _ _ _ _ (fun t e h1 Z1 H1 v s1 p1 => ?_) (fun _ _ q => q) h⟩
    split at h1
    · rename_i xs ei
      obtain ⟨q, us, e1, h2, r1⟩ := (p1.now ei).lst' p1.holds.zh
      exact ⟨q, us, e1, .of h2, fun p hp => h1 Z1 _ _ s1 (post_lst p1.holds hp r1.reverse)⟩
    · rename_i xs ei
      obtain ⟨q, us, e1, h2, r1⟩ := (p1.now ei).frl' p1.holds.zh
      exact ⟨q, us, e1, h2, fun p hp => h1 Z1 _ _ s1 (post_lst p1.holds hp r1.reverse)⟩
    · exact h1.elim
  · split at h1 <;> first | exact hQ _ _ h1 | exact h1.elim
/-! ### xs.insert(i, y) -/
def fInsert : MtF := fun d ds Q => match d, ds with
  | .lst xs, [.int i, y] => xs.length < sizeLine ∧ 0 ≤ i ∧ i < 2 ^ 63 ∧ Q (.lst (xs.take i.toNat ++ [y] ++ xs.drop i.toNat)) (.val .non)
  | _, _ => False
def rInsert : V → List V → Hp → VK → Prop := fun x vs H Q => ∃ (l : Addr) (xs : List V) (i : Int) (y : V), x = .ref l ∧ vs = [.int i, y] ∧ H l = some (.lst xs) ∧ xs.length < sizeLine ∧ 0 ≤ i ∧ i < 2 ^ 63 ∧
    Q .non (upd H l (.lst (xs.take i.toNat ++ [y] ++ xs.drop i.toNat)))
theorem ms_insert : MthS K rInsert fInsert where
  mono := fun d ds Q Q' hQ h => by
    unfold fInsert at h ⊢
    split at h <;> first | exact ⟨h.1, h.2.1, h.2.2.1, hQ _ _ h.2.2.2⟩ | exact h.elim
  run := fun G Z σ H env i t a d vs ds Q hh ei ev ra rs h => by
    unfold fInsert at h
    split at h
    · obtain ⟨us, eu, ru⟩ := ra
      cases rs with
      | cons r rr =>
        cases rr with
        | cons r2 rr =>
          cases rr
          cases r
          refine ⟨a, us, _, _, rfl, rfl, eu, by rw [ru.length]; exact h.1, h.2.1, h.2.2.1, h.2.2.2 Z _ _ (.refl _) ⟨hh.mutate ei ev ⟨_, upd_same, ?_⟩, .non⟩⟩
          exact ((ru.take _).snoc r2).append (ru.drop _)
    · exact h.elim
theorem mt_ins : MtR X "list.insert" rInsert := mt_insert
end
end FL
namespace FL
open PySem PySem.Spec PyProof.Rows L2

/-! plain tools: loops and comprehensions by what they keep -/
theorem for_inv {g : Tg} {b : WS} {k : KS} (P : Nat → En → Prop) : ∀ {xs : List D} {e : En} (j : Nat),
    (∀ (i : Nat) (d : D) (e : En), xs[i]? = some d → P (j + i) e → ∀ n : En → Prop, (∀ e', P (j + i + 1) e' → n e') → setT (fun e1 => b e1 { k with nx := n, ct := n, bk := k.nx }) e g d) →
    P j e → (∀ e, P (j + xs.length) e → k.nx e) → forR g b k xs e
  | [], e, j, _, h0, hk => hk e h0
  | d :: r, e, j, step, h0, hk => by
    refine step 0 d e rfl h0 _ fun e' h1 => for_inv P (j + 1) (fun i d' e2 hd hP n hn => ?_) h1 fun e2 h2 => hk e2 ?_
    · have q := step (i + 1) d' e2 hd (by rw [show j + (i + 1) = j + 1 + i by omega]; exact hP) n
      rw [show j + (i + 1) + 1 = j + 1 + i + 1 by omega] at q
      exact q hn
    · rw [List.length_cons, show j + (r.length + 1) = j + 1 + r.length by omega]; exact h2
/-- for over a list, no measure of the place -/
theorem for_all {g : Tg} {b : WS} {k : KS} (P : En → Prop) {xs : List D} {e : En}
    (step : ∀ (d : D) (e : En), d ∈ xs → P e → ∀ n : En → Prop, (∀ e', P e' → n e') → setT (fun e1 => b e1 { k with nx := n, ct := n, bk := k.nx }) e g d)
    (h0 : P e) (hk : ∀ e, P e → k.nx e) : forR g b k xs e :=
  for_inv (fun _ => P) 0 (fun i d e hd hP n hn => step d e (List.mem_of_getElem? hd) hP n hn) h0 hk
theorem lc_inv {vs : List Nat} {g : Tg} {w : WE} {Q : List D → En → Prop} (P : Nat → List D → En → Prop) : ∀ {xs acc : List D} {e : En} (j : Nat), acc.length ≤ j → j + xs.length ≤ sizeLine →
    (∀ (i : Nat) (d : D) (acc : List D) (e : En), xs[i]? = some d → P (j + i) acc e → ∀ A : D → En → Prop, (∀ y e', P (j + i + 1) (acc ++ [y]) (wipeE vs e') → A y e') → setT (fun e1 => w e1 (fun tk e3 => lcK A e3 tk) noX) e g d) →
    P j acc e → (∀ acc e, P (j + xs.length) acc e → Q acc e) → lcR vs g wYes w Q xs acc e
  | [], acc, e, j, _, _, _, h0, hk => hk acc e h0
  | d :: r, acc, e, j, hl, hz, step, h0, hk => by
    have q := step 0 d acc e rfl h0 (fun y e4 => acc.length < sizeLine ∧ lcR vs g wYes w Q r (acc ++ [y]) (wipeE vs e4)) fun y e' h1 => ?_
    · exact setT.mono (fun e1 z => z) q
    · rw [List.length_cons] at hz
      refine ⟨by omega, lc_inv P (j + 1) (by rw [List.length_append]; simp; omega) (by omega) (fun i d' acc2 e2 hd hP A hA => ?_) h1 fun acc2 e2 h2 => hk acc2 e2 ?_⟩
      · have q := step (i + 1) d' acc2 e2 hd (by rw [show j + (i + 1) = j + 1 + i by omega]; exact hP) A
        rw [show j + (i + 1) + 1 = j + 1 + i + 1 by omega] at q
        exact q hA
      · rw [List.length_cons, show j + (r.length + 1) = j + 1 + r.length by omega]; exact h2
/-- one value for each, nothing changed -/
theorem lc_map {vs : List Nat} {g : Tg} {w : WE} {Q : List D → En → Prop} (f : D → D) (en : D → En) {e : En} : ∀ {xs acc : List D}, acc.length + xs.length ≤ sizeLine →
    (∀ d ∈ xs, wipeE vs (en d) = e ∧ ∀ A : D → En → Prop, A (f d) (en d) → setT (fun e1 => w e1 (fun tk e3 => lcK A e3 tk) noX) e g d) →
    Q (acc ++ xs.map f) e → lcR vs g wYes w Q xs acc e
  | [], acc, _, _, hk => (List.append_nil acc ▸ hk : Q acc e)
  | d :: r, acc, hz, step, hk => by
    rw [List.length_cons] at hz
    obtain ⟨he, st⟩ := step d List.mem_cons_self
    have q := st (fun y e4 => acc.length < sizeLine ∧ lcR vs g wYes w Q r (acc ++ [y]) (wipeE vs e4)) ?_
    · exact setT.mono (fun e1 z => z) q
    · refine ⟨by omega, ?_⟩
      rw [he]
      refine lc_map f en (by rw [List.length_append]; simp; omega) (fun d' hd => step d' (List.mem_cons_of_mem _ hd)) ?_
      rw [List.append_assoc]; exact hk
/-- some of them left out -/
theorem lc_filter {vs : List Nat} {g : Tg} {t : WT} {w : WE} {Q : List D → En → Prop} (p : D → Bool) (f : D → D) (en : D → En) {e : En} : ∀ {xs acc : List D}, acc.length + xs.length ≤ sizeLine →
    (∀ d ∈ xs, wipeE vs (en d) = e ∧ ∀ (A : D → En → Prop) (B : En → Prop), (p d = true → A (f d) (en d)) → (p d = false → B (en d)) → setT (fun e1 => t e1 (fun b e2 => if b = true then w e2 (fun tk e3 => lcK A e3 tk) noX else B e2) noX) e g d) →
    Q (acc ++ (xs.filter p).map f) e → lcR vs g t w Q xs acc e
  | [], acc, _, _, hk => (List.append_nil acc ▸ hk : Q acc e)
  | d :: r, acc, hz, step, hk => by
    rw [List.length_cons] at hz
    obtain ⟨he, st⟩ := step d List.mem_cons_self
    refine st _ _ (fun hp => ⟨by omega, ?_⟩) fun hp => ?_
    · rw [he]
      refine lc_filter p f en (by rw [List.length_append]; simp; omega) (fun d' hd => step d' (List.mem_cons_of_mem _ hd)) ?_
      rw [List.append_assoc]
      rw [List.filter_cons, if_pos hp] at hk
      exact hk
    · rw [he]
      refine lc_filter p f en (by omega) (fun d' hd => step d' (List.mem_cons_of_mem _ hd)) ?_
      rw [List.filter_cons, if_neg (by rw [hp]; exact Bool.false_ne_true)] at hk
      exact hk
theorem ints_get {ns : List Int} {i : Nat} {n : Int} (h : ns[i]? = some n) : (ns.map D.int)[i]? = some (.int n) := by rw [List.getElem?_map, h]; rfl
theorem atI_int {ns : List Int} {i : Int} (h0 : 0 ≤ i) (h1 : i < ns.length) : atI (ns.map D.int) i = some (.int (ns[i.toNat]'(by omega))) := by
  rw [atI_in h0 (by rw [List.length_map]; exact h1), List.getElem_map]
theorem range_get {lo : Int} {m i : Nat} (h : i < m) : (rangeD lo m)[i]? = some (.int (lo + i)) := by
  induction m generalizing lo i with
  | zero => omega
  | succ m ih =>
    rw [rangeD_succ]
    cases i with
    | zero => show some (D.int lo) = _; simp
    | succ i =>
      rw [List.getElem?_cons_succ, ih (by omega)]
      congr 2; omega
theorem range_len (lo : Int) (m : Nat) : (rangeD lo m).length = m := by
  induction m generalizing lo with
  | zero => rfl
  | succ m ih => rw [rangeD_succ, List.length_cons, ih]
theorem range_at {lo : Int} {m i : Nat} {d : D} (h : (rangeD lo m)[i]? = some d) : i < m ∧ d = .int (lo + i) := by
  have hi : i < m := by
    have := (List.getElem?_eq_some_iff.mp h).1
    rwa [range_len] at this
  rw [range_get hi] at h
  exact ⟨hi, (Option.some.inj h).symm⟩
theorem range_mem {lo : Int} {m : Nat} {d : D} (h : d ∈ rangeD lo m) : ∃ i : Nat, i < m ∧ d = .int (lo + i) := by
  obtain ⟨i, hi, e⟩ := List.getElem_of_mem h
  have q : (rangeD lo m)[i]? = some d := by rw [List.getElem?_eq_getElem hi, e]
  exact ⟨i, range_at q⟩
theorem atI_of {α : Type} {xs : List α} {i : Int} {j : Nat} {x : α} (hi : i = j) (h : xs[j]? = some x) : atI xs i = some x := by rw [hi]; exact atI_nat h
theorem atI_ofI {ns : List Int} {i : Int} {j : Nat} {n : Int} (hi : i = j) (h : ns[j]? = some n) : atI (ns.map D.int) i = some (.int n) := atI_of hi (ints_get h)
theorem cut_take {xs : List D} {i : Int} {n : Nat} (h : i = n) : cutD xs none (some i) = xs.take n := by rw [h]; exact cutD_take
theorem cut_drop {xs : List D} {i : Int} {n : Nat} (h : i = n) : cutD xs (some i) none = xs.drop n := by
  rw [h]
  unfold cutD
  rw [HT.sIx_none, HT.sIx_nat]
  by_cases q : n ≤ xs.length
  · rw [Nat.min_eq_left q, List.take_of_length_le (by rw [List.length_drop]; omega)]
  · rw [Nat.min_eq_right (by omega), List.drop_of_length_le (Nat.le_refl _), List.drop_of_length_le (by omega), List.take_nil]
theorem cut_mid {xs : List D} {i j : Int} {n m : Nat} (h : i = n) (h2 : j = m) : cutD xs (some i) (some j) = (xs.take m).drop n := by
  rw [h, h2]
  unfold cutD
  rw [HT.sIx_nat, HT.sIx_nat, List.drop_take]
  by_cases q : n ≤ xs.length
  · rw [Nat.min_eq_left q]
    by_cases q2 : m ≤ xs.length
    · rw [Nat.min_eq_left q2]
    · rw [Nat.min_eq_right (by omega), List.take_of_length_le (l := xs.drop n) (by rw [List.length_drop]; omega), List.take_of_length_le (by rw [List.length_drop]; omega)]
  · rw [Nat.min_eq_right (a := n) (by omega), List.drop_of_length_le (Nat.le_refl _), List.drop_of_length_le (by omega)]; simp
theorem rangeC_succ (lo : Int) (m : Nat) : rangeC lo (-1) (m + 1) = .int lo :: rangeC (lo - 1) (-1) m := by
  unfold rangeC
  rw [List.range_succ_eq_map, List.map_cons, List.map_map]
  congr 1
  · simp
  · refine List.map_congr_left fun i _ => ?_
    show D.int _ = D.int _
    congr 1
    push_cast
    omega
end FL
namespace K23
open PySem PySem.Spec PyProof.Rows L2 FL
/-! ### what is computed -/
abbrev RowT := List (Int × List Int)
abbrev Rec := Nat × Int × Nat × List Int
def stepP : List Int → Nat
  | x :: y :: z :: r => if x ≤ z then 1 else stepP (y :: z :: r) + 1
  | _ => 1
def putP (b : Int) : List Int → Nat
  | [] => 0
  | u :: r => if putP b r ≠ 0 then putP b r + 1 else if u ≥ b then 1 else 0
def wt (row : RowT) (i : Nat) : Int := (row.getD i (0, [])).1
def jn (row : RowT) (i : Nat) : List Int := (row.getD i (0, [])).2
def recOf (row : RowT) : Rec :=
  let p := stepP (row.map (·.1))
  let b := wt row (p - 1) + wt row p
  (p, b, putP b ((row.map (·.1)).take (p - 1)), jn row (p - 1) ++ jn row p)
def nextRow (row : RowT) : RowT :=
  let r := recOf row
  let rest := row.take (r.1 - 1) ++ row.drop (r.1 + 1)
  rest.take r.2.2.1 ++ [(r.2.1, r.2.2.2)] ++ rest.drop r.2.2.1
def runAll : Nat → RowT → List Rec
  | 0, _ => []
  | n + 1, row => recOf row :: runAll n (nextRow row)
def rowOf (ws : List Int) : RowT := (List.range ws.length).map fun i => (ws.getD i 0, [(i : Int)])
def stepsOf (ws : List Int) : List Rec := runAll (ws.length - 1) (rowOf ws)
def bump (ds : List Int) (i : Int) : List Int := ds.set i.toNat (ds.getD i.toNat 0 + 1)
def depthsR (ds : List Int) (rs : List Rec) : List Int := rs.foldl (fun ds r => r.2.2.2.foldl bump ds) ds
def depthsOf (ws : List Int) : List Int := depthsR (List.replicate ws.length 0) (stepsOf ws)
def recD (r : Rec) : D := .tup [.int r.1, .int r.2.1, .int r.2.2.1, .lst (r.2.2.2.map D.int)]
def rec3 (r : Rec) : D := .tup [.int r.1, .int r.2.1, .int r.2.2.1]
/-! ### specs -/
def DeckOk (n : Nat) (d : D) : Prop := ∃ g m t : Int, d = .lst [.int g, .int m, .int t] ∧ 0 ≤ g ∧ 0 ≤ t ∧ t ≤ n
def sp_step_place : Fs := fun cs Q _ => ∃ ws : List Int, cs = [.own (some 0) (.lst (ws.map D.int))] ∧ 2 ≤ ws.length ∧ ws.length ≤ 24 ∧ Q (.val (.int (stepP ws))) cs
def sp_put_place : Fs := fun cs Q _ => ∃ (ws : List Int) (p : Nat) (b : Int), cs = [.own (some 0) (.lst (ws.map D.int)), .val (.int p), .val (.int b)] ∧ 1 ≤ p ∧ p < ws.length ∧ ws.length ≤ 24 ∧ Q (.val (.int (putP b (ws.take (p - 1))))) cs
def sp_all_steps : Fs := fun cs Q _ => ∃ ws : List Int, cs = [.val (.tup (ws.map D.int))] ∧ 1 ≤ ws.length ∧ ws.length ≤ 24 ∧ Q (.new (.own none (.lst ((stepsOf ws).map recD)))) cs
def sp_depths_by_steps : Fs := fun cs Q _ => ∃ ws : List Int, cs = [.val (.tup (ws.map D.int))] ∧ 1 ≤ ws.length ∧ ws.length ≤ 24 ∧ Q (.val (.tup ((depthsOf ws).map D.int))) cs
def sp__law_deck : Fs := fun cs Q _ => ∃ ns : List Int, cs = [.val (.frl (ns.map D.int))] ∧ ns.length ≤ 63 ∧ (∀ z ∈ ns, Builtin.Int.intBits z ≤ 1048576) ∧ ∀ d, DeckOk 0 d → Q (.new (.own none d)) cs
def sp__law_draw : Fs := fun cs Q _ => ∃ n d most, cs = [.own (some 0) d, .val (.int most)] ∧ DeckOk n d ∧ 1 ≤ most ∧ most ≤ 2 ^ 62 ∧ n ≤ 2 ^ 50 ∧
  ∀ r d', DeckOk (n + 1) d' → 0 ≤ r → r < most → Q (.val (.int r)) [.own (some 0) d', .val (.int most)]
def sp__law_weights : Fs := fun cs Q _ => ∃ n d many, cs = [.own (some 0) d, .val (.int many)] ∧ DeckOk n d ∧ 1 ≤ many ∧ many ≤ 24 ∧ n ≤ 2 ^ 40 ∧
  ∀ (ws : List Int) d', DeckOk (n + 100) d' → (ws.length : Int) = many → (∀ x ∈ ws, 0 ≤ x) → Q (.new (.own none (.lst (ws.map D.int)))) [.own (some 0) d', .val (.int many)]
def sp__law_heaps : Fs := fun cs Q _ => ∃ n d most, cs = [.own (some 0) d, .val (.int most)] ∧ DeckOk n d ∧ 4 ≤ most ∧ most ≤ 24 ∧ n ≤ 2 ^ 39 ∧
  ∀ (ws : List Int) d', DeckOk (n + 200) d' → 1 ≤ ws.length → (ws.length : Int) ≤ most → (∀ x ∈ ws, 0 ≤ x) → Q (.val (.tup (ws.map D.int))) [.own (some 0) d', .val (.int most)]
def sp__law_steps : Fs := fun cs Q _ => ∃ ws : List Int, cs = [.val (.tup (ws.map D.int))] ∧ 1 ≤ ws.length ∧ ws.length ≤ 24 ∧ Q (.val (.tup [.tup ((stepsOf ws).map rec3), .tup ((depthsOf ws).map D.int)])) cs
/-- nested tuples of whole numbers -/
def flat : Nat → D → Prop
  | _, .int _ => True
  | h + 1, .tup xs => xs.length ≤ 1000 ∧ ∀ x ∈ xs, flat h x
  | _, _ => False
def sp__law_same (h : Nat) : Fs := fun cs Q _ => ∃ d, cs = [.val d, .val d] ∧ 0 < h ∧ flat (h - 1) d ∧ Q (.val (.bl true)) cs
def sp_law : Fs := fun cs Q _ => ∃ ns : List Int, cs = [.val (.frl (ns.map D.int))] ∧ ns.length ≤ 63 ∧ (∀ z ∈ ns, Builtin.Int.intBits z ≤ 1048576) ∧ Q (.val (.bl true)) cs
end K23
namespace K23
open PySem PySem.Spec PyProof.Rows L2 FL
def topS (i : Nat) : Stmt := PySem.Challenge.pw_joinedheaps_k23_depths_by_steps.main.body.getD i (.Pass ⟨0, 0, 0, 0⟩)
abbrev st_step_place : Stmt := topS 1
abbrev st_put_place : Stmt := topS 2
abbrev st_all_steps : Stmt := topS 3
abbrev st_depths_by_steps : Stmt := topS 4
abbrev st__law_deck : Stmt := topS 6
abbrev st__law_draw : Stmt := topS 7
abbrev st__law_same : Stmt := topS 8
abbrev st__law_weights : Stmt := topS 9
abbrev st__law_heaps : Stmt := topS 10
abbrev st__law_steps : Stmt := topS 11
abbrev st_law : Stmt := topS 12
theorem bt_len : bootBuiltins "len" = some (.builtin "len") := by decide +kernel
theorem bt_isinstance : bootBuiltins "isinstance" = some (.builtin "isinstance") := by decide +kernel
theorem bt_abs : bootBuiltins "abs" = some (.builtin "abs") := by decide +kernel
theorem bt_min : bootBuiltins "min" = some (.builtin "min") := by decide +kernel
theorem bt_sorted : bootBuiltins "sorted" = some (.builtin "sorted") := by decide +kernel
theorem bt_tuple : bootBuiltins "tuple" = some (.type "tuple") := by decide +kernel
theorem bt_list : bootBuiltins "list" = some (.type "list") := by decide +kernel
theorem bt_int : bootBuiltins "int" = some (.type "int") := by decide +kernel
theorem bt_bool : bootBuiltins "bool" = some (.type "bool") := by decide +kernel
theorem bt_str : bootBuiltins "str" = some (.type "str") := by decide +kernel
def w_step_place : WS :=
  (wSeq (wSet 1 (wC (.int 1)))
  (wSeq (wWhile (wAnd (wB (wOp fLt (wNm 1) (wOp fSub (wCa fLen (wACons (wNm 0) wANil)) (wC (.int 1))))) (wB (wOp fGt (wOp fIx (wNm 0) (wOp fSub (wNm 1) (wC (.int 1)))) (wOp fIx (wNm 0) (wOp fAdd (wNm 1) (wC (.int 1))))))) (wSet 1 (wOp fAdd (wNm 1) (wC (.int 1)))))
  (wRet (wNm 1))))
def w_put_place : WS :=
  (wSeq (wFor (wRng (wACons (wOp fSub (wNm 1) (wC (.int 2))) (wACons (wNeg (wC (.int 1))) (wACons (wNeg (wC (.int 1))) wANil)))) (.one 3) (wIfS (wB (wOp fGe (wOp fIx (wNm 0) (wNm 3)) (wNm 2))) (wRet (wOp fAdd (wNm 3) (wC (.int 1)))) wNx))
  (wRet (wC (.int 0))))
def w_all_steps : WS :=
  (wSeq (wSet 1 (wCa fList (wACons (wNm 0) wANil)))
  (wSeq (wSet 3 (wLc (wRng (wACons (wCa fLen (wACons (wNm 0) wANil)) wANil)) [2] (.one 2) wYes (wFr (wLst (wACons (wFr (wNm 2)) wANil)))))
  (wSeq (wSet 4 (wLst wANil))
  (wSeq (wWhile (wB (wOp fGt (wCa fLen (wACons (wNm 1) wANil)) (wC (.int 1)))) (wSeq (wSet 2 (wCall sp_step_place (wACons (wNm 1) wANil)))
  (wSeq (wSet 5 (wOp fAdd (wOp fIx (wNm 1) (wOp fSub (wNm 2) (wC (.int 1)))) (wOp fIx (wNm 1) (wNm 2))))
  (wSeq (wSet 6 (wCall sp_put_place (wACons (wNm 1) (wACons (wFr (wNm 2)) (wACons (wFr (wNm 5)) wANil)))))
  (wSeq (wSet 7 (wOp fAdd (wOp fIx (wNm 3) (wOp fSub (wNm 2) (wC (.int 1)))) (wOp fIx (wNm 3) (wNm 2))))
  (wSeq (wSet 1 (wOp fAdd (wSl (wNm 1) wO0 (wO1 (wOp fSub (wNm 2) (wC (.int 1))))) (wSl (wNm 1) (wO1 (wOp fAdd (wNm 2) (wC (.int 1)))) wO0)))
  (wSeq (wSet 3 (wOp fAdd (wSl (wNm 3) wO0 (wO1 (wOp fSub (wNm 2) (wC (.int 1))))) (wSl (wNm 3) (wO1 (wOp fAdd (wNm 2) (wC (.int 1)))) wO0)))
  (wSeq (wDrop (wMth fInsert 1 (wACons (wFr (wNm 6)) (wACons (wFr (wNm 5)) wANil))))
  (wSeq (wDrop (wMth fInsert 3 (wACons (wFr (wNm 6)) (wACons (wFr (wNm 7)) wANil))))
  (wDrop (wMth fAppend 4 (wACons (wTup (wACons (wFr (wNm 2)) (wACons (wFr (wNm 5)) (wACons (wFr (wNm 6)) (wACons (wFr (wNm 7)) wANil))))) wANil))))))))))))
  (wRet (wNm 4))))))
def w_depths_by_steps : WS :=
  (wSeq (wSet 1 (wOp fMul (wLst (wACons (wC (.int 0)) wANil)) (wCa fLen (wACons (wNm 0) wANil))))
  (wSeq (wFor (wSq (wFr (wCall sp_all_steps (wACons (wFr (wNm 0)) wANil)))) (.tup [2, 3, 4, 5]) (wFor (wSq (wFr (wNm 5))) (.one 6) (wStIt 1 (wFr (wOp fAdd (wOp fIx (wNm 1) (wNm 6)) (wC (.int 1)))) (wNm 6))))
  (wRet (wCa fTuple (wACons (wNm 1) wANil)))))
def w__law_deck : WS :=
  (wSeq (wSet 1 (wC (.int 0)))
  (wSeq (wSet 2 (wOp fAdd (wOp fMul (wC (.int 17)) (wCa fLen (wACons (wNm 0) wANil))) (wC (.int 11))))
  (wSeq (wFor (wSq (wFr (wSl (wNm 0) wO0 (wO1 (wC (.int 63)))))) (.one 3) (wIfS (wB (wOp fGe (wCa fAbs (wACons (wNm 3) wANil)) (wOp fPow (wC (.int 10)) (wC (.int 18))))) (wSet 1 (wOp fAdd (wOp fShl (wNm 1) (wC (.int 205))) (wCa fAbs (wACons (wNm 3) wANil)))) (wSet 2 (wOp fMod (wOp fAdd (wOp fMul (wNm 2) (wC (.int 43))) (wNm 3)) (wC (.int 1999999871))))))
  (wRet (wLst (wACons (wFr (wNm 1)) (wACons (wFr (wNm 2)) (wACons (wC (.int 0)) wANil))))))))
def w__law_draw : WS :=
  (wSeq (wStIt 0 (wFr (wOp fAdd (wOp fIx (wNm 0) (wC (.int 2))) (wC (.int 1)))) (wC (.int 2)))
  (wSeq (wIfS (wB (wOp fGt (wOp fIx (wNm 0) (wC (.int 0))) (wC (.int 0)))) (wSeq (wSet 2 (wOp fMod (wOp fIx (wNm 0) (wC (.int 0))) (wNm 1)))
  (wSeq (wStIt 0 (wOp fDiv (wOp fIx (wNm 0) (wC (.int 0))) (wNm 1)) (wC (.int 0)))
  (wRet (wNm 2)))) wNx)
  (wSeq (wSet 3 (wOp fIx (wNm 0) (wC (.int 2))))
  (wSeq (wSet 4 (wOp fMod (wOp fAdd (wOp fAdd (wOp fIx (wNm 0) (wC (.int 1))) (wOp fMul (wOp fMul (wC (.int 70003)) (wNm 3)) (wNm 3))) (wOp fMul (wC (.int 5003)) (wNm 3))) (wC (.int 2147483543))))
  (wSeq (wSet 4 (wOp fMod (wOp fMul (wNm 4) (wNm 4)) (wC (.int 2147483497))))
  (wRet (wOp fMod (wOp fDiv (wOp fMod (wOp fAdd (wOp fMul (wNm 4) (wC (.int 38333))) (wOp fMul (wNm 3) (wC (.int 67)))) (wC (.int 2147483477))) (wC (.int 13))) (wNm 1))))))))
def w__law_same (s_self : Fs) : WS :=
  (wSeq (wIfS (wB (wOp fIs (wNm 1) (wC .non))) (wRet (wOp fIs (wNm 0) (wC .non))) wNx)
  (wSeq (wIfS (wB (wCa fIsi (wACons (wNm 1) (wACons (wC (.opq (.ty "tuple"))) wANil)))) (wSeq (wIfS (wOr (wNot (wB (wCa fIsi (wACons (wNm 0) (wACons (wC (.opq (.ty "tuple"))) wANil))))) (wB (wOp fNe (wCa fLen (wACons (wNm 0) wANil)) (wCa fLen (wACons (wNm 1) wANil))))) (wRet (wC (.bl false))) wNx)
  (wRet (wOp fEq (wLc (wZip (wACons (wFr (wNm 0)) (wACons (wFr (wNm 1)) wANil))) [2, 3] (.tup [2, 3]) (wNot (wB (wCall s_self (wACons (wFr (wNm 2)) (wACons (wFr (wNm 3)) wANil))))) (wC (.int 1))) (wLst wANil)))) wNx)
  (wSeq (wIfS (wB (wCa fIsi (wACons (wNm 1) (wACons (wC (.opq (.ty "str"))) wANil)))) (wRet (wAndV (wCa fIsi (wACons (wNm 0) (wACons (wC (.opq (.ty "str"))) wANil))) (wOp fEq (wNm 0) (wNm 1)))) wNx)
  (wRet (wAndV (wCa fIsi (wACons (wNm 0) (wACons (wC (.opq (.ty "int"))) wANil))) (wAndV (wNotV (wCa fIsi (wACons (wNm 0) (wACons (wC (.opq (.ty "bool"))) wANil)))) (wOp fEq (wNm 0) (wNm 1))))))))
def w__law_weights : WS :=
  (wSeq (wSet 2 (wCall sp__law_draw (wACons (wNm 0) (wACons (wC (.int 9)) wANil))))
  (wSeq (wSet 3 (wLc (wRng (wACons (wNm 1) wANil)) [6] (.one 6) wYes (wFr (wOp fAdd (wOp fMul (wCall sp__law_draw (wACons (wNm 0) (wACons (wOp fPow (wC (.int 10)) (wC (.int 6))) wANil))) (wOp fPow (wC (.int 10)) (wC (.int 6)))) (wCall sp__law_draw (wACons (wNm 0) (wACons (wOp fPow (wC (.int 10)) (wC (.int 6))) wANil)))))))
  (wSeq (wIfS (wB (wOp fEq (wNm 2) (wC (.int 1)))) (wRet (wLc (wSq (wFr (wNm 3))) [7] (.one 7) wYes (wOp fMod (wNm 7) (wC (.int 3))))) wNx)
  (wSeq (wIfS (wB (wOp fEq (wNm 2) (wC (.int 2)))) (wRet (wLc (wSq (wFr (wNm 3))) [7] (.one 7) wYes (wOp fMod (wNm 7) (wC (.int 10))))) wNx)
  (wSeq (wIfS (wB (wOp fEq (wNm 2) (wC (.int 3)))) (wRet (wOp fMul (wSl (wNm 3) wO0 (wO1 (wC (.int 1)))) (wNm 1))) wNx)
  (wSeq (wIfS (wB (wOp fEq (wNm 2) (wC (.int 4)))) (wRet (wLc (wRng (wACons (wNm 1) wANil)) [6] (.one 6) wYes (wOp fShl (wC (.int 1)) (wNm 6)))) wNx)
  (wSeq (wIfS (wB (wOp fEq (wNm 2) (wC (.int 5)))) (wSeq (wSet 4 (wLst (wACons (wC (.int 1)) (wACons (wC (.int 1)) wANil))))
  (wSeq (wWhile (wB (wOp fLt (wCa fLen (wACons (wNm 4) wANil)) (wNm 1))) (wDrop (wMth fAppend 4 (wACons (wFr (wOp fAdd (wOp fIx (wNm 4) (wNeg (wC (.int 1)))) (wOp fIx (wNm 4) (wNeg (wC (.int 2)))))) wANil))))
  (wRet (wSl (wNm 4) wO0 (wO1 (wNm 1)))))) wNx)
  (wSeq (wIfS (wB (wOp fEq (wNm 2) (wC (.int 6)))) (wRet (wLc (wEnum (wACons (wFr (wNm 3)) wANil)) [6, 7] (.tup [6, 7]) wYes (wOp fIx (wLst (wACons (wOp fMod (wNm 7) (wC (.int 5))) (wACons (wOp fMod (wNm 7) (wC (.int 1000))) wANil))) (wOp fMod (wNm 6) (wC (.int 2)))))) wNx)
  (wSeq (wIfS (wB (wOp fEq (wNm 2) (wC (.int 7)))) (wSeq (wSet 5 (wOp fMod (wOp fIx (wNm 3) (wC (.int 0))) (wOp fAdd (wNm 1) (wC (.int 1)))))
  (wRet (wOp fAdd (wRev (wCa fSorted (wACons (wSl (wNm 3) wO0 (wO1 (wNm 5))) wANil))) (wCa fSorted (wACons (wSl (wNm 3) (wO1 (wNm 5)) wO0) wANil))))) wNx)
  (wSeq (wIfS (wB (wOp fEq (wNm 2) (wC (.int 8)))) (wRet (wLc (wSq (wFr (wNm 3))) [7] (.one 7) wYes (wOp fSub (wOp fSub (wOp fPow (wC (.int 10)) (wC (.int 12))) (wC (.int 1))) (wOp fMod (wNm 7) (wC (.int 2)))))) wNx)
  (wRet (wNm 3))))))))))))
def w__law_heaps : WS :=
  (wSeq (wSet 2 (wOp fIx (wLst (wACons (wFr (wOp fAdd (wC (.int 1)) (wCall sp__law_draw (wACons (wNm 0) (wACons (wFr (wNm 1)) wANil))))) (wACons (wFr (wNm 1)) (wACons (wFr (wOp fAdd (wC (.int 1)) (wCall sp__law_draw (wACons (wNm 0) (wACons (wCa fMin (wACons (wC (.int 4)) (wACons (wNm 1) wANil))) wANil))))) wANil)))) (wCall sp__law_draw (wACons (wNm 0) (wACons (wC (.int 3)) wANil)))))
  (wSeq (wSet 3 (wCall sp__law_weights (wACons (wNm 0) (wACons (wFr (wNm 2)) wANil))))
  (wSeq (wIfS (wB (wOp fEq (wCall sp__law_draw (wACons (wNm 0) (wACons (wC (.int 2)) wANil))) (wC (.int 0)))) (wSet 3 (wRev (wNm 3))) wNx)
  (wSeq (wIfS (wB (wOp fEq (wCall sp__law_draw (wACons (wNm 0) (wACons (wC (.int 4)) wANil))) (wC (.int 0)))) (wSeq (wSet 4 (wCall sp__law_draw (wACons (wNm 0) (wACons (wFr (wNm 2)) wANil))))
  (wSeq (wSet 5 (wLst (wACons (wC (.int 0)) (wACons (wOp fIx (wNm 3) (wOp fSub (wNm 4) (wC (.int 1)))) (wACons (wCa fMin (wACons (wOp fSub (wOp fPow (wC (.int 10)) (wC (.int 12))) (wC (.int 1))) (wACons (wOp fAdd (wOp fIx (wNm 3) (wNm 4)) (wC (.int 1))) wANil))) (wACons (wFr (wCall sp__law_draw (wACons (wNm 0) (wACons (wOp fPow (wC (.int 10)) (wC (.int 6))) wANil)))) wANil))))))
  (wStIt 3 (wOp fIx (wNm 5) (wCall sp__law_draw (wACons (wNm 0) (wACons (wC (.int 4)) wANil)))) (wNm 4)))) wNx)
  (wRet (wCa fTuple (wACons (wNm 3) wANil)))))))
def w__law_steps : WS :=
  (wSeq (wSet 2 (wLc (wEnum (wACons (wFr (wNm 0)) wANil)) [1, 11] (.tup [1, 11]) wYes (wTup (wACons (wFr (wNm 11)) (wACons (wFr (wLst (wACons (wFr (wNm 1)) wANil))) wANil)))))
  (wSeq (wSet 3 (wLst wANil))
  (wSeq (wSet 4 (wOp fMul (wLst (wACons (wC (.int 0)) wANil)) (wCa fLen (wACons (wNm 0) wANil))))
  (wSeq (wWhile (wB (wOp fGt (wCa fLen (wACons (wNm 2) wANil)) (wC (.int 1)))) (wSeq (wSet 6 (wLc (wRng (wACons (wC (.int 1)) (wACons (wCa fLen (wACons (wNm 2) wANil)) wANil))) [5] (.one 5) (wOr (wB (wOp fEq (wNm 5) (wOp fSub (wCa fLen (wACons (wNm 2) wANil)) (wC (.int 1))))) (wB (wOp fLe (wOp fIx (wOp fIx (wNm 2) (wOp fSub (wNm 5) (wC (.int 1)))) (wC (.int 0))) (wOp fIx (wOp fIx (wNm 2) (wOp fAdd (wNm 5) (wC (.int 1)))) (wC (.int 0)))))) (wFr (wNm 5))))
  (wSeq (wSet 5 (wOp fIx (wNm 6) (wC (.int 0))))
  (wSeq (wSet 7 (wOp fAdd (wOp fIx (wOp fIx (wNm 2) (wOp fSub (wNm 5) (wC (.int 1)))) (wC (.int 0))) (wOp fIx (wOp fIx (wNm 2) (wNm 5)) (wC (.int 0)))))
  (wSeq (wSet 8 (wOp fAdd (wOp fIx (wOp fIx (wNm 2) (wOp fSub (wNm 5) (wC (.int 1)))) (wC (.int 1))) (wOp fIx (wOp fIx (wNm 2) (wNm 5)) (wC (.int 1)))))
  (wSeq (wSet 9 (wLc (wRng (wACons (wOp fSub (wNm 5) (wC (.int 1))) wANil)) [12] (.one 12) (wB (wOp fGe (wOp fIx (wOp fIx (wNm 2) (wNm 12)) (wC (.int 0))) (wNm 7))) (wFr (wOp fAdd (wNm 12) (wC (.int 1))))))
  (wSeq (wSet 1 (wOp fIx (wOp fAdd (wLst (wACons (wC (.int 0)) wANil)) (wNm 9)) (wNeg (wC (.int 1)))))
  (wSeq (wSet 2 (wOp fAdd (wOp fAdd (wOp fAdd (wSl (wNm 2) wO0 (wO1 (wNm 1))) (wLst (wACons (wTup (wACons (wFr (wNm 7)) (wACons (wFr (wNm 8)) wANil))) wANil))) (wSl (wNm 2) (wO1 (wNm 1)) (wO1 (wOp fSub (wNm 5) (wC (.int 1)))))) (wSl (wNm 2) (wO1 (wOp fAdd (wNm 5) (wC (.int 1)))) wO0)))
  (wSeq (wFor (wSq (wFr (wNm 8))) (.one 10) (wStIt 4 (wFr (wOp fAdd (wOp fIx (wNm 4) (wNm 10)) (wC (.int 1)))) (wNm 10)))
  (wDrop (wMth fAppend 3 (wACons (wTup (wACons (wFr (wNm 5)) (wACons (wFr (wNm 7)) (wACons (wFr (wNm 1)) wANil)))) wANil))))))))))))
  (wRet (wTup (wACons (wCa fTuple (wACons (wNm 3) wANil)) (wACons (wCa fTuple (wACons (wNm 4) wANil)) wANil))))))))
def w_law : WS :=
  (wSeq (wSet 1 (wCall sp__law_deck (wACons (wFr (wNm 0)) wANil)))
  (wSeq (wFor (wRng (wACons (wC (.int 6)) wANil)) (.one 2) (wSeq (wSet 3 (wCall sp__law_heaps (wACons (wNm 1) (wACons (wOp fIx (wLst (wACons (wC (.int 24)) (wACons (wC (.int 24)) (wACons (wC (.int 12)) (wACons (wC (.int 12)) (wACons (wC (.int 6)) (wACons (wC (.int 4)) wANil))))))) (wNm 2)) wANil))))
  (wSeq (wSetT (.tup [4, 5]) (wFr (wCall sp__law_steps (wACons (wFr (wNm 3)) wANil))))
  (wIfS (wOr (wNot (wB (wCall (sp__law_same 3) (wACons (wFr (wCall sp_depths_by_steps (wACons (wFr (wNm 3)) wANil))) (wACons (wFr (wNm 5)) wANil))))) (wB (wOp fNe (wCall sp_depths_by_steps (wACons (wFr (wNm 3)) wANil)) (wNm 5)))) (wRet (wC (.bl false))) wNx))))
  (wRet (wAndV (wOp fEq (wCall sp_depths_by_steps (wACons (wTup (wACons (wC (.int 5)) wANil)) wANil)) (wTup (wACons (wC (.int 0)) wANil))) (wOp fEq (wCall sp_depths_by_steps (wACons (wTup (wACons (wC (.int 1)) (wACons (wC (.int 1)) (wACons (wC (.int 2)) (wACons (wC (.int 4)) wANil))))) wANil)) (wTup (wACons (wC (.int 3)) (wACons (wC (.int 3)) (wACons (wC (.int 2)) (wACons (wC (.int 1)) wANil))))))))))

/-! step_place: 0 weights, 1 place -/
abbrev N_step_place : List Str := ["weights", "place"]
theorem sc_step_place : FnScope N_step_place ["weights"] (defScope st_step_place) := ⟨rfl, rfl, rfl, by decide +kernel, rfl, by decide +kernel, by decide +kernel⟩
theorem body_step_place {P : Program} {w : World} {K : Fr0} {mg : Str → Option Value} {base : Heap} {k : Nat} (z_len : mg "len" = none)
    (f : Addr) (cdv : Value) (A : Around) (outer : List Env) (s : Shared) (H : Hp) (E : XK) (hr : Room k (A.deeper (envOfC "step_place" (defScope st_step_place) s.heap.objs.size f cdv))) :
    BJ (cxOf CX0 P w K mg base N_step_place "step_place" (defScope st_step_place) f cdv A outer s H E).nox E (defBody st_step_place) (w_step_place) :=
    (b_cons (s_nm 1 sc_step_place.nd rfl (.inl rfl) e_int)
      (b_cons (s_while PassesOwn.never (WJ.t (w_and (t_lt (e_nm 1 (pv 1)) (e_sub (e_blt c_len cs_len (by rfl) z_len bt_len (a_cons (e_nm 0 (pv 0)) a_nil)) e_int)) (w_and1 (t_gt (e_at (e_nm 0 (pv 0)) (e_sub (e_nm 1 (pv 1)) e_int)) (e_at (e_nm 0 (pv 0)) (e_add (e_nm 1 (pv 1)) e_int)))))) (b_one (s_nm 1 sc_step_place.nd rfl (.inl rfl) (e_add (e_nm 1 (pv 1)) e_int))))
      (b_one (s_ret (e_nm 1 (pv 1))))))
/-! put_place: 0 weights, 1 place, 2 both, 3 at -/
abbrev N_put_place : List Str := ["weights", "place", "both", "at"]
theorem sc_put_place : FnScope N_put_place ["weights", "place", "both"] (defScope st_put_place) := ⟨rfl, rfl, rfl, by decide +kernel, rfl, by decide +kernel, by decide +kernel⟩
theorem body_put_place {P : Program} {w : World} {K : Fr0} {mg : Str → Option Value} {base : Heap} {k : Nat} (z_range : mg "range" = none)
    (f : Addr) (cdv : Value) (A : Around) (outer : List Env) (s : Shared) (H : Hp) (E : XK) (hr : Room k (A.deeper (envOfC "put_place" (defScope st_put_place) s.heap.objs.size f cdv))) :
    BJ (cxOf CX0 P w K mg base N_put_place "put_place" (defScope st_put_place) f cdv A outer s H E).nox E (defBody st_put_place) (w_put_place) :=
    (b_cons (s_for (g := (.one 3)) PassesOwn.never rfl (i_r3 (by rfl) z_range (e_sub (e_nm 1 (pv 1)) e_int) (e_neg e_int) (e_neg e_int)) (pg_one 3 sc_put_place.nd rfl (.inl rfl)) (b_one (s_if (t_ge (e_at (e_nm 0 (pv 0)) (e_nm 3 (pv 3))) (e_nm 2 (pv 2))) (b_one (s_ret (e_add (e_nm 3 (pv 3)) e_int))) b_nil)))
      (b_one (s_ret e_int)))
/-! all_steps: 0 heaps, 1 weights, 2 place, 3 within, 4 found, 5 both, 6 to, 7 joined -/
abbrev N_all_steps : List Str := ["heaps", "weights", "place", "within", "found", "both", "to", "joined"]
theorem sc_all_steps : FnScope N_all_steps ["heaps"] (defScope st_all_steps) := ⟨rfl, rfl, rfl, by decide +kernel, rfl, by decide +kernel, by decide +kernel⟩
theorem body_all_steps {P : Program} {w : World} {K : Fr0} {mg : Str → Option Value} {base : Heap} {k : Nat} {k_put_place : Nat} {k_step_place : Nat} (C_put_place : Cal P w K mg base "put_place" k_put_place ["weights", "place", "both"] sp_put_place) (h_put_place : k_put_place ≤ k) (C_step_place : Cal P w K mg base "step_place" k_step_place ["weights"] sp_step_place) (h_step_place : k_step_place ≤ k) (z_len : mg "len" = none) (z_range : mg "range" = none) (z_list : mg "list" = none)
    (f : Addr) (cdv : Value) (A : Around) (outer : List Env) (s : Shared) (H : Hp) (E : XK) (hr : Room k (A.deeper (envOfC "all_steps" (defScope st_all_steps) s.heap.objs.size f cdv))) :
    BJ (cxOf CX0 P w K mg base N_all_steps "all_steps" (defScope st_all_steps) f cdv A outer s H E).nox E (defBody st_all_steps) (w_all_steps) :=
    (b_cons (s_nm 1 sc_all_steps.nd rfl (.inl rfl) (e_bty call_list_of cs_list (by rfl) z_list bt_list (a_cons (e_nm 0 (pv 0)) a_nil)))
      (b_cons (s_comp 3 (own := [("place", 2)]) (g := (.one 2)) sc_all_steps.nd rfl rfl (sw_true rfl rfl rfl (by decide +kernel)) (i_r1 (by rfl) z_range (e_blt c_len cs_len (by rfl) z_len bt_len (a_cons (e_nm 0 (pv 0)) a_nil))) (blkOk_by (own := [("place", 2)]) (N := N_all_steps) (sc := defScope st_all_steps) (by decide +kernel)) (fun _ _ _ _ _ => (pg_one 2 sc_all_steps.nd rfl (.inl rfl))) (fun _ _ _ _ _ => ts_nil) (fun _ _ _ _ _ => (e_fr (e_lst (a_cons (e_fr (e_nm 2 (pv 2))) a_nil)))))
      (b_cons (s_nm 4 sc_all_steps.nd rfl (.inl rfl) (e_lst a_nil))
      (b_cons (s_while PassesOwn.never (t_gt (e_blt c_len cs_len (by rfl) z_len bt_len (a_cons (e_nm 1 (pv 1)) a_nil)) e_int) (b_cons (s_nm 2 sc_all_steps.nd rfl (.inl rfl) (e_fn C_step_place hr h_step_place (by rfl) (a_cons (e_nm 1 (pv 1)) a_nil)))
      (b_cons (s_nm 5 sc_all_steps.nd rfl (.inl rfl) (e_add (e_at (e_nm 1 (pv 1)) (e_sub (e_nm 2 (pv 2)) e_int)) (e_at (e_nm 1 (pv 1)) (e_nm 2 (pv 2)))))
      (b_cons (s_nm 6 sc_all_steps.nd rfl (.inl rfl) (e_fn C_put_place hr h_put_place (by rfl) (a_cons (e_nm 1 (pv 1)) (a_cons (e_fr (e_nm 2 (pv 2))) (a_cons (e_fr (e_nm 5 (pv 5))) a_nil)))))
      (b_cons (s_nm 7 sc_all_steps.nd rfl (.inl rfl) (e_add (e_at (e_nm 3 (pv 3)) (e_sub (e_nm 2 (pv 2)) e_int)) (e_at (e_nm 3 (pv 3)) (e_nm 2 (pv 2)))))
      (b_cons (s_nm 1 sc_all_steps.nd rfl (.inl rfl) (e_add (e_slice (e_nm 1 (pv 1)) o_none (o_some (e_sub (e_nm 2 (pv 2)) e_int))) (e_slice (e_nm 1 (pv 1)) (o_some (e_add (e_nm 2 (pv 2)) e_int)) o_none)))
      (b_cons (s_nm 3 sc_all_steps.nd rfl (.inl rfl) (e_add (e_slice (e_nm 3 (pv 3)) o_none (o_some (e_sub (e_nm 2 (pv 2)) e_int))) (e_slice (e_nm 3 (pv 3)) (o_some (e_add (e_nm 2 (pv 2)) e_int)) o_none)))
      (b_cons (s_expr (e_ml 1 PySem.F.slot_list_insert PySem.F.type_list_insert mt_ins ms_insert (pv 1) (a_cons (e_fr (e_nm 6 (pv 6))) (a_cons (e_fr (e_nm 5 (pv 5))) a_nil))))
      (b_cons (s_expr (e_ml 3 PySem.F.slot_list_insert PySem.F.type_list_insert mt_ins ms_insert (pv 3) (a_cons (e_fr (e_nm 6 (pv 6))) (a_cons (e_fr (e_nm 7 (pv 7))) a_nil))))
      (b_one (s_expr (e_ml 4 PySem.F.slot_list_append PySem.F.type_list_append mt_append ms_append (pv 4) (a_cons (e_tup (a_cons (e_fr (e_nm 2 (pv 2))) (a_cons (e_fr (e_nm 5 (pv 5))) (a_cons (e_fr (e_nm 6 (pv 6))) (a_cons (e_fr (e_nm 7 (pv 7))) a_nil))))) a_nil)))))))))))))
      (b_one (s_ret (e_nm 4 (pv 4))))))))
/-! depths_by_steps: 0 heaps, 1 found, 2 place, 3 both, 4 to, 5 joined, 6 one -/
abbrev N_depths_by_steps : List Str := ["heaps", "found", "place", "both", "to", "joined", "one"]
theorem sc_depths_by_steps : FnScope N_depths_by_steps ["heaps"] (defScope st_depths_by_steps) := ⟨rfl, rfl, rfl, by decide +kernel, rfl, by decide +kernel, by decide +kernel⟩
theorem body_depths_by_steps {P : Program} {w : World} {K : Fr0} {mg : Str → Option Value} {base : Heap} {k : Nat} {k_all_steps : Nat} (C_all_steps : Cal P w K mg base "all_steps" k_all_steps ["heaps"] sp_all_steps) (h_all_steps : k_all_steps ≤ k) (z_tuple : mg "tuple" = none) (z_len : mg "len" = none)
    (f : Addr) (cdv : Value) (A : Around) (outer : List Env) (s : Shared) (H : Hp) (E : XK) (hr : Room k (A.deeper (envOfC "depths_by_steps" (defScope st_depths_by_steps) s.heap.objs.size f cdv))) :
    BJ (cxOf CX0 P w K mg base N_depths_by_steps "depths_by_steps" (defScope st_depths_by_steps) f cdv A outer s H E).nox E (defBody st_depths_by_steps) (w_depths_by_steps) :=
    (b_cons (s_nm 1 sc_depths_by_steps.nd rfl (.inl rfl) (e_mul (e_lst (a_cons e_int a_nil)) (e_blt c_len cs_len (by rfl) z_len bt_len (a_cons (e_nm 0 (pv 0)) a_nil))))
      (b_cons (s_for (g := (.tup [2, 3, 4, 5])) PassesOwn.never rfl (i_seq (e_fr (e_fn C_all_steps hr h_all_steps (by rfl) (a_cons (e_fr (e_nm 0 (pv 0))) a_nil)))) (pg_tup rfl (pgs_cons (pg_name (i := 2) sc_depths_by_steps.nd rfl (.inl rfl)) (pgs_cons (pg_name (i := 3) sc_depths_by_steps.nd rfl (.inl rfl)) (pgs_cons (pg_name (i := 4) sc_depths_by_steps.nd rfl (.inl rfl)) (pgs_cons (pg_name (i := 5) sc_depths_by_steps.nd rfl (.inl rfl)) pgs_nil))))) (b_one (s_for (g := (.one 6)) PassesOwn.never rfl (i_seq (e_fr (e_nm 5 (pv 5)))) (pg_one 6 sc_depths_by_steps.nd rfl (.inl rfl)) (b_one (s_st 1 (pv 1) (e_fr (e_add (e_at (e_nm 1 (pv 1)) (e_nm 6 (pv 6))) e_int)) (e_nm 6 (pv 6)))))))
      (b_one (s_ret (e_bty call_tuple_of cs_tuple (by rfl) z_tuple bt_tuple (a_cons (e_nm 1 (pv 1)) a_nil))))))
/-! _law_deck: 0 script, 1 great, 2 mixed, 3 cell -/
abbrev N__law_deck : List Str := ["script", "great", "mixed", "cell"]
theorem sc__law_deck : FnScope N__law_deck ["script"] (defScope st__law_deck) := ⟨rfl, rfl, rfl, by decide +kernel, rfl, by decide +kernel, by decide +kernel⟩
theorem body__law_deck {P : Program} {w : World} {K : Fr0} {mg : Str → Option Value} {base : Heap} {k : Nat} (z_abs : mg "abs" = none) (z_len : mg "len" = none)
    (f : Addr) (cdv : Value) (A : Around) (outer : List Env) (s : Shared) (H : Hp) (E : XK) (hr : Room k (A.deeper (envOfC "_law_deck" (defScope st__law_deck) s.heap.objs.size f cdv))) :
    BJ (cxOf CX0 P w K mg base N__law_deck "_law_deck" (defScope st__law_deck) f cdv A outer s H E).nox E (defBody st__law_deck) (w__law_deck) :=
    (b_cons (s_nm 1 sc__law_deck.nd rfl (.inl rfl) e_int)
      (b_cons (s_nm 2 sc__law_deck.nd rfl (.inl rfl) (e_add (e_mul e_int (e_blt c_len cs_len (by rfl) z_len bt_len (a_cons (e_nm 0 (pv 0)) a_nil))) e_int))
      (b_cons (s_for (g := (.one 3)) PassesOwn.never rfl (i_seq (e_fr (e_slice (e_nm 0 (pv 0)) o_none (o_some e_int)))) (pg_one 3 sc__law_deck.nd rfl (.inl rfl)) (b_one (s_if (t_ge (e_blt call_abs cs_abs (by rfl) z_abs bt_abs (a_cons (e_nm 3 (pv 3)) a_nil)) (e_pow e_int e_int)) (b_one (s_nm 1 sc__law_deck.nd rfl (.inl rfl) (e_add (e_shl (e_nm 1 (pv 1)) e_int) (e_blt call_abs cs_abs (by rfl) z_abs bt_abs (a_cons (e_nm 3 (pv 3)) a_nil))))) (b_one (s_nm 2 sc__law_deck.nd rfl (.inl rfl) (e_mod (e_add (e_mul (e_nm 2 (pv 2)) e_int) (e_nm 3 (pv 3))) e_int))))))
      (b_one (s_ret (e_lst (a_cons (e_fr (e_nm 1 (pv 1))) (a_cons (e_fr (e_nm 2 (pv 2))) (a_cons e_int a_nil)))))))))
/-! _law_draw: 0 deck, 1 most, 2 found, 3 turn, 4 one -/
abbrev N__law_draw : List Str := ["deck", "most", "found", "turn", "one"]
theorem sc__law_draw : FnScope N__law_draw ["deck", "most"] (defScope st__law_draw) := ⟨rfl, rfl, rfl, by decide +kernel, rfl, by decide +kernel, by decide +kernel⟩
theorem body__law_draw {P : Program} {w : World} {K : Fr0} {mg : Str → Option Value} {base : Heap} {k : Nat}
    (f : Addr) (cdv : Value) (A : Around) (outer : List Env) (s : Shared) (H : Hp) (E : XK) (hr : Room k (A.deeper (envOfC "_law_draw" (defScope st__law_draw) s.heap.objs.size f cdv))) :
    BJ (cxOf CX0 P w K mg base N__law_draw "_law_draw" (defScope st__law_draw) f cdv A outer s H E).nox E (defBody st__law_draw) (w__law_draw) :=
    (b_cons (s_st 0 (pv 0) (e_fr (e_add (e_at (e_nm 0 (pv 0)) e_int) e_int)) e_int)
      (b_cons (s_if (t_gt (e_at (e_nm 0 (pv 0)) e_int) e_int) (b_cons (s_nm 2 sc__law_draw.nd rfl (.inl rfl) (e_mod (e_at (e_nm 0 (pv 0)) e_int) (e_nm 1 (pv 1))))
      (b_cons (s_st 0 (pv 0) (e_fdiv (e_at (e_nm 0 (pv 0)) e_int) (e_nm 1 (pv 1))) e_int)
      (b_one (s_ret (e_nm 2 (pv 2)))))) b_nil)
      (b_cons (s_nm 3 sc__law_draw.nd rfl (.inl rfl) (e_at (e_nm 0 (pv 0)) e_int))
      (b_cons (s_nm 4 sc__law_draw.nd rfl (.inl rfl) (e_mod (e_add (e_add (e_at (e_nm 0 (pv 0)) e_int) (e_mul (e_mul e_int (e_nm 3 (pv 3))) (e_nm 3 (pv 3)))) (e_mul e_int (e_nm 3 (pv 3)))) e_int))
      (b_cons (s_nm 4 sc__law_draw.nd rfl (.inl rfl) (e_mod (e_mul (e_nm 4 (pv 4)) (e_nm 4 (pv 4))) e_int))
      (b_one (s_ret (e_mod (e_fdiv (e_mod (e_add (e_mul (e_nm 4 (pv 4)) e_int) (e_mul (e_nm 3 (pv 3)) e_int)) e_int) e_int) (e_nm 1 (pv 1))))))))))
/-! _law_same: 0 found, 1 due, 2 one, 3 other -/
abbrev N__law_same : List Str := ["found", "due", "one", "other"]
theorem sc__law_same : FnScope N__law_same ["found", "due"] (defScope st__law_same) := ⟨rfl, rfl, rfl, by decide +kernel, rfl, by decide +kernel, by decide +kernel⟩
theorem body__law_same {P : Program} {w : World} {K : Fr0} {mg : Str → Option Value} {base : Heap} {k : Nat} {s_self : Fs} {k__law_same : Nat} (C__law_same : Cal P w K mg base "_law_same" k__law_same ["found", "due"] s_self) (h__law_same : k__law_same ≤ k) (z_int : mg "int" = none) (z_isinstance : mg "isinstance" = none) (z_bool : mg "bool" = none) (z_str : mg "str" = none) (z_tuple : mg "tuple" = none) (z_zip : mg "zip" = none) (z_len : mg "len" = none)
    (f : Addr) (cdv : Value) (A : Around) (outer : List Env) (s : Shared) (H : Hp) (E : XK) (hr : Room k (A.deeper (envOfC "_law_same" (defScope st__law_same) s.heap.objs.size f cdv))) :
    BJ (cxOf CX0 P w K mg base N__law_same "_law_same" (defScope st__law_same) f cdv A outer s H E).nox E (defBody st__law_same) (w__law_same s_self) :=
    (b_cons (s_if (t_is (e_nm 1 (pv 1)) e_non) (b_one (s_ret (e_is (e_nm 0 (pv 0)) e_non))) b_nil)
      (b_cons (s_if (t_val (e_blt call_isi cs_isi (by rfl) z_isinstance bt_isinstance (a_cons (e_nm 1 (pv 1)) (a_cons (e_ty (by rfl) z_tuple bt_tuple) a_nil)))) (b_cons (s_if (WJ.t (w_or (t_not (t_val (e_blt call_isi cs_isi (by rfl) z_isinstance bt_isinstance (a_cons (e_nm 0 (pv 0)) (a_cons (e_ty (by rfl) z_tuple bt_tuple) a_nil))))) (w_or1 (t_ne hr (e_blt c_len cs_len (by rfl) z_len bt_len (a_cons (e_nm 0 (pv 0)) a_nil)) (e_blt c_len cs_len (by rfl) z_len bt_len (a_cons (e_nm 1 (pv 1)) a_nil)))))) (b_one (s_ret e_bl)) b_nil)
      (b_one (s_ret (e_eq hr (e_comp (own := [("one", 2), ("other", 3)]) (g := (.tup [2, 3])) sc__law_same.nd (i_zi (by rfl) z_zip (a_cons (e_fr (e_nm 0 (pv 0))) (a_cons (e_fr (e_nm 1 (pv 1))) a_nil))) (blkOk_by (own := [("one", 2), ("other", 3)]) (N := N__law_same) (sc := defScope st__law_same) (by decide +kernel)) (fun _ _ _ _ _ => (pg_tup rfl (pgs_cons (pg_name (i := 2) sc__law_same.nd rfl (.inl rfl)) (pgs_cons (pg_name (i := 3) sc__law_same.nd rfl (.inl rfl)) pgs_nil)))) (fun _ _ _ _ _ => (ts_one (t_not (t_val (e_fn C__law_same hr h__law_same (by rfl) (a_cons (e_fr (e_nm 2 (pv 2))) (a_cons (e_fr (e_nm 3 (pv 3))) a_nil))))))) (fun _ _ _ _ _ => e_int)) (e_lst a_nil))))) b_nil)
      (b_cons (s_if (t_val (e_blt call_isi cs_isi (by rfl) z_isinstance bt_isinstance (a_cons (e_nm 1 (pv 1)) (a_cons (e_ty (by rfl) z_str bt_str) a_nil)))) (b_one (s_ret (e_and (e_blt call_isi cs_isi (by rfl) z_isinstance bt_isinstance (a_cons (e_nm 0 (pv 0)) (a_cons (e_ty (by rfl) z_str bt_str) a_nil))) (e_one (e_eq hr (e_nm 0 (pv 0)) (e_nm 1 (pv 1))))))) b_nil)
      (b_one (s_ret (e_and (e_blt call_isi cs_isi (by rfl) z_isinstance bt_isinstance (a_cons (e_nm 0 (pv 0)) (a_cons (e_ty (by rfl) z_int bt_int) a_nil))) (e_and (e_not (e_blt call_isi cs_isi (by rfl) z_isinstance bt_isinstance (a_cons (e_nm 0 (pv 0)) (a_cons (e_ty (by rfl) z_bool bt_bool) a_nil)))) (e_one (e_eq hr (e_nm 0 (pv 0)) (e_nm 1 (pv 1)))))))))))
/-! _law_weights: 0 deck, 1 many, 2 way, 3 far, 4 found, 5 at, 6 k, 7 one -/
abbrev N__law_weights : List Str := ["deck", "many", "way", "far", "found", "at", "k", "one"]
theorem sc__law_weights : FnScope N__law_weights ["deck", "many"] (defScope st__law_weights) := ⟨rfl, rfl, rfl, by decide +kernel, rfl, by decide +kernel, by decide +kernel⟩
theorem body__law_weights {P : Program} {w : World} {K : Fr0} {mg : Str → Option Value} {base : Heap} {k : Nat} {k__law_draw : Nat} (C__law_draw : Cal P w K mg base "_law_draw" k__law_draw ["deck", "most"] sp__law_draw) (h__law_draw : k__law_draw ≤ k) (z_sorted : mg "sorted" = none) (z_enumerate : mg "enumerate" = none) (z_len : mg "len" = none) (z_range : mg "range" = none)
    (f : Addr) (cdv : Value) (A : Around) (outer : List Env) (s : Shared) (H : Hp) (E : XK) (hr : Room k (A.deeper (envOfC "_law_weights" (defScope st__law_weights) s.heap.objs.size f cdv))) :
    BJ (cxOf CX0 P w K mg base N__law_weights "_law_weights" (defScope st__law_weights) f cdv A outer s H E).nox E (defBody st__law_weights) (w__law_weights) :=
    (b_cons (s_nm 2 sc__law_weights.nd rfl (.inl rfl) (e_fn C__law_draw hr h__law_draw (by rfl) (a_cons (e_nm 0 (pv 0)) (a_cons e_int a_nil))))
      (b_cons (s_comp 3 (own := [("k", 6)]) (g := (.one 6)) sc__law_weights.nd rfl rfl (sw_true rfl rfl rfl (by decide +kernel)) (i_r1 (by rfl) z_range (e_nm 1 (pv 1))) (blkOk_by (own := [("k", 6)]) (N := N__law_weights) (sc := defScope st__law_weights) (by decide +kernel)) (fun _ _ _ _ _ => (pg_one 6 sc__law_weights.nd rfl (.inl rfl))) (fun _ _ _ _ _ => ts_nil) (fun _ _ _ _ _ => (e_fr (e_add (e_mul (e_fn C__law_draw hr h__law_draw (by rfl) (a_cons (e_nm 0 (pv 0)) (a_cons (e_pow e_int e_int) a_nil))) (e_pow e_int e_int)) (e_fn C__law_draw hr h__law_draw (by rfl) (a_cons (e_nm 0 (pv 0)) (a_cons (e_pow e_int e_int) a_nil)))))))
      (b_cons (s_if (t_eq hr (e_nm 2 (pv 2)) e_int) (b_one (s_ret (e_comp (own := [("one", 7)]) (g := (.one 7)) sc__law_weights.nd (i_seq (e_fr (e_nm 3 (pv 3)))) (blkOk_by (own := [("one", 7)]) (N := N__law_weights) (sc := defScope st__law_weights) (by decide +kernel)) (fun _ _ _ _ _ => (pg_one 7 sc__law_weights.nd rfl (.inl rfl))) (fun _ _ _ _ _ => ts_nil) (fun _ _ _ _ _ => (e_mod (e_nm 7 (pv 7)) e_int))))) b_nil)
      (b_cons (s_if (t_eq hr (e_nm 2 (pv 2)) e_int) (b_one (s_ret (e_comp (own := [("one", 7)]) (g := (.one 7)) sc__law_weights.nd (i_seq (e_fr (e_nm 3 (pv 3)))) (blkOk_by (own := [("one", 7)]) (N := N__law_weights) (sc := defScope st__law_weights) (by decide +kernel)) (fun _ _ _ _ _ => (pg_one 7 sc__law_weights.nd rfl (.inl rfl))) (fun _ _ _ _ _ => ts_nil) (fun _ _ _ _ _ => (e_mod (e_nm 7 (pv 7)) e_int))))) b_nil)
      (b_cons (s_if (t_eq hr (e_nm 2 (pv 2)) e_int) (b_one (s_ret (e_mul (e_slice (e_nm 3 (pv 3)) o_none (o_some e_int)) (e_nm 1 (pv 1))))) b_nil)
      (b_cons (s_if (t_eq hr (e_nm 2 (pv 2)) e_int) (b_one (s_ret (e_comp (own := [("k", 6)]) (g := (.one 6)) sc__law_weights.nd (i_r1 (by rfl) z_range (e_nm 1 (pv 1))) (blkOk_by (own := [("k", 6)]) (N := N__law_weights) (sc := defScope st__law_weights) (by decide +kernel)) (fun _ _ _ _ _ => (pg_one 6 sc__law_weights.nd rfl (.inl rfl))) (fun _ _ _ _ _ => ts_nil) (fun _ _ _ _ _ => (e_shl e_int (e_nm 6 (pv 6))))))) b_nil)
      (b_cons (s_if (t_eq hr (e_nm 2 (pv 2)) e_int) (b_cons (s_nm 4 sc__law_weights.nd rfl (.inl rfl) (e_lst (a_cons e_int (a_cons e_int a_nil))))
      (b_cons (s_while PassesOwn.never (t_lt (e_blt c_len cs_len (by rfl) z_len bt_len (a_cons (e_nm 4 (pv 4)) a_nil)) (e_nm 1 (pv 1))) (b_one (s_expr (e_ml 4 PySem.F.slot_list_append PySem.F.type_list_append mt_append ms_append (pv 4) (a_cons (e_fr (e_add (e_at (e_nm 4 (pv 4)) (e_neg e_int)) (e_at (e_nm 4 (pv 4)) (e_neg e_int)))) a_nil)))))
      (b_one (s_ret (e_slice (e_nm 4 (pv 4)) o_none (o_some (e_nm 1 (pv 1)))))))) b_nil)
      (b_cons (s_if (t_eq hr (e_nm 2 (pv 2)) e_int) (b_one (s_ret (e_comp (own := [("k", 6), ("one", 7)]) (g := (.tup [6, 7])) sc__law_weights.nd (i_en (by rfl) z_enumerate (a_cons (e_fr (e_nm 3 (pv 3))) a_nil)) (blkOk_by (own := [("k", 6), ("one", 7)]) (N := N__law_weights) (sc := defScope st__law_weights) (by decide +kernel)) (fun _ _ _ _ _ => (pg_tup rfl (pgs_cons (pg_name (i := 6) sc__law_weights.nd rfl (.inl rfl)) (pgs_cons (pg_name (i := 7) sc__law_weights.nd rfl (.inl rfl)) pgs_nil)))) (fun _ _ _ _ _ => ts_nil) (fun _ _ _ _ _ => (e_at (e_lst (a_cons (e_mod (e_nm 7 (pv 7)) e_int) (a_cons (e_mod (e_nm 7 (pv 7)) e_int) a_nil))) (e_mod (e_nm 6 (pv 6)) e_int)))))) b_nil)
      (b_cons (s_if (t_eq hr (e_nm 2 (pv 2)) e_int) (b_cons (s_nm 5 sc__law_weights.nd rfl (.inl rfl) (e_mod (e_at (e_nm 3 (pv 3)) e_int) (e_add (e_nm 1 (pv 1)) e_int)))
      (b_one (s_ret (e_add (e_rev (e_blt cr_sortedI cs_sorted (by rfl) z_sorted bt_sorted (a_cons (e_slice (e_nm 3 (pv 3)) o_none (o_some (e_nm 5 (pv 5)))) a_nil))) (e_blt cr_sortedI cs_sorted (by rfl) z_sorted bt_sorted (a_cons (e_slice (e_nm 3 (pv 3)) (o_some (e_nm 5 (pv 5))) o_none) a_nil)))))) b_nil)
      (b_cons (s_if (t_eq hr (e_nm 2 (pv 2)) e_int) (b_one (s_ret (e_comp (own := [("one", 7)]) (g := (.one 7)) sc__law_weights.nd (i_seq (e_fr (e_nm 3 (pv 3)))) (blkOk_by (own := [("one", 7)]) (N := N__law_weights) (sc := defScope st__law_weights) (by decide +kernel)) (fun _ _ _ _ _ => (pg_one 7 sc__law_weights.nd rfl (.inl rfl))) (fun _ _ _ _ _ => ts_nil) (fun _ _ _ _ _ => (e_sub (e_sub (e_pow e_int e_int) e_int) (e_mod (e_nm 7 (pv 7)) e_int)))))) b_nil)
      (b_one (s_ret (e_nm 3 (pv 3))))))))))))))
/-! _law_heaps: 0 deck, 1 most, 2 many, 3 found, 4 at, 5 some -/
abbrev N__law_heaps : List Str := ["deck", "most", "many", "found", "at", "some"]
theorem sc__law_heaps : FnScope N__law_heaps ["deck", "most"] (defScope st__law_heaps) := ⟨rfl, rfl, rfl, by decide +kernel, rfl, by decide +kernel, by decide +kernel⟩
theorem body__law_heaps {P : Program} {w : World} {K : Fr0} {mg : Str → Option Value} {base : Heap} {k : Nat} {k__law_draw : Nat} {k__law_weights : Nat} (C__law_draw : Cal P w K mg base "_law_draw" k__law_draw ["deck", "most"] sp__law_draw) (h__law_draw : k__law_draw ≤ k) (C__law_weights : Cal P w K mg base "_law_weights" k__law_weights ["deck", "many"] sp__law_weights) (h__law_weights : k__law_weights ≤ k) (z_tuple : mg "tuple" = none) (z_min : mg "min" = none)
    (f : Addr) (cdv : Value) (A : Around) (outer : List Env) (s : Shared) (H : Hp) (E : XK) (hr : Room k (A.deeper (envOfC "_law_heaps" (defScope st__law_heaps) s.heap.objs.size f cdv))) :
    BJ (cxOf CX0 P w K mg base N__law_heaps "_law_heaps" (defScope st__law_heaps) f cdv A outer s H E).nox E (defBody st__law_heaps) (w__law_heaps) :=
    (b_cons (s_nm 2 sc__law_heaps.nd rfl (.inl rfl) (e_at (e_lst (a_cons (e_fr (e_add e_int (e_fn C__law_draw hr h__law_draw (by rfl) (a_cons (e_nm 0 (pv 0)) (a_cons (e_fr (e_nm 1 (pv 1))) a_nil))))) (a_cons (e_fr (e_nm 1 (pv 1))) (a_cons (e_fr (e_add e_int (e_fn C__law_draw hr h__law_draw (by rfl) (a_cons (e_nm 0 (pv 0)) (a_cons (e_blt (c_min rfl) cs_min (by rfl) z_min bt_min (a_cons e_int (a_cons (e_nm 1 (pv 1)) a_nil))) a_nil))))) a_nil)))) (e_fn C__law_draw hr h__law_draw (by rfl) (a_cons (e_nm 0 (pv 0)) (a_cons e_int a_nil)))))
      (b_cons (s_nm 3 sc__law_heaps.nd rfl (.inl rfl) (e_fn C__law_weights hr h__law_weights (by rfl) (a_cons (e_nm 0 (pv 0)) (a_cons (e_fr (e_nm 2 (pv 2))) a_nil))))
      (b_cons (s_if (t_eq hr (e_fn C__law_draw hr h__law_draw (by rfl) (a_cons (e_nm 0 (pv 0)) (a_cons e_int a_nil))) e_int) (b_one (s_nm 3 sc__law_heaps.nd rfl (.inl rfl) (e_rev (e_nm 3 (pv 3))))) b_nil)
      (b_cons (s_if (t_eq hr (e_fn C__law_draw hr h__law_draw (by rfl) (a_cons (e_nm 0 (pv 0)) (a_cons e_int a_nil))) e_int) (b_cons (s_nm 4 sc__law_heaps.nd rfl (.inl rfl) (e_fn C__law_draw hr h__law_draw (by rfl) (a_cons (e_nm 0 (pv 0)) (a_cons (e_fr (e_nm 2 (pv 2))) a_nil))))
      (b_cons (s_nm 5 sc__law_heaps.nd rfl (.inl rfl) (e_lst (a_cons e_int (a_cons (e_at (e_nm 3 (pv 3)) (e_sub (e_nm 4 (pv 4)) e_int)) (a_cons (e_blt (c_min rfl) cs_min (by rfl) z_min bt_min (a_cons (e_sub (e_pow e_int e_int) e_int) (a_cons (e_add (e_at (e_nm 3 (pv 3)) (e_nm 4 (pv 4))) e_int) a_nil))) (a_cons (e_fr (e_fn C__law_draw hr h__law_draw (by rfl) (a_cons (e_nm 0 (pv 0)) (a_cons (e_pow e_int e_int) a_nil)))) a_nil))))))
      (b_one (s_st 3 (pv 3) (e_at (e_nm 5 (pv 5)) (e_fn C__law_draw hr h__law_draw (by rfl) (a_cons (e_nm 0 (pv 0)) (a_cons e_int a_nil)))) (e_nm 4 (pv 4)))))) b_nil)
      (b_one (s_ret (e_bty call_tuple_of cs_tuple (by rfl) z_tuple bt_tuple (a_cons (e_nm 3 (pv 3)) a_nil))))))))
/-! _law_steps: 0 heaps, 1 place, 2 row, 3 steps, 4 depths, 5 k, 6 good, 7 both, 8 within, 9 ahead, 10 one, 11 weight, 12 at -/
abbrev N__law_steps : List Str := ["heaps", "place", "row", "steps", "depths", "k", "good", "both", "within", "ahead", "one", "weight", "at"]
theorem sc__law_steps : FnScope N__law_steps ["heaps"] (defScope st__law_steps) := ⟨rfl, rfl, rfl, by decide +kernel, rfl, by decide +kernel, by decide +kernel⟩
theorem body__law_steps {P : Program} {w : World} {K : Fr0} {mg : Str → Option Value} {base : Heap} {k : Nat} (z_tuple : mg "tuple" = none) (z_len : mg "len" = none) (z_range : mg "range" = none) (z_enumerate : mg "enumerate" = none)
    (f : Addr) (cdv : Value) (A : Around) (outer : List Env) (s : Shared) (H : Hp) (E : XK) (hr : Room k (A.deeper (envOfC "_law_steps" (defScope st__law_steps) s.heap.objs.size f cdv))) :
    BJ (cxOf CX0 P w K mg base N__law_steps "_law_steps" (defScope st__law_steps) f cdv A outer s H E).nox E (defBody st__law_steps) (w__law_steps) :=
    (b_cons (s_nm 2 sc__law_steps.nd rfl (.inr rfl) (e_comp (own := [("place", 1), ("weight", 11)]) (g := (.tup [1, 11])) sc__law_steps.nd (i_en (by rfl) z_enumerate (a_cons (e_fr (e_nm 0 (pv 0))) a_nil)) (blkOk_by (own := [("place", 1), ("weight", 11)]) (N := N__law_steps) (sc := defScope st__law_steps) (by decide +kernel)) (fun _ _ _ _ _ => (pg_tup rfl (pgs_cons (pg_name (i := 1) sc__law_steps.nd rfl (.inl rfl)) (pgs_cons (pg_name (i := 11) sc__law_steps.nd rfl (.inl rfl)) pgs_nil)))) (fun _ _ _ _ _ => ts_nil) (fun _ _ _ _ _ => (e_tup (a_cons (e_fr (e_nm 11 (pv 11))) (a_cons (e_fr (e_lst (a_cons (e_fr (e_nm 1 (pv 1))) a_nil))) a_nil))))))
      (b_cons (s_nm 3 sc__law_steps.nd rfl (.inl rfl) (e_lst a_nil))
      (b_cons (s_nm 4 sc__law_steps.nd rfl (.inl rfl) (e_mul (e_lst (a_cons e_int a_nil)) (e_blt c_len cs_len (by rfl) z_len bt_len (a_cons (e_nm 0 (pv 0)) a_nil))))
      (b_cons (s_while PassesOwn.never (t_gt (e_blt c_len cs_len (by rfl) z_len bt_len (a_cons (e_nm 2 (pv 2)) a_nil)) e_int) (b_cons (s_comp 6 (own := [("k", 5)]) (g := (.one 5)) sc__law_steps.nd rfl rfl (sw_true rfl rfl rfl (by decide +kernel)) (i_r2 (by rfl) z_range e_int (e_blt c_len cs_len (by rfl) z_len bt_len (a_cons (e_nm 2 (pv 2)) a_nil))) (blkOk_by (own := [("k", 5)]) (N := N__law_steps) (sc := defScope st__law_steps) (by decide +kernel)) (fun _ _ _ _ _ => (pg_one 5 sc__law_steps.nd rfl (.inl rfl))) (fun _ _ _ _ _ => (ts_one (WJ.t (w_or (t_eq hr (e_nm 5 (pv 5)) (e_sub (e_blt c_len cs_len (by rfl) z_len bt_len (a_cons (e_nm 2 (pv 2)) a_nil)) e_int)) (w_or1 (t_le (e_at (e_at (e_nm 2 (pv 2)) (e_sub (e_nm 5 (pv 5)) e_int)) e_int) (e_at (e_at (e_nm 2 (pv 2)) (e_add (e_nm 5 (pv 5)) e_int)) e_int))))))) (fun _ _ _ _ _ => (e_fr (e_nm 5 (pv 5)))))
      (b_cons (s_nm 5 sc__law_steps.nd rfl (.inl rfl) (e_at (e_nm 6 (pv 6)) e_int))
      (b_cons (s_nm 7 sc__law_steps.nd rfl (.inr rfl) (e_add (e_at (e_at (e_nm 2 (pv 2)) (e_sub (e_nm 5 (pv 5)) e_int)) e_int) (e_at (e_at (e_nm 2 (pv 2)) (e_nm 5 (pv 5))) e_int)))
      (b_cons (s_nm 8 sc__law_steps.nd rfl (.inl rfl) (e_add (e_at (e_at (e_nm 2 (pv 2)) (e_sub (e_nm 5 (pv 5)) e_int)) e_int) (e_at (e_at (e_nm 2 (pv 2)) (e_nm 5 (pv 5))) e_int)))
      (b_cons (s_comp 9 (own := [("at", 12)]) (g := (.one 12)) sc__law_steps.nd rfl rfl (sw_true rfl rfl rfl (by decide +kernel)) (i_r1 (by rfl) z_range (e_sub (e_nm 5 (pv 5)) e_int)) (blkOk_by (own := [("at", 12)]) (N := N__law_steps) (sc := defScope st__law_steps) (by decide +kernel)) (fun _ _ _ _ _ => (pg_one 12 sc__law_steps.nd rfl (.inl rfl))) (fun _ _ _ _ _ => (ts_one (t_ge (e_at (e_at (e_nm 2 (pv 2)) (e_nm 12 (pv 12))) e_int) (e_nm 7 (pv 7))))) (fun _ _ _ _ _ => (e_fr (e_add (e_nm 12 (pv 12)) e_int))))
      (b_cons (s_nm 1 sc__law_steps.nd rfl (.inl rfl) (e_at (e_add (e_lst (a_cons e_int a_nil)) (e_nm 9 (pv 9))) (e_neg e_int)))
      (b_cons (s_nm 2 sc__law_steps.nd rfl (.inr rfl) (e_add (e_add (e_add (e_slice (e_nm 2 (pv 2)) o_none (o_some (e_nm 1 (pv 1)))) (e_lst (a_cons (e_tup (a_cons (e_fr (e_nm 7 (pv 7))) (a_cons (e_fr (e_nm 8 (pv 8))) a_nil))) a_nil))) (e_slice (e_nm 2 (pv 2)) (o_some (e_nm 1 (pv 1))) (o_some (e_sub (e_nm 5 (pv 5)) e_int)))) (e_slice (e_nm 2 (pv 2)) (o_some (e_add (e_nm 5 (pv 5)) e_int)) o_none)))
      (b_cons (s_for (g := (.one 10)) PassesOwn.never rfl (i_seq (e_fr (e_nm 8 (pv 8)))) (pg_one 10 sc__law_steps.nd rfl (.inl rfl)) (b_one (s_st 4 (pv 4) (e_fr (e_add (e_at (e_nm 4 (pv 4)) (e_nm 10 (pv 10))) e_int)) (e_nm 10 (pv 10)))))
      (b_one (s_expr (e_ml 3 PySem.F.slot_list_append PySem.F.type_list_append mt_append ms_append (pv 3) (a_cons (e_tup (a_cons (e_fr (e_nm 5 (pv 5))) (a_cons (e_fr (e_nm 7 (pv 7))) (a_cons (e_fr (e_nm 1 (pv 1))) a_nil)))) a_nil)))))))))))))
      (b_one (s_ret (e_tup (a_cons (e_bty call_tuple_of cs_tuple (by rfl) z_tuple bt_tuple (a_cons (e_nm 3 (pv 3)) a_nil)) (a_cons (e_bty call_tuple_of cs_tuple (by rfl) z_tuple bt_tuple (a_cons (e_nm 4 (pv 4)) a_nil)) a_nil)))))))))
/-! law: 0 script, 1 deck, 2 turn, 3 heaps, 4 steps, 5 depths -/
abbrev N_law : List Str := ["script", "deck", "turn", "heaps", "steps", "depths"]
theorem sc_law : FnScope N_law ["script"] (defScope st_law) := ⟨rfl, rfl, rfl, by decide +kernel, rfl, by decide +kernel, by decide +kernel⟩
theorem body_law {P : Program} {w : World} {K : Fr0} {mg : Str → Option Value} {base : Heap} {k : Nat} {k_depths_by_steps : Nat} {k__law_same : Nat} {k__law_steps : Nat} {k__law_heaps : Nat} {k__law_deck : Nat} (C_depths_by_steps : Cal P w K mg base "depths_by_steps" k_depths_by_steps ["heaps"] sp_depths_by_steps) (h_depths_by_steps : k_depths_by_steps ≤ k) (C__law_same : Cal P w K mg base "_law_same" k__law_same ["found", "due"] (sp__law_same 3)) (h__law_same : k__law_same ≤ k) (C__law_steps : Cal P w K mg base "_law_steps" k__law_steps ["heaps"] sp__law_steps) (h__law_steps : k__law_steps ≤ k) (C__law_heaps : Cal P w K mg base "_law_heaps" k__law_heaps ["deck", "most"] sp__law_heaps) (h__law_heaps : k__law_heaps ≤ k) (C__law_deck : Cal P w K mg base "_law_deck" k__law_deck ["script"] sp__law_deck) (h__law_deck : k__law_deck ≤ k) (z_range : mg "range" = none)
    (f : Addr) (cdv : Value) (A : Around) (outer : List Env) (s : Shared) (H : Hp) (E : XK) (hr : Room k (A.deeper (envOfC "law" (defScope st_law) s.heap.objs.size f cdv))) :
    BJ (cxOf CX0 P w K mg base N_law "law" (defScope st_law) f cdv A outer s H E).nox E (defBody st_law) (w_law) :=
    (b_cons (s_nm 1 sc_law.nd rfl (.inl rfl) (e_fn C__law_deck hr h__law_deck (by rfl) (a_cons (e_fr (e_nm 0 (pv 0))) a_nil)))
      (b_cons (s_for (g := (.one 2)) PassesOwn.never rfl (i_r1 (by rfl) z_range e_int) (pg_one 2 sc_law.nd rfl (.inl rfl)) (b_cons (s_nm 3 sc_law.nd rfl (.inl rfl) (e_fn C__law_heaps hr h__law_heaps (by rfl) (a_cons (e_nm 1 (pv 1)) (a_cons (e_at (e_lst (a_cons e_int (a_cons e_int (a_cons e_int (a_cons e_int (a_cons e_int (a_cons e_int a_nil))))))) (e_nm 2 (pv 2))) a_nil))))
      (b_cons (s_tg (g := (.tup [4, 5])) (e_fr (e_fn C__law_steps hr h__law_steps (by rfl) (a_cons (e_fr (e_nm 3 (pv 3))) a_nil))) (pg_tup rfl (pgs_cons (pg_name (i := 4) sc_law.nd rfl (.inl rfl)) (pgs_cons (pg_name (i := 5) sc_law.nd rfl (.inl rfl)) pgs_nil))))
      (b_one (s_if (WJ.t (w_or (t_not (t_val (e_fn C__law_same hr h__law_same (by rfl) (a_cons (e_fr (e_fn C_depths_by_steps hr h_depths_by_steps (by rfl) (a_cons (e_fr (e_nm 3 (pv 3))) a_nil))) (a_cons (e_fr (e_nm 5 (pv 5))) a_nil))))) (w_or1 (t_ne hr (e_fn C_depths_by_steps hr h_depths_by_steps (by rfl) (a_cons (e_fr (e_nm 3 (pv 3))) a_nil)) (e_nm 5 (pv 5)))))) (b_one (s_ret e_bl)) b_nil)))))
      (b_one (s_ret (e_and (e_eq hr (e_fn C_depths_by_steps hr h_depths_by_steps (by rfl) (a_cons (e_tup (a_cons e_int a_nil)) a_nil)) (e_tup (a_cons e_int a_nil))) (e_one (e_eq hr (e_fn C_depths_by_steps hr h_depths_by_steps (by rfl) (a_cons (e_tup (a_cons e_int (a_cons e_int (a_cons e_int (a_cons e_int a_nil))))) a_nil)) (e_tup (a_cons e_int (a_cons e_int (a_cons e_int (a_cons e_int a_nil))))))))))))
end K23
namespace K23
open PySem PySem.Spec PyProof.Rows L2 FL
theorem ok__law_draw : ∀ cs Q x, sp__law_draw cs Q x → fnW 2 3 w__law_draw cs Q x := by
  rintro cs Q x ⟨n, d, most, rfl, ⟨g, m, t, rfl, hg, ht, ht2⟩, h1, h2, hn, h⟩
  have md : ∀ y : Int, 0 ≤ y % most ∧ y % most < most := fun y => ⟨Int.emod_nonneg _ (by omega), Int.emod_lt_of_pos _ (by omega)⟩
  refine ⟨rfl, trivial, iteB (fun e => ?_) (fun e => ?_)⟩
  · exact ⟨by omega, divOk (by omega) h2, trivial, _, _, rfl, rfl, h _ _ ⟨g / most, m, t + 1, rfl, Int.ediv_nonneg hg (by omega), by omega, by omega⟩ (md _).1 (md _).2⟩
  · refine ⟨.inl (by constructor <;> omega), .inr (by constructor <;> omega), .inl (by constructor <;> omega), (show (0 : Int) < 2147483543 by decide), ?_⟩
    generalize (m + 70003 * (t + 1) * (t + 1) + 5003 * (t + 1)) = y
    have e1 := Int.emod_lt_of_pos y (show (0 : Int) < 2147483543 by decide)
    have e2 := Int.emod_nonneg y (show (2147483543 : Int) ≠ 0 by decide)
    refine ⟨.inl (by constructor <;> omega), (show (0 : Int) < 2147483497 by decide), ?_⟩
    generalize (y % 2147483543 * (y % 2147483543)) = z
    refine ⟨.inr (by constructor <;> omega), .inl (by constructor <;> omega), (show (0 : Int) < 2147483477 by decide), divOk (by decide) (by decide), by omega, _, _, rfl, rfl, ?_⟩
    exact h _ _ ⟨g, m, t + 1, rfl, hg, by omega, by omega⟩ (md _).1 (md _).2
theorem bits_add {a b : Int} {k : Nat} (ha : a.natAbs < 2 ^ k) (hb : b.natAbs < 2 ^ k) : (a + b).natAbs < 2 ^ (k + 1) := by
  rw [Nat.pow_succ]; omega
theorem deck_loop {k : KS} {v0 : C} : ∀ (ns : List Int) {xs : List D}, xs = ns.map D.int → ∀ (b : Nat) (g m : Int) (c3 : C), 0 ≤ g → g.natAbs < 2 ^ b → 1048576 ≤ b → b + 206 * ns.length ≤ 100000000 → (∀ z ∈ ns, Builtin.Int.intBits z ≤ 1048576) →
    (∀ g m c3, 0 ≤ g → k.nx [v0, .val (.int g), .val (.int m), c3]) →
    forR (.one 3) (wIfS (wB (wOp fGe (wCa fAbs (wACons (wNm 3) wANil)) (wOp fPow (wC (.int 10)) (wC (.int 18))))) (wSet 1 (wOp fAdd (wOp fShl (wNm 1) (wC (.int 205))) (wCa fAbs (wACons (wNm 3) wANil)))) (wSet 2 (wOp fMod (wOp fAdd (wOp fMul (wNm 2) (wC (.int 43))) (wNm 3)) (wC (.int 1999999871))))) k xs [v0, .val (.int g), .val (.int m), c3] := by
  intro ns
  induction ns with
  | nil => rintro xs rfl b g m c3 h0 _ _ _ _ hk; exact hk g m c3 h0
  | cons n r ih =>
    rintro xs rfl b g m c3 h0 hg hb hz hn hk
    rw [List.length_cons] at hz
    have hn0 := hn n List.mem_cons_self
    have bn : n.natAbs < 2 ^ (b + 205) := Nat.lt_of_lt_of_le (PySem.intBits_le_iff.mp hn0) (Nat.pow_le_pow_right (by decide) (by omega))
    refine ⟨⟨by decide, by decide, by decide⟩, iteB (fun e => ?_) (fun e => ?_)⟩
    · refine ⟨shl_ok (j := 205) hg (by omega), ?_⟩
      have ge : 0 ≤ g * 2 ^ Int.toNat 205 := Int.mul_nonneg h0 (Int.pow_nonneg (by decide))
      have gb : (g * 2 ^ Int.toNat 205).natAbs < 2 ^ (b + 205) := by
        rw [Int.natAbs_mul, Nat.pow_add]
        have : (2 ^ Int.toNat 205 : Int).natAbs = 2 ^ 205 := by rw [Int.natAbs_pow]; rfl
        rw [this]
        exact Nat.mul_lt_mul_of_pos_right hg (Nat.pow_pos (by decide))
      have na : (if n < 0 then -n else n).natAbs = n.natAbs := by split <;> omega
      have np : 0 ≤ (if n < 0 then -n else n) := by split <;> omega
      refine ih rfl (b + 206) _ m _ (by omega) (bits_add gb (by rw [na]; exact bn)) (by omega) (by omega) (fun z hz => hn z (List.mem_cons_of_mem _ hz)) hk
    · refine ⟨.inr (by constructor <;> decide), (show (0 : Int) < 1999999871 by decide), ?_⟩
      exact ih rfl b g _ _ h0 hg hb (by omega) (fun z hz => hn z (List.mem_cons_of_mem _ hz)) hk
theorem ok__law_deck : ∀ cs Q x, sp__law_deck cs Q x → fnW 1 3 w__law_deck cs Q x := by
  rintro cs Q x ⟨ns, rfl, hl, hb, h⟩
  have e : cutD (ns.map D.int) none (some 63) = ns.map D.int := cutD_to (n := 63) (by rw [List.length_map]; exact hl)
  refine ⟨rfl, .inl (by constructor <;> decide), ?_⟩
  refine deck_loop ns e 1048576 0 _ .un (by decide) (Nat.pow_pos (by decide)) (by decide) (by omega) hb fun g m c3 hg => ?_
  exact ⟨szk 3, _, _, rfl, rfl, h _ ⟨g, m, 0, rfl, hg, by decide, by decide⟩⟩
/-! ### step_place, put_place -/
theorem drop2 {ws : List Int} {p : Nat} (h : p + 2 < ws.length) : ∃ x y z r, ws.drop p = x :: y :: z :: r ∧ ws.drop (p + 1) = y :: z :: r ∧ ws[p]? = some x ∧ ws[p + 1]? = some y ∧ ws[p + 2]? = some z := by
  refine ⟨ws[p], ws[p + 1], ws[p + 2], ws.drop (p + 3), ?_, ?_, List.getElem?_eq_getElem _, List.getElem?_eq_getElem _, List.getElem?_eq_getElem _⟩
  · rw [List.drop_eq_getElem_cons (by omega), List.drop_eq_getElem_cons (i := p + 1) (by omega), List.drop_eq_getElem_cons (i := p + 1 + 1) (by omega)]
  · rw [List.drop_eq_getElem_cons (i := p + 1) (by omega), List.drop_eq_getElem_cons (i := p + 1 + 1) (by omega)]
theorem stepP_two {ws : List Int} (h : ws.length = 2) : stepP ws = 1 := by
  match ws, h with
  | [_, _], _ => rfl
theorem ok_step_place : ∀ cs Q x, sp_step_place cs Q x → fnW 1 1 w_step_place cs Q x := by
  rintro cs Q x ⟨ws, rfl, h2, h24, h⟩
  refine ⟨rfl, fun m e => ∃ p : Nat, e = [.own (some 0) (.lst (ws.map D.int)), .val (.int ((p : Int) + 1))] ∧ p + 2 ≤ ws.length ∧ stepP ws = p + stepP (ws.drop p) ∧ m + p = ws.length, ⟨ws.length, 0, rfl, by omega, by simp, by omega⟩, ?_⟩
  rintro m e ⟨p, rfl, hp, hs, hm⟩
  refine iteB (fun e1 => ?_) (fun e1 => ?_)
  · have e1 : (p : Int) + 1 < ((ws.map D.int).length : Int) - 1 := e1
    rw [List.length_map] at e1
    obtain ⟨x', y', z', r', dp, dp1, gx, gy, gz⟩ := drop2 (ws := ws) (p := p) (by omega)
    refine someK_i (atI_ofI (j := p) (by omega) gx) (someK_i (atI_ofI (j := p + 2) (by omega) gz) (iteB (fun e2 => ?_) (fun e2 => ?_)))
    · refine ⟨m - 1, by omega, p + 1, rfl, by omega, ?_, by omega⟩
      rw [hs, dp, dp1]
      show p + (if x' ≤ z' then 1 else stepP (y' :: z' :: r') + 1) = _
      rw [if_neg (by omega)]; omega
    · refine ⟨_, _, rfl, rfl, ?_⟩
      have : stepP ws = p + 1 := by
        rw [hs, dp]
        show p + (if x' ≤ z' then 1 else stepP (y' :: z' :: r') + 1) = _
        rw [if_pos (by omega)]
      rw [this] at h
      exact h
  · refine ⟨_, _, rfl, rfl, ?_⟩
    have e1 : ¬ (p : Int) + 1 < ((ws.map D.int).length : Int) - 1 := e1
    rw [List.length_map] at e1
    have : stepP ws = p + 1 := by rw [hs, stepP_two (by rw [List.length_drop]; omega)]
    rw [this] at h
    exact h
theorem putP_snoc (b : Int) (u : Int) : ∀ us : List Int, putP b (us ++ [u]) = if u ≥ b then us.length + 1 else putP b us
  | [] => by
    show (if (0 : Nat) ≠ 0 then _ else if u ≥ b then 1 else 0) = _
    rw [if_neg (by simp)]; rfl
  | v :: r => by
    show (if putP b (r ++ [u]) ≠ 0 then putP b (r ++ [u]) + 1 else if v ≥ b then 1 else 0) = _
    rw [putP_snoc b u r]
    by_cases h : u ≥ b
    · rw [if_pos h, if_pos (by omega), if_pos h]; rfl
    · rw [if_neg h, if_neg h]; rfl
theorem ok_put_place : ∀ cs Q x, sp_put_place cs Q x → fnW 3 1 w_put_place cs Q x := by
  rintro cs Q x ⟨ws, p, b, rfl, h1, hp, h24, h⟩
  have key : ∀ (m : Nat) (lo : Int) (c3 : C), m ≤ p - 1 → lo = (m : Int) - 1 → putP b (ws.take (p - 1)) = putP b (ws.take m) →
      forR (.one 3) (wIfS (wB (wOp fGe (wOp fIx (wNm 0) (wNm 3)) (wNm 2))) (wRet (wOp fAdd (wNm 3) (wC (.int 1)))) wNx) { retK [.own (some 0) (.lst (ws.map D.int)), .val (.int p), .val (.int b)] Q x with nx := fun e => wRet (wC (.int 0)) e (retK [.own (some 0) (.lst (ws.map D.int)), .val (.int p), .val (.int b)] Q x) }
        (rangeC lo (-1) m) [.own (some 0) (.lst (ws.map D.int)), .val (.int p), .val (.int b), c3] := by
    intro m
    induction m with
    | zero =>
      intro lo c3 _ _ e
      refine ⟨_, _, rfl, rfl, ?_⟩
      rw [e] at h
      exact h
    | succ m ih =>
      intro lo c3 hm el e
      rw [rangeC_succ]
      have g : ws[m]? = some (ws[m]'(by omega)) := List.getElem?_eq_getElem (by omega)
      have et : ws.take (m + 1) = ws.take m ++ [ws[m]'(by omega)] := by rw [List.take_add_one, g]; rfl
      rw [et, putP_snoc] at e
      refine someK_i (atI_ofI (j := m) (by omega) g) (iteB (fun e2 => ?_) (fun e2 => ?_))
      · refine ⟨_, _, rfl, rfl, ?_⟩
        rw [e, if_pos e2, List.length_take, Nat.min_eq_left (by omega)] at h
        rw [show lo + 1 = ((m + 1 : Nat) : Int) by omega]
        exact h
      · rw [if_neg e2] at e
        exact ih (lo - 1) _ (by omega) (by omega) e
  refine ⟨rfl, rfl, small_of (by omega) (by omega), small_of (by decide) (by decide), ?_⟩
  have ee : ((p : Int) - 2 - -1).toNat = p - 1 := by omega
  have q := key (p - 1) ((p : Int) - 2) .un (Nat.le_refl _) (by omega) rfl
  rw [← ee] at q
  exact q
/-! ### rows -/
theorem stepP_pos : ∀ ws : List Int, 1 ≤ stepP ws
  | [] => Nat.le_refl _
  | [_] => Nat.le_refl _
  | [_, _] => Nat.le_refl _
  | x :: y :: z :: r => by
    show 1 ≤ (if x ≤ z then 1 else stepP (y :: z :: r) + 1)
    split <;> omega
theorem stepP_lt : ∀ ws : List Int, 2 ≤ ws.length → stepP ws < ws.length
  | [], h => by simp at h
  | [_], h => by simp at h
  | [_, _], _ => by show 1 < 2; decide
  | x :: y :: z :: r, _ => by
    show (if x ≤ z then 1 else stepP (y :: z :: r) + 1) < r.length + 1 + 1 + 1
    have := stepP_lt (y :: z :: r) (by simp)
    simp only [List.length_cons] at this
    split <;> omega
theorem putP_le (b : Int) : ∀ us : List Int, putP b us ≤ us.length
  | [] => Nat.le_refl _
  | u :: r => by
    have := putP_le b r
    show (if putP b r ≠ 0 then putP b r + 1 else if u ≥ b then 1 else 0) ≤ r.length + 1
    split
    · omega
    · split <;> omega
abbrev lstI (js : List Int) : D := .lst (js.map D.int)
/-- what the joined places are taken from -/
def allJ (row : RowT) : List Int := (row.map (·.2)).flatten
structure RowOk (n : Nat) (row : RowT) : Prop where
  two : 1 ≤ row.length
  le : row.length ≤ 24
  len : (allJ row).length = n
  ins : ∀ x ∈ allJ row, 0 ≤ x ∧ x < n
section
variable {n : Nat} {row : RowT}
theorem row_at {i : Nat} (h : i < row.length) : (row.map (·.1))[i]? = some (wt row i) ∧ (row.map (·.2))[i]? = some (jn row i) ∧ row[i]? = some (wt row i, jn row i) := by
  have g : row[i]? = some row[i] := List.getElem?_eq_getElem h
  have d : row.getD i (0, []) = row[i] := by rw [List.getD_eq_getElem?_getD, g]; rfl
  unfold wt jn
  rw [d]
  exact ⟨by rw [List.getElem?_map, g]; rfl, by rw [List.getElem?_map, g]; rfl, g⟩
theorem row_split {p : Nat} (h1 : 1 ≤ p) (h2 : p < row.length) : row = row.take (p - 1) ++ (wt row (p - 1), jn row (p - 1)) :: (wt row p, jn row p) :: row.drop (p + 1) := by
  have g1 := (row_at (row := row) (i := p - 1) (by omega)).2.2
  have g2 := (row_at (row := row) (i := p) h2).2.2
  obtain ⟨l1, e1⟩ := List.getElem?_eq_some_iff.mp g1
  obtain ⟨l2, e2⟩ := List.getElem?_eq_some_iff.mp g2
  have d1 := List.drop_eq_getElem_cons l1
  have d2 := List.drop_eq_getElem_cons l2
  rw [e1, show p - 1 + 1 = p by omega, d2, e2] at d1
  rw [← d1, List.take_append_drop]
theorem nextRow_perm (h : 2 ≤ row.length) : (allJ (nextRow row)).Perm (allJ row) := by
  have p1 := stepP_pos (row.map (·.1))
  have p2 := stepP_lt (row.map (·.1)) (by rw [List.length_map]; exact h)
  rw [List.length_map] at p2
  have hs := row_split (row := row) p1 p2
  generalize hp : stepP (row.map (·.1)) = p at *
  show (allJ ((row.take ((recOf row).1 - 1) ++ row.drop ((recOf row).1 + 1)).take (recOf row).2.2.1 ++ [((recOf row).2.1, (recOf row).2.2.2)] ++ (row.take ((recOf row).1 - 1) ++ row.drop ((recOf row).1 + 1)).drop (recOf row).2.2.1)).Perm (allJ row)
  have e1 : (recOf row).1 = p := hp
  have e2 : (recOf row).2.2.2 = jn row (p - 1) ++ jn row p := by rw [← hp]; rfl
  rw [e1, e2]
  generalize (recOf row).2.2.1 = t
  generalize (recOf row).2.1 = b
  have ej : allJ row = allJ (row.take (p - 1)) ++ (jn row (p - 1) ++ (jn row p ++ allJ (row.drop (p + 1)))) := by
    conv => lhs; rw [hs]
    unfold allJ
    rw [List.map_append, List.flatten_append, List.map_cons, List.map_cons, List.flatten_cons, List.flatten_cons]
  have er : allJ (row.take (p - 1) ++ row.drop (p + 1)) = allJ (row.take (p - 1)) ++ allJ (row.drop (p + 1)) := by
    unfold allJ; rw [List.map_append, List.flatten_append]
  generalize row.take (p - 1) ++ row.drop (p + 1) = rest at *
  have es : allJ rest = allJ (rest.take t) ++ allJ (rest.drop t) := by
    conv => lhs; rw [← List.take_append_drop t rest]
    unfold allJ; rw [List.map_append, List.flatten_append]
  have el : allJ (rest.take t ++ [(b, jn row (p - 1) ++ jn row p)] ++ rest.drop t) = allJ (rest.take t) ++ (jn row (p - 1) ++ jn row p) ++ allJ (rest.drop t) := by
    unfold allJ
    rw [List.map_append, List.map_append, List.flatten_append, List.flatten_append]
    simp
  rw [el, ej]
  generalize jn row (p - 1) = A at *
  generalize jn row p = B at *
  rw [List.append_assoc]
  refine (List.perm_append_comm_assoc _ _ _).trans ?_
  rw [← es, er, ← List.append_assoc A B]
  exact List.perm_append_comm_assoc _ _ _
theorem nextRow_len (h : 2 ≤ row.length) : (nextRow row).length = row.length - 1 := by
  have p1 := stepP_pos (row.map (·.1))
  have p2 := stepP_lt (row.map (·.1)) (by rw [List.length_map]; exact h)
  rw [List.length_map] at p2
  show ((row.take ((recOf row).1 - 1) ++ row.drop ((recOf row).1 + 1)).take (recOf row).2.2.1 ++ [((recOf row).2.1, (recOf row).2.2.2)] ++ (row.take ((recOf row).1 - 1) ++ row.drop ((recOf row).1 + 1)).drop (recOf row).2.2.1).length = _
  have e1 : (recOf row).1 = stepP (row.map (·.1)) := rfl
  rw [List.length_append, List.length_append, Nat.add_right_comm, ← List.length_append, List.take_append_drop, List.length_append, List.length_take, List.length_drop, e1, List.length_singleton]
  omega
theorem RowOk.next (h : RowOk n row) (h2 : 2 ≤ row.length) : RowOk n (nextRow row) := by
  have p := nextRow_perm h2
  have l := nextRow_len h2
  have := h.le
  exact ⟨by omega, by omega, by rw [p.length_eq]; exact h.len, fun x hx => h.ins x (p.mem_iff.mp hx)⟩
theorem RowOk.jn_in (h : RowOk n row) {i : Nat} (hi : i < row.length) : ∀ x ∈ jn row i, 0 ≤ x ∧ x < n := fun x hx => h.ins x (List.mem_flatten.mpr ⟨jn row i, List.mem_of_getElem? (row_at hi).2.1, hx⟩)
theorem RowOk.jn_len (h : RowOk n row) {i : Nat} (hi : i < row.length) : (jn row i).length ≤ n := by
  rw [← h.len]
  exact (List.sublist_flatten_of_mem (List.mem_of_getElem? (row_at hi).2.1)).length_le
end
theorem rowOf_ok {ws : List Int} (h1 : 1 ≤ ws.length) (h2 : ws.length ≤ 24) : RowOk ws.length (rowOf ws) := by
  have e : allJ (rowOf ws) = (List.range ws.length).map fun (i : Nat) => (i : Int) := by
    unfold allJ rowOf
    rw [List.map_map]
    induction List.range ws.length with
    | nil => rfl
    | cons a r ih => rw [List.map_cons, List.flatten_cons, ih]; rfl
  refine ⟨by unfold rowOf; simpa using h1, by unfold rowOf; simpa using h2, by rw [e]; simp, fun x hx => ?_⟩
  rw [e] at hx
  obtain ⟨i, hi, rfl⟩ := List.mem_map.mp hx
  have := List.mem_range.mp hi
  omega
theorem rowOf_fst (ws : List Int) : (rowOf ws).map (·.1) = ws := by
  unfold rowOf
  rw [List.map_map]
  refine List.ext_getElem (by simp) fun i h1 h2 => ?_
  simp [h2]
theorem rowOf_len (ws : List Int) : (rowOf ws).length = ws.length := by unfold rowOf; simp
/-! ### all_steps -/
theorem map_ins {α β : Type} (f : α → β) (L : List α) (y : α) (a b t : Nat) : ((L.take a ++ L.drop b).take t ++ [y] ++ (L.take a ++ L.drop b).drop t).map f = ((L.map f).take a ++ (L.map f).drop b).take t ++ [f y] ++ ((L.map f).take a ++ (L.map f).drop b).drop t := by
  simp only [List.map_append, List.map_take, List.map_drop, List.map_cons, List.map_nil]
theorem next_fst {row : RowT} {p : Nat} (hp : stepP (row.map (·.1)) = p) : (nextRow row).map (·.1) = ((row.map (·.1)).take (p - 1) ++ (row.map (·.1)).drop (p + 1)).take (putP (wt row (p - 1) + wt row p) ((row.map (·.1)).take (p - 1))) ++ [wt row (p - 1) + wt row p] ++ ((row.map (·.1)).take (p - 1) ++ (row.map (·.1)).drop (p + 1)).drop (putP (wt row (p - 1) + wt row p) ((row.map (·.1)).take (p - 1))) := by
  subst hp
  unfold nextRow recOf
  simp [List.map_take, List.map_drop]
theorem next_snd {row : RowT} {p : Nat} (hp : stepP (row.map (·.1)) = p) : (nextRow row).map (·.2) = ((row.map (·.2)).take (p - 1) ++ (row.map (·.2)).drop (p + 1)).take (putP (wt row (p - 1) + wt row p) ((row.map (·.1)).take (p - 1))) ++ [jn row (p - 1) ++ jn row p] ++ ((row.map (·.2)).take (p - 1) ++ (row.map (·.2)).drop (p + 1)).drop (putP (wt row (p - 1) + wt row p) ((row.map (·.1)).take (p - 1))) := by
  subst hp
  unfold nextRow recOf
  simp [List.map_take, List.map_drop]
theorem recOf_eq {row : RowT} {p : Nat} (hp : stepP (row.map (·.1)) = p) : recOf row = (p, wt row (p - 1) + wt row p, putP (wt row (p - 1) + wt row p) ((row.map (·.1)).take (p - 1)), jn row (p - 1) ++ jn row p) := by subst hp; rfl
theorem ok_all_steps : ∀ cs Q x, sp_all_steps cs Q x → fnW 1 7 w_all_steps cs Q x := by
  rintro cs Q x ⟨ws, rfl, h1, h24, h⟩
  refine ⟨rfl, small_of (by rw [List.length_map]; omega) (by rw [List.length_map]; omega), ⟨trivial, trivial⟩, ?_⟩
  refine lc_map (fun d => .lst [d]) (fun d => [.val (.tup (ws.map D.int)), .own none (.lst (ws.map D.int)), .val d, .un, .un, .un, .un, .un]) ?_ (fun d hd => ⟨rfl, fun A hA => ⟨szk 1, hA⟩⟩) ?_
  · rw [range_len]; exact szk _ (by simp; omega)
  refine ⟨szk 0, ?_⟩
  have ew : (rangeD 0 (Int.toNat ((ws.map D.int).length : Nat))).map (fun d => D.lst [d]) = ((rowOf ws).map (·.2)).map lstI := by
    unfold rangeD rowOf
    rw [List.map_map, List.map_map, List.map_map, List.length_map]
    refine List.map_congr_left fun i _ => ?_
    show D.lst [D.int (0 + (i : Int))] = D.lst [D.int (i : Int)]
    rw [Int.zero_add]
  refine ⟨fun m e => ∃ (row : RowT) (fs : List Rec) (c2 c5 c6 c7 : C), e = [.val (.tup (ws.map D.int)), .own none (.lst ((row.map (·.1)).map D.int)), c2, .own none (.lst ((row.map (·.2)).map lstI)), .own none (.lst (fs.map recD)), c5, c6, c7] ∧ RowOk ws.length row ∧ fs ++ runAll (row.length - 1) row = stepsOf ws ∧ fs.length + row.length = ws.length ∧ m = row.length, ⟨_, rowOf ws, [], .un, .un, .un, .un, ?_, rowOf_ok h1 h24, ?_, ?_, rfl⟩, ?_⟩
  · rw [rowOf_fst, ← ew]; rfl
  · rw [rowOf_len]; rfl
  · rw [rowOf_len]; simp
  rintro m e ⟨row, fs, c2, c5, c6, c7, rfl, hr, hf, hl, rfl⟩
  have hle := hr.le
  refine iteB (fun e1 => ?_) (fun e1 => ?_)
  · have e1 : (((row.map (·.1)).map D.int).length : Int) > 1 := e1
    rw [List.length_map, List.length_map] at e1
    have h2 : 2 ≤ row.length := by omega
    have p1 := stepP_pos (row.map (·.1))
    have p2 := stepP_lt (row.map (·.1)) (by rw [List.length_map]; exact h2)
    rw [List.length_map] at p2
    refine ⟨nd1 1, row.map (·.1), rfl, by rw [List.length_map]; exact h2, by rw [List.length_map]; omega, rfl, ?_⟩
    obtain ⟨p, hp⟩ : ∃ p, stepP (row.map (·.1)) = p := ⟨_, rfl⟩
    have nf := next_fst hp
    have ns := next_snd hp
    have er := recOf_eq hp
    rw [hp] at p1 p2
    rw [hp]
    have ht := putP_le (wt row (p - 1) + wt row p) ((row.map (·.1)).take (p - 1))
    rw [List.length_take, List.length_map] at ht
    obtain ⟨a1, b1, _⟩ := row_at (row := row) (i := p - 1) (by omega)
    obtain ⟨a2, b2, _⟩ := row_at (row := row) (i := p) (by omega)
    refine someK_i (atI_ofI (j := p - 1) (by omega) a1) (someK_i (atI_ofI (j := p) (by omega) a2) ?_)
    refine ⟨nd1 1, row.map (·.1), p, wt row (p - 1) + wt row p, rfl, p1, by rw [List.length_map]; exact p2, by rw [List.length_map]; omega, rfl, ?_⟩
    have q1 : atI ((row.map (·.2)).map lstI) ((p : Int) - 1) = some (lstI (jn row (p - 1))) := atI_of (j := p - 1) (by omega) (by rw [List.getElem?_map, b1]; rfl)
    have q2 : atI ((row.map (·.2)).map lstI) (p : Int) = some (lstI (jn row p)) := atI_of (j := p) rfl (by rw [List.getElem?_map, b2]; rfl)
    have l1 := hr.jn_len (i := p - 1) (by omega)
    have l2 := hr.jn_len (i := p) (by omega)
    refine someK_i q1 (someK_i q2 ⟨szk _ (by rw [List.length_map, List.length_map]; omega), ?_⟩)
    have c1 : ∀ zs : List D, cutD zs none (some ((p : Int) - 1)) = zs.take (p - 1) := fun zs => cut_take (by omega)
    have c2' : ∀ zs : List D, cutD zs (some ((p : Int) + 1)) none = zs.drop (p + 1) := fun zs => cut_drop (by omega)
    refine ⟨?_, ?_⟩
    · rw [c1, c2', List.length_take, List.length_drop]
      exact szk _ (by simp only [List.length_map]; omega)
    refine ⟨?_, ?_⟩
    · rw [c1, c2', List.length_take, List.length_drop]
      exact szk _ (by simp only [List.length_map]; omega)
    have lc : ∀ zs : List D, zs.length = row.length → (cutD zs none (some ((p : Int) - 1)) ++ cutD zs (some ((p : Int) + 1)) none).length < sizeLine := fun zs hz => by
      rw [c1, c2', List.length_append, List.length_take, List.length_drop]
      exact Nat.lt_of_le_of_lt (m := 24) (by omega) (by decide)
    refine ⟨trivial, lc _ (by simp), by omega, by omega, trivial, lc _ (by simp), by omega, by omega, trivial, szk 4, ?_, ?_⟩
    · rw [List.length_map]; exact Nat.lt_of_le_of_lt (m := 24) (by omega) (by decide)
    refine ⟨(nextRow row).length, by rw [nextRow_len h2]; omega, nextRow row, fs ++ [recOf row], .val (.int p), .val (.int (wt row (p - 1) + wt row p)), .val (.int (putP (wt row (p - 1) + wt row p) ((row.map (·.1)).take (p - 1)))), .val (lstI (jn row (p - 1) ++ jn row p)), ?_, hr.next h2, ?_, ?_, rfl⟩
    · have E1 : ((nextRow row).map (·.1)).map D.int = (cutD ((row.map (·.1)).map D.int) none (some ((p : Int) - 1)) ++ cutD ((row.map (·.1)).map D.int) (some ((p : Int) + 1)) none).take (putP (wt row (p - 1) + wt row p) ((row.map (·.1)).take (p - 1))) ++ [.int (wt row (p - 1) + wt row p)] ++ (cutD ((row.map (·.1)).map D.int) none (some ((p : Int) - 1)) ++ cutD ((row.map (·.1)).map D.int) (some ((p : Int) + 1)) none).drop (putP (wt row (p - 1) + wt row p) ((row.map (·.1)).take (p - 1))) := by
        rw [nf, map_ins, c1, c2']
      have E2 : ((nextRow row).map (·.2)).map lstI = (cutD ((row.map (·.2)).map lstI) none (some ((p : Int) - 1)) ++ cutD ((row.map (·.2)).map lstI) (some ((p : Int) + 1)) none).take (putP (wt row (p - 1) + wt row p) ((row.map (·.1)).take (p - 1))) ++ [.lst ((jn row (p - 1)).map D.int ++ (jn row p).map D.int)] ++ (cutD ((row.map (·.2)).map lstI) none (some ((p : Int) - 1)) ++ cutD ((row.map (·.2)).map lstI) (some ((p : Int) + 1)) none).drop (putP (wt row (p - 1) + wt row p) ((row.map (·.1)).take (p - 1))) := by
        rw [ns, map_ins, c1, c2', ← List.map_append]
      have E3 : (fs ++ [recOf row]).map recD = fs.map recD ++ [.tup [.int p, .int (wt row (p - 1) + wt row p), .int (putP (wt row (p - 1) + wt row p) ((row.map (·.1)).take (p - 1))), .lst ((jn row (p - 1)).map D.int ++ (jn row p).map D.int)]] := by
        rw [← List.map_append, er, List.map_append]; rfl
      have E4 : lstI (jn row (p - 1) ++ jn row p) = .lst ((jn row (p - 1)).map D.int ++ (jn row p).map D.int) := by rw [← List.map_append]
      rw [E1, E2, E3, E4]
      rfl
    · rw [← hf, nextRow_len h2, show row.length - 1 = (row.length - 2) + 1 by omega, List.append_assoc]
      rfl
    · rw [nextRow_len h2, List.length_append, List.length_singleton]; omega
  · have e1 : ¬ (((row.map (·.1)).map D.int).length : Int) > 1 := e1
    rw [List.length_map, List.length_map] at e1
    refine ⟨_, _, rfl, rfl, ?_⟩
    have : row.length = 1 := by have := hr.two; omega
    rw [this] at hf
    have hf : fs ++ [] = stepsOf ws := hf
    rw [List.append_nil] at hf
    rw [hf]
    exact h
theorem runAll_len : ∀ (n : Nat) (row : RowT), (runAll n row).length = n
  | 0, _ => rfl
  | n + 1, row => by show (runAll n (nextRow row)).length + 1 = n + 1; rw [runAll_len]
theorem stepsOf_len (ws : List Int) : (stepsOf ws).length = ws.length - 1 := runAll_len _ _
end K23
namespace K23
open PySem PySem.Spec PyProof.Rows L2 FL
/-! ### the same -/
theorem zip_self {xs : List D} {d : D} (h : d ∈ List.zipWith (fun x y => D.tup [x, y]) xs xs) : ∃ x ∈ xs, d = .tup [x, x] := by
  induction xs with
  | nil => cases h
  | cons x r ih =>
    rcases List.mem_cons.mp h with z | z
    · exact ⟨x, List.mem_cons_self, z⟩
    · obtain ⟨y, hy, e⟩ := ih z
      exact ⟨y, List.mem_cons_of_mem _ hy, e⟩
theorem ok__law_same (hh : Nat) : ∀ cs Q x, sp__law_same (hh + 1) cs Q x → fnW 2 2 (w__law_same (sp__law_same hh)) cs Q x := by
  rintro cs Q x ⟨d, rfl, _, hd, h⟩
  cases d with
  | int f =>
    refine ⟨rfl, _, _, rfl, rfl, ?_⟩
    rw [show decide (f = f) = true from decide_eq_true rfl]
    exact h
  | tup xs =>
    cases hh with
    | zero => exact hd.elim
    | succ hh =>
      obtain ⟨hl, hx⟩ := hd
      refine ⟨rfl, iteF' (by rw [decide_eq_true rfl]; rfl) ⟨⟨trivial, trivial, trivial⟩, ?_⟩⟩
      refine lc_filter (fun _ => false) (fun d => d) (fun d => match d with
        | .tup [x, y] => [.val (.tup xs), .val (.tup xs), .val x, .val y]
        | _ => []) (by rw [List.length_zipWith]; exact szk _ (by simp; exact hl)) (fun d hd => ?_) ?_
      · obtain ⟨y, hy, rfl⟩ := zip_self hd
        exact ⟨rfl, fun A B _ hB => ⟨rfl, nd0, y, rfl, Nat.succ_pos _, hx y hy, rfl, hB rfl⟩⟩
      · rw [List.filter_eq_nil_iff.mpr (by simp)]
        exact ⟨szk 0, shp_nil, shp_nil, _, _, rfl, rfl, h⟩
  | _ => cases hh <;> exact hd.elim
theorem no__law_same (cs : List C) (Q x) : ¬ sp__law_same 0 cs Q x := by
  rintro ⟨d, _, h, _⟩
  exact absurd h (Nat.lt_irrefl _)
end K23
namespace K23
open PySem PySem.Spec PyProof.Rows L2 FL
/-! ### stepP and putP as the law counts them -/
theorem stepP_before : ∀ (ws : List Int) (k : Nat), 1 ≤ k → k < stepP ws → k + 1 < ws.length ∧ ∃ x z, ws[k - 1]? = some x ∧ ws[k + 1]? = some z ∧ z < x
  | [], k, h1, h2 => by have : k < 1 := h2; omega
  | [_], k, h1, h2 => by have : k < 1 := h2; omega
  | [_, _], k, h1, h2 => by have : k < 1 := h2; omega
  | x :: y :: z :: r, k, h1, h2 => by
    have h2 : k < (if x ≤ z then 1 else stepP (y :: z :: r) + 1) := h2
    split at h2
    · omega
    · rename_i hx
      by_cases hk : k = 1
      · subst hk
        exact ⟨by simp, x, z, rfl, rfl, by omega⟩
      · obtain ⟨hl, a, b, ha, hb, hab⟩ := stepP_before (y :: z :: r) (k - 1) (by omega) (by omega)
        obtain ⟨j, rfl⟩ : ∃ j, k = j + 2 := ⟨k - 2, by omega⟩
        refine ⟨by simp only [List.length_cons] at hl ⊢; omega, a, b, ?_, ?_, hab⟩
        · simpa using ha
        · simpa using hb
theorem stepP_here : ∀ (ws : List Int), 2 ≤ ws.length → stepP ws + 1 = ws.length ∨ (stepP ws + 1 < ws.length ∧ ∃ x z, ws[stepP ws - 1]? = some x ∧ ws[stepP ws + 1]? = some z ∧ x ≤ z)
  | [], h => by simp at h
  | [_], h => by simp at h
  | [_, _], _ => .inl rfl
  | x :: y :: z :: r, _ => by
    by_cases hx : x ≤ z
    · have e : stepP (x :: y :: z :: r) = 1 := if_pos hx
      rw [e]
      exact .inr ⟨by simp, x, z, rfl, rfl, hx⟩
    · have e : stepP (x :: y :: z :: r) = stepP (y :: z :: r) + 1 := if_neg hx
      have hp := stepP_pos (y :: z :: r)
      rw [e]
      obtain ⟨j, hj⟩ : ∃ j, stepP (y :: z :: r) = j + 1 := ⟨stepP (y :: z :: r) - 1, by omega⟩
      rcases stepP_here (y :: z :: r) (by simp) with q | ⟨q, a, b, ha, hb, hab⟩
      · left; simp only [List.length_cons] at q ⊢; omega
      · rw [hj] at ha hb q ⊢
        right
        refine ⟨by simp only [List.length_cons] at q ⊢; omega, a, b, ?_, ?_, hab⟩
        · simpa using ha
        · simpa using hb
theorem head_filter {p : D → Bool} : ∀ {m s : Nat} {lo : Int}, s < m → (∀ j : Nat, j < s → p (.int (lo + j)) = false) → p (.int (lo + s)) = true → ((rangeD lo m).filter p)[0]? = some (.int (lo + s)) := by
  intro m
  induction m with
  | zero => intro s lo h; omega
  | succ m ih =>
    intro s lo hs hb hh
    rw [rangeD_succ, List.filter_cons]
    cases s with
    | zero =>
      have hh : p (.int (lo + 0)) = true := hh
      rw [Int.add_zero] at hh
      rw [if_pos hh]
      show some (D.int lo) = some (D.int (lo + 0))
      rw [Int.add_zero]
    | succ s =>
      have h0 := hb 0 (by omega)
      have h0 : p (.int (lo + 0)) = false := h0
      rw [Int.add_zero] at h0
      rw [if_neg (by rw [h0]; decide)]
      have e : ∀ j : Nat, lo + ((j + 1 : Nat) : Int) = lo + 1 + j := fun j => by omega
      rw [e]
      refine ih (by omega) (fun j hj => ?_) ?_
      · rw [← e]; exact hb (j + 1) (by omega)
      · rw [← e]; exact hh
theorem range_snoc (lo : Int) (m : Nat) : rangeD lo (m + 1) = rangeD lo m ++ [.int (lo + m)] := by
  unfold rangeD
  rw [List.range_succ, List.map_append]; rfl
theorem last_ahead {p : D → Bool} {ws : List Int} {b : Int} (hp : ∀ (i : Nat) x, ws[i]? = some x → p (.int (0 + i)) = decide (x ≥ b)) (f : D → D) (hf : ∀ i : Int, f (.int i) = .int (i + 1)) :
    ∀ m : Nat, m ≤ ws.length → ∃ pre, [D.int 0] ++ ((rangeD 0 m).filter p).map f = pre ++ [.int (putP b (ws.take m))] := by
  intro m
  induction m with
  | zero => intro _; exact ⟨[], rfl⟩
  | succ m ih =>
    intro hm
    have g : ws[m]? = some (ws[m]'(by omega)) := List.getElem?_eq_getElem (by omega)
    have et : ws.take (m + 1) = ws.take m ++ [ws[m]'(by omega)] := by rw [List.take_add_one, g]; rfl
    have hq := hp m _ g
    rw [range_snoc, et, putP_snoc, List.filter_append, List.map_append]
    by_cases h : ws[m]'(by omega) ≥ b
    · rw [if_pos h, List.filter_cons, if_pos (by rw [hq]; exact decide_eq_true h)]
      refine ⟨[D.int 0] ++ ((rangeD 0 m).filter p).map f, ?_⟩
      rw [List.append_assoc]
      congr 1
      congr 1
      show [f (.int (0 + (m : Int)))] = _
      rw [hf, List.length_take, Nat.min_eq_left (by omega)]
      congr 2
      push_cast
      omega
    · rw [if_neg h, List.filter_cons, if_neg (by rw [hq, decide_eq_false h]; decide)]
      obtain ⟨pre, e⟩ := ih (by omega)
      refine ⟨pre, ?_⟩
      rw [← e]
      simp
end K23
namespace K23
open PySem PySem.Spec PyProof.Rows L2 FL
theorem ixN_in {n : Nat} {i : Int} (h0 : 0 ≤ i) (h1 : i < n) : ixN n i = some i.toNat := by
  unfold ixN
  rw [if_pos h0, if_pos (by omega)]
abbrev rD (r : Int × List Int) : D := .tup [.int r.1, .lst (r.2.map D.int)]
def ofO : Option D → C
  | none => .un
  | some d => .val d
def enF : D → D
  | .tup [i, w] => .tup [w, .lst [i]]
  | d => d
theorem enum_row (ws : List Int) : (enumD 0 (ws.map D.int)).map enF = (rowOf ws).map rD := by
  have key : ∀ (us : List Int) (k : Nat), (enumD k (us.map D.int)).map enF = (List.range us.length).map fun i => D.tup [.int (us.getD i 0), .lst [.int ((k + i : Nat) : Int)]] := by
    intro us
    induction us with
    | nil => intro k; rfl
    | cons u r ih =>
      intro k
      rw [List.map_cons, enumD, List.map_cons, ih, List.length_cons, List.range_succ_eq_map, List.map_cons, List.map_map]
      congr 1
      refine List.map_congr_left fun i _ => ?_
      show D.tup [.int (r.getD i 0), .lst [.int ((k + 1 + i : Nat) : Int)]] = D.tup [.int (r.getD i 0), .lst [.int ((k + (i + 1) : Nat) : Int)]]
      rw [show k + 1 + i = k + (i + 1) by omega]
  rw [key ws 0]
  unfold rowOf
  rw [List.map_map]
  refine List.map_congr_left fun i _ => ?_
  show D.tup [.int (ws.getD i 0), .lst [.int ((0 + i : Nat) : Int)]] = D.tup [.int (ws.getD i 0), .lst [.int (i : Int)]]
  rw [Nat.zero_add]
theorem next_row {row : RowT} {p : Nat} (hp : stepP (row.map (·.1)) = p) (h1 : 1 ≤ p) (h2 : p < row.length) :
    nextRow row = row.take (putP (wt row (p - 1) + wt row p) ((row.map (·.1)).take (p - 1))) ++ [(wt row (p - 1) + wt row p, jn row (p - 1) ++ jn row p)] ++ (row.take (p - 1)).drop (putP (wt row (p - 1) + wt row p) ((row.map (·.1)).take (p - 1))) ++ row.drop (p + 1) := by
  have ht := putP_le (wt row (p - 1) + wt row p) ((row.map (·.1)).take (p - 1))
  rw [List.length_take, List.length_map] at ht
  subst hp
  unfold nextRow recOf
  simp only []
  generalize putP (wt row (stepP (row.map (·.1)) - 1) + wt row (stepP (row.map (·.1)))) ((row.map (·.1)).take (stepP (row.map (·.1)) - 1)) = t at *
  generalize stepP (row.map (·.1)) = p at *
  have lt : (row.take (p - 1)).length = p - 1 := by rw [List.length_take]; omega
  rw [List.take_append_of_le_length (by omega), List.drop_append_of_le_length (by omega), List.take_take, Nat.min_eq_left (by omega)]
  simp only [List.append_assoc]
theorem bump_map {ds : List Int} {z : Int} (h0 : 0 ≤ z) (h1 : z < ds.length) : (bump ds z).map D.int = (ds.map D.int).set z.toNat (.int (ds[z.toNat]'(by omega) + 1)) := by
  unfold bump
  rw [List.map_set, List.getD_eq_getElem?_getD, List.getElem?_eq_getElem (show z.toNat < ds.length by omega)]
  rfl
theorem bump_len (ds : List Int) (i : Int) : (bump ds i).length = ds.length := by unfold bump; rw [List.length_set]
theorem bumps_len : ∀ (js ds : List Int), (js.foldl bump ds).length = ds.length
  | [], ds => rfl
  | j :: r, ds => by rw [List.foldl_cons, bumps_len r, bump_len]
theorem depthsR_len : ∀ (rs : List Rec) (ds : List Int), (depthsR ds rs).length = ds.length
  | [], ds => rfl
  | r :: rs, ds => by
    show (depthsR (r.2.2.2.foldl bump ds) rs).length = _
    rw [depthsR_len rs, bumps_len]
theorem depthsR_snoc (ds : List Int) (rs : List Rec) (r : Rec) : depthsR ds (rs ++ [r]) = r.2.2.2.foldl bump (depthsR ds rs) := by
  unfold depthsR
  rw [List.foldl_append]; rfl
theorem rep_ints (n : Nat) : (List.replicate n [D.int 0]).flatten = (List.replicate n (0 : Int)).map D.int := by
  induction n with
  | zero => rfl
  | succ n ih => rw [List.replicate_succ, List.flatten_cons, ih, List.replicate_succ]; rfl
theorem rD_at {row : RowT} {i : Int} {j : Nat} (hi : i = j) (h : j < row.length) : atI (row.map rD) i = some (rD (wt row j, jn row j)) := atI_of hi (by rw [List.getElem?_map, (row_at h).2.2]; rfl)
theorem ok__law_steps : ∀ cs Q x, sp__law_steps cs Q x → fnW 1 12 w__law_steps cs Q x := by
  rintro cs Q x ⟨ws, rfl, h1, h24, h⟩
  refine ⟨rfl, ⟨trivial, trivial, trivial⟩, ?_⟩
  refine lc_map enF (fun d => match d with
    | .tup [i, w] => [.val (.tup (ws.map D.int)), .val i, .un, .un, .un, .un, .un, .un, .un, .un, .un, .val w, .un]
    | _ => []) ?_ ?_ ?_
  · rw [enumD_length, List.length_map]; exact szk _ (by simp; omega)
  · intro d hd
    obtain ⟨i, w, rfl⟩ : ∃ i w, d = .tup [i, w] := by
      have key : ∀ (us : List D) (k : Nat), d ∈ enumD k us → ∃ i w, d = .tup [i, w] := by
        intro us
        induction us with
        | nil => intro k hk; cases hk
        | cons u r ih =>
          intro k hk
          rcases List.mem_cons.mp hk with z | z
          · exact ⟨_, _, z⟩
          · exact ih _ z
      exact key _ _ hd
    exact ⟨rfl, fun A hA => ⟨rfl, szk 1, szk 2, hA⟩⟩
  refine ⟨szk 0, szk 1, by rw [List.length_map]; omega, by rw [List.length_map]; omega, szk _ (by simp; omega), ?_⟩
  refine ⟨fun m e => ∃ (row : RowT) (fs : List Rec) (c1 : C) (o5 : Option D) (c6 c7 c8 c9 c10 : C), e = [.val (.tup (ws.map D.int)), c1, .own none (.lst (row.map rD)), .own none (.lst (fs.map rec3)), .own none (.lst ((depthsR (List.replicate ws.length 0) fs).map D.int)), ofO o5, c6, c7, c8, c9, c10, .un, .un] ∧ RowOk ws.length row ∧ fs ++ runAll (row.length - 1) row = stepsOf ws ∧ fs.length + row.length = ws.length ∧ m = row.length, ⟨_, rowOf ws, [], .un, none, .un, .un, .un, .un, .un, ?_, rowOf_ok h1 h24, ?_, ?_, rfl⟩, ?_⟩
  · have e : (depthsR (List.replicate ws.length 0) []).map D.int = (List.replicate (Int.toNat (((ws.map D.int).length : Nat) : Int)) [D.int 0]).flatten := by
      rw [rep_ints, Int.toNat_natCast, List.length_map]; rfl
    rw [← enum_row, e]
    rfl
  · rw [rowOf_len]; rfl
  · rw [rowOf_len]; simp
  rintro m e ⟨row, fs, c1, o5, c6, c7, c8, c9, c10, rfl, hr, hf, hl, rfl⟩
  have hle := hr.le
  refine iteB (fun e1 => ?_) (fun e1 => ?_)
  · have e1 : ((row.map rD).length : Int) > 1 := e1
    rw [List.length_map] at e1
    have h2 : 2 ≤ row.length := by omega
    have p1 := stepP_pos (row.map (·.1))
    have p2 := stepP_lt (row.map (·.1)) (by rw [List.length_map]; exact h2)
    rw [List.length_map] at p2
    have bef := stepP_before (row.map (·.1))
    have hre := stepP_here (row.map (·.1)) (by rw [List.length_map]; exact h2)
    obtain ⟨p, hp⟩ : ∃ p, stepP (row.map (·.1)) = p := ⟨_, rfl⟩
    have nr := next_row hp
    have er := recOf_eq hp
    rw [hp] at p1 p2 bef hre
    have nr := nr p1 p2
    have ht := putP_le (wt row (p - 1) + wt row p) ((row.map (·.1)).take (p - 1))
    rw [List.length_take, List.length_map] at ht
    have ln : ((row.map rD).length : Int) = row.length := by rw [List.length_map]
    refine ⟨small_of (by decide) (by decide), small_of (by omega) (by omega), ⟨by cases o5 <;> trivial, trivial⟩, ?_⟩
    -- good
    refine lc_filter (fun d => match d with
      | .int k => decide (k = (row.length : Int) - 1) || decide (wt row (k - 1).toNat ≤ wt row (k + 1).toNat)
      | _ => false) (fun d => d) (fun d => [.val (.tup (ws.map D.int)), c1, .own none (.lst (row.map rD)), .own none (.lst (fs.map rec3)), .own none (.lst ((depthsR (List.replicate ws.length 0) fs).map D.int)), .val d, c6, c7, c8, c9, c10, .un, .un]) ?_ ?_ ?_
    · rw [range_len]; exact szk _ (by simp; omega)
    · intro d hd
      obtain ⟨i, hi, rfl⟩ := range_mem hd
      have hi : i < ((row.map rD).length - 1 : Int).toNat := hi
      rw [ln] at hi
      refine ⟨rfl, fun A B hA hB => ?_⟩
      refine iteB (fun q => ?_) (fun q => ?_)
      · have q : (1 : Int) + i = ((row.map rD).length : Int) - 1 := q
        rw [ln] at q
        exact hA (by show (decide _ || _) = true; rw [decide_eq_true q]; rfl)
      · have q : ¬ (1 : Int) + i = ((row.map rD).length : Int) - 1 := q
        rw [ln] at q
        have t1 : ((1 : Int) + i - 1).toNat = i := by omega
        have t2 : ((1 : Int) + i + 1).toNat = i + 2 := by omega
        refine someK_i (rD_at (j := i) (by omega) (by omega)) (someK_i (rD_at (j := i + 2) (by omega) (by omega)) ?_)
        refine iteB (fun q2 => ?_) (fun q2 => ?_)
        · exact hA (by show (_ || decide _) = true; rw [t1, t2, decide_eq_true q2, Bool.or_true])
        · exact hB (by show (decide _ || decide _) = false; rw [t1, t2, decide_eq_false q2, decide_eq_false q]; rfl)
    rw [List.nil_append, List.map_id']
    have g0 : ((rangeD 1 (((row.map rD).length : Int) - 1).toNat).filter (fun d => match d with
      | .int k => decide (k = (row.length : Int) - 1) || decide (wt row (k - 1).toNat ≤ wt row (k + 1).toNat)
      | _ => false))[0]? = some (.int p) := by
      have q := head_filter (p := fun d => match d with
        | .int k => decide (k = (row.length : Int) - 1) || decide (wt row (k - 1).toNat ≤ wt row (k + 1).toNat)
        | _ => false) (m := (((row.map rD).length : Int) - 1).toNat) (s := p - 1) (lo := 1) (by omega) (fun j hj => ?_) ?_
      · rw [show (1 : Int) + ((p - 1 : Nat) : Int) = p by omega] at q
        exact q
      · obtain ⟨hl', a, b, ha, hb, hab⟩ := bef (j + 1) (by omega) (by omega)
        rw [List.length_map] at hl'
        have a1 := (row_at (row := row) (i := j) (by omega)).1
        have a2 := (row_at (row := row) (i := j + 2) (by omega)).1
        have ha : (row.map (·.1))[j]? = some a := ha
        have hb : (row.map (·.1))[j + 2]? = some b := hb
        rw [a1] at ha
        rw [a2] at hb
        cases ha
        cases hb
        show (decide _ || decide _) = false
        have t1 : ((1 : Int) + j - 1).toNat = j := by omega
        have t2 : ((1 : Int) + j + 1).toNat = j + 2 := by omega
        rw [t1, t2, decide_eq_false (by omega), decide_eq_false (by omega)]
        rfl
      · rw [show (1 : Int) + ((p - 1 : Nat) : Int) = p by omega]
        show (decide _ || decide _) = true
        rw [List.length_map] at hre
        rcases hre with q | ⟨q, a, b, ha, hb, hab⟩
        · rw [decide_eq_true (by omega)]; rfl
        · rw [(row_at (row := row) (i := p - 1) (by omega)).1] at ha
          rw [(row_at (row := row) (i := p + 1) (by omega)).1] at hb
          cases ha
          cases hb
          have t1 : ((p : Int) - 1).toNat = p - 1 := by omega
          have t2 : ((p : Int) + 1).toNat = p + 1 := by omega
          rw [t1, t2, decide_eq_true hab, Bool.or_true]
    refine someK_i (atI_of (j := 0) rfl g0) ?_
    have r1 : atI (row.map rD) ((p : Int) - 1) = some (rD (wt row (p - 1), jn row (p - 1))) := rD_at (by omega) (by omega)
    have r2 : atI (row.map rD) (p : Int) = some (rD (wt row p, jn row p)) := rD_at rfl (by omega)
    have l1 := hr.jn_len (i := p - 1) (by omega)
    have l2 := hr.jn_len (i := p) (by omega)
    refine someK_i r1 (someK_i r2 (someK_i r1 (someK_i r2 ⟨szk _ (by simp only [List.length_map]; omega), ?_⟩)))
    -- ahead
    refine ⟨small_of (by omega) (by omega), ⟨trivial, trivial⟩, ?_⟩
    refine lc_filter (fun d => match d with
      | .int k => decide (wt row k.toNat ≥ wt row (p - 1) + wt row p)
      | _ => false) (fun d => match d with
      | .int k => .int (k + 1)
      | d => d) (fun d => [.val (.tup (ws.map D.int)), c1, .own none (.lst (row.map rD)), .own none (.lst (fs.map rec3)), .own none (.lst ((depthsR (List.replicate ws.length 0) fs).map D.int)), .val (.int p), .own none (.lst ((rangeD 1 (((row.map rD).length : Int) - 1).toNat).filter (fun d => match d with
      | .int k => decide (k = (row.length : Int) - 1) || decide (wt row (k - 1).toNat ≤ wt row (k + 1).toNat)
      | _ => false))), .val (.int (wt row (p - 1) + wt row p)), .own none (.lst ((jn row (p - 1)).map D.int ++ (jn row p).map D.int)), c9, c10, .un, .val d]) ?_ ?_ ?_
    · rw [range_len]; exact szk _ (by simp; omega)
    · intro d hd
      obtain ⟨i, hi, rfl⟩ := range_mem hd
      refine ⟨rfl, fun A B hA hB => ?_⟩
      have t1 : ((0 : Int) + i).toNat = i := by omega
      refine someK_i (rD_at (j := i) (by omega) (by omega)) ?_
      refine iteB (fun q2 => ?_) (fun q2 => ?_)
      · exact hA (by show decide _ = true; rw [t1]; exact decide_eq_true q2)
      · exact hB (by show decide _ = false; rw [t1]; exact decide_eq_false q2)
    rw [List.nil_append]
    obtain ⟨pre, ea⟩ := last_ahead (p := fun d => match d with
      | .int k => decide (wt row k.toNat ≥ wt row (p - 1) + wt row p)
      | _ => false) (ws := row.map (·.1)) (b := wt row (p - 1) + wt row p) (fun i x hx => by
        have hi : i < row.length := by have := (List.getElem?_eq_some_iff.mp hx).1; rwa [List.length_map] at this
        rw [(row_at hi).1] at hx
        cases hx
        show decide _ = decide _
        rw [show ((0 : Int) + i).toNat = i by omega]) (fun d => match d with
      | .int k => .int (k + 1)
      | d => d) (fun i => rfl) (p - 1) (by rw [List.length_map]; omega)
    have tp : ((p : Int) - 1).toNat = p - 1 := by omega
    refine ⟨szk 1, ?_, someK_i (by rw [tp]; exact (congrArg (fun z => atI z (-1)) ea).trans (atI_last _ _)) ?_⟩
    · rw [List.length_map]
      refine szk _ (Nat.le_trans (Nat.add_le_add_left (List.length_filter_le _ _) _) ?_)
      rw [range_len]; simp; omega
    have c1' : ∀ zs : List D, cutD zs none (some ((putP (wt row (p - 1) + wt row p) ((row.map (·.1)).take (p - 1)) : Nat) : Int)) = zs.take (putP (wt row (p - 1) + wt row p) ((row.map (·.1)).take (p - 1))) := fun zs => cut_take rfl
    have c2' : ∀ zs : List D, cutD zs (some ((p : Int) + 1)) none = zs.drop (p + 1) := fun zs => cut_drop (by omega)
    have c3' : ∀ zs : List D, cutD zs (some ((putP (wt row (p - 1) + wt row p) ((row.map (·.1)).take (p - 1)) : Nat) : Int)) (some ((p : Int) - 1)) = (zs.take (p - 1)).drop (putP (wt row (p - 1) + wt row p) ((row.map (·.1)).take (p - 1))) := fun zs => cut_mid rfl (by omega)
    refine ⟨szk 2, szk 1, ?_, ?_, ?_, ?_⟩
    · rw [c1', List.length_take]; exact szk _ (by simp only [List.length_map, List.length_cons, List.length_nil]; omega)
    · rw [c1', c3', List.length_append, List.length_take, List.length_drop, List.length_take]; exact szk _ (by simp only [List.length_map, List.length_cons, List.length_nil]; omega)
    · rw [c1', c3', c2', List.length_append, List.length_append, List.length_take, List.length_drop, List.length_drop, List.length_take]; exact szk _ (by simp only [List.length_map, List.length_cons, List.length_nil]; omega)
    have en : cutD (row.map rD) none (some ((putP (wt row (p - 1) + wt row p) ((row.map (·.1)).take (p - 1)) : Nat) : Int)) ++ [D.tup [.int (wt row (p - 1) + wt row p), .lst ((jn row (p - 1)).map D.int ++ (jn row p).map D.int)]] ++ cutD (row.map rD) (some ((putP (wt row (p - 1) + wt row p) ((row.map (·.1)).take (p - 1)) : Nat) : Int)) (some ((p : Int) - 1)) ++ cutD (row.map rD) (some ((p : Int) + 1)) none = (nextRow row).map rD := by
      have z : rD (wt row (p - 1) + wt row p, jn row (p - 1) ++ jn row p) = D.tup [.int (wt row (p - 1) + wt row p), .lst ((jn row (p - 1)).map D.int ++ (jn row p).map D.int)] := by rw [← List.map_append]
      rw [c1', c2', c3', nr, ← z]
      simp only [List.map_append, List.map_take, List.map_drop, List.map_cons, List.map_nil]
    refine for_inv (fun i e => ∃ c10, e = [.val (.tup (ws.map D.int)), .val (.int (putP (wt row (p - 1) + wt row p) ((row.map (·.1)).take (p - 1)))), .own none (.lst ((nextRow row).map rD)), .own none (.lst (fs.map rec3)), .own none (.lst ((((jn row (p - 1) ++ jn row p).take i).foldl bump (depthsR (List.replicate ws.length 0) fs)).map D.int)), .val (.int p), .own none (.lst ((rangeD 1 (((row.map rD).length : Int) - 1).toNat).filter (fun d => match d with
      | .int k => decide (k = (row.length : Int) - 1) || decide (wt row (k - 1).toNat ≤ wt row (k + 1).toNat)
      | _ => false))), .val (.int (wt row (p - 1) + wt row p)), .val (.lst ((jn row (p - 1)).map D.int ++ (jn row p).map D.int)), .own none (.lst (((rangeD 0 ((p : Int) - 1).toNat).filter (fun d => match d with
      | .int k => decide (wt row k.toNat ≥ wt row (p - 1) + wt row p)
      | _ => false)).map (fun d => match d with
      | .int k => .int (k + 1)
      | d => d))), c10, .un, .un]) 0 ?_ ⟨c10, ?_⟩ ?_
    · rintro i d e hd ⟨c10, rfl⟩ n hn
      rw [Nat.zero_add] at *
      rw [← List.map_append, List.getElem?_map] at hd
      obtain ⟨z, hz, rfl⟩ := Option.map_eq_some_iff.mp hd
      have zm : 0 ≤ z ∧ z < ws.length := by
        rcases List.mem_append.mp (List.mem_of_getElem? hz) with q | q
        · exact hr.jn_in (i := p - 1) (by omega) z q
        · exact hr.jn_in (i := p) (by omega) z q
      have dl : (((jn row (p - 1) ++ jn row p).take i).foldl bump (depthsR (List.replicate ws.length 0) fs)).length = ws.length := by rw [bumps_len, depthsR_len, List.length_replicate]
      have zl : z < (((jn row (p - 1) ++ jn row p).take i).foldl bump (depthsR (List.replicate ws.length 0) fs)).length := by rw [dl]; exact zm.2
      refine someK_i (atI_int zm.1 zl) ⟨trivial, someK_i (ixN_in zm.1 (by rw [List.length_map]; exact zl)) (hn _ ⟨.val (.int z), ?_⟩)⟩
      rw [List.take_add_one, hz, List.foldl_append]
      show _ = [_, _, _, _, C.own none (.lst ((bump (((jn row (p - 1) ++ jn row p).take i).foldl bump (depthsR (List.replicate ws.length 0) fs)) z).map D.int)), _, _, _, _, _, _, _, _]
      rw [bump_map zm.1 zl]
      rfl
    · rw [← en]
      rfl
    · rintro e ⟨c10, rfl⟩
      refine ⟨trivial, szk 3, ?_, ?_⟩
      · rw [List.length_map]; exact Nat.lt_of_le_of_lt (m := 24) (by omega) (by decide)
      refine ⟨(nextRow row).length, by rw [nextRow_len h2]; omega, nextRow row, fs ++ [recOf row], ?c1, some (.int p), ?c6, ?c7, ?c8, ?c9, c10, ?eq, hr.next h2, ?r1, ?r2, rfl⟩
      case eq =>
        have tk : ∀ n, (jn row (p - 1)).length + (jn row p).length ≤ n → (jn row (p - 1) ++ jn row p).take n = jn row (p - 1) ++ jn row p := fun n hn => List.take_of_length_le (by rw [List.length_append]; exact hn)
        rw [depthsR_snoc, er, List.map_append, tk _ (by simp)]
        rfl
      case r1 =>
        rw [← hf, nextRow_len h2, show row.length - 1 = (row.length - 2) + 1 by omega, List.append_assoc]
        rfl
      case r2 => rw [nextRow_len h2, List.length_append, List.length_singleton]; omega
  · have e1 : ¬ ((row.map rD).length : Int) > 1 := e1
    rw [List.length_map] at e1
    have : row.length = 1 := by have := hr.two; omega
    rw [this] at hf
    have hf : fs ++ [] = stepsOf ws := hf
    rw [List.append_nil] at hf
    refine ⟨szk 2, _, _, rfl, rfl, ?_⟩
    rw [hf]
    exact h
end K23
namespace K23
open PySem PySem.Spec PyProof.Rows L2 FL
theorem DeckOk.up {n m : Nat} {d : D} (h : DeckOk n d) (hm : n ≤ m) : DeckOk m d := by
  obtain ⟨g, a, t, rfl, h0, h1, h2⟩ := h
  exact ⟨g, a, t, rfl, h0, h1, by omega⟩
theorem lc_ints {vs : List Nat} {g : Tg} {w : WE} {Q : List D → En → Prop} {e : En} {xs : List D} (hz : xs.length ≤ 1000)
    (step : ∀ d ∈ xs, ∃ (y : Int) (e' : En), 0 ≤ y ∧ wipeE vs e' = e ∧ ∀ A : D → En → Prop, A (.int y) e' → setT (fun e1 => w e1 (fun tk e3 => lcK A e3 tk) noX) e g d)
    (hk : ∀ us : List Int, us.length = xs.length → (∀ x ∈ us, 0 ≤ x) → Q (us.map D.int) e) : lcR vs g wYes w Q xs [] e := by
  refine lc_inv (fun i acc e2 => e2 = e ∧ ∃ us : List Int, acc = us.map D.int ∧ us.length = i ∧ ∀ x ∈ us, 0 ≤ x) 0 (Nat.le_refl _) (szk _ (by omega)) ?_ ⟨rfl, [], rfl, rfl, fun x hx => nomatch hx⟩ ?_
  · rintro i d acc e2 hd ⟨rfl, us, rfl, hl, h0⟩ A hA
    obtain ⟨y, e', hy, he, st⟩ := step d (List.mem_of_getElem? hd)
    refine st A (hA _ _ ⟨he, us ++ [y], by rw [List.map_append]; rfl, by rw [List.length_append, hl]; rfl, fun x hx => ?_⟩)
    rcases List.mem_append.mp hx with q | q
    · exact h0 x q
    · rw [List.mem_singleton.mp q]; exact hy
  · rintro acc e2 ⟨rfl, us, rfl, hl, h0⟩
    exact hk us (by omega) h0
theorem atI_any {ns : List Int} {i : Int} (h0 : -(ns.length : Int) ≤ i) (h1 : i < ns.length) : ∃ x ∈ ns, atI (ns.map D.int) i = some (.int x) := by
  by_cases hi : 0 ≤ i
  · exact ⟨_, List.getElem_mem _, atI_int hi h1⟩
  · refine ⟨ns[(i + ns.length).toNat]'(by omega), List.getElem_mem _, ?_⟩
    unfold atI ixN
    rw [if_neg hi, List.length_map, if_pos h0]
    show (ns.map D.int)[(i + ns.length).toNat]? = _
    rw [List.getElem?_map, List.getElem?_eq_getElem (by omega)]
    rfl
theorem ok__law_weights : ∀ cs Q x, sp__law_weights cs Q x → fnW 2 6 w__law_weights cs Q x := by
  rintro cs Q x ⟨n, d, many, rfl, hd, h1, h24, hn, h⟩
  refine ⟨rfl, nd1 0, n, d, 9, rfl, hd, by decide, by decide, by omega, fun way d1 hd1 w0 w1 => ⟨rfl, small_of (by omega) (by omega), ⟨trivial, trivial⟩, ?_⟩⟩
  refine lc_inv (fun i acc e => (∃ d', e = [.own (some 0) d', .val (.int many), .val (.int way), .un, .un, .un, .un, .un] ∧ DeckOk (n + 1 + 2 * i) d') ∧ ∃ fs : List Int, acc = fs.map D.int ∧ fs.length = i ∧ ∀ x ∈ fs, 0 ≤ x) 0 (Nat.le_refl _) (by rw [range_len]; exact szk _ (by omega)) ?_ ⟨⟨d1, rfl, hd1⟩, [], rfl, rfl, fun x hx => nomatch hx⟩ ?_
  · rintro i d' acc e hi ⟨⟨d2, rfl, hd2⟩, fs, rfl, hl, h0⟩ A hA
    obtain ⟨hi, rfl⟩ := range_at hi
    rw [Nat.zero_add] at *
    refine ⟨⟨by decide, by decide, by decide⟩, nd1 0, _, d2, _, rfl, hd2, by decide, by decide, by omega, fun r1 d3 hd3 a1 b1 => ⟨rfl, ⟨by decide, by decide, by decide⟩, .inr ⟨by decide, by decide⟩, ?_⟩⟩
    refine ⟨⟨by decide, by decide, by decide⟩, nd1 0, _, d3, _, rfl, hd3, by decide, by decide, by omega, fun r2 d4 hd4 a2 b2 => ⟨rfl, hA _ _ ⟨⟨d4, rfl, hd4⟩, fs ++ [r1 * 10 ^ Int.toNat 6 + r2], by rw [List.map_append]; rfl, by rw [List.length_append, hl]; rfl, fun x hx => ?_⟩⟩⟩
    rcases List.mem_append.mp hx with q | q
    · exact h0 x q
    · rw [List.mem_singleton.mp q]
      have : 0 ≤ r1 * 10 ^ Int.toNat 6 := Int.mul_nonneg a1 (by decide)
      omega
  rintro acc e ⟨⟨d', rfl, hd'⟩, fs, rfl, hl, h0⟩
  rw [Nat.zero_add, range_len] at *
  have hd' := hd'.up (m := n + 100) (by omega)
  have hlm : (fs.length : Int) = many := by omega
  have fin : ∀ us : List Int, us.length = fs.length → (∀ x ∈ us, 0 ≤ x) → Q (.new (.own none (.lst (us.map D.int)))) [.own (some 0) d', .val (.int many)] := fun us hu h0 => h us d' hd' (by omega) h0
  refine iteB (fun e => ?_) (fun e => ?_)
  · -- 1
    refine ⟨⟨trivial, trivial⟩, lc_ints (by rw [List.length_map]; omega) (fun d hd => ?_) fun us hu h0 => ⟨_, _, rfl, rfl, fin us (by rw [hu, List.length_map]) h0⟩⟩
    obtain ⟨z, hz, rfl⟩ := List.mem_map.mp hd
    exact ⟨z % 3, [.own (some 0) d', .val (.int many), .val (.int way), .val (.lst (fs.map D.int)), .un, .un, .un, .val (.int z)], Int.emod_nonneg _ (by decide), rfl, fun A hA => ⟨(show (0 : Int) < 3 by decide), hA⟩⟩
  refine iteB (fun e => ?_) (fun e => ?_)
  · -- 2
    refine ⟨⟨trivial, trivial⟩, lc_ints (by rw [List.length_map]; omega) (fun d hd => ?_) fun us hu h0 => ⟨_, _, rfl, rfl, fin us (by rw [hu, List.length_map]) h0⟩⟩
    obtain ⟨z, hz, rfl⟩ := List.mem_map.mp hd
    exact ⟨z % 10, [.own (some 0) d', .val (.int many), .val (.int way), .val (.lst (fs.map D.int)), .un, .un, .un, .val (.int z)], Int.emod_nonneg _ (by decide), rfl, fun A hA => ⟨(show (0 : Int) < 10 by decide), hA⟩⟩
  refine iteB (fun e => ?_) (fun e => ?_)
  · -- 3
    have c1 : cutD (fs.map D.int) none (some 1) = (fs.take 1).map D.int := by rw [cut_take (i := 1) (n := 1) rfl, List.map_take]
    refine ⟨by omega, by omega, ?_, _, _, rfl, rfl, ?_⟩
    · rw [c1, List.length_map, List.length_take]
      refine szk _ ?_
      have : min 1 fs.length = 1 := by omega
      rw [this]; omega
    · rw [c1]
      have e2 : (List.replicate many.toNat ((fs.take 1).map D.int)).flatten = (List.replicate many.toNat (fs.take 1)).flatten.map D.int := by
        rw [List.map_flatten, List.map_replicate]
      rw [e2]
      refine fin _ ?_ fun x hx => ?_
      · rw [List.length_flatten, List.map_replicate, List.sum_replicate_nat, List.length_take]
        have : min 1 fs.length = 1 := by omega
        rw [this]; omega
      · obtain ⟨l, hl', hx⟩ := List.mem_flatten.mp hx
        rw [List.eq_of_mem_replicate hl'] at hx
        exact h0 x (List.mem_of_mem_take hx)
  refine iteB (fun e => ?_) (fun e => ?_)
  · -- 4
    refine ⟨small_of (by omega) (by omega), ⟨trivial, trivial⟩, lc_ints (by rw [range_len]; omega) (fun d hd => ?_) fun us hu h0 => ⟨_, _, rfl, rfl, fin us (by rw [hu, range_len]; omega) h0⟩⟩
    obtain ⟨i, hi, rfl⟩ := range_mem hd
    refine ⟨1 * 2 ^ ((0 : Int) + i).toNat, [.own (some 0) d', .val (.int many), .val (.int way), .own none (.lst (fs.map D.int)), .un, .un, .val (.int (0 + i)), .un], Int.mul_nonneg (by decide) (Int.pow_nonneg (by decide)), rfl, fun A hA => ⟨?_, hA⟩⟩
    rw [Int.zero_add]
    exact shl_ok (n := 1) (by decide) (by omega)
  refine iteB (fun e => ?_) (fun e => ?_)
  · -- 5
    refine ⟨szk 2, fun m e => ∃ (pre : List Int) (a b : Int), e = [.own (some 0) d', .val (.int many), .val (.int way), .own none (.lst (fs.map D.int)), .own none (.lst ((pre ++ [a, b]).map D.int)), .un, .un, .un] ∧ (∀ x ∈ pre ++ [a, b], 0 ≤ x) ∧ pre.length ≤ 24 ∧ m + pre.length = 24, ⟨24, [], 1, 1, rfl, by decide, by decide, rfl⟩, ?_⟩
    rintro m e ⟨pre, a, b, rfl, hp, hl2, hm⟩
    have ln : ((pre ++ [a, b]).map D.int).length = pre.length + 2 := by simp
    refine iteB (fun e2 => ?_) (fun e2 => ?_)
    · have e2 : ((((pre ++ [a, b]).map D.int).length : Nat) : Int) < many := e2
      rw [ln] at e2
      have q1 : atI ((pre ++ [a, b]).map D.int) (-1) = some (.int b) := by
        rw [show (pre ++ [a, b]).map D.int = (pre ++ [a]).map D.int ++ [.int b] by simp]
        exact atI_last _ _
      have q2 : atI ((pre ++ [a, b]).map D.int) (-2) = some (.int a) := by
        rw [List.map_append]
        exact atI_last2 _ _ _
      refine ⟨trivial, someK_i q1 (someK_i q2 ⟨?_, ?_⟩)⟩
      · rw [ln]; exact Nat.lt_of_le_of_lt (m := 26) (by omega) (by decide)
      · have ha := hp a (by simp)
        have hb := hp b (by simp)
        refine ⟨m - 1, by omega, pre ++ [a], b, b + a, by simp, fun x hx => ?_, by simp; omega, by simp; omega⟩
        simp only [List.append_assoc, List.mem_append, List.mem_cons, List.not_mem_nil, or_false, List.cons_append, List.nil_append] at hx
        rcases hx with q | q | q | q
        · exact hp x (by simp [q])
        · omega
        · omega
        · omega
    · have e2 : ¬ ((((pre ++ [a, b]).map D.int).length : Nat) : Int) < many := e2
      rw [ln] at e2
      refine ⟨_, _, rfl, rfl, ?_⟩
      have c1 : cutD ((pre ++ [a, b]).map D.int) none (some many) = ((pre ++ [a, b]).take fs.length).map D.int := by rw [cut_take (n := fs.length) hlm.symm, List.map_take]
      rw [c1]
      exact fin _ (by rw [List.length_take]; simp; omega) fun x hx => hp x (List.mem_of_mem_take hx)
  refine iteB (fun e => ?_) (fun e => ?_)
  · -- 6
    have key : ∀ (us : List Int) (k : Nat) (d : D), (∀ x ∈ us, 0 ≤ x) → d ∈ enumD k (us.map D.int) → ∃ (i : Nat) (z : Int), d = .tup [.int i, .int z] ∧ 0 ≤ z := by
      intro us
      induction us with
      | nil => intro k d _ hk; cases hk
      | cons u r ih =>
        intro k d h0 hk
        rcases List.mem_cons.mp hk with z | z
        · exact ⟨k, u, z, h0 u List.mem_cons_self⟩
        · exact ih _ _ (fun x hx => h0 x (List.mem_cons_of_mem _ hx)) z
    refine ⟨⟨trivial, trivial, trivial⟩, lc_ints (by rw [enumD_length, List.length_map]; omega) (fun d hd => ?_) fun us hu h0 => ⟨_, _, rfl, rfl, fin us (by rw [hu, enumD_length, List.length_map]) h0⟩⟩
    obtain ⟨i, z, rfl, hz⟩ := key fs 0 d h0 hd
    have q : (i : Int) % 2 = 0 ∨ (i : Int) % 2 = 1 := by omega
    rcases q with q | q
    · exact ⟨z % 5, [.own (some 0) d', .val (.int many), .val (.int way), .val (.lst (fs.map D.int)), .un, .un, .val (.int i), .val (.int z)], Int.emod_nonneg _ (by decide), rfl, fun A hA => ⟨rfl, (show (0 : Int) < 5 by decide), (show (0 : Int) < 1000 by decide), szk 2, (show (0 : Int) < 2 by decide), someK_i (by rw [q]; rfl) hA⟩⟩
    · exact ⟨z % 1000, [.own (some 0) d', .val (.int many), .val (.int way), .val (.lst (fs.map D.int)), .un, .un, .val (.int i), .val (.int z)], Int.emod_nonneg _ (by decide), rfl, fun A hA => ⟨rfl, (show (0 : Int) < 5 by decide), (show (0 : Int) < 1000 by decide), szk 2, (show (0 : Int) < 2 by decide), someK_i (by rw [q]; rfl) hA⟩⟩
  refine iteB (fun e => ?_) (fun e => ?_)
  · -- 7
    refine someK_i (atI_int (i := 0) (by decide) (by omega)) ⟨(show (0 : Int) < many + 1 by omega), ?_⟩
    generalize fs[(0 : Int).toNat]'(by simp; omega) = z
    have a0 : 0 ≤ z % (many + 1) := Int.emod_nonneg _ (by omega)
    have a1 : z % (many + 1) < many + 1 := Int.emod_lt_of_pos _ (by omega)
    obtain ⟨k, hk⟩ : ∃ k : Nat, z % (many + 1) = k := ⟨(z % (many + 1)).toNat, by omega⟩
    have c1 : cutD (fs.map D.int) none (some (z % (many + 1))) = (fs.take k).map D.int := by rw [cut_take (n := k) hk, List.map_take]
    have c2 : cutD (fs.map D.int) (some (z % (many + 1))) none = (fs.drop k).map D.int := by rw [cut_drop (n := k) hk, List.map_drop]
    refine someK_i (a := fs.take k) (by rw [c1]; exact intsD_map _) fun js p1 o1 => someK_i (a := fs.drop k) (by rw [c2]; exact intsD_map _) fun ks p2 o2 => ⟨?_, _, _, rfl, rfl, ?_⟩
    · rw [List.length_reverse, List.length_map, List.length_map, p1.length_eq, p2.length_eq, List.length_take, List.length_drop]
      exact szk _ (by omega)
    · rw [← List.map_reverse, ← List.map_append]
      refine fin _ ?_ fun x hx => ?_
      · rw [List.length_append, List.length_reverse, p1.length_eq, p2.length_eq, List.length_take, List.length_drop]; omega
      · rcases List.mem_append.mp hx with q | q
        · exact h0 x (List.mem_of_mem_take (p1.mem_iff.mp (List.mem_reverse.mp q)))
        · exact h0 x (List.mem_of_mem_drop (p2.mem_iff.mp q))
  refine iteB (fun e => ?_) (fun e => ?_)
  · -- 8
    refine ⟨⟨trivial, trivial⟩, lc_ints (by rw [List.length_map]; omega) (fun d hd => ?_) fun us hu h0 => ⟨_, _, rfl, rfl, fin us (by rw [hu, List.length_map]) h0⟩⟩
    obtain ⟨z, hz, rfl⟩ := List.mem_map.mp hd
    have := Int.emod_lt_of_pos z (show (0 : Int) < 2 by decide)
    have p12 : (10 : Int) ^ Int.toNat 12 = 1000000000000 := by decide
    exact ⟨10 ^ Int.toNat 12 - 1 - z % 2, [.own (some 0) d', .val (.int many), .val (.int way), .val (.lst (fs.map D.int)), .un, .un, .un, .val (.int z)], by omega, rfl, fun A hA => ⟨⟨by decide, by decide, by decide⟩, (show (0 : Int) < 2 by decide), hA⟩⟩
  exact ⟨_, _, rfl, rfl, fin fs rfl h0⟩
theorem ok__law_heaps : ∀ cs Q x, sp__law_heaps cs Q x → fnW 2 4 w__law_heaps cs Q x := by
  rintro cs Q x ⟨n, d, most, rfl, hd, h4, h24, hn, h⟩
  refine ⟨rfl, nd1 0, n, d, most, rfl, hd, by omega, by omega, by omega, fun r1 d1 hd1 a1 b1 => ⟨rfl, ?_⟩⟩
  have mn : 1 ≤ (if most < 4 then most else 4) ∧ (if most < 4 then most else 4) ≤ most := by split <;> omega
  refine ⟨nd1 0, _, d1, _, rfl, hd1, mn.1, by omega, by omega, fun r2 d2 hd2 a2 b2 => ⟨rfl, szk 3, ?_⟩⟩
  refine ⟨nd1 0, _, d2, 3, rfl, hd2, by decide, by decide, by omega, fun r3 d3 hd3 a3 b3 => ⟨rfl, ?_⟩⟩
  have i3 : ∃ c, atI [D.int (1 + r1), D.int most, D.int (1 + r2)] r3 = some (.int c) ∧ 1 ≤ c ∧ c ≤ most := by
    have q : r3 = 0 ∨ r3 = 1 ∨ r3 = 2 := by omega
    rcases q with q | q | q
    · rw [q]; exact ⟨1 + r1, rfl, by omega, by omega⟩
    · rw [q]; exact ⟨most, rfl, by omega, by omega⟩
    · rw [q]; exact ⟨1 + r2, rfl, by omega, by omega⟩
  obtain ⟨many, i3, m0, m1⟩ := i3
  refine someK_i i3 ⟨nd1 0, _, d3, many, rfl, hd3, m0, by omega, by omega, fun ws d4 hd4 hl h0 => ⟨rfl, ?_⟩⟩
  -- the second half, whatever the first one left
  have rest : ∀ (ws : List Int) (d5 : D), DeckOk (n + 104) d5 → (ws.length : Int) = many → (∀ x ∈ ws, 0 ≤ x) →
      wSeq (wIfS (wB (wOp fEq (wCall sp__law_draw (wACons (wNm 0) (wACons (wC (.int 4)) wANil))) (wC (.int 0)))) (wSeq (wSet 4 (wCall sp__law_draw (wACons (wNm 0) (wACons (wFr (wNm 2)) wANil))))
        (wSeq (wSet 5 (wLst (wACons (wC (.int 0)) (wACons (wOp fIx (wNm 3) (wOp fSub (wNm 4) (wC (.int 1)))) (wACons (wCa fMin (wACons (wOp fSub (wOp fPow (wC (.int 10)) (wC (.int 12))) (wC (.int 1))) (wACons (wOp fAdd (wOp fIx (wNm 3) (wNm 4)) (wC (.int 1))) wANil))) (wACons (wFr (wCall sp__law_draw (wACons (wNm 0) (wACons (wOp fPow (wC (.int 10)) (wC (.int 6))) wANil)))) wANil))))))
        (wStIt 3 (wOp fIx (wNm 5) (wCall sp__law_draw (wACons (wNm 0) (wACons (wC (.int 4)) wANil)))) (wNm 4)))) wNx)
        (wRet (wCa fTuple (wACons (wNm 3) wANil)))
        [.own (some 0) d5, .val (.int most), .val (.int many), .own none (.lst (ws.map D.int)), .un, .un] (retK [.own (some 0) d, .val (.int most)] Q x) := by
    intro ws d5 hd5 hl h0
    refine ⟨nd1 0, _, d5, 4, rfl, hd5, by decide, by decide, by omega, fun r4 d6 hd6 a4 b4 => ⟨rfl, iteB (fun e => ?_) (fun e => ?_)⟩⟩
    · refine ⟨nd1 0, _, d6, many, rfl, hd6, m0, by omega, by omega, fun at' d7 hd7 a5 b5 => ⟨rfl, ?_⟩⟩
      obtain ⟨x1, hx1, g1⟩ := atI_any (ns := ws) (i := at' - 1) (by omega) (by omega)
      have g2 := atI_int (ns := ws) (i := at') a5 (by omega)
      have p12 : (10 : Int) ^ Int.toNat 12 = 1000000000000 := by decide
      have n1 := h0 x1 hx1
      have n2 := h0 _ (List.getElem_mem (l := ws) (n := at'.toNat) (by omega))
      refine someK_i g1 ⟨⟨by decide, by decide, by decide⟩, someK_i g2 ?_⟩
      refine ⟨⟨by decide, by decide, by decide⟩, nd1 0, _, d7, _, rfl, hd7, by decide, by decide, by omega, fun r6 d8 hd8 a6 b6 => ⟨rfl, szk 4, ?_⟩⟩
      refine ⟨nd1 0, _, d8, 4, rfl, hd8, by decide, by decide, by omega, fun r7 d9 hd9 a7 b7 => ⟨rfl, ?_⟩⟩
      have i4 : ∃ c, atI [D.int 0, D.int x1, D.int (if ws[at'.toNat]'(by omega) + 1 < 10 ^ Int.toNat 12 - 1 then ws[at'.toNat]'(by omega) + 1 else 10 ^ Int.toNat 12 - 1), D.int r6] r7 = some (.int c) ∧ 0 ≤ c := by
        have q : r7 = 0 ∨ r7 = 1 ∨ r7 = 2 ∨ r7 = 3 := by omega
        rcases q with q | q | q | q
        · rw [q]; exact ⟨0, rfl, by omega⟩
        · rw [q]; exact ⟨x1, rfl, by omega⟩
        · rw [q]; exact ⟨_, rfl, by split <;> omega⟩
        · rw [q]; exact ⟨r6, rfl, by omega⟩
      obtain ⟨y, i4, hy⟩ := i4
      refine someK_i i4 ⟨trivial, someK_i (ixN_in a5 (by rw [List.length_map]; omega)) ⟨_, _, rfl, rfl, ?_⟩⟩
      rw [← List.map_set]
      refine h _ _ (hd9.up (by omega)) (by rw [List.length_set]; omega) (by rw [List.length_set]; omega) fun x hx => ?_
      rcases List.mem_or_eq_of_mem_set hx with q | q
      · exact h0 x q
      · omega
    · exact ⟨_, _, rfl, rfl, h ws d6 (hd6.up (by omega)) (by omega) (by omega) h0⟩
  refine ⟨nd1 0, _, d4, 2, rfl, hd4, by decide, by decide, by omega, fun r4 d5 hd5 a4 b4 => ⟨rfl, iteB (fun e => ?_) (fun e => ?_)⟩⟩
  · have q := rest ws.reverse d5 (hd5.up (by omega)) (by rw [List.length_reverse]; exact hl) fun x hx => h0 x (List.mem_reverse.mp hx)
    rw [List.map_reverse] at q
    exact q
  · exact rest ws d5 (hd5.up (by omega)) hl h0
end K23
namespace K23
open PySem PySem.Spec PyProof.Rows L2 FL
theorem runAll_in {n : Nat} : ∀ (m : Nat) (row : RowT), RowOk n row → m + 1 = row.length → ∀ r ∈ runAll m row, (∀ x ∈ r.2.2.2, 0 ≤ x ∧ x < n) ∧ r.2.2.2.length ≤ 2 * n
  | 0, _, _, _, r, hr => nomatch hr
  | m + 1, row, ok, hl, r, hr => by
    have p1 := stepP_pos (row.map (·.1))
    have p2 := stepP_lt (row.map (·.1)) (by rw [List.length_map]; omega)
    rw [List.length_map] at p2
    rcases List.mem_cons.mp hr with q | q
    · subst q
      have ej : (recOf row).2.2.2 = jn row (stepP (row.map (·.1)) - 1) ++ jn row (stepP (row.map (·.1))) := rfl
      rw [ej]
      refine ⟨fun x hx => ?_, ?_⟩
      · rcases List.mem_append.mp hx with q | q
        · exact ok.jn_in (by omega) x q
        · exact ok.jn_in p2 x q
      · rw [List.length_append]
        have := ok.jn_len (i := stepP (row.map (·.1)) - 1) (by omega)
        have := ok.jn_len p2
        omega
    · exact runAll_in m (nextRow row) (ok.next (by omega)) (by rw [nextRow_len (by omega)]; omega) r q
theorem ok_depths_by_steps : ∀ cs Q x, sp_depths_by_steps cs Q x → fnW 1 6 w_depths_by_steps cs Q x := by
  rintro cs Q x ⟨ws, rfl, h1, h24, h⟩
  refine ⟨rfl, szk 1, by rw [List.length_map]; omega, by rw [List.length_map]; omega, szk _ (by simp; omega), ?_⟩
  refine ⟨nd0, ws, rfl, h1, h24, rfl, ?_⟩
  have e0 : (depthsR (List.replicate ws.length 0) []).map D.int = (List.replicate (Int.toNat (((ws.map D.int).length : Nat) : Int)) [D.int 0]).flatten := by
    rw [rep_ints, Int.toNat_natCast, List.length_map]; rfl
  refine for_inv (fun i e => ∃ c2 c3 c4 c5 c6, e = [.val (.tup (ws.map D.int)), .own none (.lst ((depthsR (List.replicate ws.length 0) ((stepsOf ws).take i)).map D.int)), c2, c3, c4, c5, c6]) 0 ?_ ⟨.un, .un, .un, .un, .un, ?_⟩ ?_
  · rintro i d e hd ⟨c2, c3, c4, c5, c6, rfl⟩ n hn
    rw [List.getElem?_map] at hd
    obtain ⟨r, hr, rfl⟩ := Option.map_eq_some_iff.mp hd
    obtain ⟨rin, rlen⟩ := runAll_in (n := ws.length) (ws.length - 1) (rowOf ws) (rowOf_ok h1 h24) (by rw [rowOf_len]; omega) r (List.mem_of_getElem? hr)
    rw [Nat.zero_add] at *
    refine ⟨rfl, ?_⟩
    refine for_inv (fun j e => ∃ c6, e = [.val (.tup (ws.map D.int)), .own none (.lst (((r.2.2.2.take j).foldl bump (depthsR (List.replicate ws.length 0) ((stepsOf ws).take i))).map D.int)), .val (.int r.1), .val (.int r.2.1), .val (.int r.2.2.1), .val (.lst (r.2.2.2.map D.int)), c6]) 0 ?_ ⟨c6, rfl⟩ ?_
    · rintro j d e hd ⟨c6, rfl⟩ n hn
      rw [Nat.zero_add] at hn ⊢
      rw [List.getElem?_map] at hd
      obtain ⟨z, hz, rfl⟩ := Option.map_eq_some_iff.mp hd
      have zm := rin z (List.mem_of_getElem? hz)
      have zl : z < ((r.2.2.2.take j).foldl bump (depthsR (List.replicate ws.length 0) ((stepsOf ws).take i))).length := by rw [bumps_len, depthsR_len, List.length_replicate]; exact zm.2
      refine someK_i (atI_int zm.1 zl) ⟨trivial, someK_i (ixN_in zm.1 (by rw [List.length_map]; exact zl)) (hn _ ⟨.val (.int z), ?_⟩)⟩
      rw [List.take_add_one, hz, List.foldl_append]
      show _ = [_, C.own none (.lst ((bump ((r.2.2.2.take j).foldl bump (depthsR (List.replicate ws.length 0) ((stepsOf ws).take i))) z).map D.int)), _, _, _, _, _]
      rw [bump_map zm.1 zl]
      rfl
    · rintro e ⟨c6, rfl⟩
      refine hn _ ⟨.val (.int r.1), .val (.int r.2.1), .val (.int r.2.2.1), .val (.lst (r.2.2.2.map D.int)), c6, ?_⟩
      rw [List.take_add_one, hr, Nat.zero_add, List.take_of_length_le (l := r.2.2.2) (by simp)]
      show _ = [_, C.own none (.lst ((depthsR (List.replicate ws.length 0) ((stepsOf ws).take i ++ [r])).map D.int)), _, _, _, _, _]
      rw [depthsR_snoc]
  · rw [List.take_zero, e0]; rfl
  · rintro e ⟨c2, c3, c4, c5, c6, rfl⟩
    refine ⟨_, _, rfl, rfl, ?_⟩
    rw [Nat.zero_add, List.length_map, List.take_length]
    exact h
theorem dep_flat (ds : List Int) (h : ds.length ≤ 24) : flat 2 (.tup (ds.map D.int)) := by
  refine ⟨by rw [List.length_map]; omega, fun x hx => ?_⟩
  obtain ⟨r, _, rfl⟩ := List.mem_map.mp hx
  trivial
theorem dep_shp (ds : List Int) : shp (.tup (ds.map D.int)) := by
  refine shp_of (n := 1) (fun x hx => ?_) (by decide)
  obtain ⟨r, _, rfl⟩ := List.mem_map.mp hx
  trivial
theorem depthsOf_len (ws : List Int) : (depthsOf ws).length = ws.length := by unfold depthsOf; rw [depthsR_len, List.length_replicate]
theorem ok_law : ∀ cs Q x, sp_law cs Q x → fnW 1 5 w_law cs Q x := by
  rintro cs Q x ⟨ns, rfl, hl, hb, h⟩
  refine ⟨rfl, nd0, ns, rfl, hl, hb, fun d hd => ⟨rfl, small_of (by decide) (by decide), ?_⟩⟩
  refine for_inv (fun i e => ∃ d c2 c3 c4 c5, e = [.val (.frl (ns.map D.int)), .own none d, c2, c3, c4, c5] ∧ DeckOk (200 * i) d) 0 ?_ ⟨d, .un, .un, .un, .un, rfl, hd⟩ ?_
  · rintro i d0 e hi ⟨d, c2, c3, c4, c5, rfl, hd⟩ n hn
    obtain ⟨hi6, rfl⟩ := range_at hi
    have hi6 : i < 6 := hi6
    rw [Nat.zero_add] at hd hn
    have i6 : ∃ c, atI [D.int 24, D.int 24, D.int 12, D.int 12, D.int 6, D.int 4] (0 + (i : Int)) = some (.int c) ∧ 4 ≤ c ∧ c ≤ 24 := by
      match i, hi6 with
      | 0, _ => exact ⟨24, rfl, by decide, by decide⟩
      | 1, _ => exact ⟨24, rfl, by decide, by decide⟩
      | 2, _ => exact ⟨12, rfl, by decide, by decide⟩
      | 3, _ => exact ⟨12, rfl, by decide, by decide⟩
      | 4, _ => exact ⟨6, rfl, by decide, by decide⟩
      | 5, _ => exact ⟨4, rfl, by decide, by decide⟩
    obtain ⟨c, i6, c0, c1⟩ := i6
    refine ⟨szk 6, someK_i i6 ⟨nd1 1, _, d, c, rfl, hd, c0, c1, by omega, fun ws d' hd' l1 l2 h0 => ⟨rfl, ?_⟩⟩⟩
    have l24 : ws.length ≤ 24 := by omega
    refine ⟨nd0, ws, rfl, l1, l24, rfl, rfl, ?_⟩
    refine ⟨nd0, ws, rfl, l1, l24, rfl, nd0, _, rfl, by decide, dep_flat _ (by rw [depthsOf_len]; omega), rfl, ?_⟩
    refine ⟨nd0, ws, rfl, l1, l24, rfl, dep_shp _, dep_shp _, ?_⟩
    refine iteF' (by rw [eqD_refl (dep_shp _)]; rfl) (hn _ ⟨d', _, _, _, _, rfl, hd'.up (by omega)⟩)
  · rintro e ⟨d, c2, c3, c4, c5, rfl, hd⟩
    refine ⟨szk 1, nd0, [5], rfl, by decide, by decide, rfl, szk 1, dep_shp _, ⟨rfl, rfl⟩, ?_⟩
    refine ⟨szk 4, nd0, [1, 1, 2, 4], rfl, by decide, by decide, rfl, szk 4, dep_shp _, ⟨rfl, rfl⟩, ?_⟩
    refine ⟨_, _, rfl, rfl, ?_⟩
    have e : eqD (.tup ((depthsOf [1, 1, 2, 4]).map D.int)) (.tup [.int 3, .int 3, .int 2, .int 1]) = true := by decide +kernel
    rw [e]
    exact h
theorem law_in (ns : List Int) (hl : ns.length ≤ 63) (hb : ∀ z ∈ ns, Builtin.Int.intBits z ≤ 1048576) : sp_law [.val (.frl (ns.map D.int))] (fun r _ => r = .val (.bl true)) fun _ _ => False := ⟨ns, rfl, hl, hb, rfl⟩
end K23
namespace K23
open PySem PySem.Spec PyProof.Rows L2 FL
theorem mf_put_place : MonoF sp_put_place := by
  intro cs Q Q' x x' hQ hx
  unfold sp_put_place
  repeat' first | exact id | exact hQ _ _ | exact hx _ _ | refine Exists.imp fun _ => ?_ | refine And.imp ?_ ?_ | refine forall_imp fun _ => ?_
theorem mf_step_place : MonoF sp_step_place := by
  intro cs Q Q' x x' hQ hx
  unfold sp_step_place
  repeat' first | exact id | exact hQ _ _ | exact hx _ _ | refine Exists.imp fun _ => ?_ | refine And.imp ?_ ?_ | refine forall_imp fun _ => ?_
theorem mf_all_steps : MonoF sp_all_steps := by
  intro cs Q Q' x x' hQ hx
  unfold sp_all_steps
  repeat' first | exact id | exact hQ _ _ | exact hx _ _ | refine Exists.imp fun _ => ?_ | refine And.imp ?_ ?_ | refine forall_imp fun _ => ?_
theorem mf_depths_by_steps : MonoF sp_depths_by_steps := by
  intro cs Q Q' x x' hQ hx
  unfold sp_depths_by_steps
  repeat' first | exact id | exact hQ _ _ | exact hx _ _ | refine Exists.imp fun _ => ?_ | refine And.imp ?_ ?_ | refine forall_imp fun _ => ?_
theorem mf__law_same (hh : Nat) : MonoF (sp__law_same hh) := by
  intro cs Q Q' x x' hQ hx
  unfold sp__law_same
  repeat' first | exact id | exact hQ _ _ | exact hx _ _ | refine Exists.imp fun _ => ?_ | refine And.imp ?_ ?_ | refine forall_imp fun _ => ?_
theorem mf__law_steps : MonoF sp__law_steps := by
  intro cs Q Q' x x' hQ hx
  unfold sp__law_steps
  repeat' first | exact id | exact hQ _ _ | exact hx _ _ | refine Exists.imp fun _ => ?_ | refine And.imp ?_ ?_ | refine forall_imp fun _ => ?_
theorem mf__law_draw : MonoF sp__law_draw := by
  intro cs Q Q' x x' hQ hx
  unfold sp__law_draw
  repeat' first | exact id | exact hQ _ _ | exact hx _ _ | refine Exists.imp fun _ => ?_ | refine And.imp ?_ ?_ | refine forall_imp fun _ => ?_
theorem mf__law_weights : MonoF sp__law_weights := by
  intro cs Q Q' x x' hQ hx
  unfold sp__law_weights
  repeat' first | exact id | exact hQ _ _ | exact hx _ _ | refine Exists.imp fun _ => ?_ | refine And.imp ?_ ?_ | refine forall_imp fun _ => ?_
theorem mf__law_heaps : MonoF sp__law_heaps := by
  intro cs Q Q' x x' hQ hx
  unfold sp__law_heaps
  repeat' first | exact id | exact hQ _ _ | exact hx _ _ | refine Exists.imp fun _ => ?_ | refine And.imp ?_ ?_ | refine forall_imp fun _ => ?_
theorem mf__law_deck : MonoF sp__law_deck := by
  intro cs Q Q' x x' hQ hx
  unfold sp__law_deck
  repeat' first | exact id | exact hQ _ _ | exact hx _ _ | refine Exists.imp fun _ => ?_ | refine And.imp ?_ ?_ | refine forall_imp fun _ => ?_
theorem mf_law : MonoF sp_law := by
  intro cs Q Q' x x' hQ hx
  unfold sp_law
  repeat' first | exact id | exact hQ _ _ | exact hx _ _ | refine Exists.imp fun _ => ?_ | refine And.imp ?_ ?_ | refine forall_imp fun _ => ?_
theorem all_mk {P : Program} {w : World} {K : PySem.W.Frag} {h : Heap} {mg : Str → Option Value} {fa : Addr} (X : K.In h) (G : h.Ns mainGlobals mg) (hfa : mg "law" = some (.ref fa))
    {f0 : Addr} {od0 an0 : Option Addr} {sl0 : Array (Option Value)} {oc0 kV0 dc0 pm0 cd0 ct0 : Value}
    (a0 : PySem.W.nsIn K mainGlobals "put_place" = some (some (.ref f0))) (l0 : K.lookup f0 = some ⟨oc0, od0, .func (PySem.W.fnOf "put_place" "put_place" (defArgs st_put_place) (defBody st_put_place) (defScope st_put_place) .none kV0 dc0 pm0 an0 cd0 ct0), sl0⟩) (c0 : PySem.W.codeIn K cd0 "put_place" = true) (k0 : PySem.W.keepIn K (.ref f0) = true)
    {f1 : Addr} {od1 an1 : Option Addr} {sl1 : Array (Option Value)} {oc1 kV1 dc1 pm1 cd1 ct1 : Value}
    (a1 : PySem.W.nsIn K mainGlobals "step_place" = some (some (.ref f1))) (l1 : K.lookup f1 = some ⟨oc1, od1, .func (PySem.W.fnOf "step_place" "step_place" (defArgs st_step_place) (defBody st_step_place) (defScope st_step_place) .none kV1 dc1 pm1 an1 cd1 ct1), sl1⟩) (c1 : PySem.W.codeIn K cd1 "step_place" = true) (k1 : PySem.W.keepIn K (.ref f1) = true)
    {f2 : Addr} {od2 an2 : Option Addr} {sl2 : Array (Option Value)} {oc2 kV2 dc2 pm2 cd2 ct2 : Value}
    (a2 : PySem.W.nsIn K mainGlobals "all_steps" = some (some (.ref f2))) (l2 : K.lookup f2 = some ⟨oc2, od2, .func (PySem.W.fnOf "all_steps" "all_steps" (defArgs st_all_steps) (defBody st_all_steps) (defScope st_all_steps) .none kV2 dc2 pm2 an2 cd2 ct2), sl2⟩) (c2 : PySem.W.codeIn K cd2 "all_steps" = true) (k2 : PySem.W.keepIn K (.ref f2) = true)
    {f3 : Addr} {od3 an3 : Option Addr} {sl3 : Array (Option Value)} {oc3 kV3 dc3 pm3 cd3 ct3 : Value}
    (a3 : PySem.W.nsIn K mainGlobals "depths_by_steps" = some (some (.ref f3))) (l3 : K.lookup f3 = some ⟨oc3, od3, .func (PySem.W.fnOf "depths_by_steps" "depths_by_steps" (defArgs st_depths_by_steps) (defBody st_depths_by_steps) (defScope st_depths_by_steps) .none kV3 dc3 pm3 an3 cd3 ct3), sl3⟩) (c3 : PySem.W.codeIn K cd3 "depths_by_steps" = true) (k3 : PySem.W.keepIn K (.ref f3) = true)
    {f4 : Addr} {od4 an4 : Option Addr} {sl4 : Array (Option Value)} {oc4 kV4 dc4 pm4 cd4 ct4 : Value}
    (a4 : PySem.W.nsIn K mainGlobals "_law_same" = some (some (.ref f4))) (l4 : K.lookup f4 = some ⟨oc4, od4, .func (PySem.W.fnOf "_law_same" "_law_same" (defArgs st__law_same) (defBody st__law_same) (defScope st__law_same) .none kV4 dc4 pm4 an4 cd4 ct4), sl4⟩) (c4 : PySem.W.codeIn K cd4 "_law_same" = true) (k4 : PySem.W.keepIn K (.ref f4) = true)
    {f5 : Addr} {od5 an5 : Option Addr} {sl5 : Array (Option Value)} {oc5 kV5 dc5 pm5 cd5 ct5 : Value}
    (a5 : PySem.W.nsIn K mainGlobals "_law_steps" = some (some (.ref f5))) (l5 : K.lookup f5 = some ⟨oc5, od5, .func (PySem.W.fnOf "_law_steps" "_law_steps" (defArgs st__law_steps) (defBody st__law_steps) (defScope st__law_steps) .none kV5 dc5 pm5 an5 cd5 ct5), sl5⟩) (c5 : PySem.W.codeIn K cd5 "_law_steps" = true) (k5 : PySem.W.keepIn K (.ref f5) = true)
    {f6 : Addr} {od6 an6 : Option Addr} {sl6 : Array (Option Value)} {oc6 kV6 dc6 pm6 cd6 ct6 : Value}
    (a6 : PySem.W.nsIn K mainGlobals "_law_draw" = some (some (.ref f6))) (l6 : K.lookup f6 = some ⟨oc6, od6, .func (PySem.W.fnOf "_law_draw" "_law_draw" (defArgs st__law_draw) (defBody st__law_draw) (defScope st__law_draw) .none kV6 dc6 pm6 an6 cd6 ct6), sl6⟩) (c6 : PySem.W.codeIn K cd6 "_law_draw" = true) (k6 : PySem.W.keepIn K (.ref f6) = true)
    {f7 : Addr} {od7 an7 : Option Addr} {sl7 : Array (Option Value)} {oc7 kV7 dc7 pm7 cd7 ct7 : Value}
    (a7 : PySem.W.nsIn K mainGlobals "_law_weights" = some (some (.ref f7))) (l7 : K.lookup f7 = some ⟨oc7, od7, .func (PySem.W.fnOf "_law_weights" "_law_weights" (defArgs st__law_weights) (defBody st__law_weights) (defScope st__law_weights) .none kV7 dc7 pm7 an7 cd7 ct7), sl7⟩) (c7 : PySem.W.codeIn K cd7 "_law_weights" = true) (k7 : PySem.W.keepIn K (.ref f7) = true)
    {f8 : Addr} {od8 an8 : Option Addr} {sl8 : Array (Option Value)} {oc8 kV8 dc8 pm8 cd8 ct8 : Value}
    (a8 : PySem.W.nsIn K mainGlobals "_law_heaps" = some (some (.ref f8))) (l8 : K.lookup f8 = some ⟨oc8, od8, .func (PySem.W.fnOf "_law_heaps" "_law_heaps" (defArgs st__law_heaps) (defBody st__law_heaps) (defScope st__law_heaps) .none kV8 dc8 pm8 an8 cd8 ct8), sl8⟩) (c8 : PySem.W.codeIn K cd8 "_law_heaps" = true) (k8 : PySem.W.keepIn K (.ref f8) = true)
    {f9 : Addr} {od9 an9 : Option Addr} {sl9 : Array (Option Value)} {oc9 kV9 dc9 pm9 cd9 ct9 : Value}
    (a9 : PySem.W.nsIn K mainGlobals "_law_deck" = some (some (.ref f9))) (l9 : K.lookup f9 = some ⟨oc9, od9, .func (PySem.W.fnOf "_law_deck" "_law_deck" (defArgs st__law_deck) (defBody st__law_deck) (defScope st__law_deck) .none kV9 dc9 pm9 an9 cd9 ct9), sl9⟩) (c9 : PySem.W.codeIn K cd9 "_law_deck" = true) (k9 : PySem.W.keepIn K (.ref f9) = true)
    {f10 : Addr} {od10 an10 : Option Addr} {sl10 : Array (Option Value)} {oc10 kV10 dc10 pm10 cd10 ct10 : Value}
    (a10 : PySem.W.nsIn K mainGlobals "law" = some (some (.ref f10))) (l10 : K.lookup f10 = some ⟨oc10, od10, .func (PySem.W.fnOf "law" "law" (defArgs st_law) (defBody st_law) (defScope st_law) .none kV10 dc10 pm10 an10 cd10 ct10), sl10⟩) (c10 : PySem.W.codeIn K cd10 "law" = true) (k10 : PySem.W.keepIn K (.ref f10) = true)
    (z_abs : PySem.W.nsIn K mainGlobals "abs" = some none) (z_bool : PySem.W.nsIn K mainGlobals "bool" = some none) (z_enumerate : PySem.W.nsIn K mainGlobals "enumerate" = some none) (z_int : PySem.W.nsIn K mainGlobals "int" = some none) (z_isinstance : PySem.W.nsIn K mainGlobals "isinstance" = some none) (z_len : PySem.W.nsIn K mainGlobals "len" = some none) (z_list : PySem.W.nsIn K mainGlobals "list" = some none) (z_min : PySem.W.nsIn K mainGlobals "min" = some none) (z_range : PySem.W.nsIn K mainGlobals "range" = some none) (z_sorted : PySem.W.nsIn K mainGlobals "sorted" = some none) (z_str : PySem.W.nsIn K mainGlobals "str" = some none) (z_tuple : PySem.W.nsIn K mainGlobals "tuple" = some none) (z_zip : PySem.W.nsIn K mainGlobals "zip" = some none)  :
    ∃ fd : FuncData, (∀ (s : Shared) (v : Value), BindsTo s fd ⟨[v], []⟩ [("script", v)]) ∧ ∀ base : Heap, K.In base → base.Ns mainGlobals mg → FnOk P w K mg base CX0 5 fa fd ["script"] (spF K sp_law) := by
  have e := hfa.symm.trans (PySem.W.mg_of X G a10)
  cases e
  have z_abs := PySem.W.mg_none_of X G z_abs
  have z_bool := PySem.W.mg_none_of X G z_bool
  have z_enumerate := PySem.W.mg_none_of X G z_enumerate
  have z_int := PySem.W.mg_none_of X G z_int
  have z_isinstance := PySem.W.mg_none_of X G z_isinstance
  have z_len := PySem.W.mg_none_of X G z_len
  have z_list := PySem.W.mg_none_of X G z_list
  have z_min := PySem.W.mg_none_of X G z_min
  have z_range := PySem.W.mg_none_of X G z_range
  have z_sorted := PySem.W.mg_none_of X G z_sorted
  have z_str := PySem.W.mg_none_of X G z_str
  have z_tuple := PySem.W.mg_none_of X G z_tuple
  have z_zip := PySem.W.mg_none_of X G z_zip
  have F0 := fun_mk (st := st_put_place) l0 c0 k0
  have F1 := fun_mk (st := st_step_place) l1 c1 k1
  have F2 := fun_mk (st := st_all_steps) l2 c2 k2
  have F3 := fun_mk (st := st_depths_by_steps) l3 c3 k3
  have F4 := fun_mk (st := st__law_same) l4 c4 k4
  have F5 := fun_mk (st := st__law_steps) l5 c5 k5
  have F6 := fun_mk (st := st__law_draw) l6 c6 k6
  have F7 := fun_mk (st := st__law_weights) l7 c7 k7
  have F8 := fun_mk (st := st__law_heaps) l8 c8 k8
  have F9 := fun_mk (st := st__law_deck) l9 c9 k9
  have F10 := fun_mk (st := st_law) l10 c10 k10
  refine ⟨PySem.W.fnOf "law" "law" (defArgs st_law) (defBody st_law) (defScope st_law) .none kV10 dc10 pm10 an10 cd10 ct10, fun s v => .of_eq rfl, fun base _ _ => ?_⟩
  have b0 := F0.binds (ps := ["weights", "place", "both"]) fun _ _ _ _ _ _ us hl => match us, hl with | [_, _, _], _ => rfl
  have C_put_place : Cal P w K mg base "put_place" 1 ["weights", "place", "both"] sp_put_place := cal_of (fn_go (k := 0) (n := 3) (m := 1) F0 sc_put_place rfl rfl (fun cdv A outer s H E hr => body_put_place z_range f0 cdv A outer s H E hr) ok_put_place) (PySem.W.mg_of X G a0) F0 b0 mf_put_place
  have b1 := F1.binds (ps := ["weights"]) fun _ _ _ _ _ _ us hl => match us, hl with | [_], _ => rfl
  have C_step_place : Cal P w K mg base "step_place" 1 ["weights"] sp_step_place := cal_of (fn_go (k := 0) (n := 1) (m := 1) F1 sc_step_place rfl rfl (fun cdv A outer s H E hr => body_step_place z_len f1 cdv A outer s H E hr) ok_step_place) (PySem.W.mg_of X G a1) F1 b1 mf_step_place
  have b2 := F2.binds (ps := ["heaps"]) fun _ _ _ _ _ _ us hl => match us, hl with | [_], _ => rfl
  have C_all_steps : Cal P w K mg base "all_steps" 2 ["heaps"] sp_all_steps := cal_of (fn_go (k := 1) (n := 1) (m := 7) F2 sc_all_steps rfl rfl (fun cdv A outer s H E hr => body_all_steps C_put_place (by omega) C_step_place (by omega) z_len z_range z_list f2 cdv A outer s H E hr) ok_all_steps) (PySem.W.mg_of X G a2) F2 b2 mf_all_steps
  have b3 := F3.binds (ps := ["heaps"]) fun _ _ _ _ _ _ us hl => match us, hl with | [_], _ => rfl
  have C_depths_by_steps : Cal P w K mg base "depths_by_steps" 3 ["heaps"] sp_depths_by_steps := cal_of (fn_go (k := 2) (n := 1) (m := 6) F3 sc_depths_by_steps rfl rfl (fun cdv A outer s H E hr => body_depths_by_steps C_all_steps (by omega) z_tuple z_len f3 cdv A outer s H E hr) ok_depths_by_steps) (PySem.W.mg_of X G a3) F3 b3 mf_depths_by_steps
  have b4 := F4.binds (ps := ["found", "due"]) fun _ _ _ _ _ _ us hl => match us, hl with | [_, _], _ => rfl
  have C__law_same : ∀ hh : Nat, Cal P w K mg base "_law_same" (1 + hh) ["found", "due"] (sp__law_same hh) := fun hh => by
    induction hh with
    | zero => exact cal_of (lv := 0 + 1) (fn_no F4 sc__law_same no__law_same) (PySem.W.mg_of X G a4) F4 b4 (mf__law_same 0)
    | succ hh ih => exact cal_of (lv := 1 + hh + 1) (fn_go (n := 2) (m := 2) F4 sc__law_same rfl rfl (fun cdv A outer s H E hr => body__law_same ih (Nat.le_refl _) z_int z_isinstance z_bool z_str z_tuple z_zip z_len f4 cdv A outer s H E hr) (ok__law_same hh)) (PySem.W.mg_of X G a4) F4 b4 (mf__law_same (hh + 1))
  have C__law_same := C__law_same 3
  have b5 := F5.binds (ps := ["heaps"]) fun _ _ _ _ _ _ us hl => match us, hl with | [_], _ => rfl
  have C__law_steps : Cal P w K mg base "_law_steps" 1 ["heaps"] sp__law_steps := cal_of (fn_go (k := 0) (n := 1) (m := 12) F5 sc__law_steps rfl rfl (fun cdv A outer s H E hr => body__law_steps z_tuple z_len z_range z_enumerate f5 cdv A outer s H E hr) ok__law_steps) (PySem.W.mg_of X G a5) F5 b5 mf__law_steps
  have b6 := F6.binds (ps := ["deck", "most"]) fun _ _ _ _ _ _ us hl => match us, hl with | [_, _], _ => rfl
  have C__law_draw : Cal P w K mg base "_law_draw" 1 ["deck", "most"] sp__law_draw := cal_of (fn_go (k := 0) (n := 2) (m := 3) F6 sc__law_draw rfl rfl (fun cdv A outer s H E hr => body__law_draw f6 cdv A outer s H E hr) ok__law_draw) (PySem.W.mg_of X G a6) F6 b6 mf__law_draw
  have b7 := F7.binds (ps := ["deck", "many"]) fun _ _ _ _ _ _ us hl => match us, hl with | [_, _], _ => rfl
  have C__law_weights : Cal P w K mg base "_law_weights" 2 ["deck", "many"] sp__law_weights := cal_of (fn_go (k := 1) (n := 2) (m := 6) F7 sc__law_weights rfl rfl (fun cdv A outer s H E hr => body__law_weights C__law_draw (by omega) z_sorted z_enumerate z_len z_range f7 cdv A outer s H E hr) ok__law_weights) (PySem.W.mg_of X G a7) F7 b7 mf__law_weights
  have b8 := F8.binds (ps := ["deck", "most"]) fun _ _ _ _ _ _ us hl => match us, hl with | [_, _], _ => rfl
  have C__law_heaps : Cal P w K mg base "_law_heaps" 3 ["deck", "most"] sp__law_heaps := cal_of (fn_go (k := 2) (n := 2) (m := 4) F8 sc__law_heaps rfl rfl (fun cdv A outer s H E hr => body__law_heaps C__law_draw (by omega) C__law_weights (by omega) z_tuple z_min f8 cdv A outer s H E hr) ok__law_heaps) (PySem.W.mg_of X G a8) F8 b8 mf__law_heaps
  have b9 := F9.binds (ps := ["script"]) fun _ _ _ _ _ _ us hl => match us, hl with | [_], _ => rfl
  have C__law_deck : Cal P w K mg base "_law_deck" 1 ["script"] sp__law_deck := cal_of (fn_go (k := 0) (n := 1) (m := 3) F9 sc__law_deck rfl rfl (fun cdv A outer s H E hr => body__law_deck z_abs z_len f9 cdv A outer s H E hr) ok__law_deck) (PySem.W.mg_of X G a9) F9 b9 mf__law_deck
  exact fn_go (k := 4) (n := 1) (m := 5) F10 sc_law rfl rfl (fun cdv A outer s H E hr => body_law C_depths_by_steps (by omega) C__law_same (by omega) C__law_steps (by omega) C__law_heaps (by omega) C__law_deck (by omega) z_range fa cdv A outer s H E hr) ok_law
end K23
open PySem PySem.W PyProof.Rows
set_option maxHeartbeats 0 in
theorem PySem.Challenge.cw_joinedheaps_k23_depths_by_steps_holds : PySem.Challenge.rw_joinedheaps_k23_depths_by_steps.Holds := by
  w_on; o_law; k_head; (case hw => w_witness2)
  k_fill
  refine L2.walk_ofB (l := PySem.Challenge.rw_joinedheaps_k23_depths_by_steps) (n := 63) (k := 5) (x := "script") (CX := fun _ => L2.CX0) (sp := fun w => FL.spF _ K23.sp_law) rfl (by decide) rfl ⟨rfl, by decide, by decide⟩ (fun w h Y => PySem.W.kIn_of Y) ?F (fun _ _ a ns hl hb _ hS => FL.sp_start (K23.law_in ns hl hb) K23.mf_law hS) (fun _ _ _ _ _ h => h)
  case F =>
    intro w mg fa h KX G hmg
    refine' K23.all_mk KX G hmg ?a0 ?l0 ?c0 ?k0 ?a1 ?l1 ?c1 ?k1 ?a2 ?l2 ?c2 ?k2 ?a3 ?l3 ?c3 ?k3 ?a4 ?l4 ?c4 ?k4 ?a5 ?l5 ?c5 ?k5 ?a6 ?l6 ?c6 ?k6 ?a7 ?l7 ?c7 ?k7 ?a8 ?l8 ?c8 ?k8 ?a9 ?l9 ?c9 ?k9 ?a10 ?l10 ?c10 ?k10 ?z_abs ?z_bool ?z_enumerate ?z_int ?z_isinstance ?z_len ?z_list ?z_min ?z_range ?z_sorted ?z_str ?z_tuple ?z_zip
    (case a0 => k_is); (case l0 => k_is); (case c0 => k_is); (case k0 => k_is); (case a1 => k_is); (case l1 => k_is); (case c1 => k_is); (case k1 => k_is); (case a2 => k_is); (case l2 => k_is); (case c2 => k_is); (case k2 => k_is); (case a3 => k_is); (case l3 => k_is); (case c3 => k_is); (case k3 => k_is); (case a4 => k_is); (case l4 => k_is); (case c4 => k_is); (case k4 => k_is); (case a5 => k_is); (case l5 => k_is); (case c5 => k_is); (case k5 => k_is); (case a6 => k_is); (case l6 => k_is); (case c6 => k_is); (case k6 => k_is); (case a7 => k_is); (case l7 => k_is); (case c7 => k_is); (case k7 => k_is); (case a8 => k_is); (case l8 => k_is); (case c8 => k_is); (case k8 => k_is); (case a9 => k_is); (case l9 => k_is); (case c9 => k_is); (case k9 => k_is); (case a10 => k_is); (case l10 => k_is); (case c10 => k_is); (case k10 => k_is); (case z_abs => k_is); (case z_bool => k_is); (case z_enumerate => k_is); (case z_int => k_is); (case z_isinstance => k_is); (case z_len => k_is); (case z_list => k_is); (case z_min => k_is); (case z_range => k_is); (case z_sorted => k_is); (case z_str => k_is); (case z_tuple => k_is); (case z_zip => k_is)
