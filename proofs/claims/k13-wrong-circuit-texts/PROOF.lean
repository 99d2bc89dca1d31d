import PyProof.Rows.All
import Wide.All
import OpenK.AllK
import Wide.FinOn
import HandS.ForMost
import HandS.ForExc
import HandS.Walk
import PyProof.Rows.TupDisplay
import HandS.IsInst
import HandS.Words
import HandS.ExcInit
import KE.KExcSuper
import KE.KSuper
import HandS.ExcIs
import HandS.ExcField
import HandS.TryOnly
import HandS.SetFor
import HandS.Strs
import HandS.Conv
import HandS.FStr
import KE.KExcIs
import HandS.Property
import HandS.SortKw
import PyProof.WalkInts
import KE.KMinKey
import HandS.Text
import HandS.RevRange
import HandS.Codes
import HandS.OwnEq
import HandS.More
import HandS.Wide
import KE.KeyNested
import HandS.TupLen
import HandS.Ends
import HandS.RaiseMore
import PyProof.ReprRoads
import HandS.TupAny
import HandS.Iter
import PyProof.EnumMake
import PyProof.Draws
import KE.GoesMore
import HandS.Lambda
import HandS.EndTab
import KE.KNestM
import KE.KLam
import HandS.SortInts
import PyProof.ListTruth
import PyProof.P3In
import KE.SortData
import PyProof.Rows.RuleM_int
import PyProof.LongRange
import HandS.ExcValue
import KE.DataMinMax
import HandS.MapJoin
import PySem.Challenge.RW_evergate_k13_wrong_circuit_texts
import KE.BitLaws
import PyProof.ReprLen
import PyProof.P3Eq
import KE.RegKSuper
set_option Elab.async false
set_option linter.all false
set_option maxRecDepth 100000
set_option maxHeartbeats 4000000
/-! Ty1 -/
namespace Ty
open PySem PySem.Spec L2

/-! ### slots: what is known of a value -/
structure Slot where
  P : Hp → Hp → List Addr → Option V → Prop
  mono : ∀ {F H F' H' : Hp} {fp : List Addr} {o : Option V}, Same F F' → Same H H' → P F H fp o → P F' H' fp o
  st : Prop
  mm : st → ∀ {F H F' H' : Hp} {fp : List Addr} {o : Option V}, Same F F' → (∀ a ∈ fp, H' a = H a) → P F H fp o → P F' H' fp o

inductive Slots (F H : Hp) : List Addr → List (Option V) → List Slot → Prop
  | nil : Slots F H [] [] []
  | cons {fp os : List Addr} {o : Option V} {σ : List (Option V)} {s : Slot} {Γ : List Slot} : s.P F H fp o → Slots F H os σ Γ → Slots F H (fp ++ os) (o :: σ) (s :: Γ)

theorem Slots.mono {F H F' H' : Hp} (hF : Same F F') (hH : Same H H') : ∀ {os σ Γ}, Slots F H os σ Γ → Slots F' H' os σ Γ
  | _, _, _, .nil => .nil
  | _, _, _, .cons p r => .cons (Slot.mono _ hF hH p) (Slots.mono hF hH r)

/-- all slots of the list bear a change elsewhere -/
def Stb (Γ : List Slot) : Prop := ∀ s ∈ Γ, s.st
theorem Stb.nil : Stb [] := fun _ h => nomatch h
theorem Stb.cons {s : Slot} {Γ : List Slot} (h : s.st) (r : Stb Γ) : Stb (s :: Γ) := fun x hx => by
  rcases List.mem_cons.mp hx with rfl | hx
  · exact h
  · exact r x hx
theorem Slots.mm {F H F' H' : Hp} (hF : Same F F') {os σ Γ} (h : Slots F H os σ Γ) : Stb Γ → (∀ a ∈ os, H' a = H a) → Slots F' H' os σ Γ := by
  induction h with
  | nil => intro _ _; exact .nil
  | @cons fp os o σ s Γ p r ih =>
    intro b k
    exact .cons (s.mm (b s List.mem_cons_self) hF (fun a ha => k a (List.mem_append_left _ ha)) p)
      (ih (fun x hx => b x (List.mem_cons_of_mem _ hx)) (fun a ha => k a (List.mem_append_right _ ha)))
theorem Slots.length {F H : Hp} : ∀ {os σ Γ}, Slots F H os σ Γ → σ.length = Γ.length
  | _, _, _, .nil => rfl
  | _, _, _, .cons _ r => congrArg (· + 1) r.length
theorem Slots.append {F H : Hp} : ∀ {os σ Γ os' σ' Γ'}, Slots F H os σ Γ → Slots F H os' σ' Γ' → Slots F H (os ++ os') (σ ++ σ') (Γ ++ Γ')
  | _, _, _, _, _, _, .nil, s => s
  | _, _, _, _, _, _, .cons p r, s => by
    rw [List.append_assoc]
    exact .cons p (Slots.append r s)

/-- the i-th slot taken out, and something put in its place -/
theorem Slots.at {F H : Hp} : ∀ {os σ Γ i s}, Slots F H os σ Γ → Γ[i]? = some s →
    ∃ o fp r, σ[i]? = some o ∧ s.P F H fp o ∧ os.Perm (fp ++ r) ∧
      ∀ {F' H' : Hp} {fp' : List Addr} {o' : Option V} {s' : Slot}, s'.P F' H' fp' o' →
        (∀ s0 ∈ Γ, ∀ fp0 o0, (∀ a ∈ fp0, a ∈ r) → s0.P F H fp0 o0 → s0.P F' H' fp0 o0) →
        ∃ os', Slots F' H' os' (σ.set i o') (Γ.set i s') ∧ os'.Perm (fp' ++ r)
  | _, _, _, i, s, .nil, e => by simp at e
  | _, _, _, 0, s, .cons (fp := fp) (os := os) (o := o) (σ := σ) (s := s0) (Γ := Γ) p r, e => by
    simp at e; subst e
    refine ⟨o, fp, os, rfl, p, List.Perm.refl _, ?_⟩
    intro F' H' fp' o' s' q k
    have all : ∀ {os σ Γ'}, Slots F H os σ Γ' → (∀ s ∈ Γ', ∀ fp0 o0, (∀ a ∈ fp0, a ∈ os) → s.P F H fp0 o0 → s.P F' H' fp0 o0) → Slots F' H' os σ Γ' := by
      intro os σ Γ' h
      induction h with
      | nil => intro _; exact .nil
      | cons p r ih =>
        intro k
        exact .cons (k _ List.mem_cons_self _ _ (fun a ha => List.mem_append_left _ ha) p) (ih fun s hs fp0 o0 hf q => k s (List.mem_cons_of_mem _ hs) fp0 o0 (fun a ha => List.mem_append_right _ (hf a ha)) q)
    exact ⟨fp' ++ os, .cons q (all r fun s hs fp0 o0 hf q => k s (List.mem_cons_of_mem _ hs) fp0 o0 hf q), List.Perm.refl _⟩
  | _, _, _, i + 1, s, .cons (fp := fp) (os := os) (o := o) (σ := σ) (s := s0) (Γ := Γ) p r, e => by
    obtain ⟨o1, fp1, r1, e1, p1, q1, k1⟩ := Slots.at (i := i) (s := s) r (by simpa using e)
    refine ⟨o1, fp1, fp ++ r1, by simpa using e1, p1, ?_, ?_⟩
    · refine (List.Perm.append_left fp q1).trans ?_
      rw [← List.append_assoc, ← List.append_assoc]
      exact List.Perm.append_right r1 List.perm_append_comm
    · intro F' H' fp' o' s' q k
      obtain ⟨os', h1, h2⟩ := k1 q (fun s hs fp0 o0 hf q => k s (List.mem_cons_of_mem _ hs) fp0 o0 (fun a ha => List.mem_append_right _ (hf a ha)) q)
      refine ⟨fp ++ os', .cons (k s0 List.mem_cons_self fp o (fun a ha => List.mem_append_left _ ha) p) h1, ?_⟩
      refine (List.Perm.append_left fp h2).trans ?_
      rw [← List.append_assoc, ← List.append_assoc]
      exact List.Perm.append_right r1 List.perm_append_comm

/-! ### the world: the caller's heaps, the frozen heap F, the heap H, what is owned -/
structure Bs where
  F : Hp
  H : Hp
  os : List Addr
structure Wo (B : Bs) (F H : Hp) (os : List Addr) : Prop where
  sub : Same F H
  nd : os.Nodup
  oF : ∀ a ∈ os, F a = none
  oH : ∀ a ∈ os, ∃ o, H a = some o
  bF : Same B.F F
  bH : ∀ a o, B.H a = some o → a ∉ B.os → H a = some o
  bN : ∀ a o, F a = some o → B.F a = some o ∨ B.H a = none ∨ a ∈ B.os
  bO : ∀ a ∈ os, B.H a = none ∨ a ∈ B.os
section
variable {B : Bs} {F H F' H' : Hp} {os os' : List Addr}
theorem Wo.perm (W : Wo B F H os) (p : os.Perm os') : Wo B F H os' :=
  ⟨W.sub, p.nodup_iff.mp W.nd, fun a h => W.oF a (p.mem_iff.mpr h), fun a h => W.oH a (p.mem_iff.mpr h), W.bF, W.bH, W.bN, fun a h => W.bO a (p.mem_iff.mpr h)⟩
theorem Wo.drop {a b : List Addr} (W : Wo B F H (a ++ b)) : Wo B F H b :=
  ⟨W.sub, (List.nodup_append.mp W.nd).2.1, fun x h => W.oF x (List.mem_append_right _ h), fun x h => W.oH x (List.mem_append_right _ h), W.bF, W.bH, W.bN, fun x h => W.bO x (List.mem_append_right _ h)⟩
theorem Wo.dropR {a b : List Addr} (W : Wo B F H (a ++ b)) : Wo B F H a := (W.perm List.perm_append_comm).drop
theorem Wo.bFree (W : Wo B F H os) {p : Addr} (h : H p = none) : B.H p = none ∨ p ∈ B.os := by
  cases q : B.H p with
  | none => exact .inl rfl
  | some o =>
    refine .inr ?_
    by_cases hp : p ∈ B.os
    · exact hp
    · rw [W.bH p o q hp] at h; cases h
theorem Wo.free (W : Wo B F H os) {p : Addr} (h : H p = none) : F p = none ∧ p ∉ os := by
  refine ⟨?_, fun hp => ?_⟩
  · cases q : F p with
    | none => rfl
    | some o => rw [W.sub p o q] at h; cases h
  · obtain ⟨o, e⟩ := W.oH p hp
    rw [e] at h; cases h
theorem same_upd {H : Hp} {p : Addr} {o : HO} (h : H p = none) : Same H (upd H p o) := fun a u e => by
  rw [upd_ne (ne_of_none e h)]; exact e
/-- a new frozen object -/
theorem Wo.newF (W : Wo B F H os) {p : Addr} {o : HO} (h : H p = none) : Wo B (upd F p o) (upd H p o) os := by
  obtain ⟨f0, n0⟩ := W.free h
  refine ⟨fun a u e => ?_, W.nd, fun a ha => ?_, fun a ha => ?_, fun a u e => ?_, fun a u e hb => ?_, fun a u e => ?_, W.bO⟩
  · by_cases q : a = p
    · subst q; rw [upd_same] at e ⊢; exact e
    · rw [upd_ne q] at e ⊢; exact W.sub a u e
  · rw [upd_ne (fun q => n0 (by rw [← q]; exact ha))]; exact W.oF a ha
  · rw [upd_ne (fun q => n0 (by rw [← q]; exact ha))]; exact W.oH a ha
  · exact same_upd f0 a u (W.bF a u e)
  · exact same_upd h a u (W.bH a u e hb)
  · by_cases q : a = p
    · subst q; exact .inr (W.bFree h)
    · rw [upd_ne q] at e; exact W.bN a u e
/-- a new owned object -/
theorem Wo.newO (W : Wo B F H os) {p : Addr} {o : HO} (h : H p = none) : Wo B F (upd H p o) (p :: os) := by
  obtain ⟨f0, n0⟩ := W.free h
  refine ⟨fun a u e => same_upd h a u (W.sub a u e), List.nodup_cons.mpr ⟨n0, W.nd⟩, fun a ha => ?_, fun a ha => ?_, W.bF, fun a u e hb => same_upd h a u (W.bH a u e hb), W.bN, fun a ha => ?_⟩
  · rcases List.mem_cons.mp ha with rfl | ha
    · exact f0
    · exact W.oF a ha
  · rcases List.mem_cons.mp ha with rfl | ha
    · exact ⟨o, upd_same⟩
    · obtain ⟨u, e⟩ := W.oH a ha; exact ⟨u, same_upd h a u e⟩
  · rcases List.mem_cons.mp ha with rfl | ha
    · exact W.bFree h
    · exact W.bO a ha
/-- an owned object changes -/
theorem Wo.write (W : Wo B F H os) {p : Addr} {o : HO} (hp : p ∈ os) : Wo B F (upd H p o) os := by
  have nf : ∀ a u, F a = some u → a ≠ p := fun a u e q => by subst q; rw [W.oF a hp] at e; cases e
  refine ⟨fun a u e => by rw [upd_ne (nf a u e)]; exact W.sub a u e, W.nd, W.oF, fun a ha => ?_, W.bF, fun a u e hb => ?_, W.bN, W.bO⟩
  · by_cases q : a = p
    · subst q; exact ⟨o, upd_same⟩
    · rw [upd_ne q]; exact W.oH a ha
  · have q : a ≠ p := fun q => by
      subst q
      rcases W.bO a hp with z | z
      · rw [z] at e; cases e
      · exact hb z
    rw [upd_ne q]; exact W.bH a u e hb
/-- owned objects become frozen -/
theorem Wo.freeze {a b : List Addr} (W : Wo B F H (a ++ b)) : ∃ F', Wo B F' H b ∧ Same F F' ∧ ∀ x ∈ a, F' x = H x := by
  classical
  have nd := List.nodup_append.mp W.nd
  refine ⟨fun x => if x ∈ a then H x else F x, ⟨fun x o e => ?_, nd.2.1, fun x hx => ?_, fun x hx => W.oH x (List.mem_append_right _ hx), fun x o e => ?_, W.bH, fun x o e => ?_, fun x hx => W.bO x (List.mem_append_right _ hx)⟩, fun x o e => ?_, fun x hx => if_pos hx⟩
  · by_cases q : x ∈ a
    · simp only [q, if_true] at e; exact e
    · simp only [q, if_false] at e; exact W.sub x o e
  · have q : x ∉ a := fun q => (nd.2.2 x q x hx) rfl
    simp only [q, if_false]; exact W.oF x (List.mem_append_right _ hx)
  · have q : x ∉ a := fun q => by
      have z := W.oF x (List.mem_append_left _ q)
      rw [W.bF x o e] at z; cases z
    simp only [q, if_false]; exact W.bF x o e
  · by_cases q : x ∈ a
    · exact .inr (W.bO x (List.mem_append_left _ q))
    · simp only [q, if_false] at e; exact W.bN x o e
  · have q : x ∉ a := fun q => by
      have z := W.oF x (List.mem_append_left _ q)
      rw [e] at z; cases z
    simp only [q, if_false]; exact e
end

/-- a state told from an entry within -/
theorem Wo.trans {B : Bs} {F1 H1 F2 H2 : Hp} {os1 os2 : List Addr} (W1 : Wo B F1 H1 os1) (W2 : Wo ⟨F1, H1, os1⟩ F2 H2 os2) : Wo B F2 H2 os2 := by
  refine ⟨W2.sub, W2.nd, W2.oF, W2.oH, W1.bF.trans W2.bF, fun a o e hb => ?_, fun a o e => ?_, fun a ha => ?_⟩
  · refine W2.bH a o (W1.bH a o e hb) fun z => ?_
    rcases W1.bO a z with q | q
    · rw [q] at e; cases e
    · exact hb q
  · rcases W2.bN a o e with q | q | q
    · exact W1.bN a o q
    · exact .inr (W1.bFree q)
    · exact .inr (W1.bO a q)
  · rcases W2.bO a ha with q | q
    · exact W1.bFree q
    · exact W1.bO a q
theorem Wo.self {B : Bs} {F H : Hp} {os : List Addr} (W : Wo B F H os) : Wo ⟨F, H, os⟩ F H os :=
  ⟨W.sub, W.nd, W.oF, W.oH, fun _ _ h => h, fun _ _ h _ => h, fun _ _ h => .inl h, fun _ h => .inr h⟩

/-! ### the state of a frame -/
def Sta (B : Bs) (F H : Hp) (σ : List (Option V)) (Γ : List Slot) : Prop := ∃ os, Wo B F H os ∧ Slots F H os σ Γ
end Ty

/-! Ty2 -/
namespace Ty
open PySem PySem.Spec L2

/-! ### kinds of values -/
/-- frozen data: what of the frozen heap makes v the datum a -/
structure VP (α : Type) where
  R : Hp → V → α → Prop
  mono : ∀ {F F' : Hp} {v : V} {a : α}, Same F F' → R F v a → R F' v a
/-- owned data: at the addresses fp -/
structure OP (α : Type) where
  P : Hp → Hp → List Addr → V → α → Prop
  mono : ∀ {F H F' H' : Hp} {fp : List Addr} {v : V} {a : α}, Same F F' → Same H H' → P F H fp v a → P F' H' fp v a
  mm : ∀ {F H F' H' : Hp} {fp : List Addr} {v : V} {a : α}, Same F F' → (∀ x ∈ fp, H' x = H x) → P F H fp v a → P F' H' fp v a
section
variable {α β γ : Type}
def val (p : VP α) (a : α) : Slot where
  P := fun F _ fp o => fp = [] ∧ ∃ v, o = some v ∧ p.R F v a
  mono := fun hF _ h => let ⟨e, v, ev, r⟩ := h; ⟨e, v, ev, p.mono hF r⟩
  st := True
  mm := fun _ {_ _ _ _ _ _} hF _ h => let ⟨e, v, ev, r⟩ := h; ⟨e, v, ev, p.mono hF r⟩
def dead : Slot where
  P := fun _ _ fp _ => fp = []
  mono := fun {_ _ _ _ _ _} _ _ h => h
  st := True
  mm := fun {_ _ _ _ _ _ _} _ _ h => h
def own (O : OP α) (a : α) : Slot where
  P := fun F H fp o => ∃ v, o = some v ∧ O.P F H fp v a
  mono := fun hF hH h => let ⟨v, ev, r⟩ := h; ⟨v, ev, O.mono hF hH r⟩
  st := True
  mm := fun _ {_ _ _ _ _ _} hF hH h => let ⟨v, ev, r⟩ := h; ⟨v, ev, O.mm hF hH r⟩
/-- something owned that is looked at: its data by the whole heap -/
def bor (p : VP α) (a : α) : Slot where
  P := fun _ H fp o => fp = [] ∧ ∃ v, o = some v ∧ p.R H v a
  mono := fun _ hH h => let ⟨e, v, ev, r⟩ := h; ⟨e, v, ev, p.mono hH r⟩
  st := False
  mm := fun h => h.elim

theorem Paired.mon {α β : Type} {R R' : α → β → Prop} (h : ∀ a b, R a b → R' a b) : ∀ {xs ys}, Paired R xs ys → Paired R' xs ys
  | _, _, .nil => .nil
  | _, _, .cons r t => .cons (h _ _ r) (Paired.mon h t)
def pInt : VP Int := ⟨fun _ v i => v = .int i, fun _ h => h⟩
def pBl : VP Bool := ⟨fun _ v b => v = .bl b, fun _ h => h⟩
def pStr : VP Str := ⟨fun _ v s => v = .str s, fun _ h => h⟩
def pNon : VP Unit := ⟨fun _ v _ => v = .non, fun _ h => h⟩
def pOpt (p : VP α) : VP (Option α) where
  R := fun F v o => match o with | none => v = .non | some a => p.R F v a ∧ v ≠ .non
  mono := fun {F F' v a} hF h => by
    cases a with
    | none => exact h
    | some a => exact ⟨p.mono hF h.1, h.2⟩
def pL (p : VP α) : VP (List α) where
  R := fun F v xs => ∃ l vs, v = .ref l ∧ F l = some (.lst vs) ∧ Paired (p.R F) vs xs
  mono := fun hF h => let ⟨l, vs, e, h1, h2⟩ := h; ⟨l, vs, e, hF _ _ h1, Paired.mon (fun _ _ r => p.mono hF r) h2⟩
/-- a tuple of any length -/
def pTup (p : VP α) : VP (List α) where
  R := fun F v xs => ∃ l vs, v = .ref l ∧ F l = some (.tup vs) ∧ Paired (p.R F) vs xs
  mono := fun hF h => let ⟨l, vs, e, h1, h2⟩ := h; ⟨l, vs, e, hF _ _ h1, Paired.mon (fun _ _ r => p.mono hF r) h2⟩
def pT2 (p : VP α) (q : VP β) : VP (α × β) where
  R := fun F v x => ∃ l a b, v = .ref l ∧ F l = some (.tup [a, b]) ∧ p.R F a x.1 ∧ q.R F b x.2
  mono := fun hF h => let ⟨l, a, b, e, h1, h2, h3⟩ := h; ⟨l, a, b, e, hF _ _ h1, p.mono hF h2, q.mono hF h3⟩
def pT3 (p : VP α) (q : VP β) (r : VP γ) : VP (α × β × γ) where
  R := fun F v x => ∃ l a b c, v = .ref l ∧ F l = some (.tup [a, b, c]) ∧ p.R F a x.1 ∧ q.R F b x.2.1 ∧ r.R F c x.2.2
  mono := fun hF h => let ⟨l, a, b, c, e, h1, h2, h3, h4⟩ := h; ⟨l, a, b, c, e, hF _ _ h1, p.mono hF h2, q.mono hF h3, r.mono hF h4⟩
/-- the script: it may be locked -/
def pScr (K : PySem.W.Frag) : VP (List Int) where
  R := fun F v ns => ∃ l, v = .ref l ∧ SqL K F l (ns.map V.int)
  mono := fun hF h => let ⟨l, e, h1⟩ := h; ⟨l, e, Same.seq hF h1⟩
/-- an owned list of frozen items -/
def oL (p : VP α) : OP (List α) where
  P := fun F H fp v xs => ∃ l vs, v = .ref l ∧ fp = [l] ∧ H l = some (.lst vs) ∧ Paired (p.R F) vs xs
  mono := fun hF hH h => let ⟨l, vs, e, ef, h1, h2⟩ := h; ⟨l, vs, e, ef, hH _ _ h1, Paired.mon (fun _ _ r => p.mono hF r) h2⟩
  mm := fun hF hH h => let ⟨l, vs, e, ef, h1, h2⟩ := h; ⟨l, vs, e, ef, by rw [hH l (by rw [ef]; exact List.mem_cons_self)]; exact h1, Paired.mon (fun _ _ r => p.mono hF r) h2⟩
/-- an owned list that is looked at: its items frozen -/
def borL (p : VP α) (xs : List α) : Slot where
  P := fun F H fp o => fp = [] ∧ ∃ l vs, o = some (.ref l) ∧ H l = some (.lst vs) ∧ Paired (p.R F) vs xs
  mono := fun hF hH h => let ⟨ef, l, vs, e, h1, h2⟩ := h; ⟨ef, l, vs, e, hH _ _ h1, Paired.mon (fun _ _ r => p.mono hF r) h2⟩
  st := False
  mm := fun h => h.elim
end
abbrev vInt (i : Int) : Slot := val pInt i
abbrev vBl (b : Bool) : Slot := val pBl b
abbrev vStr (s : Str) : Slot := val pStr s
abbrev vNon : Slot := val pNon ()

/-! ### views -/
section
variable {α β γ : Type}
/-- a list whose items are frozen, frozen or owned itself -/
def LV (s : Slot) (p : VP α) (xs : List α) : Prop := ∀ F H fp o, Same F H → s.P F H fp o → ∃ l vs, o = some (.ref l) ∧ H l = some (.lst vs) ∧ Paired (p.R F) vs xs
theorem LV.val {p : VP α} {xs : List α} : LV (val (pL p) xs) p xs := fun F H fp o hS h => let ⟨_, v, e, l, vs, ev, h1, h2⟩ := h; ⟨l, vs, by rw [e, ev], hS _ _ h1, h2⟩
theorem LV.own {p : VP α} {xs : List α} : LV (own (oL p) xs) p xs := fun F H fp o _ h => let ⟨v, e, l, vs, ev, _, h1, h2⟩ := h; ⟨l, vs, by rw [e, ev], h1, h2⟩
theorem LV.bor {p : VP α} {xs : List α} : LV (borL p xs) p xs := fun F H fp o _ h => let ⟨_, l, vs, e, h1, h2⟩ := h; ⟨l, vs, e, h1, h2⟩
/-- a list that may be locked -/
def SV (K : PySem.W.Frag) (s : Slot) (p : VP α) (xs : List α) : Prop := ∀ F H fp o, Same F H → s.P F H fp o → ∃ l vs, o = some (.ref l) ∧ SqL K H l vs ∧ Paired (p.R F) vs xs
theorem LV.sv {K : PySem.W.Frag} {s : Slot} {p : VP α} {xs : List α} (h : LV s p xs) : SV K s p xs := fun F H fp o hS q => let ⟨l, vs, e, h1, h2⟩ := h F H fp o hS q; ⟨l, vs, e, SqL.of h1, h2⟩
theorem paired_map_int {F : Hp} : ∀ (ns : List Int), Paired (pInt.R F) (ns.map V.int) ns
  | [] => .nil
  | _ :: r => .cons rfl (paired_map_int r)
theorem map_int_of {F : Hp} : ∀ {vs : List V} {ns : List Int}, Paired (pInt.R F) vs ns → vs = ns.map V.int
  | _, _, .nil => rfl
  | _, _, .cons r t => by rw [show _ = V.int _ from r, map_int_of t]; rfl
theorem SV.scr {K : PySem.W.Frag} {ns : List Int} : SV K (Ty.val (pScr K) ns) pInt ns := fun F H fp o hS h => let ⟨_, v, e, l, ev, h1⟩ := h; ⟨l, _, by rw [e, ev], Same.seq hS h1, paired_map_int ns⟩
/-- a tuple of any length -/
def TV (s : Slot) (p : VP α) (xs : List α) : Prop := ∀ F H fp o, Same F H → s.P F H fp o → ∃ l vs, o = some (.ref l) ∧ H l = some (.tup vs) ∧ Paired (p.R F) vs xs
theorem TV.val {p : VP α} {xs : List α} : TV (Ty.val (pTup p) xs) p xs := fun F H fp o hS h => let ⟨_, v, e, l, vs, ev, h1, h2⟩ := h; ⟨l, vs, by rw [e, ev], hS _ _ h1, h2⟩
/-- a value without a heap -/
def Flat (p : VP α) : Prop := ∀ F F' v a, p.R F v a → p.R F' v a
theorem Flat.int : Flat pInt := fun _ _ _ _ h => h
theorem Flat.bl : Flat pBl := fun _ _ _ _ h => h
theorem Flat.str : Flat pStr := fun _ _ _ _ h => h
theorem Flat.non : Flat pNon := fun _ _ _ _ h => h
theorem Flat.opt {p : VP α} (h : Flat p) : Flat (pOpt p) := fun F F' v a q => by
  cases a with
  | none => exact q
  | some a => exact ⟨h F F' v a q.1, q.2⟩
/-- any value, its data by the whole heap -/
def Vw (s : Slot) (p : VP α) (a : α) : Prop := ∀ F H fp o, Same F H → s.P F H fp o → ∃ v, o = some v ∧ p.R H v a
theorem Vw.val {p : VP α} {a : α} : Vw (Ty.val p a) p a := fun F H fp o hS h => let ⟨_, v, e, r⟩ := h; ⟨v, e, p.mono hS r⟩
theorem Vw.bor {p : VP α} {a : α} : Vw (Ty.bor p a) p a := fun F H fp o hS h => let ⟨_, v, e, r⟩ := h; ⟨v, e, r⟩
theorem LV.vw {s : Slot} {p : VP α} {xs : List α} (h : LV s p xs) : Vw s (pL p) xs := fun F H fp o hS q => let ⟨l, vs, e, h1, h2⟩ := h F H fp o hS q; ⟨_, e, l, vs, rfl, h1, Paired.mon (fun _ _ r => p.mono hS r) h2⟩
theorem val_P {p : VP α} {a : α} {F H : Hp} {fp : List Addr} {v : V} (h : (Ty.val p a).P F H fp (some v)) : fp = [] ∧ p.R F v a := by
  obtain ⟨e, v', ev, r⟩ := h
  cases ev; exact ⟨e, r⟩
end

/-! ### contexts: a body, or a block of a comprehension, whatever the state where it starts -/
structure Fa (P : Program) (w : World) (K : PySem.W.Frag) (mg : Str → Option Value) (base : Heap) (k : Nat) where
  I : Type
  X : I → Cx
  hP : ∀ i, (X i).prog = P
  hw : ∀ i, (X i).w = w
  hK : ∀ i, (X i).K = K
  hM : ∀ i, (X i).mg = mg
  hB : ∀ i, (X i).base = base
  cm : Bool
  hC : ∀ i, (X i).calm = cm
  hR : cm = true → ∀ i, Room k (X i).A
  hU : ∀ i, (X i).A.units + 64 < cLine
  W : WX
  tk : ∀ i, Takes (X i) W
  hN : ∀ i, (X i).N.Nodup
  hO : ∀ i, PassesOwn (model (X i).prog (X i).w) (X i).A (X i).env (X i).xe
section
variable {P : Program} {w : World} {K : PySem.W.Frag} {mg : Str → Option Value} {base : Heap} {k : Nat}
/-- where an expression stands: the world, and the frame told by Γ somewhere within what is owned -/
structure In (B : Bs) (F H : Hp) (os : List Addr) (σ : List (Option V)) (Γ : List Slot) : Prop where
  W : Wo B F H os
  S : ∃ o2 r, os.Perm (o2 ++ r) ∧ Slots F H o2 σ Γ
theorem In.step {B : Bs} {F H F' H' : Hp} {fp os : List Addr} {σ : List (Option V)} {Γ : List Slot} (I : In B F H os σ Γ) (hF : Same F F') (hH : Same H H') (W : Wo B F' H' (fp ++ os)) : In B F' H' (fp ++ os) σ Γ := by
  obtain ⟨_, o2, r, p, S⟩ := I
  exact ⟨W, o2, r ++ fp, (List.perm_append_comm.trans (List.Perm.append_right fp p)).trans (by rw [List.append_assoc]), S.mono hF hH⟩
theorem In.step0 {B : Bs} {F H F' H' : Hp} {os : List Addr} {σ : List (Option V)} {Γ : List Slot} (I : In B F H os σ Γ) (hF : Same F F') (hH : Same H H') (W : Wo B F' H' os) : In B F' H' os σ Γ := I.step (fp := []) hF hH W
/-- e gives a value told by r; all that was stands, what is new is the value's -/
def XV (Y : Fa P w K mg base k) (e : Expr) (Γ : List Slot) (r : Slot) : Prop :=
  ∃ t : TE, (∀ i, PE (Y.X i) e t) ∧ ∀ (B : Bs) (F H : Hp) (os : List Addr) (σ : List (Option V)) (Q : VK), In B F H os σ Γ →
    (∀ v F' H' fp, Same F F' → Same H H' → Wo B F' H' (fp ++ os) → r.P F' H' fp (some v) → Q v H') → t σ H Q
def XT (Y : Fa P w K mg base k) (e : Expr) (Γ : List Slot) (b : Bool) : Prop :=
  ∃ t : TT, (∀ i, PT (Y.X i) e t) ∧ ∀ (B : Bs) (F H : Hp) (os : List Addr) (σ : List (Option V)) (Q : Bool → Hp → Prop), In B F H os σ Γ →
    (∀ F' H', Same F F' → Same H H' → Wo B F' H' os → Q b H') → t σ H Q
def XW (Y : Fa P w K mg base k) (e : Expr) (Γ : List Slot) (b : Bool) : Prop :=
  ∃ t : TT, (∀ i, PW (Y.X i) e t) ∧ ∀ (B : Bs) (F H : Hp) (os : List Addr) (σ : List (Option V)) (Q : Bool → Hp → Prop), In B F H os σ Γ →
    (∀ F' H', Same F F' → Same H H' → Wo B F' H' os → Q b H') → t σ H Q
def XA (Y : Fa P w K mg base k) (es : List Expr) (Γ As : List Slot) : Prop :=
  ∃ t : TA, (∀ i, PA (Y.X i) es t) ∧ ∀ (B : Bs) (F H : Hp) (os : List Addr) (σ : List (Option V)) (Q : List V → Hp → Prop), In B F H os σ Γ →
    (∀ vs F' H' fp, Same F F' → Same H H' → Wo B F' H' (fp ++ os) → Slots F' H' fp (vs.map some) As → Q vs H') → t σ H Q
/-- a two-place operation on values -/
def Op2 (r : R2) (a b c : Slot) : Prop := ∀ (B : Bs) (F H : Hp) (x y : V) (fx fy os : List Addr) (Q : VK), Wo B F H (fy ++ (fx ++ os)) → a.P F H fx (some x) → b.P F H fy (some y) →
  (∀ v F' H' fp, Same F F' → Same H H' → Wo B F' H' (fp ++ os) → c.P F' H' fp (some v) → Q v H') → r x y H Q
def Op1 (r : V → Hp → VK → Prop) (a c : Slot) : Prop := ∀ (B : Bs) (F H : Hp) (x : V) (fx os : List Addr) (Q : VK), Wo B F H (fx ++ os) → a.P F H fx (some x) →
  (∀ v F' H' fp, Same F F' → Same H H' → Wo B F' H' (fp ++ os) → c.P F' H' fp (some v) → Q v H') → r x H Q
/-- a call of a known value -/
def OpA (r : List V → Hp → VK → Prop) (As : List Slot) (c : Slot) : Prop := ∀ (B : Bs) (F H : Hp) (vs : List V) (fx os : List Addr) (Q : VK), Wo B F H (fx ++ os) → Slots F H fx (vs.map some) As →
  (∀ v F' H' fp, Same F F' → Same H H' → Wo B F' H' (fp ++ os) → c.P F' H' fp (some v) → Q v H') → r vs H Q
variable {Y : Fa P w K mg base k} {e ea eb : Expr} {es : List Expr} {Γ : List Slot} {a b c r : Slot} {pos : Pos}

theorem same_refl {H : Hp} : Same H H := fun _ _ h => h
theorem val_no {α : Type} {p : VP α} {z : α} {F H : Hp} {fp : List Addr} {v : Option V} (h : (val p z).P F H fp v) : fp = [] := h.1
/-! ### atoms -/
theorem x_int {z : Int} {j : Nat} : XV Y (.Constant (.int z) j pos) Γ (vInt z) :=
  ⟨_, fun _ => pe_int, fun _ F H os σ Q I q => q _ F H [] same_refl same_refl I.W ⟨rfl, _, rfl, rfl⟩⟩
theorem x_bl {z : Bool} {j : Nat} : XV Y (.Constant (.bool z) j pos) Γ (vBl z) :=
  ⟨_, fun _ => pe_bl, fun _ F H os σ Q I q => q _ F H [] same_refl same_refl I.W ⟨rfl, _, rfl, rfl⟩⟩
theorem x_str {z : Str} {j : Nat} : XV Y (.Constant (.str z) j pos) Γ (vStr z) :=
  ⟨_, fun _ => pe_str, fun _ F H os σ Q I q => q _ F H [] same_refl same_refl I.W ⟨rfl, _, rfl, rfl⟩⟩
theorem x_non {j : Nat} : XV Y (.Constant .none j pos) Γ vNon :=
  ⟨_, fun _ => pe_non, fun _ F H os σ Q I q => q _ F H [] same_refl same_refl I.W ⟨rfl, _, rfl, rfl⟩⟩
theorem In.slot {B : Bs} {F H : Hp} {os : List Addr} {σ : List (Option V)} {i : Nat} {s : Slot} (I : In B F H os σ Γ) (hs : Γ[i]? = some s) : ∃ o fp, σ[i]? = some o ∧ s.P F H fp o := by
  obtain ⟨_, o2, r, p, S⟩ := I
  obtain ⟨o, fp, _, e, p, _⟩ := S.at hs
  exact ⟨o, fp, e, p⟩
/-- a name -/
theorem x_var {α : Type} {p : VP α} {z : α} (i : Nat) {x : Str} (hs : Γ[i]? = some (val p z) := by rfl) (hN : ∀ j, (Y.X j).N[i]? = some x := by intro _; rfl)
    (hv : ∀ j, Vis (Y.X j).env.scope x := by intro _; first | exact Or.inl rfl | exact Or.inr (Or.inl rfl) | exact Or.inr (Or.inr rfl)) (hd : (x == ("__debug__" : Str)) = false := by decide) (hcd : (x == ("__classdict__" : Str)) = false := by decide) : XV Y (.Name x pos) Γ (val p z) := by
  refine ⟨_, fun j => pe_var (hN j) (hv j) hd hcd, fun B F H os σ Q I q => ?_⟩
  obtain ⟨o, fp, e, ef, v, ev, h⟩ := I.slot hs
  subst ev
  exact ⟨v, e, q v F H [] same_refl same_refl I.W ⟨rfl, v, rfl, h⟩⟩
/-- an owned list's name, looked at -/
theorem x_varL {α : Type} {p : VP α} {z : List α} (i : Nat) {x : Str} (hs : Γ[i]? = some (own (oL p) z) := by rfl) (hN : ∀ j, (Y.X j).N[i]? = some x := by intro _; rfl)
    (hv : ∀ j, Vis (Y.X j).env.scope x := by intro _; first | exact Or.inl rfl | exact Or.inr (Or.inl rfl) | exact Or.inr (Or.inr rfl)) (hd : (x == ("__debug__" : Str)) = false := by decide) (hcd : (x == ("__classdict__" : Str)) = false := by decide) : XV Y (.Name x pos) Γ (borL p z) := by
  refine ⟨_, fun j => pe_var (hN j) (hv j) hd hcd, fun B F H os σ Q I q => ?_⟩
  obtain ⟨o, fp, e, v, ev, l, vs, el, _, h1, h2⟩ := I.slot hs
  subst ev; subst el
  exact ⟨_, e, q _ F H [] same_refl same_refl I.W ⟨rfl, l, vs, rfl, h1, h2⟩⟩
/-- a module's constant -/
theorem x_glob {α : Type} {p : VP α} {z : α} {x : Str} {v : V} {u : Value} (hm : mg x = some u) (hr : RelV v u) (hz : ∀ F, p.R F v z) (hg : ∀ j, Gl (Y.X j) x := by intro _; rfl) (hd : (x == ("__debug__" : Str)) = false := by decide) : XV Y (.Name x pos) Γ (val p z) :=
  ⟨_, fun j => pe_glob (hg j) (by rw [Y.hM]; exact hm) hr hd, fun _ F H os σ Q I q => q v F H [] same_refl same_refl I.W ⟨rfl, _, rfl, hz F⟩⟩

/-! ### operators -/
/-- two in a row -/
theorem two {ta tb : TE} {B : Bs} {F H : Hp} {os : List Addr} {σ : List (Option V)} {Q : VK} {R : V → V → Hp → Prop} (I : In B F H os σ Γ)
    (ra : ∀ (B : Bs) (F H : Hp) (os : List Addr) (σ : List (Option V)) (Q : VK), In B F H os σ Γ → (∀ v F' H' fp, Same F F' → Same H H' → Wo B F' H' (fp ++ os) → a.P F' H' fp (some v) → Q v H') → ta σ H Q)
    (rb : ∀ (B : Bs) (F H : Hp) (os : List Addr) (σ : List (Option V)) (Q : VK), In B F H os σ Γ → (∀ v F' H' fp, Same F F' → Same H H' → Wo B F' H' (fp ++ os) → b.P F' H' fp (some v) → Q v H') → tb σ H Q)
    (h : ∀ x y F' H' fx fy, Same F F' → Same H H' → Wo B F' H' (fy ++ (fx ++ os)) → a.P F' H' fx (some x) → b.P F' H' fy (some y) → R x y H') : ta σ H fun x H1 => tb σ H1 fun y H2 => R x y H2 := by
  refine ra B F H os σ _ I fun x F1 H1 fx f1 e1 W1 p1 => ?_
  refine rb B F1 H1 _ σ _ (I.step f1 e1 W1) fun y F2 H2 fy f2 e2 W2 p2 => ?_
  exact h x y F2 H2 fx fy (f1.trans f2) (e1.trans e2) W2 (a.mono f2 e2 p1) p2
theorem x_op {op : Operator} {r2 : R2} (ho : ∀ i, OpR (Y.X i) (binaryOp op) r2) (h : Op2 r2 a b c) (ha : XV Y ea Γ a) (hb : XV Y eb Γ b) : XV Y (.BinOp ea op eb pos) Γ c := by
  obtain ⟨ta, pa, ra⟩ := ha
  obtain ⟨tb, pb, rb⟩ := hb
  refine ⟨_, fun i => pe_op (ho i) (pa i) (pb i), fun B F H os σ Q I q => ?_⟩
  refine two (Q := Q) I ra rb fun x y F2 H2 fx fy f2 e2 W2 p1 p2 => ?_
  exact h B F2 H2 x y fx fy os Q W2 p1 p2 fun v F3 H3 fp f3 e3 W3 p3 => q v F3 H3 fp (f2.trans f3) (e2.trans e3) W3 p3
theorem x_cmp {op : CmpOp} {r2 : R2} (ho : ∀ i, OpR (Y.X i) (compareOp op) r2) (h : Op2 r2 a b c) (hm : behindInMarks op eb = false) (ha : XV Y ea Γ a) (hb : XV Y eb Γ b) : XV Y (.Compare ea [op] [eb] pos) Γ c := by
  obtain ⟨ta, pa, ra⟩ := ha
  obtain ⟨tb, pb, rb⟩ := hb
  refine ⟨_, fun i => pe_cmpR (ho i) (pa i) (pb i) hm, fun B F H os σ Q I q => ?_⟩
  refine two (Q := Q) I ra rb fun x y F2 H2 fx fy f2 e2 W2 p1 p2 => ?_
  exact h B F2 H2 x y fx fy os Q W2 p1 p2 fun v F3 H3 fp f3 e3 W3 p3 => q v F3 H3 fp (f2.trans f3) (e2.trans e3) W3 p3
theorem vbl {z : Bool} {F H : Hp} {fp : List Addr} {v : V} (h : (vBl z).P F H fp (some v)) : v = .bl z := (val_P h).2
theorem vint {z : Int} {F H : Hp} {fp : List Addr} {v : V} (h : (vInt z).P F H fp (some v)) : v = .int z := (val_P h).2
theorem Wo.flat {α : Type} {p : VP α} {z : α} {B : Bs} {F H F1 H1 : Hp} {fp os : List Addr} {v : Option V} (W : Wo B F H (fp ++ os)) (h : (val p z).P F1 H1 fp v) : Wo B F H os := W.drop
theorem xt_cmp {op : CmpOp} {r2 : R2} {z : Bool} (ho : ∀ i, OpR (Y.X i) (compareOp op) r2) (h : Op2 r2 a b (vBl z)) (hm : behindInMarks op eb = false) (ha : XV Y ea Γ a) (hb : XV Y eb Γ b) : XT Y (.Compare ea [op] [eb] pos) Γ z := by
  obtain ⟨ta, pa, ra⟩ := ha
  obtain ⟨tb, pb, rb⟩ := hb
  refine ⟨_, fun i => pt_cmpR (ho i) (pa i) (pb i) hm, fun B F H os σ Q I q => ?_⟩
  refine two (Q := fun _ _ => True) I ra rb fun x y F2 H2 fx fy f2 e2 W2 p1 p2 => ?_
  exact h B F2 H2 x y fx fy os _ W2 p1 p2 fun v F3 H3 fp f3 e3 W3 p3 => ⟨z, vbl p3, q F3 H3 (f2.trans f3) (e2.trans e3) W3.drop⟩
/-- a op1 b op2 c, b an int -/
theorem xt_chain {op op' : CmpOp} {r2 r2' : R2} {ec : Expr} {z z' u : Bool} {n : Int} (ho : ∀ i, OpR (Y.X i) (compareOp op) r2) (ho' : ∀ i, OpR (Y.X i) (compareOp op') r2') (h : Op2 r2 a (vInt n) (vBl z)) (h' : z = true → Op2 r2' (vInt n) c (vBl z'))
    (hu : u = (z && z')) (ha : XV Y ea Γ a) (hb : XV Y eb Γ (vInt n)) (hc : z = true → XV Y ec Γ c) (hm : lastMarks [op, op'] [eb, ec] = false := by with_unfolding_all rfl) : XT Y (.Compare ea [op, op'] [eb, ec] pos) Γ u := by
  subst hu
  obtain ⟨ta, pa, ra⟩ := ha
  obtain ⟨tb, pb, rb⟩ := hb
  cases z with
  | true =>
    obtain ⟨tc, pc, rc⟩ := hc rfl
    refine ⟨_, fun i => pt_chain (ho i) (ho' i) (pa i) (pb i) (pc i) hm, fun B F H os σ Q I q => ?_⟩
    refine two (Q := fun _ _ => True) I ra rb fun x y F2 H2 fx fy f2 e2 W2 p1 p2 => ?_
    obtain rfl := val_no p2
    refine h B F2 H2 x y fx [] os _ W2 p1 p2 fun v F3 H3 fp f3 e3 W3 p3 => ?_
    refine ⟨true, vbl p3, ?_⟩
    show tc σ H3 _
    have W3' := W3.drop
    refine rc B F3 H3 os σ _ (I.step0 (f2.trans f3) (e2.trans e3) W3') fun z4 F4 H4 fp4 f4 e4 W4 p4 => ?_
    refine h' rfl B F4 H4 y z4 [] fp4 os _ W4 ((vInt n).mono (f3.trans f4) (e3.trans e4) p2) p4 fun v5 F5 H5 fp5 f5 e5 W5 p5 => ?_
    exact ⟨z', vbl p5, q F5 H5 (((f2.trans f3).trans f4).trans f5) (((e2.trans e3).trans e4).trans e5) W5.drop⟩
  | false =>
    have dum : ∃ tc, ∀ i, PE (Y.X i) ec tc := ⟨fun _ _ _ => False, fun i => ⟨fun _ _ _ _ _ _ h => h.elim⟩⟩
    obtain ⟨tc, pc⟩ := dum
    refine ⟨_, fun i => pt_chain (ho i) (ho' i) (pa i) (pb i) (pc i) hm, fun B F H os σ Q I q => ?_⟩
    refine two (Q := fun _ _ => True) I ra rb fun x y F2 H2 fx fy f2 e2 W2 p1 p2 => ?_
    refine h B F2 H2 x y fx fy os _ W2 p1 p2 fun v F3 H3 fp f3 e3 W3 p3 => ?_
    refine ⟨false, vbl p3, ?_⟩
    show ∃ k, V.bl false = .bl k ∧ _
    exact ⟨false, rfl, q F3 H3 (f2.trans f3) (e2.trans e3) W3.drop⟩
theorem x_un {op : UnaryOp} {r1 : V → Hp → VK → Prop} (ho : ∀ i, UnR (Y.X i) (unaryOp op) r1) (h : Op1 r1 a c) (ha : XV Y ea Γ a) : XV Y (.UnaryOp op ea pos) Γ c := by
  obtain ⟨ta, pa, ra⟩ := ha
  refine ⟨_, fun i => pe_un (ho i) (pa i), fun B F H os σ Q I q => ?_⟩
  refine ra B F H os σ _ I fun x F1 H1 fx f1 e1 W1 p1 => ?_
  exact h B F1 H1 x fx os Q W1 p1 fun v F3 H3 fp f3 e3 W3 p3 => q v F3 H3 fp (f1.trans f3) (e1.trans e3) W3 p3

/-! ### tests -/
theorem xt_val {z : Bool} (h : XV Y e Γ (vBl z)) (he : ∀ i whole, isTrue e (Y.X i).env whole = (do let v ← whole; standAt e.pos; holding [v] (truthy v)) := by intro _ _; rfl) : XT Y e Γ z := by
  obtain ⟨t, p, r⟩ := h
  refine ⟨_, fun i => pt_val (p i) (he i), fun B F H os σ Q I q => ?_⟩
  refine r B F H os σ _ I fun v F1 H1 fp f1 e1 W1 p1 => ?_
  exact ⟨z, vbl p1, q F1 H1 f1 e1 W1.drop⟩
theorem xw_pt {z : Bool} (h : XW Y e Γ z) : XT Y e Γ z := let ⟨t, p, r⟩ := h; ⟨t, fun i => (p i).pt, r⟩
theorem xw_and1 {z : Bool} (h : XT Y e Γ z) : XW Y (.BoolOp .And [e] pos) Γ z := let ⟨t, p, r⟩ := h; ⟨t, fun i => pw_and1 (p i), r⟩
theorem xw_or1 {z : Bool} (h : XT Y e Γ z) : XW Y (.BoolOp .Or [e] pos) Γ z := let ⟨t, p, r⟩ := h; ⟨t, fun i => pw_or1 (p i), r⟩
theorem pw_dum {i : Y.I} : PW (Y.X i) e (fun _ _ _ => False) := ⟨fun _ _ _ _ _ _ _ h => h.elim⟩
theorem pe_dum {i : Y.I} : PE (Y.X i) e (fun _ _ _ => False) := ⟨fun _ _ _ _ _ _ h => h.elim⟩
theorem xw_and {z z' u : Bool} (h : XT Y ea Γ z) (h2 : z = true → XW Y (.BoolOp .And (eb :: es) pos) Γ z') (hu : u = (z && z')) : XW Y (.BoolOp .And (ea :: eb :: es) pos) Γ u := by
  subst hu
  obtain ⟨t, p, r⟩ := h
  cases z with
  | true =>
    obtain ⟨t2, p2, r2⟩ := h2 rfl
    refine ⟨_, fun i => pw_and (p i) (p2 i), fun B F H os σ Q I q => ?_⟩
    refine r B F H os σ _ I fun F1 H1 f1 e1 W1 => ?_
    show t2 σ H1 Q
    exact r2 B F1 H1 os σ _ (I.step0 f1 e1 W1) fun F2 H2 f2 e2 W2 => q F2 H2 (f1.trans f2) (e1.trans e2) W2
  | false =>
    refine ⟨_, fun i => pw_and (p i) pw_dum, fun B F H os σ Q I q => ?_⟩
    refine r B F H os σ _ I fun F1 H1 f1 e1 W1 => ?_
    show Q false H1
    exact q F1 H1 f1 e1 W1
theorem xw_or {z z' u : Bool} (h : XT Y ea Γ z) (h2 : z = false → XW Y (.BoolOp .Or (eb :: es) pos) Γ z') (hu : u = (z || z')) : XW Y (.BoolOp .Or (ea :: eb :: es) pos) Γ u := by
  subst hu
  obtain ⟨t, p, r⟩ := h
  cases z with
  | false =>
    obtain ⟨t2, p2, r2⟩ := h2 rfl
    refine ⟨_, fun i => pw_or (p i) (p2 i), fun B F H os σ Q I q => ?_⟩
    refine r B F H os σ _ I fun F1 H1 f1 e1 W1 => ?_
    show t2 σ H1 Q
    exact r2 B F1 H1 os σ _ (I.step0 f1 e1 W1) fun F2 H2 f2 e2 W2 => q F2 H2 (f1.trans f2) (e1.trans e2) W2
  | true =>
    refine ⟨_, fun i => pw_or (p i) pw_dum, fun B F H os σ Q I q => ?_⟩
    refine r B F H os σ _ I fun F1 H1 f1 e1 W1 => ?_
    show Q true H1
    exact q F1 H1 f1 e1 W1
theorem xt_not {z u : Bool} (h : XT Y e Γ z) (hu : u = !z) : XT Y (.UnaryOp .Not e pos) Γ u := by
  subst hu
  obtain ⟨t, p, r⟩ := h
  exact ⟨_, fun i => pt_not (p i), fun B F H os σ Q I q => r B F H os σ _ I fun F1 H1 f1 e1 W1 => q F1 H1 f1 e1 W1⟩
/-- as values, all bools -/
theorem x_one {op : BoolOp} (h : XV Y e Γ r) : XV Y (.BoolOp op [e] pos) Γ r := let ⟨t, p, r⟩ := h; ⟨t, fun i => pe_one (p i), r⟩
theorem x_and {z z' u : Bool} (h : XV Y ea Γ (vBl z)) (h2 : z = true → XV Y (.BoolOp .And (eb :: es) pos) Γ (vBl z')) (hu : u = (z && z')) : XV Y (.BoolOp .And (ea :: eb :: es) pos) Γ (vBl u) := by
  subst hu
  obtain ⟨t, p, r⟩ := h
  cases z with
  | true =>
    obtain ⟨t2, p2, r2⟩ := h2 rfl
    refine ⟨_, fun i => pe_and (p i) (p2 i), fun B F H os σ Q I q => ?_⟩
    refine r B F H os σ _ I fun v F1 H1 fp f1 e1 W1 p1 => ?_
    refine ⟨true, vbl p1, ?_⟩
    show t2 σ H1 Q
    exact r2 B F1 H1 os σ _ (I.step0 f1 e1 W1.drop) fun v F2 H2 fp f2 e2 W2 p2 => q v F2 H2 fp (f1.trans f2) (e1.trans e2) W2 p2
  | false =>
    refine ⟨_, fun i => pe_and (p i) pe_dum, fun B F H os σ Q I q => ?_⟩
    refine r B F H os σ _ I fun v F1 H1 fp f1 e1 W1 p1 => ?_
    refine ⟨false, vbl p1, ?_⟩
    show Q (.bl false) H1
    exact q _ F1 H1 [] f1 e1 W1.drop ⟨rfl, _, rfl, rfl⟩
theorem x_or {z z' u : Bool} (h : XV Y ea Γ (vBl z)) (h2 : z = false → XV Y (.BoolOp .Or (eb :: es) pos) Γ (vBl z')) (hu : u = (z || z')) : XV Y (.BoolOp .Or (ea :: eb :: es) pos) Γ (vBl u) := by
  subst hu
  obtain ⟨t, p, r⟩ := h
  cases z with
  | false =>
    obtain ⟨t2, p2, r2⟩ := h2 rfl
    refine ⟨_, fun i => pe_or (p i) (p2 i), fun B F H os σ Q I q => ?_⟩
    refine r B F H os σ _ I fun v F1 H1 fp f1 e1 W1 p1 => ?_
    refine ⟨false, vbl p1, ?_⟩
    show t2 σ H1 Q
    exact r2 B F1 H1 os σ _ (I.step0 f1 e1 W1.drop) fun v F2 H2 fp f2 e2 W2 p2 => q v F2 H2 fp (f1.trans f2) (e1.trans e2) W2 p2
  | true =>
    refine ⟨_, fun i => pe_or (p i) pe_dum, fun B F H os σ Q I q => ?_⟩
    refine r B F H os σ _ I fun v F1 H1 fp f1 e1 W1 p1 => ?_
    refine ⟨true, vbl p1, ?_⟩
    show Q (.bl true) H1
    exact q _ F1 H1 [] f1 e1 W1.drop ⟨rfl, _, rfl, rfl⟩
/-- another reading of the value -/
theorem XV.as (h : XV Y e Γ a) (k : ∀ F H fp o, Same F H → a.P F H fp o → b.P F H fp o) : XV Y e Γ b := by
  obtain ⟨t, p, r⟩ := h
  exact ⟨t, p, fun B F H os σ Q I q => r B F H os σ _ I fun v F1 H1 fp f1 e1 W1 p1 => q v F1 H1 fp f1 e1 W1 (k F1 H1 fp _ W1.sub p1)⟩

/-! ### arguments -/
theorem xa_nil : XA Y [] Γ [] := ⟨_, fun _ => pa_nil, fun B F H os σ Q I q => q [] F H [] same_refl same_refl I.W .nil⟩
theorem xa_cons {As : List Slot} (h : XV Y e Γ a) (hr : XA Y es Γ As) (hs : ∀ i, starEach (e :: es) (Y.X i).env = (false, eval e (Y.X i).env) :: starEach es (Y.X i).env := by intro _; rfl) : XA Y (e :: es) Γ (a :: As) := by
  obtain ⟨t, p, r⟩ := h
  obtain ⟨t2, p2, r2⟩ := hr
  refine ⟨_, fun i => pa_cons (p i) (p2 i) (hs i), fun B F H os σ Q I q => ?_⟩
  refine r B F H os σ _ I fun v F1 H1 fp f1 e1 W1 p1 => ?_
  refine r2 B F1 H1 _ σ _ (I.step f1 e1 W1) fun vs F2 H2 fp2 f2 e2 W2 S2 => ?_
  refine q (v :: vs) F2 H2 (fp ++ fp2) (f1.trans f2) (e1.trans e2) (W2.perm ?_) (.cons (a.mono f2 e2 p1) S2)
  rw [← List.append_assoc]
  exact List.Perm.append_right os List.perm_append_comm
end

/-! ### ints, bools, texts -/
section
variable {a b c : Slot} {i j : Int}
theorem o_II {g : Int → Int → V} (h : ∀ F H, c.P F H [] (some (g i j))) : Op2 (rI0 g) (vInt i) (vInt j) c := fun B F H x y fx fy os Q W p1 p2 q => by
  obtain rfl := vint p1
  obtain rfl := vint p2
  exact ⟨i, j, rfl, rfl, q _ F H [] same_refl same_refl W.drop.drop (h F H)⟩
theorem o_IIc {C : Int → Int → Prop} {g : Int → Int → V} (hC : C i j) (h : ∀ F H, c.P F H [] (some (g i j))) : Op2 (rI C g) (vInt i) (vInt j) c := fun B F H x y fx fy os Q W p1 p2 q => by
  obtain rfl := vint p1
  obtain rfl := vint p2
  exact ⟨i, j, rfl, rfl, hC, q _ F H [] same_refl same_refl W.drop.drop (h F H)⟩
theorem o_int {g : Int → Int → Int} : Op2 (rI0 fun i j => .int (g i j)) (vInt i) (vInt j) (vInt (g i j)) := o_II fun _ _ => ⟨rfl, _, rfl, rfl⟩
theorem o_bl {g : Int → Int → Bool} : Op2 (rI0 fun i j => .bl (g i j)) (vInt i) (vInt j) (vBl (g i j)) := o_II fun _ _ => ⟨rfl, _, rfl, rfl⟩
theorem o_intC {C : Int → Int → Prop} {g : Int → Int → Int} (hC : C i j) : Op2 (rI C fun i j => .int (g i j)) (vInt i) (vInt j) (vInt (g i j)) := o_IIc hC fun _ _ => ⟨rfl, _, rfl, rfl⟩
/-- == of flat values -/
theorem o_eq {α β : Type} {p : VP α} {q' : VP β} {u : α} {v : β} {z : Bool} (h : ∀ F x y, p.R F x u → q'.R F y v → scal x y = true ∧ decide (x = y) = z) : Op2 rEq (val p u) (val q' v) (vBl z) := fun B F H x y fx fy os Q W p1 p2 q => by
  obtain ⟨e1, e2⟩ := h F x y (val_P p1).2 (val_P p2).2
  exact ⟨e1, by rw [e2]; exact q _ F H [] same_refl same_refl W.drop.drop ⟨rfl, _, rfl, rfl⟩⟩
theorem o_ne {α β : Type} {p : VP α} {q' : VP β} {u : α} {v : β} {z : Bool} (h : ∀ F x y, p.R F x u → q'.R F y v → scal x y = true ∧ (!decide (x = y)) = z) : Op2 rNe (val p u) (val q' v) (vBl z) := fun B F H x y fx fy os Q W p1 p2 q => by
  obtain ⟨e1, e2⟩ := h F x y (val_P p1).2 (val_P p2).2
  exact ⟨e1, by rw [e2]; exact q _ F H [] same_refl same_refl W.drop.drop ⟨rfl, _, rfl, rfl⟩⟩
theorem o_eqI : Op2 rEq (vInt i) (vInt j) (vBl (decide (i = j))) := o_eq fun F x y h1 h2 => by
  cases h1; cases h2
  refine ⟨rfl, ?_⟩
  by_cases e : i = j <;> simp [e]
theorem o_neI : Op2 rNe (vInt i) (vInt j) (vBl (!decide (i = j))) := o_ne fun F x y h1 h2 => by
  cases h1; cases h2
  refine ⟨rfl, ?_⟩
  by_cases e : i = j <;> simp [e]
theorem o_eqS {x y : Str} : Op2 rEq (vStr x) (vStr y) (vBl (decide (x = y))) := o_eq fun F x1 y1 h1 h2 => by
  cases h1; cases h2
  refine ⟨rfl, ?_⟩
  by_cases e : x = y <;> simp [e]
theorem o_neS {x y : Str} : Op2 rNe (vStr x) (vStr y) (vBl (!decide (x = y))) := o_ne fun F x1 y1 h1 h2 => by
  cases h1; cases h2
  refine ⟨rfl, ?_⟩
  by_cases e : x = y <;> simp [e]
end
end Ty

/-! Ty3 -/
namespace Ty
open PySem PySem.Spec L2

section
variable {P : Program} {w : World} {K : PySem.W.Frag} {mg : Str → Option Value} {base : Heap} {k : Nat}
variable {Y : Fa P w K mg base k} {i : Y.I} {e ea eb tg iter : Expr} {es : List Expr} {st : Stmt} {rest body orelse : List Stmt} {Γ Γ' Γ1 Γ2 : List Slot} {a b c r : Slot} {pos : Pos} {B : Bs} {D : Ends}

/-! ### slots read otherwise: frozen, forgotten -/
/-- s may be read as s': what of its own (x) is frozen or forgotten, what (y) stays its own -/
def WkS (s s' : Slot) : Prop := ∀ (F H : Hp) (fp : List Addr) (o : Option V), Same F H → s.P F H fp o → ∃ x y, fp = x ++ y ∧ ∀ F', Same F F' → Same F' H → (∀ q ∈ x, F' q = H q) → s'.P F' H y o
theorem WkS.refl {s : Slot} : WkS s s := fun F H fp o _ h => ⟨[], fp, rfl, fun F' hF _ _ => s.mono hF (fun _ _ h => h) h⟩
theorem WkS.dead {s : Slot} : WkS s dead := fun F H fp o _ h => ⟨fp, [], by simp, fun _ _ _ _ => rfl⟩
theorem WkS.list {α : Type} {p : VP α} {xs : List α} : WkS (own (oL p) xs) (val (pL p) xs) := fun F H fp o _ h => by
  obtain ⟨v, e, l, vs, el, ef, h1, h2⟩ := h
  subst ef
  exact ⟨[l], [], rfl, fun F' hF hs hx => ⟨rfl, v, e, l, vs, el, by rw [hx l List.mem_cons_self]; exact h1, Paired.mon (fun _ _ r => p.mono hF r) h2⟩⟩
/-- the same value, said otherwise -/
theorem WkS.val {α β : Type} {p : VP α} {q : VP β} {x : α} {y : β} (h : ∀ F v, p.R F v x → q.R F v y) : WkS (val p x) (val q y) := fun F H fp o _ g => by
  obtain ⟨e, v, ev, r⟩ := g
  exact ⟨[], fp, rfl, fun F' hF _ _ => ⟨e, v, ev, h F' v (p.mono hF r)⟩⟩
theorem WkS.opt {α : Type} {p : VP α} {x : α} (h : ∀ F v, p.R F v x → v ≠ .non) : WkS (Ty.val p x) (Ty.val (pOpt p) (Option.some x)) := WkS.val fun F v r => ⟨r, h F v r⟩
theorem WkS.optN {α : Type} {p : VP α} : WkS vNon (Ty.val (pOpt p) (Option.none : Option α)) := WkS.val fun F v r => r
inductive WkL : List Slot → List Slot → Prop
  | nil : WkL [] []
  | cons {s s' : Slot} {Γ Γ' : List Slot} : WkS s s' → WkL Γ Γ' → WkL (s :: Γ) (s' :: Γ')
theorem WkL.refl : ∀ {Γ : List Slot}, WkL Γ Γ
  | [] => .nil
  | _ :: _ => .cons .refl WkL.refl
theorem Slots.wk {F H : Hp} (hS : Same F H) {Γ Γ' : List Slot} (w : WkL Γ Γ') : ∀ {os σ}, Slots F H os σ Γ → ∃ x y, os.Perm (x ++ y) ∧ ∀ F', Same F F' → Same F' H → (∀ q ∈ x, F' q = H q) → Slots F' H y σ Γ' := by
  induction w with
  | nil => intro os σ h; cases h; exact ⟨[], [], .refl _, fun _ _ _ _ => .nil⟩
  | cons h w ih =>
    intro os σ g
    cases g with
    | @cons fp os o σ _ _ p q =>
      obtain ⟨x1, y1, e1, k1⟩ := h F H fp o hS p
      obtain ⟨x2, y2, e2, k2⟩ := ih q
      refine ⟨x1 ++ x2, y1 ++ y2, ?_, fun F' hF hs hx => .cons (k1 F' hF hs fun q hq => hx q (List.mem_append_left _ hq)) (k2 F' hF hs fun q hq => hx q (List.mem_append_right _ hq))⟩
      subst e1
      refine (List.Perm.append_left (x1 ++ y1) e2).trans ?_
      rw [List.append_assoc, List.append_assoc]
      refine List.Perm.append_left x1 ?_
      rw [← List.append_assoc, ← List.append_assoc]
      exact List.Perm.append_right y2 List.perm_append_comm
theorem Sta.wk {F H : Hp} {σ : List (Option V)} (S : Sta B F H σ Γ) (w : WkL Γ Γ') : ∃ F', Sta B F' H σ Γ' := by
  obtain ⟨os, W, S1⟩ := S
  obtain ⟨x, y, e, kk⟩ := S1.wk W.sub w
  obtain ⟨F', W', hF, hx⟩ := (W.perm e).freeze
  exact ⟨F', y, W', kk F' hF W'.sub hx⟩
theorem XV.wk (h : XV Y e Γ a) (hw : WkS a b) : XV Y e Γ b := by
  obtain ⟨t, p, rd⟩ := h
  refine ⟨t, p, fun B F H os σ Q I q => rd B F H os σ _ I fun v F1 H1 fp f1 e1 W1 p1 => ?_⟩
  obtain ⟨x, y, e, kk⟩ := hw F1 H1 fp _ W1.sub p1
  subst e
  rw [List.append_assoc] at W1
  obtain ⟨F', W', hF, hx⟩ := W1.freeze
  exact q v F' H1 y (f1.trans hF) e1 W' (kk F' hF W'.sub hx)

/-! ### statements -/
/-- the rest of a block, run from here -/
def cont (X : Cx) (rest : List Stmt) (D : Ends) : L2.St → Hp → Prop := fun σ H => ∀ pins s, Inv X pins σ H s → wpAny (model X.prog X.w) X.A (execs rest X.env) (SP X pins D) X.xe s
def Go (Y : Fa P w K mg base k) (i : Y.I) (sts : List Stmt) (D : Ends) (B : Bs) (Γ : List Slot) : Prop := ∀ F H σ, Sta B F H σ Γ → cont (Y.X i) sts D σ H
/-- a state that Γ tells -/
def Nx (B : Bs) (Γ : List Slot) : L2.St → Hp → Prop := fun σ H => ∃ F, Sta B F H σ Γ
/-- a value that is left, nothing else kept -/
def Fi (B : Bs) (s : Slot) : VK := fun v H => ∃ F fp, Wo B F H fp ∧ s.P F H fp (some v)
theorem pss_cont {X : Cx} : PSs X body (fun D σ H => cont X body D σ H) := ⟨fun pins s σ H D I h => h pins s I⟩
theorem go_nil (h : ∀ σ H, Nx B Γ σ H → D.nx σ H) : Go Y i [] D B Γ := fun F H σ S pins s I => wpAny_execs_nil ⟨σ, H, I, h σ H ⟨F, S⟩⟩
theorem go_ps {t : TS} (hp : PS (Y.X i) st t) (h : ∀ F H σ, Sta B F H σ Γ → t { D with nx := cont (Y.X i) rest D } σ H) : Go Y i (st :: rest) D B Γ := fun F H σ S pins s I => by
  refine wpAny_execs_cons (thn (hp.run pins s σ H _ I (h F H σ S)) fun f s1 q => ?_)
  cases f with
  | next =>
    obtain ⟨σ', H', I', q⟩ := q
    exact q pins s1 I'
  | ret v => exact q
  | brk => exact q
  | cont => exact q
theorem go_wk (h : Go Y i rest D B Γ') (hw : WkL Γ Γ') : Go Y i rest D B Γ := fun F H σ S => let ⟨F', S'⟩ := S.wk hw; h F' H σ S'
/-- the end of a branch: what follows the if -/
theorem go_join (h : Go Y i rest D B Γ) : Go Y i [] { D with nx := cont (Y.X i) rest D } B Γ := go_nil fun σ H ⟨F, S⟩ => h F H σ S
theorem go_nx (hw : WkL Γ Γ') : Go Y i [] { D with nx := Nx B Γ' } B Γ := go_nil fun σ H ⟨F, S⟩ => S.wk hw
/-- an expression run from a state -/
theorem Sta.in {F H : Hp} {σ : List (Option V)} {os : List Addr} (W : Wo B F H os) (S : Slots F H os σ Γ) : In B F H os σ Γ := ⟨W, os, [], by simp, S⟩
theorem Sta.to {F H F' H' : Hp} {σ : List (Option V)} {os : List Addr} (S : Slots F H os σ Γ) (hF : Same F F') (hH : Same H H') (W : Wo B F' H' os) : Sta B F' H' σ Γ := ⟨os, W, S.mono hF hH⟩
theorem go_ret (h : XV Y e Γ r) (hd : ∀ v H, Fi B r v H → D.rt v H) : Go Y i (.Return (some e) pos :: rest) D B Γ := by
  obtain ⟨t, p, rd⟩ := h
  refine go_ps (ps_ret (p i)) fun F H σ ⟨os, W, S⟩ => ?_
  exact rd B F H os σ _ (Sta.in W S) fun v F1 H1 fp f1 e1 W1 p1 => hd v H1 ⟨F1, fp, W1.dropR, p1⟩
theorem go_if {z : Bool} (hc : XT Y e Γ z) (h1 : z = true → Go Y i body { D with nx := cont (Y.X i) rest D } B Γ) (h2 : z = false → Go Y i orelse { D with nx := cont (Y.X i) rest D } B Γ) : Go Y i (.If e body orelse pos :: rest) D B Γ := by
  obtain ⟨t, p, rd⟩ := hc
  refine go_ps (ps_if (p i) pss_cont pss_cont) fun F H σ ⟨os, W, S⟩ => ?_
  refine rd B F H os σ _ (Sta.in W S) fun F1 H1 f1 e1 W1 => ?_
  cases z with
  | true =>
    show cont (Y.X i) body _ σ H1
    exact h1 rfl F1 H1 σ (Sta.to S f1 e1 W1)
  | false =>
    show cont (Y.X i) orelse _ σ H1
    exact h2 rfl F1 H1 σ (Sta.to S f1 e1 W1)
theorem cont_mono {X : Cx} {sts : List Stmt} {D D' : Ends} {σ : L2.St} {H : Hp} (h : cont X sts D σ H) (h1 : ∀ σ H, D.nx σ H → D'.nx σ H) (h2 : ∀ v H, D.rt v H → D'.rt v H) (h3 : ∀ σ H, D.bk σ H → D'.bk σ H) (h4 : ∀ σ H, D.ct σ H → D'.ct σ H) : cont X sts D' σ H := fun pins s I => by
  refine thn (h pins s I) fun f s1 q => ?_
  cases f with
  | next => obtain ⟨σ', H', I', q⟩ := q; exact ⟨σ', H', I', h1 _ _ q⟩
  | ret v => obtain ⟨x, σ', H', I', r, q⟩ := q; exact ⟨x, σ', H', I', r, h2 _ _ q⟩
  | brk => obtain ⟨σ', H', I', q⟩ := q; exact ⟨σ', H', I', h3 _ _ q⟩
  | cont => obtain ⟨σ', H', I', q⟩ := q; exact ⟨σ', H', I', h4 _ _ q⟩
/-- both branches come to the one state Γ', from which it goes on -/
theorem go_ifJ (Γ' : List Slot) {z : Bool} (hc : XT Y e Γ z) (h1 : z = true → Go Y i body { D with nx := Nx B Γ' } B Γ) (h2 : z = false → Go Y i orelse { D with nx := Nx B Γ' } B Γ) (hg : Go Y i rest D B Γ') : Go Y i (.If e body orelse pos :: rest) D B Γ :=
  go_if hc (fun hz F H σ S => cont_mono (h1 hz F H σ S) (fun σ' H' ⟨F', S'⟩ => hg F' H' σ' S') (fun _ _ q => q) (fun _ _ q => q) (fun _ _ q => q))
    (fun hz F H σ S => cont_mono (h2 hz F H σ S) (fun σ' H' ⟨F', S'⟩ => hg F' H' σ' S') (fun _ _ q => q) (fun _ _ q => q) (fun _ _ q => q))

/-! ### targets -/
/-- the target takes a value told by r; ws: the slots that it writes -/
def XG (Y : Fa P w K mg base k) (tg : Expr) (ws : List Nat) (r : Slot) (Γ Γ' : List Slot) : Prop :=
  (Γ'.length = Γ.length ∧ ∀ j, j ∉ ws → Γ'[j]? = Γ[j]?) ∧ ∃ g : TG, (∀ i, PG (Y.X i) tg g) ∧ ∀ (F H : Hp) (fp os : List Addr) (σ : List (Option V)) (v : V) (Q : L2.St → Hp → Prop), Same F H → r.P F H fp (some v) → Slots F H os σ Γ →
    (∀ σ' os' d, (σ'.length = σ.length ∧ ∀ j, j ∉ ws → σ'[j]? = σ[j]?) → (fp ++ os).Perm (d ++ os') → Slots F H os' σ' Γ' → Q σ' H) → g v σ H Q
def XGs (Y : Fa P w K mg base k) (tgs : List Expr) (ws : List Nat) (rs : List Slot) (Γ Γ' : List Slot) : Prop :=
  (Γ'.length = Γ.length ∧ ∀ j, j ∉ ws → Γ'[j]? = Γ[j]?) ∧ ∃ g : TGs, (∀ i, PGs (Y.X i) tgs g) ∧ ∀ (F H : Hp) (fp os : List Addr) (σ : List (Option V)) (vs : List V) (Q : L2.St → Hp → Prop), Same F H → Slots F H fp (vs.map some) rs → Slots F H os σ Γ →
    (∀ σ' os' d, (σ'.length = σ.length ∧ ∀ j, j ∉ ws → σ'[j]? = σ[j]?) → (fp ++ os).Perm (d ++ os') → Slots F H os' σ' Γ' → Q σ' H) → g vs σ H Q
theorem Slots.put {F H : Hp} {fp os : List Addr} {o : Option V} {σ : List (Option V)} {j : Nat} (S : Slots F H os σ Γ) (h : r.P F H fp o) (hj : j < Γ.length) : ∃ os' d, Slots F H os' (σ.set j o) (Γ.set j r) ∧ (fp ++ os).Perm (d ++ os') := by
  obtain ⟨o3, fp3, r3, e3, p3, q3, k3⟩ := S.at (List.getElem?_eq_getElem hj)
  obtain ⟨os', h1, h2⟩ := k3 h (fun s0 _ fp0 o0 _ x => x)
  refine ⟨os', fp3, h1, ?_⟩
  refine (List.Perm.append_left fp q3).trans ?_
  rw [← List.append_assoc]
  refine (List.Perm.append_right r3 List.perm_append_comm).trans ?_
  rw [List.append_assoc]
  exact List.Perm.append_left fp3 h2.symm
theorem xg_name (j : Nat) {x : Str} (hj : Nat.blt j Γ.length = true := by rfl) (hi : ∀ i, (Y.X i).N[j]? = some x := by intro _; rfl) (hx : ∀ i, Loc (Y.X i).env.scope x := by intro _; first | exact Or.inl rfl | exact Or.inr rfl)
    (hf : ∀ i, (Y.X i).fn x = true ∨ (Y.X i).env.scope.names.lookup x = some .local := by intro _; first | exact Or.inl rfl | exact Or.inr rfl) : XG Y (.Name x pos) [j] r Γ (Γ.set j r) := by
  refine ⟨⟨by simp, fun q hq => List.getElem?_set_ne (fun z => hq (by simp [z]))⟩, _, fun i => pg_name (Y.hN i) (hi i) (hx i) (hf i), fun F H fp os σ v Q hS p S q => ?_⟩
  obtain ⟨os', d, h1, h2⟩ := S.put p (Nat.le_of_ble_eq_true hj)
  exact q _ os' d ⟨by simp, fun q hq => List.getElem?_set_ne (fun z => hq (by simp [z]))⟩ h2 h1
theorem xgs_nil : XGs Y [] [] [] Γ Γ := by
  refine ⟨⟨rfl, fun _ _ => rfl⟩, _, fun i => pgs_nil, fun F H fp os σ vs Q hS p S q => ?_⟩
  have e := p.length
  obtain rfl : vs = [] := List.eq_nil_of_length_eq_zero (by simpa using e)
  exact ⟨rfl, q σ os fp ⟨rfl, fun _ _ => rfl⟩ (.refl _) S⟩
theorem Slots.cons_inv {F H : Hp} {fp : List Addr} {o : Option V} {σ : List (Option V)} {s : Slot} {Γ : List Slot} (S : Slots F H fp (o :: σ) (s :: Γ)) : ∃ f1 f2, fp = f1 ++ f2 ∧ s.P F H f1 o ∧ Slots F H f2 σ Γ := by
  cases S with
  | cons p r => exact ⟨_, _, rfl, p, r⟩
theorem xgs_cons {t : Expr} {ts : List Expr} {w1 w2 : List Nat} {rs : List Slot} (h1 : XG Y t w1 r Γ Γ1) (h2 : XGs Y ts w2 rs Γ1 Γ2) (hs : ∀ i, (assignEach (t :: ts) (Y.X i).env).map (·.2) = assign t (Y.X i).env :: (assignEach ts (Y.X i).env).map (·.2) := by intro _; rfl) : XGs Y (t :: ts) (w1 ++ w2) (r :: rs) Γ Γ2 := by
  obtain ⟨⟨l1, k1⟩, g1, p1, q1⟩ := h1
  obtain ⟨⟨l2, k2⟩, g2, p2, q2⟩ := h2
  refine ⟨⟨by rw [l2, l1], fun j hj => ?_⟩, _, fun i => pgs_cons (p1 i) (p2 i) (hs i), fun F H fp os σ vs Q hS p S q => ?_⟩
  · rw [k2 j (fun z => hj (List.mem_append_right _ z)), k1 j (fun z => hj (List.mem_append_left _ z))]
  · match vs, p with
    | [], p => have e := p.length; simp at e
    | v :: vs, p =>
      obtain ⟨f1, f2, rfl, pv, pr⟩ := Slots.cons_inv p
      refine ⟨v, vs, rfl, q1 F H f1 os σ v _ hS pv S fun σ1 os1 d1 ⟨m1, n1⟩ W1 S1 => ?_⟩
      refine q2 F H f2 os1 σ1 vs _ hS pr S1 fun σ2 os2 d2 ⟨m2, n2⟩ W3 S2 => q σ2 os2 (d1 ++ d2) ⟨by rw [m2, m1], fun j hj => ?_⟩ ?_ S2
      · rw [n2 j (fun z => hj (List.mem_append_right _ z)), n1 j (fun z => hj (List.mem_append_left _ z))]
      · have a1 : (f1 ++ f2 ++ os).Perm (f2 ++ (f1 ++ os)) := by
          rw [← List.append_assoc]
          exact List.Perm.append_right os List.perm_append_comm
        refine a1.trans ((List.Perm.append_left f2 W1).trans ?_)
        have a2 : (f2 ++ (d1 ++ os1)).Perm (d1 ++ (f2 ++ os1)) := by
          rw [← List.append_assoc, ← List.append_assoc]
          exact List.Perm.append_right os1 List.perm_append_comm
        refine a2.trans ?_
        rw [List.append_assoc]
        exact List.Perm.append_left d1 W3
theorem xg_tup2 {α β : Type} {p : VP α} {q : VP β} {x : α × β} {t1 t2 : Expr} {n : Nat} {ws : List Nat} (h : XGs Y [t1, t2] ws [val p x.1, val q x.2] Γ Γ') (hn : ∀ i, (assignEach [t1, t2] (Y.X i).env).length = 2 := by intro _; rfl) (hst : ∀ i, (assignEach [t1, t2] (Y.X i).env).findIdx? (·.1) = none := by intro _; rfl) (hcm : Y.cm = true := by rfl) :
    XG Y (.Tuple [t1, t2] n pos) ws (val (pT2 p q) x) Γ Γ' := by
  obtain ⟨kk, g, pp, qq⟩ := h
  refine ⟨kk, _, fun i => by have := pg_tup (X := Y.X i) (k := n) (pos := pos) ((Y.hC i).trans hcm) (pp i) (hn i) (hst i); rw [Y.hK i] at this; exact this, fun F H fp os σ v Q hS pv S q => ?_⟩
  obtain ⟨rfl, l, a, b, ev, h1, h2, h3⟩ := val_P pv
  subst ev
  exact ⟨l, [a, b], rfl, SqT.of (hS _ _ h1), rfl, qq F H [] os σ [a, b] Q hS (Slots.cons (fp := []) ⟨rfl, _, rfl, h2⟩ (Slots.cons (fp := []) ⟨rfl, _, rfl, h3⟩ .nil)) S q⟩
theorem xg_tup3 {α β γ : Type} {p : VP α} {q : VP β} {u : VP γ} {x : α × β × γ} {t1 t2 t3 : Expr} {n : Nat} {ws : List Nat} (h : XGs Y [t1, t2, t3] ws [val p x.1, val q x.2.1, val u x.2.2] Γ Γ') (hn : ∀ i, (assignEach [t1, t2, t3] (Y.X i).env).length = 3 := by intro _; rfl) (hst : ∀ i, (assignEach [t1, t2, t3] (Y.X i).env).findIdx? (·.1) = none := by intro _; rfl) (hcm : Y.cm = true := by rfl) :
    XG Y (.Tuple [t1, t2, t3] n pos) ws (val (pT3 p q u) x) Γ Γ' := by
  obtain ⟨kk, g, pp, qq⟩ := h
  refine ⟨kk, _, fun i => by have := pg_tup (X := Y.X i) (k := n) (pos := pos) ((Y.hC i).trans hcm) (pp i) (hn i) (hst i); rw [Y.hK i] at this; exact this, fun F H fp os σ v Q hS pv S q => ?_⟩
  obtain ⟨rfl, l, a, b, c, ev, h1, h2, h3, h4⟩ := val_P pv
  subst ev
  exact ⟨l, [a, b, c], rfl, SqT.of (hS _ _ h1), rfl, qq F H [] os σ [a, b, c] Q hS (Slots.cons (fp := []) ⟨rfl, _, rfl, h2⟩ (Slots.cons (fp := []) ⟨rfl, _, rfl, h3⟩ (Slots.cons (fp := []) ⟨rfl, _, rfl, h4⟩ .nil))) S q⟩
/-- x = e -/
theorem go_set (j : Nat) {x : Str} {pos' : Pos} (he : XV Y e Γ r) (hg : Go Y i rest D B (Γ.set j r)) (hj : Nat.blt j Γ.length = true := by rfl) (hi : (Y.X i).N[j]? = some x := by rfl) (hx : Loc (Y.X i).env.scope x := by first | exact Or.inl rfl | exact Or.inr rfl)
    (hs : swapsWith e (some (.Name x pos')) pos.line (Y.X i).env = pure false := by rfl) (hf : (Y.X i).fn x = true ∨ (Y.X i).env.scope.names.lookup x = some .local := by first | exact Or.inl rfl | exact Or.inr rfl) : Go Y i (.Assign [.Name x pos'] e pos :: rest) D B Γ := by
  obtain ⟨t, p, rd⟩ := he
  refine go_ps (ps_set (Y.hN i) hi hx (p i) hs hf) fun F H σ ⟨os, W, S⟩ => ?_
  refine rd B F H os σ _ (Sta.in W S) fun v F1 H1 fp f1 e1 W1 p1 => ?_
  obtain ⟨os', d, h1, h2⟩ := (S.mono f1 e1).put p1 (Nat.le_of_ble_eq_true hj)
  exact hg F1 H1 _ ⟨os', (W1.perm h2).drop, h1⟩
/-- target = e -/
theorem go_asg {ws : List Nat} (he : XV Y e Γ r) (ht : XG Y tg ws r Γ Γ') (hg : Go Y i rest D B Γ') (hs : swapsWithSole [tg] e pos.line (Y.X i).env = pure false := by rfl) (hw : swappedStores [tg] e (Y.X i).env = pure none := by rfl) (h1 : (assignEach [tg] (Y.X i).env).map (·.2) = [assign tg (Y.X i).env] := by rfl) :
    Go Y i (.Assign [tg] e pos :: rest) D B Γ := by
  obtain ⟨t, p, rd⟩ := he
  obtain ⟨_, g, pg, qg⟩ := ht
  refine go_ps (ps_asg (p i) (pg i) hs hw h1) fun F H σ ⟨os, W, S⟩ => ?_
  refine rd B F H os σ _ (Sta.in W S) fun v F1 H1 fp f1 e1 W1 p1 => ?_
  exact qg F1 H1 fp os σ v _ W1.sub p1 (S.mono f1 e1) fun σ' os' d _ W' S' => hg F1 H1 σ' ⟨os', (W1.perm W').drop, S'⟩
/-! ### what is walked -/
/-- an iterator of things told by rs; ro: while the whole heap stands -/
def Wk (ro : Prop) (J : It) (F H : Hp) (rs : List Slot) : Prop := ∀ F1 H1, Same F F1 → (ro → Same H H1) → Same F1 H1 → J.stop rs.length H1 ∧
  ∀ (n : Nat) (r : Slot), rs[n]? = some r → J.go n H1 ∧ ∀ v H2, J.yld n H1 v H2 → Same H1 H2 ∧ ∀ (B : Bs) (os : List Addr), Wo B F1 H1 os → ∃ F2, Same F1 F2 ∧ Wo B F2 H2 os ∧ r.P F2 H2 [] (some v)
def XI (Y : Fa P w K mg base k) (tg iter : Expr) (Γ : List Slot) (ro : Prop) (rs : List Slot) : Prop :=
  ∃ wi : TI, (∀ i, PI (Y.X i) tg iter wi) ∧ ∀ (B : Bs) (F H : Hp) (os : List Addr) (σ : List (Option V)) (R : It → Hp → Prop), In B F H os σ Γ → (∀ J F' H', Same F F' → Same H H' → Wo B F' H' os → Wk ro J F' H' rs → R J H') → wi σ H R
theorem XI.ro {ro : Prop} {rs : List Slot} (h : XI Y tg iter Γ False rs) : XI Y tg iter Γ ro rs := by
  obtain ⟨wi, p, q⟩ := h
  exact ⟨wi, p, fun B F H os σ R I k => q B F H os σ R I fun J F' H' f e W w' => k J F' H' f e W fun F1 H1 a _ c => w' F1 H1 a (fun z => z.elim) c⟩
theorem paired_at' {α β : Type} {G : α → β → Prop} : ∀ {xs : List α} {ys : List β}, Paired G xs ys → ∀ {n : Nat} {y : β}, ys[n]? = some y → ∃ x, xs[n]? = some x ∧ G x y
  | _, _, .nil, n, x, e => by simp at e
  | _, _, .cons r t, 0, x, e => by simp at e; subst e; exact ⟨_, rfl, r⟩
  | _, _, .cons r t, n + 1, x, e => paired_at' t (n := n) (by simpa using e)
/-- over a list that stands still, by what is known of it at every heap that comes -/
theorem wk_list {α : Type} {p : VP α} {xs : List α} {ro : Prop} {F H : Hp} {l : Addr} {vs : List V} (hl : ∀ F1 H1, Same F F1 → (ro → Same H H1) → Same F1 H1 → SqL K H1 l vs) (hp : Paired (p.R F) vs xs) : Wk ro (Itl K l) F H (xs.map (val p)) := by
  intro F1 H1 a b c
  have q := hl F1 H1 a b c
  have hlen := Paired.length hp
  refine ⟨⟨vs, q, by simp [hlen]⟩, fun n r hr => ?_⟩
  rw [List.getElem?_map] at hr
  obtain ⟨x, ex, er⟩ := Option.map_eq_some_iff.mp hr
  obtain ⟨v, ev, rv⟩ := paired_at' hp ex
  refine ⟨⟨vs, v, q, ev⟩, fun u H2 y => ?_⟩
  obtain ⟨e1, y⟩ := y
  subst e1
  refine ⟨fun _ _ h => h, fun B os W => ⟨F1, same_refl, W, ?_⟩⟩
  have e2 := y vs q
  rw [ev] at e2
  cases e2
  subst er
  exact ⟨rfl, v, rfl, p.mono a rv⟩
theorem xi_list {α : Type} {p : VP α} {xs : List α} (h : XV Y iter Γ (val (pL p) xs)) : XI Y tg iter Γ False (xs.map (val p)) := by
  obtain ⟨t, pe, rd⟩ := h
  refine ⟨_, fun i => by have := pi_list (X := Y.X i) (tg := tg) (pe i); rw [Y.hK i] at this; exact this, fun B F H os σ R I kk => ?_⟩
  refine rd B F H os σ _ I fun v F1 H1 fp f1 e1 W1 p1 => ?_
  obtain ⟨_, l, vs, ev, h1, h2⟩ := val_P p1
  subst ev
  exact ⟨l, rfl, ⟨vs, SqL.of (W1.sub _ _ h1)⟩, kk _ F1 H1 f1 e1 W1.drop (wk_list (fun F2 H2 a _ c => SqL.of (c _ _ (a _ _ h1))) h2)⟩
theorem xi_bor {α : Type} {p : VP α} {xs : List α} (h : XV Y iter Γ (borL p xs)) : XI Y tg iter Γ True (xs.map (val p)) := by
  obtain ⟨t, pe, rd⟩ := h
  refine ⟨_, fun i => by have := pi_list (X := Y.X i) (tg := tg) (pe i); rw [Y.hK i] at this; exact this, fun B F H os σ R I kk => ?_⟩
  refine rd B F H os σ _ I fun v F1 H1 fp f1 e1 W1 p1 => ?_
  obtain ⟨_, l, vs, ev, h1, h2⟩ := p1
  cases ev
  exact ⟨l, rfl, ⟨vs, SqL.of h1⟩, kk _ F1 H1 f1 e1 W1.drop (wk_list (fun F2 H2 a b c => SqL.of (b trivial _ _ h1)) h2)⟩
theorem xi_tup {α : Type} {p : VP α} {xs : List α} (h : XV Y iter Γ (val (pTup p) xs)) : XI Y tg iter Γ False (xs.map (val p)) := by
  obtain ⟨t, pe, rd⟩ := h
  refine ⟨_, fun i => by have := pi_tup (X := Y.X i) (tg := tg) (pe i); rw [Y.hK i] at this; exact this, fun B F H os σ R I kk => ?_⟩
  refine rd B F H os σ _ I fun v F1 H1 fp f1 e1 W1 p1 => ?_
  obtain ⟨_, l, vs, ev, h1, hp⟩ := val_P p1
  subst ev
  refine ⟨l, rfl, ⟨vs, SqT.of (W1.sub _ _ h1)⟩, kk _ F1 H1 f1 e1 W1.drop ?_⟩
  intro F2 H2 a b c
  have q : SqT K H2 l vs := SqT.of (c _ _ (a _ _ h1))
  have hlen := Paired.length hp
  refine ⟨⟨vs, q, by simp [hlen]⟩, fun n r hr => ?_⟩
  rw [List.getElem?_map] at hr
  obtain ⟨x, ex, er⟩ := Option.map_eq_some_iff.mp hr
  obtain ⟨v, ev, rv⟩ := paired_at' hp ex
  refine ⟨⟨vs, v, q, ev⟩, fun u H3 y => ?_⟩
  obtain ⟨e1, y⟩ := y
  subst e1
  refine ⟨fun _ _ h => h, fun B os W => ⟨F2, same_refl, W, ?_⟩⟩
  have e2 := y vs q
  rw [ev] at e2
  cases e2
  subst er
  exact ⟨rfl, v, rfl, p.mono a rv⟩
/-- lo, lo + 1, .. below hi -/
def rangeL (lo hi : Int) : List Int := (List.range (hi - lo).toNat).map fun (n : Nat) => lo + (n : Int)
theorem wk_range {ro : Prop} {F H : Hp} {lo hi : Int} : Wk ro (Itr lo (hi - lo).toNat) F H ((rangeL lo hi).map (val pInt)) := by
  intro F1 H1 a b c
  refine ⟨by show (hi - lo).toNat ≤ _; simp [rangeL], fun n r hr => ?_⟩
  rw [List.getElem?_map] at hr
  obtain ⟨x, ex, er⟩ := Option.map_eq_some_iff.mp hr
  unfold rangeL at ex
  rw [List.getElem?_map] at ex
  obtain ⟨m, em, e3⟩ := Option.map_eq_some_iff.mp ex
  have hn : n < (hi - lo).toNat := by
    have := (List.getElem?_eq_some_iff.mp em).1
    simpa using this
  rw [List.getElem?_range hn] at em
  cases em
  refine ⟨hn, fun u H2 y => ?_⟩
  obtain ⟨e1, e2⟩ := y
  subst e1; subst e2; subst er; subst e3
  exact ⟨fun _ _ h => h, fun B os W => ⟨F1, same_refl, W, rfl, _, rfl, rfl⟩⟩
theorem xi_range1 {n : Int} {p' : Pos} (hm : mg "range" = none) (h : XV Y e Γ (vInt n)) (hn : -(2 ^ 62) ≤ n ∧ n < 2 ^ 62) (hg : ∀ i, Gl (Y.X i) "range" := by intro _; rfl) (hs : ∀ i, starEach [e] (Y.X i).env = [(false, eval e (Y.X i).env)] := by intro _; rfl) : XI Y tg (.Call (.Name "range" p') [e] [] pos) Γ False ((rangeL 0 n).map (val pInt)) := by
  obtain ⟨t, pe, rd⟩ := h
  refine ⟨_, fun i => pi_range1 (hg i) (by rw [Y.hM]; exact hm) (pa_cons (pe i) pa_nil (by rw [hs i]; rfl)) (hs i), fun B F H os σ R I kk => ?_⟩
  refine rd B F H os σ _ I fun v F1 H1 fp f1 e1 W1 p1 => ?_
  obtain rfl := vint p1
  refine ⟨n, rfl, hn.1, hn.2, ?_⟩
  have := kk (Itr 0 (n - 0).toNat) F1 H1 f1 e1 W1.drop wk_range
  rw [Int.sub_zero] at this
  exact this
/-- enumerate(xs) of a list that stands still -/
theorem xi_enum {α : Type} {p : VP α} {xs : List α} {p' tpos : Pos} {elts : List Expr} {kk : Nat} (hm : mg "enumerate" = none) (h : XV Y e Γ (val (pL p) xs)) (hg : ∀ i, Gl (Y.X i) "enumerate" := by intro _; rfl) (hs : ∀ i, starEach [e] (Y.X i).env = [(false, eval e (Y.X i).env)] := by intro _; rfl) :
    XI Y (.Tuple elts kk tpos) (.Call (.Name "enumerate" p') [e] [] pos) Γ False ((xs.zipIdx).map fun (x : α × Nat) => val (pT2 pInt p) ((x.2 : Int), x.1)) := by
  obtain ⟨t, pe, rd⟩ := h
  refine ⟨_, fun i => by have := pi_enum (X := Y.X i) (p := p') (pos := pos) (tpos := tpos) (elts := elts) (kk := kk) (hg i) (by rw [Y.hM]; exact hm) (pa_cons (pe i) pa_nil (by rw [hs i]; rfl)) (hs i); rw [Y.hK i] at this; exact this, fun B F H os σ R I q => ?_⟩
  refine rd B F H os σ _ I fun v F1 H1 fp f1 e1 W1 p1 => ?_
  obtain ⟨_, l, vs, ev, h1, hp⟩ := val_P p1
  subst ev
  refine ⟨l, vs, rfl, SqL.of (W1.sub _ _ h1), q _ F1 H1 f1 e1 W1.drop ?_⟩
  intro F2 H2 a b c
  have ql : SqL K H2 l vs := SqL.of (c _ _ (a _ _ h1))
  have hlen := Paired.length hp
  refine ⟨⟨vs, ql, by simp [hlen]⟩, fun n r hr => ?_⟩
  rw [List.getElem?_map] at hr
  obtain ⟨x, ex, er⟩ := Option.map_eq_some_iff.mp hr
  rw [List.getElem?_zipIdx] at ex
  obtain ⟨x', ex', e3⟩ := Option.map_eq_some_iff.mp ex
  subst e3
  obtain ⟨v, ev, rv⟩ := paired_at' hp ex'
  refine ⟨⟨vs, v, ql, ev⟩, fun u H3 y => ?_⟩
  obtain ⟨T, x2, e4, hT, e5, y⟩ := y
  subst e4; subst e5
  have e2 := y vs ql
  rw [ev] at e2
  cases e2
  subst er
  refine ⟨same_upd hT, fun B os W => ?_⟩
  have hF2 := (W.free hT).1
  exact ⟨upd F2 T (.tup [.int (n : Nat), v]), same_upd hF2, W.newF hT, rfl, _, rfl, T, _, _, rfl, upd_same, by simp [pInt], p.mono (fun _ _ z => same_upd hF2 _ _ (a _ _ z)) rv⟩

/-! ### loops -/
/-- how a loop's turn (or the loop) ends -/
inductive Fl (ρ S : Type) where
  | next (s : S)
  | brk (s : S)
  | ret (r : ρ)
def forF {α S ρ : Type} : List α → S → (α → S → Option (Fl ρ S)) → Option (Fl ρ S)
  | [], s, _ => some (.next s)
  | x :: xs, s, f => (f x s).bind fun
    | .next s' => forF xs s' f
    | .brk s' => some (.brk s')
    | .ret r => some (.ret r)
def whileF {S ρ : Type} : Nat → S → (S → Option (Fl ρ S)) → Option (Fl ρ S)
  | 0, _, _ => none
  | n + 1, s, f => (f s).bind fun
    | .next s' => whileF n s' f
    | .brk s' => some (.brk s')
    | .ret r => some (.ret r)
/-- what a turn's ways out lead to -/
def LE {ρ S : Type} (B : Bs) (Γf : S → List Slot) (Sr : ρ → Slot) (out : Fl ρ S) : Ends where
  nx := fun σ H => ∃ s', out = .next s' ∧ Nx B (Γf s') σ H
  ct := fun σ H => ∃ s', out = .next s' ∧ Nx B (Γf s') σ H
  bk := fun σ H => ∃ s', out = .brk s' ∧ Nx B (Γf s') σ H
  rt := fun v H => ∃ r, out = .ret r ∧ Fi B (Sr r) v H
/-- a target's reading from what runs it -/
def contG (X : Cx) (tg : Expr) : TG := fun v σ H Q => ∀ (pins : List (Addr × Obj)) (s : Shared) (u : Value), Inv X pins σ H s → RelV v u → wpAny (model X.prog X.w) X.A (assign tg X.env u) (fun _ s' => ∃ σ' H', Inv X pins σ' H' s' ∧ Q σ' H') X.xe s
theorem pg_contG {X : Cx} : PG X tg (contG X tg) := ⟨fun pins s σ H v u Q I r h => h pins s u I r⟩
def contT (X : Cx) (e : Expr) : TT := fun σ H Q => ∀ (pins : List (Addr × Obj)) (s : Shared), Inv X pins σ H s → wpAny (model X.prog X.w) X.A (isTrue e X.env (eval e X.env)) (TP X pins σ Q) X.xe s
theorem pt_contT {X : Cx} : PT X e (contT X e) := ⟨fun pins s σ H Q I h => h pins s I⟩
/-- the entry made the base, and back -/
theorem Sta.enter {F H : Hp} {σ : L2.St} (S : Sta B F H σ Γ) : ∃ os, Wo B F H os ∧ Sta ⟨F, H, os⟩ F H σ Γ := by
  obtain ⟨os, W, S⟩ := S
  exact ⟨os, W, os, W.self, S⟩
theorem Sta.leave {F1 H1 F H : Hp} {os : List Addr} {σ : L2.St} (W : Wo B F1 H1 os) (S : Sta ⟨F1, H1, os⟩ F H σ Γ) : Sta B F H σ Γ := by
  obtain ⟨o2, W2, S⟩ := S
  exact ⟨o2, W.trans W2, S⟩
theorem Fi.leave {F1 H1 : Hp} {os : List Addr} {v : V} {H : Hp} (W : Wo B F1 H1 os) (S : Fi ⟨F1, H1, os⟩ r v H) : Fi B r v H := by
  obtain ⟨F, fp, W2, p⟩ := S
  exact ⟨F, fp, W.trans W2, p⟩
theorem Sta.bF {F H : Hp} {σ : L2.St} (S : Sta B F H σ Γ) : Same B.F F := let ⟨_, W, _⟩ := S; W.bF
theorem Sta.sub {F H : Hp} {σ : L2.St} (S : Sta B F H σ Γ) : Same F H := let ⟨_, W, _⟩ := S; W.sub
theorem go_for {α T ρ : Type} {xs : List α} {rs : α → Slot} (Γf : T → List Slot) {Sr : ρ → Slot} {s0 : T} {f : α → T → Option (Fl ρ T)} {o : Fl ρ T}
    (hi : XI Y tg iter Γ False (xs.map rs)) (h0 : WkL Γ (Γf s0)) (ho : forF xs s0 f = some o)
    (hb : ∀ B1 x s out, x ∈ xs → f x s = some out → (∀ r, out = .ret r → o = .ret r) → (∀ F H os, Wo B1 F H os → Wo B F H os) → ∃ ws Γ1, XG Y tg ws (rs x) (Γf s) Γ1 ∧ Go Y i body (LE B1 Γf Sr out) B1 Γ1)
    (hr : ∀ s, (o = .next s ∨ o = .brk s) → Go Y i rest D B (Γf s)) (hret : ∀ r, o = .ret r → ∀ v H, Fi B (Sr r) v H → D.rt v H)
    (hs : ∀ x, foldedSetIterable iter (Y.X i).env x = pure x := by intro _; rfl) (hcm : Y.cm = true := by rfl) : Go Y i (.For tg iter body [] pos :: rest) D B Γ := by
  obtain ⟨wi, pi, qi⟩ := hi
  refine go_ps (ps_for (Y.hO i) ((Y.hC i).trans hcm) (pi i) pg_contG pss_cont hs) fun F H σ ⟨os0, W0, S0⟩ => ?_
  refine qi B F H os0 σ _ (Sta.in W0 S0) fun J F1 H1 f1 e1 W1 wk => ?_
  obtain ⟨os, W, S1⟩ := (Sta.to S0 f1 e1 W1).enter
  obtain ⟨F2, S2⟩ := S1.wk h0
  refine ⟨fun n m σ' H' => n ≤ xs.length ∧ m = xs.length - n ∧ ∃ (s : T) (F' : Hp), Sta ⟨F1, H1, os⟩ F' H' σ' (Γf s) ∧ forF (xs.drop n) s f = some o, ⟨xs.length - 0, Nat.zero_le _, rfl, s0, F2, S2, by simpa using ho⟩, ?_⟩
  rintro n m σ' H' ⟨hn, rfl, s, F', S', hfo⟩
  obtain ⟨w1, w2⟩ := wk F' H' S'.bF (fun z => z.elim) S'.sub
  by_cases hlt : n < xs.length
  · have hx : xs[n]? = some xs[n] := List.getElem?_eq_getElem hlt
    have hdrop : xs.drop n = xs[n] :: xs.drop (n + 1) := List.drop_eq_getElem_cons hlt
    rw [hdrop] at hfo
    unfold forF at hfo
    obtain ⟨out, hout, hfo⟩ := Option.bind_eq_some_iff.mp hfo
    obtain ⟨g1, g2⟩ := w2 n (rs xs[n]) (by rw [List.getElem?_map, hx]; rfl)
    obtain ⟨ws, Γ1, hxg, hgo⟩ := hb ⟨F1, H1, os⟩ xs[n] s out (List.getElem_mem hlt) hout (fun r e => by subst e; simpa using hfo.symm) (fun _ _ _ W' => W.trans W')
    refine .inr ⟨g1, fun σ2 H2 => ∃ s', out = .next s' ∧ Nx ⟨F1, H1, os⟩ (Γf s') σ2 H2, ?_, ?_⟩
    · rintro σ2 H2 ⟨s', rfl, F3, S3⟩
      exact ⟨xs.length - (n + 1), by omega, hlt, rfl, s', F3, S3, hfo⟩
    · intro v H2 y
      obtain ⟨e2, push⟩ := g2 v H2 y
      obtain ⟨o4, W4, S4⟩ := S'
      obtain ⟨F4, f4, W5, p5⟩ := push _ _ W4
      obtain ⟨_, g, pg, qg⟩ := hxg
      intro pins s9 u I r
      refine (pg i).run pins s9 σ' H2 v u _ I r (qg F4 H2 [] o4 σ' v _ W5.sub p5 (S4.mono f4 e2) fun σ5 o5 d _ W6 S5 => ?_)
      refine cont_mono (hgo F4 H2 σ5 ⟨o5, (W5.perm (by simpa using W6)).drop, S5⟩) (fun _ _ z => z) (fun v H z => ?_) (fun σ6 H6 z => ?_) (fun _ _ z => z)
      · obtain ⟨r, rfl, S6⟩ := z
        exact hret r (by simpa using hfo.symm) v H (S6.leave W)
      · obtain ⟨s', rfl, F6, S6⟩ := z
        exact hr s' (.inr (by simpa using hfo.symm)) F6 H6 σ6 (S6.leave W)
  · have e : n = xs.length := by omega
    subst e
    refine .inl ⟨by simpa using w1, ?_⟩
    rw [List.drop_length] at hfo
    unfold forF at hfo
    exact hr s (.inl (by simpa using hfo.symm)) F' H' σ' (S'.leave W)
theorem go_while {T ρ : Type} (Γf : T → List Slot) {Sr : ρ → Slot} {n : Nat} {s0 : T} {f : T → Option (Fl ρ T)} {o : Fl ρ T}
    (h0 : WkL Γ (Γf s0)) (ho : whileF n s0 f = some o)
    (hb : ∀ B1 s out, f s = some out → (∀ r, out = .ret r → o = .ret r) → (∀ F H os, Wo B1 F H os → Wo B F H os) → ∃ z : Bool, XT Y e (Γf s) z ∧ (z = true → Go Y i body (LE B1 Γf Sr out) B1 (Γf s)) ∧ (z = false → out = .brk s))
    (hr : ∀ s, o = .brk s → Go Y i rest D B (Γf s)) (hret : ∀ r, o = .ret r → ∀ v H, Fi B (Sr r) v H → D.rt v H) : Go Y i (.While e body [] pos :: rest) D B Γ := by
  refine go_ps (ps_while (Y.hO i) (pt_contT) pss_cont) fun F H σ S => ?_
  obtain ⟨os, W, S1⟩ := S.enter
  obtain ⟨F2, S2⟩ := S1.wk h0
  refine ⟨fun m σ' H' => ∃ (s : T) (F' : Hp), Sta ⟨F, H, os⟩ F' H' σ' (Γf s) ∧ whileF m s f = some o, ⟨n, s0, F2, S2, ho⟩, ?_⟩
  rintro m σ' H' ⟨s, F', S', hfo⟩
  cases m with
  | zero => cases hfo
  | succ m =>
    unfold whileF at hfo
    obtain ⟨out, hout, hfo⟩ := Option.bind_eq_some_iff.mp hfo
    obtain ⟨z, ⟨t, pt, rd⟩, hgo, hbr⟩ := hb ⟨F, H, os⟩ s out hout (fun r e => by subst e; simpa using hfo.symm) (fun _ _ _ W' => W.trans W')
    intro pins s9 I
    obtain ⟨o4, W4, S4⟩ := S'
    refine (pt i).run pins s9 σ' H' _ I (rd _ F' H' o4 σ' _ (Sta.in W4 S4) fun F3 H3 f3 e3 W3 => ?_)
    have S3 := Sta.to S4 f3 e3 W3
    cases z with
    | true =>
      show ∃ N : L2.St → Hp → Prop, _ ∧ _
      refine ⟨fun σ2 H2 => ∃ s', out = .next s' ∧ Nx ⟨F, H, os⟩ (Γf s') σ2 H2, ?_, ?_⟩
      · rintro σ2 H2 ⟨s', rfl, F4, S4⟩
        exact ⟨m, Nat.lt_succ_self m, s', F4, S4, hfo⟩
      · refine cont_mono (hgo rfl F3 H3 σ' S3) (fun _ _ z => z) (fun v H z => ?_) (fun σ6 H6 z => ?_) (fun _ _ z => z)
        · obtain ⟨r, rfl, S6⟩ := z
          exact hret r (by simpa using hfo.symm) v H (S6.leave W)
        · obtain ⟨s', rfl, F6, S6⟩ := z
          exact hr s' (by simpa using hfo.symm) F6 H6 σ6 (S6.leave W)
    | false =>
      show cont (Y.X i) rest D σ' H3
      obtain rfl := hbr rfl
      exact hr s (by simpa using hfo.symm) F3 H3 σ' (S3.leave W)
end
end Ty

/-! Ty4 -/
namespace Ty
open PySem PySem.Spec L2

section
variable {P : Program} {w : World} {K : PySem.W.Frag} {mg : Str → Option Value} {base : Heap} {k : Nat}
variable {Y : Fa P w K mg base k} {i : Y.I} {e ea eb eo tg iter : Expr} {es : List Expr} {st : Stmt} {rest body orelse : List Stmt} {Γ Γ' Γ1 Γ2 As : List Slot} {a b c r s s' : Slot} {pos : Pos} {B : Bs} {D : Ends} {x : Str} {p' : Pos}

/-! ### calls of builtins -/
theorem x_callB {id : String} {rr : List V → Hp → VK → Prop} (hc : ∀ i, CallR (Y.X i) (.builtin id) rr) (hm : mg x = none) (hv : bootBuiltins x = some (.builtin id)) (h : OpA rr As c) (ha : XA Y (e :: es) Γ As) (hg : ∀ i, Gl (Y.X i) x := by intro _; rfl) (hn : x ≠ "__name__" := by decide) (hdb : (x == ("__debug__" : Str)) = false := by decide)
    (he : ∀ i, starEach (e :: es) (Y.X i).env = (false, eval e (Y.X i).env) :: starEach es (Y.X i).env := by intro _; rfl) (hpl : ∀ i, (backTo pos (starEach es (Y.X i).env)).any (·.1) = false := by intro _; rfl) : XV Y (.Call (.Name x p') (e :: es) [] pos) Γ c := by
  obtain ⟨t, pa, rd⟩ := ha
  refine ⟨_, fun i => pe_callB (hc i) (hg i) (by rw [Y.hM]; exact hm) hv (pa i) hn hdb (he i) (hpl i), fun B F H os σ Q I q => ?_⟩
  refine rd B F H os σ _ I fun vs F1 H1 fp f1 e1 W1 S1 => ?_
  exact h B F1 H1 vs fp os Q W1 S1 fun v F2 H2 fp2 f2 e2 W2 p2 => q v F2 H2 fp2 (f1.trans f2) (e1.trans e2) W2 p2
theorem x_callTy {id : String} {rr : List V → Hp → VK → Prop} (hc : ∀ i, CallR (Y.X i) (.type id) rr) (hm : mg x = none) (hv : bootBuiltins x = some (.type id)) (h : OpA rr As c) (ha : XA Y (e :: es) Γ As) (hg : ∀ i, Gl (Y.X i) x := by intro _; rfl) (hn : x ≠ "__name__" := by decide) (hdb : (x == ("__debug__" : Str)) = false := by decide)
    (he : ∀ i, starEach (e :: es) (Y.X i).env = (false, eval e (Y.X i).env) :: starEach es (Y.X i).env := by intro _; rfl) (hpl : ∀ i, (backTo pos (starEach es (Y.X i).env)).any (·.1) = false := by intro _; rfl) : XV Y (.Call (.Name x p') (e :: es) [] pos) Γ c := by
  obtain ⟨t, pa, rd⟩ := ha
  refine ⟨_, fun i => pe_callTy (hc i) (hg i) (by rw [Y.hM]; exact hm) hv (pa i) hn hdb (he i) (hpl i), fun B F H os σ Q I q => ?_⟩
  refine rd B F H os σ _ I fun vs F1 H1 fp f1 e1 W1 S1 => ?_
  exact h B F1 H1 vs fp os Q W1 S1 fun v F2 H2 fp2 f2 e2 W2 p2 => q v F2 H2 fp2 (f1.trans f2) (e1.trans e2) W2 p2
/-- one argument -/
theorem opA1 {rr : List V → Hp → VK → Prop} (h : Op1 (fun x H Q => rr [x] H Q) a c) : OpA rr [a] c := fun B F H vs fx os Q W S q => by
  match vs, S with
  | [], S => have e := S.length; simp at e
  | [v], S =>
    obtain ⟨f1, f2, rfl, p, S2⟩ := Slots.cons_inv S
    rw [List.append_assoc] at W
    have W' : Wo B F H (f1 ++ os) := (W.perm (by rw [← List.append_assoc, ← List.append_assoc]; exact List.Perm.append_right os List.perm_append_comm)).drop
    exact h B F H v f1 os Q W' p q
  | _ :: _ :: _, S => have e := S.length; simp at e
theorem opA2 {rr : List V → Hp → VK → Prop} (h : Op2 (fun x y H Q => rr [x, y] H Q) a b c) : OpA rr [a, b] c := fun B F H vs fx os Q W S q => by
  match vs, S with
  | [], S => have e := S.length; simp at e
  | [_], S => have e := S.length; simp at e
  | [v, u], S =>
    obtain ⟨f1, f2, rfl, p, S2⟩ := Slots.cons_inv S
    obtain ⟨f3, f4, rfl, p2, S3⟩ := Slots.cons_inv S2
    have W' : Wo B F H (f4 ++ (f3 ++ (f1 ++ os))) := W.perm (by
      have e1 : (f1 ++ (f3 ++ f4)).Perm (f4 ++ (f3 ++ f1)) := by
        refine List.perm_append_comm.trans ?_
        rw [← List.append_assoc]
        exact List.Perm.append_right f1 List.perm_append_comm
      have e2 := List.Perm.append_right os e1
      rw [List.append_assoc f4, List.append_assoc f3] at e2
      exact e2)
    exact h B F H v u f1 f3 os Q W'.drop p p2 q
  | _ :: _ :: _ :: _, S => have e := S.length; simp at e
theorem xa1 (h : XV Y e Γ a) (hs : ∀ i, starEach [e] (Y.X i).env = (false, eval e (Y.X i).env) :: starEach [] (Y.X i).env := by intro _; rfl) : XA Y [e] Γ [a] := xa_cons h xa_nil hs
theorem xa2 (h : XV Y ea Γ a) (h2 : XV Y eb Γ b) (hs2 : ∀ i, starEach [eb] (Y.X i).env = (false, eval eb (Y.X i).env) :: starEach [] (Y.X i).env := by intro _; rfl) (hs : ∀ i, starEach [ea, eb] (Y.X i).env = (false, eval ea (Y.X i).env) :: starEach [eb] (Y.X i).env := by intro _; rfl) : XA Y [ea, eb] Γ [a, b] := xa_cons h (xa_cons h2 xa_nil hs2) hs

/-! ### len, list(), tuple(), int(), max, min -/
def rLenK (K : PySem.W.Frag) : List V → Hp → VK → Prop := fun xs H Q => ∃ p ys, xs = [.ref p] ∧ (SqL K H p ys ∨ SqT K H p ys) ∧ Q (.int ys.length) H
def rListK (K : PySem.W.Frag) : List V → Hp → VK → Prop := fun xs H Q => ∃ p ys, xs = [.ref p] ∧ (SqL K H p ys ∨ SqT K H p ys) ∧ ∀ l, H l = none → Q (.ref l) (upd H l (.lst ys))
def rTupK (K : PySem.W.Frag) : List V → Hp → VK → Prop := fun xs H Q => ∃ p ys, xs = [.ref p] ∧ ((SqL K H p ys ∧ ∀ l, H l = none → Q (.ref l) (upd H l (.tup ys))) ∨ (SqT K H p ys ∧ Q (.ref p) H))
theorem c_len (Y : Fa P w K mg base k) (i : Y.I) : CallR (Y.X i) (.builtin "len") (rLenK K) := by have h := call_len_seq (X := Y.X i); rw [Y.hK i] at h; exact h
theorem c_list (Y : Fa P w K mg base k) (i : Y.I) : CallR (Y.X i) (.type "list") (rListK K) := by have h := call_list_of (X := Y.X i); rw [Y.hK i] at h; exact h
section
variable {α β : Type} {p : VP α} {q : VP β} {xs : List α}
theorem o_lenL (hs : SV K s p xs) : OpA (rLenK K) [s] (vInt (xs.length : Int)) := opA1 fun B F H v fx os Q W pv q => by
  obtain ⟨l, vs, ev, h1, h2⟩ := hs F H fx _ W.sub pv
  cases ev
  exact ⟨l, vs, rfl, .inl h1, q _ F H [] same_refl same_refl W.drop ⟨rfl, _, rfl, by show V.int _ = V.int _; rw [Paired.length h2]⟩⟩
/-- a list made anew -/
theorem newL {B : Bs} {F H : Hp} {os : List Addr} {vs : List V} {l : Addr} {Q : VK} (W : Wo B F H os) (hl : H l = none) (hp : Paired (p.R F) vs xs)
    (q : ∀ v F' H' fp, Same F F' → Same H H' → Wo B F' H' (fp ++ os) → (own (oL p) xs).P F' H' fp (some v) → Q v H') : Q (.ref l) (upd H l (.lst vs)) :=
  q _ F _ [l] same_refl (same_upd hl) (W.newO hl) ⟨_, rfl, l, vs, rfl, rfl, upd_same, hp⟩
theorem o_listL (hs : SV K s p xs) : OpA (rListK K) [s] (own (oL p) xs) := opA1 fun B F H v fx os Q W pv q => by
  obtain ⟨l, vs, ev, h1, h2⟩ := hs F H fx _ W.sub pv
  cases ev
  exact ⟨l, vs, rfl, .inl h1, fun l' hl => newL W.drop hl h2 q⟩
/-- a frozen object made anew -/
theorem newF {B : Bs} {F H : Hp} {os : List Addr} {u : HO} {l : Addr} {Q : VK} {r : Slot} (W : Wo B F H os) (hl : H l = none) (hp : ∀ F', Same F F' → F' l = some u → r.P F' (upd H l u) [] (some (.ref l)))
    (q : ∀ v F' H' fp, Same F F' → Same H H' → Wo B F' H' (fp ++ os) → r.P F' H' fp (some v) → Q v H') : Q (.ref l) (upd H l u) :=
  q _ (upd F l u) _ [] (same_upd (W.free hl).1) (same_upd hl) (W.newF hl) (hp _ (same_upd (W.free hl).1) upd_same)
theorem o_intI {z : Int} : OpA (fun xs H Q => (∃ i, xs = [V.int i] ∧ Q (.int i) H) ∨ ∃ k, xs = [V.bl k] ∧ Q (.int (if k then 1 else 0)) H) [vInt z] (vInt z) := opA1 fun B F H v fx os Q W pv q => by
  obtain rfl := vint pv
  exact .inl ⟨z, rfl, q _ F H [] same_refl same_refl W.drop ⟨rfl, _, rfl, rfl⟩⟩
theorem o_max2 {m n : Int} : OpA (fun xs H Q => ∃ i j, xs = [V.int i, V.int j] ∧ Q (.int (if j > i then j else i)) H) [vInt m, vInt n] (vInt (if n > m then n else m)) := opA2 fun B F H x y fx fy os Q W p1 p2 q => by
  obtain rfl := vint p1
  obtain rfl := vint p2
  exact ⟨m, n, rfl, q _ F H [] same_refl same_refl W.drop.drop ⟨rfl, _, rfl, rfl⟩⟩
theorem o_min2 {m n : Int} : OpA (fun xs H Q => ∃ i j, xs = [V.int i, V.int j] ∧ Q (.int (if j < i then j else i)) H) [vInt m, vInt n] (vInt (if n < m then n else m)) := opA2 fun B F H x y fx fy os Q W p1 p2 q => by
  obtain rfl := vint p1
  obtain rfl := vint p2
  exact ⟨m, n, rfl, q _ F H [] same_refl same_refl W.drop.drop ⟨rfl, _, rfl, rfl⟩⟩

/-! ### displays -/
theorem slots_vals {F H : Hp} : ∀ {vs : List V} {xs : List α} {fp : List Addr}, Slots F H fp (vs.map some) (xs.map (val p)) → Paired (p.R F) vs xs
  | [], [], _, _ => .nil
  | [], _ :: _, _, S => by have e := S.length; simp at e
  | _ :: _, [], _, S => by have e := S.length; simp at e
  | v :: vs, x :: xs, fp, S => by
    rw [List.map_cons, List.map_cons] at S
    obtain ⟨f1, f2, rfl, pv, S2⟩ := Slots.cons_inv S
    exact .cons (val_P pv).2 (slots_vals S2)
theorem x_lst (ha : XA Y es Γ (xs.map (val p))) (hz : xs.length ≤ sizeLine) : XV Y (.List es pos) Γ (own (oL p) xs) := by
  obtain ⟨t, pa, rd⟩ := ha
  refine ⟨_, fun i => pe_lst (pa i), fun B F H os σ Q I q => ?_⟩
  refine rd B F H os σ _ I fun vs F1 H1 fp f1 e1 W1 S1 => ?_
  have hp := slots_vals S1
  exact ⟨by rw [Paired.length hp]; exact hz, fun p' hl => newL W1.drop hl hp fun v F' H' fp' f2 e2 => q v F' H' fp' (f1.trans f2) (e1.trans e2)⟩
theorem x_tupN (ha : XA Y es Γ (xs.map (val p))) (hz : xs.length ≤ sizeLine) {n : Nat} : XV Y (.Tuple es n pos) Γ (val (pTup p) xs) := by
  obtain ⟨t, pa, rd⟩ := ha
  refine ⟨_, fun i => pe_tup (pa i), fun B F H os σ Q I q => ?_⟩
  refine rd B F H os σ _ I fun vs F1 H1 fp f1 e1 W1 S1 => ?_
  have hp := slots_vals S1
  exact ⟨by rw [Paired.length hp]; exact hz, fun p' hl => newF (r := val (pTup p) xs) W1.drop hl (fun F' f e => ⟨rfl, _, rfl, p', vs, rfl, e, Paired.mon (fun _ _ r => p.mono f r) hp⟩) fun v F' H' fp' f2 e2 => q v F' H' fp' (f1.trans f2) (e1.trans e2)⟩
theorem x_tup2 {n : Nat} {u : α} {v : β} (ha : XA Y [ea, eb] Γ [val p u, val q v]) : XV Y (.Tuple [ea, eb] n pos) Γ (val (pT2 p q) (u, v)) := by
  obtain ⟨t, pa, rd⟩ := ha
  refine ⟨_, fun i => pe_tup (pa i), fun B F H os σ Q I kk => ?_⟩
  refine rd B F H os σ _ I fun vs F1 H1 fp f1 e1 W1 S1 => ?_
  match vs, S1 with
  | [], S => have e := S.length; simp at e
  | [_], S => have e := S.length; simp at e
  | [v1, v2], S =>
    obtain ⟨g1, g2, rfl, p1, S2⟩ := Slots.cons_inv S
    obtain ⟨g3, g4, rfl, p2, S3⟩ := Slots.cons_inv S2
    exact ⟨by show 2 ≤ sizeLine; decide, fun p' hl => newF (r := val (pT2 p q) (u, v)) W1.drop hl (fun F' f e => ⟨rfl, _, rfl, p', v1, v2, rfl, e, p.mono f (val_P p1).2, q.mono f (val_P p2).2⟩) fun v F' H' fp' f2 e2 => kk v F' H' fp' (f1.trans f2) (e1.trans e2)⟩
  | _ :: _ :: _ :: _, S => have e := S.length; simp at e
theorem x_tup3 {γ : Type} {o : VP γ} {n : Nat} {e3 : Expr} {u : α} {v : β} {z : γ} (ha : XA Y [ea, eb, e3] Γ [val p u, val q v, val o z]) : XV Y (.Tuple [ea, eb, e3] n pos) Γ (val (pT3 p q o) (u, v, z)) := by
  obtain ⟨t, pa, rd⟩ := ha
  refine ⟨_, fun i => pe_tup (pa i), fun B F H os σ Q I kk => ?_⟩
  refine rd B F H os σ _ I fun vs F1 H1 fp f1 e1 W1 S1 => ?_
  match vs, S1 with
  | [], S => have e := S.length; simp at e
  | [_], S => have e := S.length; simp at e
  | [_, _], S => have e := S.length; simp at e
  | [v1, v2, v3], S =>
    obtain ⟨g1, g2, rfl, p1, S2⟩ := Slots.cons_inv S
    obtain ⟨g3, g4, rfl, p2, S3⟩ := Slots.cons_inv S2
    obtain ⟨g5, g6, rfl, p3, S4⟩ := Slots.cons_inv S3
    exact ⟨by show 3 ≤ sizeLine; decide, fun p' hl => newF (r := val (pT3 p q o) (u, v, z)) W1.drop hl (fun F' f e => ⟨rfl, _, rfl, p', v1, v2, v3, rfl, e, p.mono f (val_P p1).2, q.mono f (val_P p2).2, o.mono f (val_P p3).2⟩) fun v F' H' fp' f2 e2 => kk v F' H' fp' (f1.trans f2) (e1.trans e2)⟩
  | _ :: _ :: _ :: _ :: _, S => have e := S.length; simp at e

/-! ### subscripts -/
theorem paired_atI {F : Hp} {vs : List V} (h : Paired (p.R F) vs xs) {z : Int} {u : α} (hz : atI xs z = some u) : ∃ v, atI vs z = some v ∧ p.R F v u := by
  unfold atI at hz ⊢
  rw [← Paired.length h] at hz
  cases e : ixN vs.length z with
  | none => rw [e] at hz; cases hz
  | some j =>
    rw [e] at hz
    exact paired_at' h (by simpa using hz)
theorem x_ix {z : Int} {u : α} (ha : XV Y ea Γ s) (hs : SV K s p xs) (hb : XV Y eb Γ (vInt z)) (hz : atI xs z = some u) (hx : PlainIx eb := by exact fun _ _ => rfl) : XV Y (.Subscript ea eb pos) Γ (val p u) := by
  obtain ⟨ta, pa, ra⟩ := ha
  obtain ⟨tb, pb, rb⟩ := hb
  refine ⟨_, fun i => by have h := ix_list (X := Y.X i); rw [Y.hK i] at h; exact pe_ix h (pa i) (pb i) hx, fun B F H os σ Q I q => ?_⟩
  refine two (Q := fun _ _ => True) I ra rb fun x y F2 H2 fx fy f2 e2 W2 p1 p2 => ?_
  obtain rfl := vint p2
  obtain ⟨l, vs, ev, h1, h2⟩ := hs F2 H2 fx _ W2.sub p1
  cases ev
  obtain ⟨v, hv, rv⟩ := paired_atI h2 hz
  exact ⟨l, vs, z, v, rfl, rfl, h1, hv, q v F2 H2 [] f2 e2 W2.drop.drop ⟨rfl, _, rfl, rv⟩⟩
/-- an item of a tuple of known places -/
theorem x_ixC {z : Int} {u : β} {t0 : VP α} {y : α} (ht : ∀ F v, t0.R F v y → ∃ l vs v', v = .ref l ∧ F l = some (.tup vs) ∧ atI vs z = some v' ∧ q.R F v' u) (ha : XV Y ea Γ (val t0 y)) (hb : XV Y eb Γ (vInt z)) (hx : PlainIx eb := by exact fun _ _ => rfl) : XV Y (.Subscript ea eb pos) Γ (val q u) := by
  obtain ⟨ta, pa, ra⟩ := ha
  obtain ⟨tb, pb, rb⟩ := hb
  refine ⟨_, fun i => by have h := ix_tup (X := Y.X i); rw [Y.hK i] at h; exact pe_ix h (pa i) (pb i) hx, fun B F H os σ Q I kk => ?_⟩
  refine two (Q := fun _ _ => True) I ra rb fun x y F2 H2 fx fy f2 e2 W2 p1 p2 => ?_
  obtain rfl := vint p2
  obtain ⟨l, vs, v', ev, h1, h2, h3⟩ := ht F2 _ (val_P p1).2
  subst ev
  exact ⟨l, vs, z, v', rfl, rfl, SqT.of (W2.sub _ _ h1), h2, kk v' F2 H2 [] f2 e2 W2.drop.drop ⟨rfl, _, rfl, h3⟩⟩
theorem x_fst {u : α × β} (ha : XV Y ea Γ (val (pT2 p q) u)) (hb : XV Y eb Γ (vInt 0)) (hx : PlainIx eb := by exact fun _ _ => rfl) : XV Y (.Subscript ea eb pos) Γ (val p u.1) :=
  x_ixC (t0 := pT2 p q) (y := u) (fun F v h => let ⟨l, a, b, e, h1, h2, h3⟩ := h; ⟨l, _, a, e, h1, rfl, h2⟩) ha hb hx
theorem x_snd {u : α × β} (ha : XV Y ea Γ (val (pT2 p q) u)) (hb : XV Y eb Γ (vInt 1)) (hx : PlainIx eb := by exact fun _ _ => rfl) : XV Y (.Subscript ea eb pos) Γ (val q u.2) :=
  x_ixC (t0 := pT2 p q) (y := u) (fun F v h => let ⟨l, a, b, e, h1, h2, h3⟩ := h; ⟨l, _, b, e, h1, rfl, h3⟩) ha hb hx
/-! ### list + list, list * int, in -/
theorem Paired.app {α β : Type} {G : α → β → Prop} : ∀ {xs : List α} {ys : List β} {us : List α} {ws : List β}, Paired G xs ys → Paired G us ws → Paired G (xs ++ us) (ys ++ ws)
  | _, _, _, _, .nil, h => h
  | _, _, _, _, .cons r t, h => .cons r (Paired.app t h)
theorem o_cat {ys : List α} (h1 : LV a p xs) (h2 : LV b p ys) (hz : xs.length + ys.length ≤ sizeLine) : Op2 rCat a b (own (oL p) (xs ++ ys)) := fun B F H x y fx fy os Q W p1 p2 q => by
  obtain ⟨l2, vs2, e2, g2, r2⟩ := h2 F H fy _ W.sub p2
  obtain ⟨l1, vs1, e1, g1, r1⟩ := h1 F H fx _ W.sub p1
  cases e1; cases e2
  exact ⟨l1, l2, vs1, vs2, rfl, rfl, g1, g2, by rw [Paired.length r1, Paired.length r2]; exact hz, fun p' hp => newL W.drop.drop hp (Paired.app r1 r2) q⟩
/-- items that == tells as equality does -/
def Eqv (p : VP α) [DecidableEq α] : Prop := ∀ F v a, p.R F v a → flatV v = true ∧ ∀ F' v' a', p.R F' v' a' → eqV v' v = decide (a' = a)
theorem Eqv.int : Eqv pInt := fun F v a h => by
  cases h
  refine ⟨rfl, fun F' v' a' h' => ?_⟩
  cases h'
  show (a' == a) = _
  rw [Bool.eq_iff_iff]; simp
theorem Eqv.str : Eqv pStr := fun F v a h => by
  cases h
  refine ⟨rfl, fun F' v' a' h' => ?_⟩
  cases h'
  show (a' == a) = _
  rw [Bool.eq_iff_iff]; simp
/-! ### == of data -/
structure DE (p : VP α) [DecidableEq α] (ok : α → Prop) where
  enc : α → PyData
  dp : ∀ (K : PySem.W.Frag) F v a, p.R F v a → Dp K F v (enc a)
  sh : ∀ a, ok a → (enc a).canLay0 = true
  d : Nat
  hd : ∀ a, (enc a).depth ≤ d
  eq : ∀ a b, PyData.eqv (enc a) (enc b) = decide (a = b)
theorem Dp.mono {F F' : Hp} (h : Same F F') : ∀ {v d}, Dp K F v d → Dp K F' v d := fun {v d} q => by
  refine Dp.rec (motive_1 := fun v d _ => Dp K F' v d) (motive_2 := fun vs ds _ => DpAll K F' vs ds) ?_ ?_ ?_ ?_ ?_ ?_ ?_ ?_ q
  · exact .non
  · exact fun b => .bl b
  · exact fun b => .int b
  · exact fun b => .str b
  · exact fun {a xs ds} s _ ih => .lst (Same.seq h s) ih
  · intro a xs ds s _ ih
    refine .tup ?_ ih
    rcases s with (s | ⟨o, s⟩) | s
    · exact .inl (.inl (h _ _ s))
    · exact .inl (.inr ⟨o, h _ _ s⟩)
    · exact .inr s
  · exact .nil
  · exact fun _ _ i1 i2 => .cons i1 i2
def DE.int : DE pInt (fun _ => True) := ⟨fun i => .int i, fun K F v a h => by cases h; exact .int a, fun _ _ => rfl, 0, fun _ => Nat.le_refl _, fun a b => by rw [PyData.eqv, Bool.eq_iff_iff]; simp⟩
def DE.bl : DE pBl (fun _ => True) := ⟨fun i => .bool i, fun K F v a h => by cases h; exact .bl a, fun _ _ => rfl, 0, fun _ => Nat.le_refl _, fun a b => by rw [PyData.eqv, Bool.eq_iff_iff]; simp⟩
def DE.str : DE pStr (fun x => PyData.strOk x = true) := ⟨fun i => .str i, fun K F v a h => by cases h; exact .str a, fun a h => by rw [PyData.canLay0]; exact h, 0, fun _ => Nat.le_refl _, fun a b => by rw [PyData.eqv, Bool.eq_iff_iff]; simp⟩
theorem eqvAll_map {enc : α → PyData} [DecidableEq α] (h : ∀ a b, PyData.eqv (enc a) (enc b) = decide (a = b)) : ∀ xs ys : List α, PyData.eqvAll (xs.map enc) (ys.map enc) = decide (xs = ys)
  | [], [] => by simp [PyData.eqvAll]
  | [], _ :: _ => by simp [PyData.eqvAll]
  | _ :: _, [] => by simp [PyData.eqvAll]
  | x :: xs, y :: ys => by
    rw [List.map_cons, List.map_cons, PyData.eqvAll, h, eqvAll_map h xs ys, Bool.eq_iff_iff]
    simp
theorem dpAll_of {F : Hp} {enc : α → PyData} (h : ∀ v a, p.R F v a → Dp K F v (enc a)) : ∀ {vs : List V} {xs : List α}, Paired (p.R F) vs xs → DpAll K F vs (xs.map enc)
  | _, _, .nil => .nil
  | _, _, .cons r t => .cons (h _ _ r) (dpAll_of h t)
theorem canAll {enc : α → PyData} {ok : α → Prop} (h : ∀ a, ok a → (enc a).canLay0 = true) : ∀ xs : List α, (∀ a ∈ xs, ok a) → PyData.canLayAll0 (xs.map enc) = true
  | [], _ => by simp [PyData.canLayAll0]
  | x :: xs, k => by
    rw [List.map_cons, PyData.canLayAll0, h x (k x List.mem_cons_self), canAll h xs fun a ha => k a (List.mem_cons_of_mem _ ha)]; rfl
theorem depthAll_le {enc : α → PyData} {d : Nat} (h : ∀ a, (enc a).depth ≤ d) : ∀ xs : List α, PyData.depthAll (xs.map enc) ≤ d
  | [] => by simp [PyData.depthAll]
  | x :: xs => by
    rw [List.map_cons, PyData.depthAll]
    exact Nat.max_le.mpr ⟨h x, depthAll_le h xs⟩
def DE.list [DecidableEq α] {ok : α → Prop} (E : DE p ok) : DE (pL p) (fun xs => ∀ a ∈ xs, ok a) where
  enc := fun xs => .list (xs.map E.enc)
  dp := fun K F v a h => let ⟨l, vs, e, h1, h2⟩ := h; by subst e; exact .lst (SqL.of h1) (dpAll_of (E.dp K F) h2)
  sh := fun a h => by rw [PyData.canLay0]; exact canAll E.sh a h
  d := E.d + 1
  hd := fun a => by rw [PyData.depth]; exact Nat.succ_le_succ (depthAll_le E.hd a)
  eq := fun a b => by rw [PyData.eqv]; exact eqvAll_map E.eq a b
def DE.tup [DecidableEq α] {ok : α → Prop} (E : DE p ok) : DE (pTup p) (fun xs => ∀ a ∈ xs, ok a) where
  enc := fun xs => .tuple (xs.map E.enc)
  dp := fun K F v a h => let ⟨l, vs, e, h1, h2⟩ := h; by subst e; exact .tup (SqT.of h1) (dpAll_of (E.dp K F) h2)
  sh := fun a h => by rw [PyData.canLay0]; exact canAll E.sh a h
  d := E.d + 1
  hd := fun a => by rw [PyData.depth]; exact Nat.succ_le_succ (depthAll_le E.hd a)
  eq := fun a b => by rw [PyData.eqv]; exact eqvAll_map E.eq a b
def DE.t2 [DecidableEq α] [DecidableEq β] {ok : α → Prop} {ok' : β → Prop} (E : DE p ok) (E' : DE q ok') : DE (pT2 p q) (fun x => ok x.1 ∧ ok' x.2) where
  enc := fun x => .tuple [E.enc x.1, E'.enc x.2]
  dp := fun K F v a h => let ⟨l, u, w, e, h1, h2, h3⟩ := h; by subst e; exact .tup (SqT.of h1) (.cons (E.dp K F _ _ h2) (.cons (E'.dp K F _ _ h3) .nil))
  sh := fun a h => by simp [PyData.canLay0, PyData.canLayAll0, E.sh _ h.1, E'.sh _ h.2]
  d := max E.d E'.d + 1
  hd := fun a => by
    simp only [PyData.depth, PyData.depthAll]
    have h1 := E.hd a.1
    have h2 := E'.hd a.2
    omega
  eq := fun a b => by
    simp only [PyData.eqv, PyData.eqvAll, E.eq, E'.eq]
    rw [Bool.eq_iff_iff]
    simp [Prod.ext_iff]
def DE.t3 {γ : Type} {o : VP γ} [DecidableEq α] [DecidableEq β] [DecidableEq γ] {ok : α → Prop} {ok' : β → Prop} {ok2 : γ → Prop} (E : DE p ok) (E' : DE q ok') (E2 : DE o ok2) : DE (pT3 p q o) (fun x => ok x.1 ∧ ok' x.2.1 ∧ ok2 x.2.2) where
  enc := fun x => .tuple [E.enc x.1, E'.enc x.2.1, E2.enc x.2.2]
  dp := fun K F v a h => let ⟨l, u, w, z, e, h1, h2, h3, h4⟩ := h; by subst e; exact .tup (SqT.of h1) (.cons (E.dp K F _ _ h2) (.cons (E'.dp K F _ _ h3) (.cons (E2.dp K F _ _ h4) .nil)))
  sh := fun a h => by simp [PyData.canLay0, PyData.canLayAll0, E.sh _ h.1, E'.sh _ h.2.1, E2.sh _ h.2.2]
  d := max E.d (max E'.d E2.d) + 1
  hd := fun a => by
    simp only [PyData.depth, PyData.depthAll]
    have h1 := E.hd a.1
    have h2 := E'.hd a.2.1
    have h3 := E2.hd a.2.2
    omega
  eq := fun a b => by
    simp only [PyData.eqv, PyData.eqvAll, E.eq, E'.eq, E2.eq]
    rw [Bool.eq_iff_iff]
    simp [Prod.ext_iff]
def DE.opt [DecidableEq α] {ok : α → Prop} (E : DE p ok) (hn : ∀ a b, PyData.eqv (E.enc a) .none = false ∧ PyData.eqv .none (E.enc b) = false) : DE (pOpt p) (fun x => ∀ a, x = some a → ok a) where
  enc := fun x => match x with | none => .none | some a => E.enc a
  dp := fun K F v a h => by
    cases a with
    | none => cases h; exact .non
    | some a => exact E.dp K F v a h.1
  sh := fun a h => by
    cases a with
    | none => rfl
    | some a => exact E.sh a (h a rfl)
  d := E.d
  hd := fun a => by
    cases a with
    | none => exact Nat.zero_le _
    | some a => exact E.hd a
  eq := fun a b => by
    cases a with
    | none =>
      cases b with
      | none => rfl
      | some b => simp [(hn b b).2]
    | some a =>
      cases b with
      | none => simp [(hn a a).1]
      | some b => simp [E.eq]
theorem o_eqD [DecidableEq α] {ok : α → Prop} (E : DE p ok) (hE : E.d ≤ 64 := by decide) {u v : α} (ha : Vw a p u) (hb : Vw b p v) (h1 : ok u) (h2 : ok v) : Op2 (rEqD K) a b (vBl (decide (u = v))) := fun B F H x y fx fy os Q W p1 p2 q => by
  obtain ⟨y', ey, ry⟩ := hb F H fy _ W.sub p2
  obtain ⟨x', ex, rx⟩ := ha F H fx _ W.sub p1
  cases ex; cases ey
  have sh : ∀ z, ok z → SeqAt.shaped (E.enc z) = true := fun z hz => by
    unfold SeqAt.shaped
    rw [E.sh z hz, decide_eq_true (Nat.le_trans (E.hd z) hE)]; rfl
  exact ⟨E.enc u, E.enc v, E.dp K H _ _ rx, E.dp K H _ _ ry, sh u h1, sh v h2, q _ F H [] same_refl same_refl W.drop.drop ⟨rfl, _, rfl, by rw [E.eq]; rfl⟩⟩
theorem o_neD [DecidableEq α] {ok : α → Prop} (E : DE p ok) (hE : E.d ≤ 64 := by decide) {u v : α} (ha : Vw a p u) (hb : Vw b p v) (h1 : ok u) (h2 : ok v) : Op2 (rNeD K) a b (vBl (!decide (u = v))) := fun B F H x y fx fy os Q W p1 p2 q => by
  obtain ⟨y', ey, ry⟩ := hb F H fy _ W.sub p2
  obtain ⟨x', ex, rx⟩ := ha F H fx _ W.sub p1
  cases ex; cases ey
  have sh : ∀ z, ok z → SeqAt.shaped (E.enc z) = true := fun z hz => by
    unfold SeqAt.shaped
    rw [E.sh z hz, decide_eq_true (Nat.le_trans (E.hd z) hE)]; rfl
  exact ⟨E.enc u, E.enc v, E.dp K H _ _ rx, E.dp K H _ _ ry, sh u h1, sh v h2, q _ F H [] same_refl same_refl W.drop.drop ⟨rfl, _, rfl, by rw [E.eq]; rfl⟩⟩
theorem c_eqD (Y : Fa P w K mg base k) (i : Y.I) : OpR (Y.X i) (compareOp .Eq) (rEqD K) := by have h := op_eqD (X := Y.X i) (Y.hU i); rw [Y.hK i] at h; exact h
theorem c_neD (Y : Fa P w K mg base k) (i : Y.I) : OpR (Y.X i) (compareOp .NotEq) (rNeD K) := by have h := op_neD (X := Y.X i) (Y.hU i); rw [Y.hK i] at h; exact h

/-! ### owned lists that change -/
/-- a place that holds something owned -/
def PL (Y : Fa P w K mg base k) (e : Expr) (Γ : List Slot) (s : Slot) (up : Slot → List Slot) : Prop :=
  ∃ (t : TE) (Pv : L2.St → Hp → V → Prop), (∀ i, PE (Y.X i) e t) ∧ (∀ σ H H' v, Same H H' → Pv σ H v → Pv σ H' v) ∧
    (∀ (B : Bs) (F H : Hp) (os : List Addr) (σ : List (Option V)) (Q : VK), In B F H os σ Γ → (∀ v, Pv σ H v → Q v H) → t σ H Q) ∧
    ∀ (F H : Hp) (os : List Addr) (σ : List (Option V)) (v : V), Slots F H os σ Γ → Pv σ H v → ∃ fp r, os.Perm (fp ++ r) ∧ s.P F H fp (some v) ∧
      ∀ (F' H' : Hp) (fp' : List Addr) (s' : Slot), Same F F' → (∀ q ∈ r, H' q = H q) → s'.P F' H' fp' (some v) → ∃ os', Slots F' H' os' σ (up s') ∧ os'.Perm (fp' ++ r)
theorem pl_name (j : Nat) (hst : Stb Γ) (hs : Γ[j]? = some s := by rfl) (hso : ∀ F H fp o, s.P F H fp o → ∃ v, o = some v) (hN : ∀ i, (Y.X i).N[j]? = some x := by intro _; rfl)
    (hv : ∀ i, Vis (Y.X i).env.scope x := by intro _; first | exact Or.inl rfl | exact Or.inr (Or.inl rfl) | exact Or.inr (Or.inr rfl)) (hd : (x == ("__debug__" : Str)) = false := by decide) (hcd : (x == ("__classdict__" : Str)) = false := by decide) : PL Y (.Name x pos) Γ s (fun s' => Γ.set j s') := by
  refine ⟨_, fun σ H v => σ[j]? = some (some v), fun i => pe_var (hN i) (hv i) hd hcd, fun σ H H' v _ h => h, fun B F H os σ Q I q => ?_, fun F H os σ v S hv => ?_⟩
  · obtain ⟨o, fp, e, h⟩ := I.slot hs
    obtain ⟨v, rfl⟩ := hso F H fp o h
    exact ⟨v, e, q v e⟩
  · obtain ⟨o, fp, r, e, p, q, kk⟩ := S.at hs
    rw [hv] at e; cases e
    refine ⟨fp, r, q, p, fun F' H' fp' s' hF hk hs' => ?_⟩
    obtain ⟨os', h1, h2⟩ := kk hs' (fun s0 h0 fp0 o0 hf hp => s0.mm (hst s0 h0) hF (fun z hz => hk z (hf z hz)) hp)
    have es : σ.set j (some v) = σ := by
      obtain ⟨hj, e⟩ := List.getElem?_eq_some_iff.mp hv
      rw [← e]; exact List.set_getElem_self hj
    rw [es] at h1
    exact ⟨os', h1, h2⟩
theorem own_some {O : OP α} {u : α} : ∀ F H fp o, (own O u).P F H fp o → ∃ v, o = some v := fun F H fp o h => let ⟨v, e, _⟩ := h; ⟨v, e⟩
/-- what must be seen of the text of a call o.m(e) of a built-in's method -/
structure Bm1 (X : Cx) (o : Expr) (name : Str) (apos : Pos) (e : Expr) (cpos : Pos) : Prop where
  base : attributeBase o name X.env (eval o X.env) = eval o X.env
  few : ((backTo cpos (starEach [e] X.env)).all (fun x => !x.1) && (backToKw cpos (keywordEach [] X.env)).all (fun x => x.1.isSome) && decide (([e] : List Expr).length + ([] : List Keyword).length + (if ([] : List Keyword).isEmpty then 0 else 1) < 30)) = true
  line : (apos.endLine == cpos.line) = true
  st : starEach [e] X.env = (false, eval e X.env) :: starEach [] X.env
  pl : (backTo cpos (starEach [] X.env)).any (·.1) = false
/-- an owned object at l within a place is rewritten -/
theorem pl_write {F H : Hp} {os r : List Addr} {σ : List (Option V)} {l : Addr} {u : HO} {fy : List Addr} {s' : Slot} {v : V} {up : Slot → List Slot} (W : Wo B F H (fy ++ os)) (hp : os.Perm ([l] ++ r)) (hs' : s'.P F (upd H l u) [l] (some v))
    (kk : ∀ (F' H' : Hp) (fp' : List Addr) (s' : Slot), Same F F' → (∀ q ∈ r, H' q = H q) → s'.P F' H' fp' (some v) → ∃ os', Slots F' H' os' σ (up s') ∧ os'.Perm (fp' ++ r)) : Sta B F (upd H l u) σ (up s') := by
  have W1 : Wo B F H ([l] ++ r) := W.drop.perm hp
  have nr : ∀ q ∈ r, q ≠ l := fun q hq e => (List.nodup_append.mp W1.nd).2.2 l (by simp) q hq e.symm
  obtain ⟨os', h1, h2⟩ := kk F (upd H l u) [l] s' same_refl (fun q hq => upd_ne (nr q hq)) hs'
  exact ⟨os', (W1.write (by simp)).perm h2.symm, h1⟩
/-- xs.append(e) -/
theorem go_append {up : Slot → List Slot} {apos cpos : Pos} {u : α} (ho : PL Y eo Γ (own (oL p) xs) up) (he : XV Y e Γ (val p u)) (hz : xs.length < sizeLine) (hg : Go Y i rest D B (up (own (oL p) (xs ++ [u]))))
    (hb : Bm1 (Y.X i) eo "append" apos e cpos := by exact ⟨rfl, rfl, rfl, rfl, rfl⟩)
    (hs : swapsWith (.Call (.Attribute eo "append" apos) [e] [] cpos) none pos.line (Y.X i).env = pure false := by rfl) : Go Y i (.Expr (.Call (.Attribute eo "append" apos) [e] [] cpos) pos :: rest) D B Γ := by
  obtain ⟨t, Pv, pe, pst, rd, up'⟩ := ho
  obtain ⟨t2, pe2, rd2⟩ := he
  refine go_ps (ps_expr (pe_bm PySem.F.plainAttrs_list PySem.F.slot_list_append PySem.F.type_list_append mt_append (pe i) (pa_cons (pe2 i) pa_nil hb.st) hb.base hb.few hb.line hb.st hb.pl) hs) fun F H σ ⟨os, W, S⟩ => ?_
  refine rd B F H os σ _ (Sta.in W S) fun v hv => ?_
  obtain ⟨fp, r, hr, hp, _⟩ := up' F H os σ v S hv
  obtain ⟨v0, ev, l, vs, el, ef, h1, h2⟩ := hp
  cases ev; subst el; subst ef
  refine ⟨.inl ⟨rfl, vs, SqL.of h1⟩, rd2 B F H os σ _ (Sta.in W S) fun y F1 H1 fy f1 e1 W1 p1 => ?_⟩
  obtain ⟨fp1, r1, hr1, hp1, kk1⟩ := up' F1 H1 os σ _ (S.mono f1 e1) (pst _ _ _ _ e1 hv)
  obtain ⟨v1, ev1, l1, vs1, el1, ef1, g1, g2⟩ := hp1
  cases ev1; cases el1; subst ef1
  have ry := (val_P p1).2
  refine ⟨l, vs1, y, rfl, rfl, g1, by rw [Paired.length g2]; exact hz, ?_⟩
  exact hg F1 _ σ (pl_write W1 hr1 ⟨_, rfl, l, _, rfl, rfl, upd_same, Paired.app g2 (.cons ry .nil)⟩ kk1)
/-- xs[j] = e -/
theorem Paired.put {α β : Type} {G : α → β → Prop} {x : α} {y : β} (h : G x y) : ∀ {xs : List α} {ys : List β} (n : Nat), Paired G xs ys → Paired G (xs.set n x) (ys.set n y)
  | _, _, _, .nil => .nil
  | _, _, 0, .cons _ t => .cons h t
  | _, _, n + 1, .cons r t => .cons r (Paired.put h n t)
/-- the list behind xs[z] = u -/
def setI {α : Type} (xs : List α) (z : Int) (u : α) : Option (List α) := (ixN xs.length z).map fun j => xs.set j u
/-- what must be seen of the text of o[i] = e -/
structure Si (X : Cx) (o ei e : Expr) (pos' : Pos) (ln : Nat) : Prop where
  ha : ∀ v, assign (.Subscript o ei pos') X.env v = (do
      let ov ← holding [v] (eval o X.env)
      let iv ← holding [v, ov] (eval ei X.env)
      standAt pos'
      holding [v, ov, iv] (setItem ov iv v)
      release [v, ov, iv] [])
  hs : swapsWithSole [.Subscript o ei pos'] e ln X.env = pure false
  hw : swappedStores [.Subscript o ei pos'] e X.env = pure none
  h1 : (assignEach [.Subscript o ei pos'] X.env).map (·.2) = [assign (.Subscript o ei pos') X.env]
end
end
end Ty

/-! Ty5 -/
namespace Ty
open PySem PySem.Spec L2
open PyProof.Rows (envOfC)

section
variable {P : Program} {w : World} {K : PySem.W.Frag} {mg : Str → Option Value} {base : Heap} {k : Nat}

/-! ### defs -/
/-- a pure def: on frozen arguments it gives what its mirror gives, and all else stands -/
def spP {ι ρ : Type} (As : ι → List Slot) (m : ι → Option ρ) (Sr : ρ → Slot) : Sp := fun vs H Q _ => ∃ (z : ι) (r : ρ) (F : Hp), m z = some r ∧ Same F H ∧ Slots F H [] (vs.map some) (As z) ∧
  ∀ v F' H' fp, Wo ⟨F, H, []⟩ F' H' fp → (Sr r).P F' H' fp (some v) → Q v H'
/-- the body's context -/
def fb (P : Program) (w : World) (K : PySem.W.Frag) (mg : Str → Option Value) (base : Heap) (N : List Str) (qual : Str) (st : Stmt) (f : Addr) (cdv : Value) (A : Around) (outer : List Env) (s : Shared) (H : Hp) (E : XK) (k : Nat) (hr : Room k (A.deeper (envOfC qual (defScope st) s.heap.objs.size f cdv))) (nd : N.Nodup) : Fa P w K mg base k where
  I := Unit
  X := fun _ => (cxOf CX0 P w K mg base N qual (defScope st) f cdv A outer s H E).nox
  hP := fun _ => rfl
  hw := fun _ => rfl
  hK := fun _ => rfl
  hM := fun _ => rfl
  hB := fun _ => rfl
  cm := true
  hC := fun _ => rfl
  hR := fun _ _ => hr
  hU := fun _ => hr.units
  W := fun _ _ _ _ => False
  tk := fun _ => takes0
  hN := fun _ => nd
  hO := fun _ => PassesOwn.never
/-- the ends of a def's body -/
def DF (B : Bs) (s : Slot) : Ends := { nx := fun _ H => Fi B s .non H, rt := Fi B s }
theorem slots_dead {F H : Hp} : ∀ n : Nat, Slots F H [] (List.replicate n none) (List.replicate n dead)
  | 0 => .nil
  | n + 1 => by
    rw [List.replicate_succ, List.replicate_succ]
    exact Slots.cons (fp := []) rfl (slots_dead n)
theorem wo_nil {F H : Hp} (h : Same F H) : Wo ⟨F, H, []⟩ F H [] := ⟨h, List.nodup_nil, fun _ z => (nomatch z), fun _ z => (nomatch z), fun _ _ h => h, fun _ _ h _ => h, fun _ _ h => .inl h, fun _ z => (nomatch z)⟩
theorem fn_pure {ι ρ : Type} {As : ι → List Slot} {m : ι → Option ρ} {Sr : ρ → Slot} {x qual : Str} {st : Stmt} {f : Addr} {fd : FuncData} {N ps : List Str} (Fn : Fun K x qual st f fd) (S : FnScope N ps (defScope st)) (hlen : ∀ z, (As z).length = ps.length)
    (body : ∀ (cdv : Value) (A : Around) (outer : List Env) (s : Shared) (H : Hp) (E : XK) (hr : Room k (A.deeper (envOfC qual (defScope st) s.heap.objs.size f cdv))) (z : ι) (r : ρ) (B : Bs), m z = some r →
      Go (fb P w K mg base N qual st f cdv A outer s H E k hr S.nd) () (defBody st) (DF B (Sr r)) B (As z ++ List.replicate (N.length - ps.length) dead)) : FnOk P w K mg base CX0 (k + 1) f fd ps (spP As m Sr) := by
  refine Fn.ok S (fun vs H Q E h => ?_) (fun cdv A outer s H vs Q E hr h => ?_)
  · obtain ⟨z, r, F, _, _, Sl, _⟩ := h
    have e := Sl.length
    rw [List.length_map] at e
    rw [e, hlen]
  · obtain ⟨z, r, F, hm, hS, Sl, q⟩ := h
    refine ⟨_, pss_cont, ?_⟩
    have go := body cdv A outer s H E hr z r ⟨F, H, []⟩ hm
    have S0 : Sta ⟨F, H, []⟩ F H (L2.start N vs) (As z ++ List.replicate (N.length - ps.length) dead) := by
      refine ⟨[], wo_nil hS, ?_⟩
      unfold L2.start
      have e := Sl.length
      rw [List.length_map, hlen] at e
      rw [e]
      exact Slots.append Sl (slots_dead _)
    exact cont_mono (go F H _ S0) (fun σ H' ⟨F', fp, W', p'⟩ => q .non F' H' fp W' p') (fun v H' ⟨F', fp, W', p'⟩ => q v F' H' fp W' p') (fun _ _ z => z.elim) (fun _ _ z => z.elim)
variable {Y : Fa P w K mg base k} {i : Y.I} {e ea eb eo tg iter elt : Expr} {es : List Expr} {rest body : List Stmt} {Γ Γ' Γ1 Γ2 : List Slot} {a b c r s : Slot} {pos : Pos} {B : Bs} {D : Ends} {x : Str} {p' : Pos}
/-- all of them own nothing -/
def NoOwn : List Slot → Prop
  | [] => True
  | s :: r => (∀ F H fp o, s.P F H fp o → fp = []) ∧ NoOwn r
theorem no_val {α : Type} {p : VP α} {u : α} : ∀ F H fp o, (val p u).P F H fp o → fp = [] := fun F H fp o h => h.1
theorem no_bor {α : Type} {p : VP α} {u : α} : ∀ F H fp o, (bor p u).P F H fp o → fp = [] := fun F H fp o h => h.1
theorem no_borL {α : Type} {p : VP α} {u : List α} : ∀ F H fp o, (borL p u).P F H fp o → fp = [] := fun F H fp o h => h.1
theorem NoOwn.nil {F H : Hp} : ∀ {As : List Slot} {fp : List Addr} {vs : List V}, NoOwn As → Slots F H fp (vs.map some) As → fp = []
  | [], _, [], _, S => by cases S; rfl
  | [], _, _ :: _, _, S => by have e := S.length; simp at e
  | _ :: _, _, [], _, S => by have e := S.length; simp at e
  | s :: As, fp, v :: vs, h, S => by
    rw [List.map_cons] at S
    obtain ⟨f1, f2, rfl, p, S2⟩ := Slots.cons_inv S
    rw [h.1 F H f1 _ p, NoOwn.nil h.2 S2]; rfl
/-- behind a pure call -/
theorem Wo.called {F H F' H' : Hp} {os fp : List Addr} (W : Wo B F H os) (W4 : Wo ⟨F, H, []⟩ F' H' fp) : Same F F' ∧ Same H H' ∧ Wo B F' H' (fp ++ os) := by
  have hH : Same H H' := fun a o e => W4.bH a o e (by simp)
  refine ⟨W4.bF, hH, ?_⟩
  have own_old : ∀ q ∈ os, F' q = none := fun q hq => by
    cases z : F' q with
    | none => rfl
    | some u =>
      obtain ⟨o, ho⟩ := W.oH q hq
      rcases W4.bN q u z with y | y | y
      · have y' : F q = some u := y
        rw [W.oF q hq] at y'; cases y'
      · have y' : H q = none := y
        rw [ho] at y'; cases y'
      · exact nomatch y
  refine ⟨W4.sub, List.nodup_append.mpr ⟨W4.nd, W.nd, fun q hq q' hq' e => ?_⟩, fun q hq => ?_, fun q hq => ?_, W.bF.trans W4.bF, fun q u e hb => hH q u (W.bH q u e hb), fun q u e => ?_, fun q hq => ?_⟩
  · subst e
    obtain ⟨o, ho⟩ := W.oH q hq'
    rcases W4.bO q hq with y | y
    · have y' : H q = none := y
      rw [ho] at y'; cases y'
    · exact nomatch y
  · rcases List.mem_append.mp hq with hq | hq
    · exact W4.oF q hq
    · exact own_old q hq
  · rcases List.mem_append.mp hq with hq | hq
    · exact W4.oH q hq
    · obtain ⟨o, ho⟩ := W.oH q hq
      exact ⟨o, hH q o ho⟩
  · rcases W4.bN q u e with y | y | y
    · exact W.bN q u y
    · exact .inr (W.bFree y)
    · exact nomatch y
  · rcases List.mem_append.mp hq with hq | hq
    · rcases W4.bO q hq with y | y
      · exact W.bFree y
      · exact nomatch y
    · exact W.bO q hq
/-- f(e, ..) of a pure def on frozen arguments -/
theorem x_call {ι ρ : Type} {As : ι → List Slot} {m : ι → Option ρ} {Sr : ρ → Slot} {args : List Slot} {z : ι} {q : ρ} {j : Nat} {f : Addr} {fd : FuncData} {ps : List Str} (Fn : FnOk P w K mg base CX0 j f fd ps (spP As m Sr)) (hj : j ≤ k) (hm : mg x = some (.ref f)) (hk : PySem.W.keepIn K (.ref f) = true) (hb : Binds K fd ps [])
    (ha : XA Y (e :: es) Γ args) (hargs : args = As z) (hno : NoOwn args) (hq : m z = some q) (hg : ∀ i, Gl (Y.X i) x := by intro _; rfl) (hdb : (x == ("__debug__" : Str)) = false := by decide)
    (he : ∀ i, starEach (e :: es) (Y.X i).env = (false, eval e (Y.X i).env) :: starEach es (Y.X i).env := by intro _; rfl) (hpl : ∀ i, (backTo pos (starEach es (Y.X i).env)).any (·.1) = false := by intro _; rfl) (hcm : Y.cm = true := by rfl) : XV Y (.Call (.Name x p') (e :: es) [] pos) Γ (Sr q) := by
  subst hargs
  obtain ⟨t, pa, rd⟩ := ha
  have FF : ∀ i, FnOk (Y.X i).prog (Y.X i).w (Y.X i).K (Y.X i).mg (Y.X i).base CX0 j f fd ps (spP As m Sr) := fun i => by rw [Y.hP i, Y.hw i, Y.hK i, Y.hM i, Y.hB i]; exact Fn
  refine ⟨_, fun i => pe_call (FF i) ((Y.hR hcm i).mono hj) (hg i) (by rw [Y.hM i]; exact hm) (by rw [Y.hK i]; exact hk) (by rw [Y.hK i]; exact hb) .nil pass0 (pa i) hdb (he i) (hpl i), fun B F H os σ Q I kk => ?_⟩
  refine rd B F H os σ _ I fun vs F1 H1 fp f1 e1 W1 S1 => ?_
  obtain rfl := hno.nil S1
  rw [List.append_nil]
  refine ⟨z, q, F1, hq, W1.sub, S1, fun v F2 H2 fp W2 p2 => ?_⟩
  obtain ⟨f2, e2, W3⟩ := W1.called W2
  exact kk v F2 H2 fp (f1.trans f2) (e1.trans e2) W3 p2
theorem Slots.one {F H : Hp} {os : List Addr} {o : Option V} {σ : List (Option V)} {s : Slot} {Γ : List Slot} (h : Slots F H os (o :: σ) (s :: Γ)) (he : os = []) : s.P F H [] o ∧ Slots F H [] σ Γ := by
  cases h with
  | @cons fp os _ _ _ _ hp hr =>
    obtain ⟨e1, e2⟩ := List.append_eq_nil_iff.mp he
    subst e1; subst e2
    exact ⟨hp, hr⟩
/-- how the arguments that are looked at are read -/
inductive AV : List Slot → List Slot → Prop
  | nil : AV [] []
  | cons {α : Type} {s : Slot} {p : VP α} {u : α} {As Bs : List Slot} : Vw s p u → AV As Bs → AV (s :: As) (val p u :: Bs)
theorem AV.to {As Cs : List Slot} (h : AV As Cs) : ∀ F H (vs : List V), Same F H → Slots F H [] (vs.map some) As → Slots H H [] (vs.map some) Cs := by
  induction h with
  | nil =>
    intro F H vs hS Sl
    have e := Sl.length
    cases vs with
    | nil => exact .nil
    | cons v vs => simp at e
  | @cons α s p u As Cs hv _ ih =>
    intro F H vs hS Sl
    have e := Sl.length
    cases vs with
    | nil => simp at e
    | cons v vs =>
      rw [List.map_cons] at Sl
      obtain ⟨hp, hr⟩ := Sl.one rfl
      have i1 := ih F H vs hS hr
      obtain ⟨v', ev, rv⟩ := hv F H [] _ hS hp
      cases ev
      exact Slots.cons (fp := []) ⟨rfl, v, rfl, rv⟩ i1
end
end Ty

/-! Ty6 -/
namespace Ty
open PySem PySem.Spec L2
section
variable {P : Program} {w : World} {K : PySem.W.Frag} {mg : Str → Option Value} {base : Heap} {k : Nat}
/-! ### comprehensions -/
/-- the blocks of a comprehension, wherever they start -/
def Fa.blk (Y : Fa P w K mg base k) (scope : Scope) : Fa P w K mg base k where
  I := Y.I × Shared × Hp × Addr × List (Str × Addr) × List Addr
  X := fun j => (Y.X j.1).blk j.2.1 j.2.2.1 scope (compEnvC scope j.2.2.2.2.1 j.2.2.2.1 (Y.X j.1).env) j.2.2.2.2.2
  hP := fun j => Y.hP j.1
  hw := fun j => Y.hw j.1
  hK := fun j => Y.hK j.1
  hM := fun j => Y.hM j.1
  hB := fun j => Y.hB j.1
  cm := Y.cm
  hC := fun j => Y.hC j.1
  hR := fun h j => Y.hR h j.1
  hU := fun j => Y.hU j.1
  W := fun _ _ _ _ => False
  tk := fun _ => takes0
  hN := fun j => Y.hN j.1
  hO := fun j => PassesOwn.never
variable {Y : Fa P w K mg base k} {i : Y.I} {e ea eb eo tg iter elt : Expr} {es ifs : List Expr} {rest body : List Stmt} {Γ Γ' Γ1 Γ2 : List Slot} {a b c r s : Slot} {pos : Pos} {B : Bs} {D : Ends} {x : Str} {p' : Pos} {scope : Scope}
/-- readings from what runs them, for a whole family -/
def cE (Y : Fa P w K mg base k) (e : Expr) : TE := fun σ H Q => ∀ (i : Y.I) (pins : List (Addr × Obj)) (s : Shared), Inv (Y.X i) pins σ H s → wpAny (model (Y.X i).prog (Y.X i).w) (Y.X i).A (eval e (Y.X i).env) (EP (Y.X i) pins σ Q) (Y.X i).xe s
theorem pe_cE (i : Y.I) : PE (Y.X i) e (cE Y e) := ⟨fun pins s σ H Q I h => h i pins s I⟩
def cG (Y : Fa P w K mg base k) (tg : Expr) : TG := fun v σ H Q => ∀ (i : Y.I) (pins : List (Addr × Obj)) (s : Shared) (u : Value), Inv (Y.X i) pins σ H s → RelV v u → wpAny (model (Y.X i).prog (Y.X i).w) (Y.X i).A (assign tg (Y.X i).env u) (fun _ s' => ∃ σ' H', Inv (Y.X i) pins σ' H' s' ∧ Q σ' H') (Y.X i).xe s
theorem pg_cG (i : Y.I) : PG (Y.X i) tg (cG Y tg) := ⟨fun pins s σ H v u Q I r h => h i pins s u I r⟩
def cTs (Y : Fa P w K mg base k) (ifs : List Expr) : TT := fun σ H Q => ∀ (i : Y.I) (pins : List (Addr × Obj)) (s : Shared), Inv (Y.X i) pins σ H s →
  wpAny (model (Y.X i).prog (Y.X i).w) (Y.X i).A (forIn ifs true fun c r => if r = true then do let ok ← isTrue c (Y.X i).env (eval c (Y.X i).env); pure (ForInStep.yield ok) else pure (ForInStep.yield r)) (TP (Y.X i) pins σ Q) (Y.X i).xe s
theorem pts_cTs (i : Y.I) : PTs (Y.X i) ifs (cTs Y ifs) := ⟨fun pins s σ H Q I h => h i pins s I⟩
/-- the tests of a clause -/
def XTs (Y : Fa P w K mg base k) (ifs : List Expr) (Γ : List Slot) (b : Bool) : Prop :=
  ∃ t : TT, (∀ i, PTs (Y.X i) ifs t) ∧ ∀ (B : Bs) (F H : Hp) (os : List Addr) (σ : List (Option V)) (Q : Bool → Hp → Prop), In B F H os σ Γ → (∀ F' H', Same F F' → Same H H' → Wo B F' H' os → Q b H') → t σ H Q
theorem xts_nil : XTs Y [] Γ true := ⟨_, fun _ => pts_nil, fun B F H os σ Q I q => q F H same_refl same_refl I.W⟩
theorem xts_one {z : Bool} (h : XT Y e Γ z) : XTs Y [e] Γ z := let ⟨t, p, r⟩ := h; ⟨t, fun i => pts_one (p i), r⟩
/-- a clause with a test: none where it is left out -/
def fmO {α β : Type} : List α → (α → Option (Option β)) → Option (List β)
  | [], _ => some []
  | x :: xs, f => (f x).bind fun o => (fmO xs f).bind fun r => some (o.toList ++ r)
theorem wipe_get {σ : L2.St} : ∀ {vs : List Nat} {j : Nat}, (wipe σ vs)[j]? = if j ∈ vs ∧ j < σ.length then some none else σ[j]?
  | [], j => by simp [wipe]
  | v :: vs, j => by
    unfold wipe
    by_cases hj : v = j
    · subst hj
      by_cases hl : v < σ.length
      · rw [List.getElem?_set_self (by rw [wipe_length]; exact hl), if_pos ⟨List.mem_cons_self, hl⟩]
      · rw [if_neg (fun z => hl z.2), List.getElem?_eq_none (by rw [List.length_set, wipe_length]; omega), List.getElem?_eq_none (by omega)]
    · rw [List.getElem?_set_ne hj, wipe_get (vs := vs) (j := j)]
      have : (j ∈ v :: vs) ↔ j ∈ vs := by
        constructor
        · intro z
          rcases List.mem_cons.mp z with z | z
          · exact absurd z.symm hj
          · exact z
        · exact List.mem_cons_of_mem _
      simp only [this]
/-- slots at which the frame is not looked at -/
theorem Slots.ext {F H : Hp} : ∀ {os : List Addr} {σ σ' : List (Option V)} {Γ : List Slot}, Slots F H os σ Γ → σ'.length = σ.length → (∀ (j : Nat) (s : Slot), Γ[j]? = some s → s = dead ∨ σ'[j]? = σ[j]?) → Slots F H os σ' Γ
  | _, _, [], _, .nil, _, _ => .nil
  | _, _, _ :: _, _, .nil, e, _ => by simp at e
  | _, _, [], _, .cons _ _, e, _ => by simp at e
  | _, _, o' :: σ', _, .cons (s := s) (o := o) p r, e, h => by
    refine .cons ?_ (Slots.ext r (by simpa using e) fun j s hs => by have := h (j + 1) s (by simpa using hs); simpa using this)
    rcases h 0 s rfl with z | z
    · subst z; exact p
    · have : o' = o := by simpa using z
      rw [this]; exact p
theorem wipe_eq {σ σ' : L2.St} {vs ws : List Nat} (hw : ∀ j ∈ ws, j ∈ vs) (hl : σ'.length = (wipe σ vs).length) (h : ∀ j, j ∉ ws → σ'[j]? = (wipe σ vs)[j]?) : wipe σ' vs = wipe σ vs := by
  apply List.ext_getElem?
  intro j
  rw [wipe_get, wipe_get]
  rw [wipe_length] at hl
  by_cases hj : j ∈ vs
  · by_cases h2 : j < σ.length
    · rw [if_pos ⟨hj, by rw [hl]; exact h2⟩, if_pos ⟨hj, h2⟩]
    · rw [if_neg (fun z => h2 (by rw [← hl]; exact z.2)), if_neg (fun z => h2 z.2), List.getElem?_eq_none (by omega), List.getElem?_eq_none (by omega)]
  · rw [if_neg (fun z => hj z.1), if_neg (fun z => hj z.1), h j (fun z => hj (hw j z)), wipe_get, if_neg (fun z => hj z.1)]
/-- what a comprehension asks of its text -/
structure Lc (Y : Fa P w K mg base k) (iter : Expr) (scope : Scope) (own : List (Str × Nat)) : Prop where
  ok : ∀ i, BlkOk (Y.X i).N (Y.X i).env.scope scope own
  hs : ∀ i x, foldedSetIterable iter (Y.X i).env x = pure x
/-- the slots are not looked at -/
def DeadAt (Γ : List Slot) : List Nat → Prop
  | [] => True
  | j :: r => Γ[j]? = some dead ∧ DeadAt Γ r
theorem DeadAt.get {Γ : List Slot} : ∀ {l : List Nat}, DeadAt Γ l → ∀ j ∈ l, Γ[j]? = some dead
  | j :: r, h, x, hx => by
    rcases List.mem_cons.mp hx with rfl | hx
    · exact h.1
    · exact DeadAt.get h.2 x hx
/-- the reading of a comprehension -/
theorem lc_run {α β : Type} {xs : List α} {rs : α → Slot} {q : VP β} {f : α → Option (Option β)} {ys : List β} {own : List (Str × Nat)} (hz : xs.length ≤ sizeLine) (hf : fmO xs f = some ys) (hd0 : DeadAt Γ (own.map (·.2)))
    (hb : ∀ x o, x ∈ xs → f x = some o → ∃ ws Γ1, (ws.all fun j => (own.map (·.2)).contains j) = true ∧ XG (Y.blk scope) tg ws (rs x) Γ Γ1 ∧ XTs (Y.blk scope) ifs Γ1 o.isSome ∧ ∀ y, o = some y → XV (Y.blk scope) elt Γ1 (val q y))
    {wi : TI} (hw : ∀ (B : Bs) (F H : Hp) (os : List Addr) (σ : List (Option V)) (R : It → Hp → Prop), In B F H os σ Γ → (∀ J F' H', Same F F' → Same H H' → Wo B F' H' os → Wk True J F' H' (xs.map rs) → R J H') → wi σ H R)
    {F H : Hp} {os : List Addr} {σ : List (Option V)} {Q : VK} (I : In B F H os σ Γ) (kk : ∀ v F' H' fp, Same F F' → Same H H' → Wo B F' H' (fp ++ os) → (Ty.own (oL q) ys).P F' H' fp (some v) → Q v H') :
    tLc wi (cG (Y.blk scope) tg) (cTs (Y.blk scope) ifs) (cE (Y.blk scope) elt) (own.map (·.2)) σ H Q := by
  have hd := hd0.get
  refine hw B F H os σ _ I fun J F1 H1 f1 e1 W1 wk Dl hD => ?_
  obtain ⟨_, o2, r0, hperm, S0⟩ := I
  have S1 : Slots F1 H1 o2 (wipe σ (own.map (·.2))) Γ := (S0.mono f1 e1).ext (wipe_length _ _) fun j s hs => by
    by_cases hj : j ∈ own.map (·.2)
    · left
      have := hd j hj
      rw [hs] at this; exact Option.some.inj this
    · right
      rw [wipe_get, if_neg (fun z => hj z.1)]
  refine ⟨fun n m H' => n ≤ xs.length ∧ m = xs.length - n ∧ ∃ (F' : Hp) (vs : List V) (acc rr : List β), Wo B F' H' (Dl :: os) ∧ Same F1 F' ∧ Same H1 H' ∧ H' Dl = some (.lst vs) ∧ Paired (q.R F') vs acc ∧ acc.length ≤ n ∧ fmO (xs.drop n) f = some rr ∧ ys = acc ++ rr,
    ⟨xs.length - 0, Nat.zero_le _, rfl, F1, [], [], ys, W1.newO hD, same_refl, same_upd hD, upd_same, .nil, Nat.zero_le _, by simpa using hf, rfl⟩, ?_⟩
  rintro n m H' ⟨hn, rfl, F', vs, acc, rr, W', fF, fH, hDl, hp, hacc, hrr, hys⟩
  obtain ⟨w1, w2⟩ := wk F' H' fF (fun _ => fH) W'.sub
  by_cases hlt : n < xs.length
  · have hx : xs[n]? = some xs[n] := List.getElem?_eq_getElem hlt
    have hdrop : xs.drop n = xs[n] :: xs.drop (n + 1) := List.drop_eq_getElem_cons hlt
    rw [hdrop] at hrr
    unfold fmO at hrr
    obtain ⟨o, ho, hrr⟩ := Option.bind_eq_some_iff.mp hrr
    obtain ⟨r2, hr2, hrr⟩ := Option.bind_eq_some_iff.mp hrr
    obtain ⟨g1, g2⟩ := w2 n (rs xs[n]) (by rw [List.getElem?_map, hx]; rfl)
    refine .inr ⟨g1, fun H'' => n + 1 ≤ xs.length ∧ ∃ (F' : Hp) (vs : List V) (acc rr : List β), Wo B F' H'' (Dl :: os) ∧ Same F1 F' ∧ Same H1 H'' ∧ H'' Dl = some (.lst vs) ∧ Paired (q.R F') vs acc ∧ acc.length ≤ n + 1 ∧ fmO (xs.drop (n + 1)) f = some rr ∧ ys = acc ++ rr, ?_, ?_⟩
    · rintro H'' ⟨hn', rest⟩
      exact ⟨xs.length - (n + 1), by omega, hn', rfl, rest⟩
    · intro v H2 y
      obtain ⟨e2, push⟩ := g2 v H2 y
      obtain ⟨F2, f2, W2, p2⟩ := push B _ W'
      obtain ⟨ws, Γ1, hws0, ⟨_, g, pg, qg⟩, ⟨tt, ptt, rtt⟩, hel⟩ := hb xs[n] o (List.getElem_mem hlt) ho
      have hws : ∀ j ∈ ws, j ∈ own.map (·.2) := fun j hj => List.contains_iff_mem.mp (List.all_eq_true.mp hws0 j hj)
      intro j pins sh u Iv rv
      refine (pg j).run pins sh _ H2 v u _ Iv rv (qg F2 H2 [] o2 _ v _ W2.sub p2 (S1.mono (fF.trans f2) (fH.trans e2)) fun σ' os' d ⟨l', k'⟩ pp S' => ⟨wipe_eq hws l' k', ?_⟩)
      have I2 : In B F2 H2 (Dl :: os) σ' Γ1 := ⟨W2, os', Dl :: (d ++ r0), by
        have a1 : os.Perm ((d ++ os') ++ r0) := hperm.trans (List.Perm.append_right r0 (by simpa using pp))
        refine (List.Perm.cons Dl a1).trans ?_
        have a2 : (Dl :: ((d ++ os') ++ r0)).Perm (Dl :: (os' ++ (d ++ r0))) := List.Perm.cons Dl (by rw [← List.append_assoc]; exact List.Perm.append_right r0 List.perm_append_comm)
        exact a2.trans List.perm_middle.symm, S'⟩
      intro j2 pins2 s2 Iv2
      refine (ptt j2).run pins2 s2 σ' H2 _ Iv2 (rtt B F2 H2 _ σ' _ I2 fun F3 H3 f3 e3 W3 => ?_)
      cases o with
      | none =>
        show n + 1 ≤ xs.length ∧ _
        refine ⟨hlt, F3, vs, acc, r2, W3, (fF.trans f2).trans f3, (fH.trans e2).trans e3, e3 _ _ (e2 _ _ hDl), Paired.mon (fun _ _ r => q.mono (f2.trans f3) r) hp, by omega, hr2, ?_⟩
        have : r2 = rr := by simpa using hrr
        rw [hys, this]
      | some yv =>
        show cE (Y.blk scope) elt σ' H3 _
        obtain ⟨te, pte, rte⟩ := hel yv rfl
        intro j3 pins3 s3 Iv3
        refine (pte j3).run pins3 s3 σ' H3 _ Iv3 (rte B F3 H3 _ σ' _ (I2.step0 f3 e3 W3) fun yy F4 H4 fp4 f4 e4 W4 p4 => ?_)
        have hD4 : H4 Dl = some (.lst vs) := e4 _ _ (e3 _ _ (e2 _ _ hDl))
        have hlen := Paired.length hp
        refine ⟨vs, hD4, by omega, hlt, F4, vs ++ [yy], acc ++ [yv], r2, ?_, ((fF.trans f2).trans f3).trans f4, ?_, upd_same, Paired.app (Paired.mon (fun _ _ r => q.mono ((f2.trans f3).trans f4) r) hp) (.cons (val_P p4).2 .nil), by simp; omega, hr2, ?_⟩
        · exact W4.drop.write List.mem_cons_self
        · intro z u hu
          rw [upd_ne (ne_of_none hu hD)]
          exact ((fH.trans e2).trans e3).trans e4 z u hu
        · have : [yv] ++ r2 = rr := by simpa using hrr
          rw [hys, ← this, List.append_assoc]
  · have e : n = xs.length := by omega
    subst e
    refine .inl ⟨by simpa using w1, ?_⟩
    rw [List.drop_length] at hrr
    unfold fmO at hrr
    have : rr = [] := by simpa using hrr.symm
    subst this
    rw [List.append_nil] at hys
    subst hys
    exact kk _ F' H' [Dl] (f1.trans fF) (e1.trans fH) W' ⟨_, rfl, Dl, vs, rfl, rfl, hDl, hp⟩
/-- [elt for tg in iter if ..] -/
theorem x_lc {α β : Type} {xs : List α} {rs : α → Slot} {q : VP β} {f : α → Option (Option β)} {ys : List β} {own : List (Str × Nat)} (hi : XI Y tg iter Γ True (xs.map rs)) (L : Lc Y iter scope own) (hz : xs.length ≤ sizeLine) (hf : fmO xs f = some ys) (hd0 : DeadAt Γ (own.map (·.2)))
    (hb : ∀ x o, x ∈ xs → f x = some o → ∃ ws Γ1, (ws.all fun j => (own.map (·.2)).contains j) = true ∧ XG (Y.blk scope) tg ws (rs x) Γ Γ1 ∧ XTs (Y.blk scope) ifs Γ1 o.isSome ∧ ∀ y, o = some y → XV (Y.blk scope) elt Γ1 (val q y)) (hcm : Y.cm = true := by rfl) :
    XV Y (.ListComp elt [⟨tg, iter, ifs, 0⟩] scope pos) Γ (Ty.own (oL q) ys) := by
  obtain ⟨wi, pi, hw⟩ := hi
  exact ⟨_, fun i => pe_lc ((Y.hC i).trans hcm) (Y.hN i) (pi i) (L.ok i) (fun s H C cl fp => pg_cG (Y := Y.blk scope) (i, s, H, C, cl, fp)) (fun s H C cl fp => pts_cTs (Y := Y.blk scope) (i, s, H, C, cl, fp)) (fun s H C cl fp => pe_cE (Y := Y.blk scope) (i, s, H, C, cl, fp)) (L.hs i),
    fun B F H os σ Q I kk => lc_run hz hf hd0 hb hw I kk⟩
/-- x = [elt for tg in iter if ..], x a plain local -/
theorem go_setLc {α β : Type} {xs : List α} {rs : α → Slot} {q : VP β} {f : α → Option (Option β)} {ys : List β} {own : List (Str × Nat)} (j : Nat) {py cpos : Pos} (hi : XI Y tg iter Γ True (xs.map rs)) (L : Lc Y iter scope own) (hz : xs.length ≤ sizeLine) (hf : fmO xs f = some ys) (hd0 : DeadAt Γ (own.map (·.2)))
    (hb : ∀ x o, x ∈ xs → f x = some o → ∃ ws Γ1, (ws.all fun j => (own.map (·.2)).contains j) = true ∧ XG (Y.blk scope) tg ws (rs x) Γ Γ1 ∧ XTs (Y.blk scope) ifs Γ1 o.isSome ∧ ∀ y, o = some y → XV (Y.blk scope) elt Γ1 (val q y))
    (hg : Go Y i rest D B (Γ.set j (Ty.own (oL q) ys))) (hj : Nat.blt j Γ.length = true := by rfl) (hy : (Y.X i).N[j]? = some x := by rfl) (hyl : (Y.X i).env.scope.names.lookup x = some .local := by rfl)
    (hsw : swapsWith (.ListComp elt [⟨tg, iter, ifs, 0⟩] scope cpos) (some (.Name x py)) pos.line (Y.X i).env = pure true) (hcm : Y.cm = true := by rfl) : Go Y i (.Assign [.Name x py] (.ListComp elt [⟨tg, iter, ifs, 0⟩] scope cpos) pos :: rest) D B Γ := by
  obtain ⟨wi, pi, hw⟩ := hi
  refine go_ps (ps_setLc ((Y.hC i).trans hcm) (Y.hN i) hy hyl hsw (pi i) (L.ok i) (fun s H C cl fp => pg_cG (Y := Y.blk scope) (i, s, H, C, cl, fp)) (fun s H C cl fp => pts_cTs (Y := Y.blk scope) (i, s, H, C, cl, fp)) (fun s H C cl fp => pe_cE (Y := Y.blk scope) (i, s, H, C, cl, fp)) (L.hs i)) fun F H σ ⟨os, W, S⟩ => ?_
  refine lc_run hz hf hd0 hb hw (Sta.in W S) fun v F1 H1 fp f1 e1 W1 p1 => ?_
  obtain ⟨os', d, h1, h2⟩ := (S.mono f1 e1).put p1 (Nat.le_of_ble_eq_true hj)
  exact hg F1 H1 _ ⟨os', (W1.perm h2).drop, h1⟩
end
end Ty

/-! Ty7 -/
namespace Ty
open PySem PySem.Spec L2
open PyProof.Rows (envOfC)
section
variable {P : Program} {w : World} {K : PySem.W.Frag} {mg : Str → Option Value} {base : Heap} {k : Nat}
variable {Y : Fa P w K mg base k} {i : Y.I} {e ea eb eo tg iter elt : Expr} {es ifs : List Expr} {rest body : List Stmt} {Γ Γ' Γ1 Γ2 Δ Δ' : List Slot} {a b c r s s' : Slot} {pos : Pos} {B : Bs} {D : Ends} {x f : Str} {p' : Pos} {C : Addr} {ns : List Str}

/-! ### objects -/
/-- an owned instance: its attributes told by Δ -/
def obj (C : Addr) (ns : List Str) (Δ : List Slot) : Slot where
  P := fun F H fp o => ∃ (x dx : Addr) (vs : List V) (os : List Addr), o = some (.ref x) ∧ fp = x :: dx :: os ∧ H x = some (.ins C dx (ns.zip vs)) ∧ H dx = some (.own x) ∧ vs.length = ns.length ∧ Slots F H os (vs.map some) Δ
  mono := fun hF hH h => let ⟨x, dx, vs, os, e1, e2, h1, h2, h3, h4⟩ := h; ⟨x, dx, vs, os, e1, e2, hH _ _ h1, hH _ _ h2, h3, h4.mono hF hH⟩
  st := Stb Δ
  mm := fun hs {_ _ _ _ _ _} hF hH h => let ⟨x, dx, vs, os, e1, e2, h1, h2, h3, h4⟩ := h
    ⟨x, dx, vs, os, e1, e2, by rw [hH x (by rw [e2]; simp)]; exact h1, by rw [hH dx (by rw [e2]; simp)]; exact h2, h3, h4.mm hF hs fun q hq => hH q (by rw [e2]; simp [hq])⟩
/-- a frozen instance -/
def pObj {α : Type} (C : Addr) (ns : List Str) (sl : α → List Slot) : VP α where
  R := fun F v z => ∃ (x dx : Addr) (vs : List V), v = .ref x ∧ F x = some (.ins C dx (ns.zip vs)) ∧ vs.length = ns.length ∧ Slots F F [] (vs.map some) (sl z)
  mono := fun hF h => let ⟨x, dx, vs, e1, h1, h3, h4⟩ := h; ⟨x, dx, vs, e1, hF _ _ h1, h3, h4.mono hF hF⟩
/-- an owned instance that is looked at -/
def bobj (C : Addr) (ns : List Str) (Δ : List Slot) : Slot where
  P := fun F H fp o => fp = [] ∧ ∃ (x dx : Addr) (vs : List V) (os : List Addr), o = some (.ref x) ∧ H x = some (.ins C dx (ns.zip vs)) ∧ vs.length = ns.length ∧ Slots F H os (vs.map some) Δ
  mono := fun hF hH h => let ⟨e0, x, dx, vs, os, e1, h1, h3, h4⟩ := h; ⟨e0, x, dx, vs, os, e1, hH _ _ h1, h3, h4.mono hF hH⟩
  st := False
  mm := fun h => h.elim
theorem zip_lookup : ∀ {ns : List Str} {vs : List V} {j : Nat} {f : Str} {v : V}, ns.Nodup → vs.length = ns.length → ns[j]? = some f → vs[j]? = some v → (ns.zip vs).lookup f = some v
  | [], _, _, _, _, _, _, e, _ => by simp at e
  | n :: ns, [], _, _, _, _, h, _, _ => by simp at h
  | n :: ns, u :: vs, 0, f, v, nd, h, e, e2 => by
    simp at e e2; subst e; subst e2
    simp [List.lookup]
  | n :: ns, u :: vs, j + 1, f, v, nd, h, e, e2 => by
    have nd' := List.nodup_cons.mp nd
    have hm : f ∈ ns := List.mem_of_getElem? (show ns[j]? = some f by simpa using e)
    have hb : (f == n) = false := by simpa using fun z : f = n => nd'.1 (z ▸ hm)
    rw [List.zip_cons_cons, List.lookup_cons, hb]
    exact zip_lookup nd'.2 (by simpa using h) (by simpa using e) (by simpa using e2)
theorem zip_lookup_none : ∀ {ns : List Str} {vs : List V} {f : Str}, f ∉ ns → (ns.zip vs).lookup f = none
  | [], _, _, _ => rfl
  | n :: ns, [], _, _ => rfl
  | n :: ns, u :: vs, f, h => by
    have hb : (f == n) = false := by simpa using fun z : f = n => h (by simp [z])
    rw [List.zip_cons_cons, List.lookup_cons, hb]
    exact zip_lookup_none fun z => h (List.mem_cons_of_mem _ z)
theorem zip_put : ∀ {ns : List Str} {vs : List V} {j : Nat} {f : Str} {v : V}, ns.Nodup → vs.length = ns.length → ns[j]? = some f → putF f v (ns.zip vs) = ns.zip (vs.set j v)
  | [], _, _, _, _, _, _, e => by simp at e
  | n :: ns, [], _, _, _, _, h, _ => by simp at h
  | n :: ns, u :: vs, 0, f, v, nd, h, e => by
    simp at e; subst e
    simp [putF]
  | n :: ns, u :: vs, j + 1, f, v, nd, h, e => by
    have nd' := List.nodup_cons.mp nd
    have hm : f ∈ ns := List.mem_of_getElem? (show ns[j]? = some f by simpa using e)
    have hne : ¬ n = f := fun z => nd'.1 (z ▸ hm)
    rw [List.zip_cons_cons, List.set_cons_succ, List.zip_cons_cons, putF, if_neg hne, zip_put nd'.2 (by simpa using h) (by simpa using e)]
theorem zip_new : ∀ {ns : List Str} {vs : List V} {f : Str} {v : V}, vs.length = ns.length → f ∉ ns → putF f v (ns.zip vs) = (ns ++ [f]).zip (vs ++ [v])
  | [], [], f, v, _, _ => rfl
  | [], _ :: _, _, _, h, _ => by simp at h
  | n :: ns, [], _, _, h, _ => by simp at h
  | n :: ns, u :: vs, f, v, h, hf => by
    have hne : ¬ n = f := fun z => hf (by simp [z])
    rw [List.zip_cons_cons, putF, if_neg hne, zip_new (by simpa using h) (fun z => hf (List.mem_cons_of_mem _ z))]; rfl
/-- what is asked of a class for an attribute -/
structure At (K : PySem.W.Frag) (C : Addr) (f : Str) : Prop where
  cl : Cls K C
  no : NoAttr K C f
/-- an instance that may be read: each attribute's value told by Δ -/
def OV (s : Slot) (C : Addr) (ns : List Str) (Δ : List Slot) : Prop := ∀ F H fp o, Same F H → s.P F H fp o → ∃ (x dx : Addr) (vs : List V) (os : List Addr), o = some (.ref x) ∧ H x = some (.ins C dx (ns.zip vs)) ∧ vs.length = ns.length ∧ Slots F H os (vs.map some) Δ
theorem OV.obj : OV (obj C ns Δ) C ns Δ := fun F H fp o _ h => let ⟨x, dx, vs, os, e1, _, h1, _, h3, h4⟩ := h; ⟨x, dx, vs, os, e1, h1, h3, h4⟩
theorem OV.bobj : OV (bobj C ns Δ) C ns Δ := fun F H fp o _ h => let ⟨_, x, dx, vs, os, e1, h1, h3, h4⟩ := h; ⟨x, dx, vs, os, e1, h1, h3, h4⟩
theorem OV.val {α : Type} {sl : α → List Slot} {z : α} : OV (Ty.val (pObj C ns sl) z) C ns (sl z) := fun F H fp o hS h => let ⟨_, v, ev, x, dx, vs, e1, h1, h3, h4⟩ := h; ⟨x, dx, vs, [], by rw [ev, e1], hS _ _ h1, h3, h4.mono same_refl hS⟩
/-- e.f, the attribute's value frozen -/
theorem x_fld {α : Type} {p : VP α} {u : α} (j : Nat) (he : XV Y e Γ s) (ho : OV s C ns Δ) (hA : At K C f) (hj : Δ[j]? = some (val p u) := by rfl) (hn : ns[j]? = some f := by rfl) (nd : ns.Nodup := by decide +kernel) (hb : ∀ i, attributeBase e f (Y.X i).env (eval e (Y.X i).env) = eval e (Y.X i).env := by intro _; rfl) : XV Y (.Attribute e f pos) Γ (val p u) := by
  obtain ⟨t, pe, rd⟩ := he
  refine ⟨_, fun i => by have h := pe_fld (pos := pos) (pe i) (hb i); rw [Y.hK i] at h; exact h, fun B F H os σ Q I q => ?_⟩
  refine rd B F H os σ _ I fun v F1 H1 fp f1 e1 W1 p1 => ?_
  obtain ⟨x, dx, vs, o2, ev, h1, h2, h3⟩ := ho F1 H1 fp _ W1.sub p1
  cases ev
  obtain ⟨o, fp', r', e3, p3, _, _⟩ := h3.at hj
  obtain ⟨_, v', ev, rv⟩ := p3
  subst ev
  have e4 : vs[j]? = some v' := by
    rw [List.getElem?_map] at e3
    obtain ⟨y, hy, ey⟩ := Option.map_eq_some_iff.mp e3
    cases ey; exact hy
  exact ⟨x, C, dx, _, v', rfl, h1, hA.cl, hA.no, zip_lookup nd h2 hn e4, q v' F1 H1 [] f1 e1 W1.drop ⟨rfl, v', rfl, rv⟩⟩
/-- e.f, an owned list within, looked at -/
theorem x_fldL {α : Type} {p : VP α} {u : List α} (j : Nat) (he : XV Y e Γ s) (ho : OV s C ns Δ) (hA : At K C f) (hj : Δ[j]? = some (own (oL p) u) := by rfl) (hn : ns[j]? = some f := by rfl) (nd : ns.Nodup := by decide +kernel) (hb : ∀ i, attributeBase e f (Y.X i).env (eval e (Y.X i).env) = eval e (Y.X i).env := by intro _; rfl) : XV Y (.Attribute e f pos) Γ (borL p u) := by
  obtain ⟨t, pe, rd⟩ := he
  refine ⟨_, fun i => by have h := pe_fld (pos := pos) (pe i) (hb i); rw [Y.hK i] at h; exact h, fun B F H os σ Q I q => ?_⟩
  refine rd B F H os σ _ I fun v F1 H1 fp f1 e1 W1 p1 => ?_
  obtain ⟨x, dx, vs, o2, ev, h1, h2, h3⟩ := ho F1 H1 fp _ W1.sub p1
  cases ev
  obtain ⟨o, fp', r', e3, p3, _, _⟩ := h3.at hj
  obtain ⟨v', ev, l, ws, el, ef, g1, g2⟩ := p3
  subst ev
  have e4 : vs[j]? = some v' := by
    rw [List.getElem?_map] at e3
    obtain ⟨y, hy, ey⟩ := Option.map_eq_some_iff.mp e3
    cases ey; exact hy
  exact ⟨x, C, dx, _, v', rfl, h1, hA.cl, hA.no, zip_lookup nd h2 hn e4, q v' F1 H1 [] f1 e1 W1.drop ⟨rfl, l, ws, by rw [el], g1, g2⟩⟩
/-- o.f = e, a new attribute -/
theorem go_newfld {up : Slot → List Slot} {pos' : Pos} (ho : PL Y eo Γ (obj C ns Δ) up) (he : XV Y e Γ r) (hA : At K C f) (hst : Stb Δ) (hr : r.st) (hg : Go Y i rest D B (up (obj C (ns ++ [f]) (Δ ++ [r])))) (hn : ns.contains f = false := by decide +kernel) (hl : Nat.blt ns.length 1000 = true := by rfl)
    (hs : swapsWith e (some (.Attribute eo f pos')) pos.line (Y.X i).env = pure false := by rfl) : Go Y i (.Assign [.Attribute eo f pos'] e pos :: rest) D B Γ := by
  obtain ⟨t, Pv, pe, pst, rd, up'⟩ := ho
  obtain ⟨t2, pe2, rd2⟩ := he
  refine go_ps (ps_fld (pe i) (pe2 i) hs) fun F H σ ⟨os, W, S⟩ => ?_
  refine rd2 B F H os σ _ (Sta.in W S) fun y F1 H1 fy f1 e1 W1 p1 => ?_
  refine rd B F1 H1 _ σ _ ((Sta.in W S).step f1 e1 W1) fun v hv => ?_
  obtain ⟨fp, r2, hr2, hp2, kk⟩ := up' F1 H1 os σ v (S.mono f1 e1) hv
  obtain ⟨x, dx, vs, o3, ex, e2, g1, g2, g3, g4⟩ := hp2
  cases ex
  subst e2
  have W2 : Wo B F1 H1 (fy ++ ((x :: dx :: o3) ++ r2)) := W1.perm (List.Perm.append_left fy hr2)
  have nd2 := W2.nd
  have hx : ∀ q, q ∈ fy ∨ q ∈ dx :: o3 ∨ q ∈ r2 → q ≠ x := fun q hq e => by
    subst e
    have a1 := List.nodup_append.mp nd2
    rcases hq with hq | hq | hq
    · exact a1.2.2 q hq q (by simp) rfl
    · have a2 := List.nodup_append.mp a1.2.1
      exact (List.nodup_cons.mp a2.1).1 hq
    · have a2 := List.nodup_append.mp a1.2.1
      exact a2.2.2 q (by simp) q hq rfl
  rw [Y.hK i]
  refine ⟨x, C, dx, _, rfl, g1, hA.cl, hA.no, ?_, ?_⟩
  · rw [List.length_zip]
    have := Nat.le_of_ble_eq_true hl
    omega
  have hnf : f ∉ ns := fun z => by
    have := List.contains_iff_mem.mpr z
    rw [hn] at this; cases this
  rw [zip_new g3 hnf]
  have W3 : Wo B F1 (upd H1 x (.ins C dx ((ns ++ [f]).zip (vs ++ [y])))) (fy ++ ((x :: dx :: o3) ++ r2)) := W2.write (by simp)
  have hfy : ∀ q ∈ fy, q ≠ x := fun q hq => hx q (.inl hq)
  have g5 : Slots F1 (upd H1 x (.ins C dx ((ns ++ [f]).zip (vs ++ [y])))) o3 (vs.map some) Δ := g4.mm same_refl hst fun q hq => upd_ne (hx q (by simp [hq]))
  have p5 : r.P F1 (upd H1 x (.ins C dx ((ns ++ [f]).zip (vs ++ [y])))) fy (some y) := r.mm hr same_refl (fun q hq => upd_ne (hfy q hq)) p1
  have t6 := g5.append (Slots.cons p5 .nil)
  rw [List.append_nil, show vs.map some ++ [some y] = (vs ++ [y]).map some by simp] at t6
  have hdx : dx ≠ x := hx dx (by simp)
  obtain ⟨os2, v1, v2⟩ := kk F1 (upd H1 x (.ins C dx ((ns ++ [f]).zip (vs ++ [y])))) (x :: dx :: (o3 ++ fy)) (obj C (ns ++ [f]) (Δ ++ [r])) same_refl (fun q hq => upd_ne (hx q (by simp [hq]))) ⟨x, dx, vs ++ [y], o3 ++ fy, rfl, rfl, upd_same, by rw [upd_ne hdx]; exact g2, by simp [g3], t6⟩
  refine hg F1 _ σ ⟨os2, (W3.perm ?_).perm v2.symm, v1⟩
  have b1 : (fy ++ ((x :: dx :: o3) ++ r2)).Perm (x :: dx :: ((fy ++ o3) ++ r2)) := by
    have c1 : (fy ++ (x :: (dx :: (o3 ++ r2)))).Perm (x :: (fy ++ (dx :: (o3 ++ r2)))) := List.perm_middle
    have c2 : (fy ++ (dx :: (o3 ++ r2))).Perm (dx :: (fy ++ (o3 ++ r2))) := List.perm_middle
    have c3 := c1.trans (c2.cons x)
    rw [List.append_assoc]; exact c3
  refine b1.trans ?_
  exact ((List.Perm.append_right r2 List.perm_append_comm).cons dx).cons x
/-- o.f += e of ints -/
theorem go_augfld {up : Slot → List Slot} {tpos : Pos} {op : Operator} {g : Int → Int → Int} {m n : Int} (j : Nat) (ho : PL Y eo Γ (obj C ns Δ) up) (he : XV Y e Γ (vInt n)) (hop : ∀ i, InOp (Y.X i) op (fun x y H Q => ∃ i j, x = .int i ∧ y = .int j ∧ Q (.int (g i j)) H)) (hA : At K C f) (hst : Stb Δ)
    (hg : Go Y i rest D B (up (obj C ns (Δ.set j (vInt (g m n)))))) (hm : Δ[j]? = some (vInt m) := by rfl) (hn : ns[j]? = some f := by rfl) (nd : ns.Nodup := by decide +kernel) (hl : Nat.blt ns.length 1000 = true := by rfl) : Go Y i (.AugAssign (.Attribute eo f tpos) op e pos :: rest) D B Γ := by
  obtain ⟨t, Pv, pe, pst, rd, up'⟩ := ho
  obtain ⟨t2, pe2, rd2⟩ := he
  refine go_ps (ps_fldaug (pe i) (pe2 i) (hop i)) fun F H σ ⟨os, W, S⟩ => ?_
  refine rd B F H _ σ _ (Sta.in W S) fun v hv => ?_
  obtain ⟨fp, r2, hr2, hp2, _⟩ := up' F H os σ v S hv
  obtain ⟨x, dx, vs, o3, ex, e2, g1, g2, g3, g4⟩ := hp2
  cases ex
  obtain ⟨o, fp', r', e3, p3, _, _⟩ := g4.at hm
  obtain ⟨_, v', rfl, rv⟩ := p3
  have e4 : vs[j]? = some v' := by
    rw [List.getElem?_map] at e3
    obtain ⟨y, hy, ey⟩ := Option.map_eq_some_iff.mp e3
    cases ey; exact hy
  rw [Y.hK i]
  refine ⟨x, C, dx, _, v', rfl, g1, hA.cl, hA.no, zip_lookup nd g3 hn e4, ?_⟩
  have rv' : v' = .int m := rv
  subst rv'
  refine rd2 B F H os σ _ (Sta.in W S) fun y F1 H1 fy f1 e1 W1 p1 => ?_
  obtain rfl := vint p1
  refine ⟨m, n, rfl, rfl, dx, _, e1 _ _ g1, ?_, ?_⟩
  · rw [List.length_zip]
    have := Nat.le_of_ble_eq_true hl
    omega
  rw [zip_put nd g3 hn]
  obtain ⟨fp, r2, hr2, hp2, kk⟩ := up' F1 H1 os σ _ (S.mono f1 e1) (pst _ _ _ _ e1 hv)
  obtain ⟨x', dx', vs', o3', ex, e2, g1', g2', g3', g4'⟩ := hp2
  cases ex
  subst e2
  rw [e1 _ _ g1] at g1'
  have ez : ns.zip vs = ns.zip vs' := by
    have := Option.some.inj g1'
    injection this
  have ed : dx = dx' := by
    have := Option.some.inj g1'
    injection this
  subst ed
  have ev : vs = vs' := by
    have a1 : (ns.zip vs).map (·.2) = (ns.zip vs').map (·.2) := by rw [ez]
    rw [List.map_snd_zip (by omega), List.map_snd_zip (by omega)] at a1
    exact a1
  subst ev
  have W2 : Wo B F1 H1 ((x :: dx :: o3') ++ r2) := W1.drop.perm hr2
  have nd2 := W2.nd
  have hx : ∀ q, q ∈ dx :: o3' ∨ q ∈ r2 → q ≠ x := fun q hq e => by
    subst e
    have a2 := List.nodup_append.mp nd2
    rcases hq with hq | hq
    · exact (List.nodup_cons.mp a2.1).1 hq
    · exact a2.2.2 q (by simp) q hq rfl
  have W3 : Wo B F1 (upd H1 x (.ins C dx (ns.zip (vs.set j (.int (g m n)))))) ((x :: dx :: o3') ++ r2) := W2.write (by simp)
  have g5 : Slots F1 (upd H1 x (.ins C dx (ns.zip (vs.set j (.int (g m n)))))) o3' (vs.map some) Δ := g4'.mm same_refl hst fun q hq => upd_ne (hx q (by simp [hq]))
  have p5 : (vInt (g m n)).P F1 (upd H1 x (.ins C dx (ns.zip (vs.set j (.int (g m n)))))) [] (some (.int (g m n))) := ⟨rfl, _, rfl, rfl⟩
  obtain ⟨o6, d6, t6, u6⟩ := g5.put p5 (List.getElem?_eq_some_iff.mp hm).1
  rw [← List.map_set] at t6
  have hdx : dx ≠ x := hx dx (by simp)
  obtain ⟨os2, v1, v2⟩ := kk F1 (upd H1 x (.ins C dx (ns.zip (vs.set j (.int (g m n)))))) (x :: dx :: o6) (obj C ns (Δ.set j (vInt (g m n)))) same_refl (fun q hq => upd_ne (hx q (by simp [hq]))) ⟨x, dx, vs.set j _, o6, rfl, rfl, upd_same, by rw [upd_ne hdx]; exact g2', by simp [g3], t6⟩
  refine hg F1 _ σ ⟨os2, (Wo.drop (a := d6) (W3.perm ?_)).perm v2.symm, v1⟩
  have b2 : (x :: dx :: (o3' ++ r2)).Perm (x :: dx :: ((d6 ++ o6) ++ r2)) := ((List.Perm.append_right r2 (by simpa using u6)).cons dx).cons x
  refine b2.trans ?_
  have b3 : (d6 ++ (x :: (dx :: (o6 ++ r2)))).Perm (x :: (d6 ++ (dx :: (o6 ++ r2)))) := List.perm_middle
  have b4 : (d6 ++ (dx :: (o6 ++ r2))).Perm (dx :: (d6 ++ (o6 ++ r2))) := List.perm_middle
  have b5 := (b3.trans (b4.cons x)).symm
  rw [List.append_assoc]; exact b5
/-- all of them frozen values -/
def AllV : List Slot → Prop
  | [] => True
  | s :: r => (∃ (α : Type) (p : VP α) (u : α), s = Ty.val p u) ∧ AllV r
theorem AllV.no {F H : Hp} : ∀ {Γ : List Slot} {os : List Addr} {σ : List (Option V)}, AllV Γ → Slots F H os σ Γ → os = [] ∧ Slots F F [] σ Γ
  | [], _, _, _, S => by cases S; exact ⟨rfl, .nil⟩
  | s :: Γ, _, _, h, S => by
    cases S with
    | @cons fp os o σ _ _ p q =>
      obtain ⟨⟨α, p', u, rfl⟩, h2⟩ := h
      obtain ⟨e1, v, e2, rv⟩ := p
      obtain ⟨e3, t⟩ := AllV.no h2 q
      subst e1; subst e3
      exact ⟨rfl, Slots.cons (fp := []) ⟨rfl, v, e2, rv⟩ t⟩
/-- an owned instance frozen -/
theorem WkS.obj {α : Type} {sl : α → List Slot} {z : α} (hw : WkL Δ (sl z)) (hv : AllV (sl z)) : WkS (Ty.obj C ns Δ) (Ty.val (pObj C ns sl) z) := fun F H fp o hS h => by
  obtain ⟨x, dx, vs, os, e1, e2, h1, h2, h3, h4⟩ := h
  obtain ⟨xx, yy, hp, kk⟩ := h4.wk hS hw
  obtain ⟨rfl, _⟩ := hv.no (kk H hS same_refl fun _ _ => rfl)
  subst e2
  refine ⟨x :: dx :: os, [], by simp, fun F' hF hs hx => ⟨rfl, _, e1, x, dx, vs, rfl, by rw [hx x (by simp)]; exact h1, h3, (hv.no (kk F' hF hs fun q hq => hx q ?_)).2⟩⟩
  have := hp.mem_iff.mpr (by simpa using hq)
  simp [this]

/-! ### what is handed in is kept by name -/
/-- s, held at the value v -/
def hold (s : Slot) (v : V) : Slot where
  P := fun F H fp o => o = some v ∧ s.P F H fp o
  mono := fun hF hH h => ⟨h.1, s.mono hF hH h.2⟩
  st := s.st
  mm := fun hs {_ _ _ _ _ _} hF hH h => ⟨h.1, s.mm hs hF hH h.2⟩
theorem pl_hold {v0 : V} (j : Nat) (hst : Stb Γ) (hs : Γ[j]? = some (hold s v0) := by rfl) (hN : ∀ i, (Y.X i).N[j]? = some x := by intro _; rfl)
    (hv : ∀ i, Vis (Y.X i).env.scope x := by intro _; first | exact Or.inl rfl | exact Or.inr (Or.inl rfl) | exact Or.inr (Or.inr rfl)) (hd : (x == ("__debug__" : Str)) = false := by decide) (hcd : (x == ("__classdict__" : Str)) = false := by decide) : PL Y (.Name x pos) Γ s (fun s' => Γ.set j (hold s' v0)) := by
  refine ⟨_, fun σ H v => σ[j]? = some (some v), fun i => pe_var (hN i) (hv i) hd hcd, fun σ H H' v _ h => h, fun B F H os σ Q I q => ?_, fun F H os σ v S hv => ?_⟩
  · obtain ⟨o, fp, e, h⟩ := I.slot hs
    obtain ⟨rfl, _⟩ := h
    exact ⟨v0, e, q v0 e⟩
  · obtain ⟨o, fp, r, e, p, q, kk⟩ := S.at hs
    rw [hv] at e; cases e
    obtain ⟨e0, p⟩ := p
    refine ⟨fp, r, q, p, fun F' H' fp' s' hF hk hs' => ?_⟩
    obtain ⟨os', h1, h2⟩ := kk (s' := hold s' v0) ⟨e0, hs'⟩ (fun s0 h0 fp0 o0 hf hp => s0.mm (hst s0 h0) hF (fun z hz => hk z (hf z hz)) hp)
    have es : σ.set j (some v) = σ := by
      obtain ⟨hj, e⟩ := List.getElem?_eq_some_iff.mp hv
      rw [← e]; exact List.set_getElem_self hj
    rw [es] at h1
    exact ⟨os', h1, h2⟩
theorem x_varH {v0 : V} (j : Nat) (hs : Γ[j]? = some (hold (obj C ns Δ) v0) := by rfl) (hN : ∀ i, (Y.X i).N[j]? = some x := by intro _; rfl)
    (hv : ∀ i, Vis (Y.X i).env.scope x := by intro _; first | exact Or.inl rfl | exact Or.inr (Or.inl rfl) | exact Or.inr (Or.inr rfl)) (hd : (x == ("__debug__" : Str)) = false := by decide) (hcd : (x == ("__classdict__" : Str)) = false := by decide) : XV Y (.Name x pos) Γ (bobj C ns Δ) := by
  refine ⟨_, fun i => pe_var (hN i) (hv i) hd hcd, fun B F H os σ Q I q => ?_⟩
  obtain ⟨o, fp, e, _, y, dx, vs, o2, e1, e2, h1, h2, h3, h4⟩ := I.slot hs
  subst e1
  exact ⟨_, e, q _ F H [] same_refl same_refl I.W ⟨rfl, y, dx, vs, o2, rfl, h1, h3, h4⟩⟩
theorem obj_some : ∀ F H fp o, (obj C ns Δ).P F H fp o → ∃ v, o = some v := fun F H fp o h => let ⟨_, _, _, _, e, _⟩ := h; ⟨_, e⟩
/-! ### defs that change their first argument -/
def spM {ι μ ρ : Type} (s0 : ι → Slot) (As : ι → List Slot) (m : ι → Option (μ × ρ)) (s1 : μ → Slot) (Sr : ρ → Slot) : Sp := fun vs H Q _ => ∃ (z : ι) (r : μ × ρ) (F : Hp) (fp : List Addr) (v0 : V) (ws : List V), vs = v0 :: ws ∧ m z = some r ∧ Wo ⟨F, H, fp⟩ F H fp ∧ (s0 z).P F H fp (some v0) ∧ Slots F H [] (ws.map some) (As z) ∧
  ∀ v F' H' f1 f2, Wo ⟨F, H, fp⟩ F' H' (f2 ++ f1) → (s1 r.1).P F' H' f1 (some v0) → (Sr r.2).P F' H' f2 (some v) → Q v H'
/-- the ends of such a body -/
def DM {μ ρ : Type} (B : Bs) (v0 : V) (s1 : μ → Slot) (Sr : ρ → Slot) (r : μ × ρ) : Ends where
  nx := fun _ H => ∃ F f1 f2, Wo B F H (f2 ++ f1) ∧ (s1 r.1).P F H f1 (some v0) ∧ (Sr r.2).P F H f2 (some .non)
  rt := fun v H => ∃ F f1 f2, Wo B F H (f2 ++ f1) ∧ (s1 r.1).P F H f1 (some v0) ∧ (Sr r.2).P F H f2 (some v)
theorem fn_mut {ι μ ρ : Type} {s0 : ι → Slot} {As : ι → List Slot} {m : ι → Option (μ × ρ)} {s1 : μ → Slot} {Sr : ρ → Slot} {x qual : Str} {st : Stmt} {f : Addr} {fd : FuncData} {N ps : List Str} (Fn : Fun K x qual st f fd) (S : FnScope N ps (defScope st)) (hlen : ∀ z, (As z).length + 1 = ps.length)
    (body : ∀ (cdv : Value) (A : Around) (outer : List Env) (s : Shared) (H : Hp) (E : XK) (hr : Room k (A.deeper (envOfC qual (defScope st) s.heap.objs.size f cdv))) (z : ι) (r : μ × ρ) (v0 : V) (B : Bs), m z = some r →
      Go (fb P w K mg base N qual st f cdv A outer s H E k hr S.nd) () (defBody st) (DM B v0 s1 Sr r) B (hold (s0 z) v0 :: As z ++ List.replicate (N.length - ps.length) dead)) : FnOk P w K mg base CX0 (k + 1) f fd ps (spM s0 As m s1 Sr) := by
  refine Fn.ok S (fun vs H Q E h => ?_) (fun cdv A outer s H vs Q E hr h => ?_)
  · obtain ⟨z, r, F, fp, v0, ws, rfl, _, _, _, Sl, _⟩ := h
    have e := Sl.length
    rw [List.length_map] at e
    rw [List.length_cons, e, hlen]
  · obtain ⟨z, r, F, fp, v0, ws, rfl, hm, hW, hp, Sl, q⟩ := h
    refine ⟨_, pss_cont, ?_⟩
    have go := body cdv A outer s H E hr z r v0 ⟨F, H, fp⟩ hm
    have S0 : Sta ⟨F, H, fp⟩ F H (L2.start N (v0 :: ws)) (hold (s0 z) v0 :: As z ++ List.replicate (N.length - ps.length) dead) := by
      refine ⟨fp, hW, ?_⟩
      unfold L2.start
      have e := Sl.length
      rw [List.length_map] at e
      rw [List.length_cons, e, hlen]
      have e1 := Slots.cons (s := hold (s0 z) v0) ⟨rfl, hp⟩ (Slots.append Sl (slots_dead (F := F) (H := H) (N.length - ps.length)))
      simpa using e1
    exact cont_mono (go F H _ S0) (fun σ H' ⟨F', f1, f2, W', p', q'⟩ => q .non F' H' f1 f2 W' p' q') (fun v H' ⟨F', f1, f2, W', p', q'⟩ => q v F' H' f1 f2 W' p' q') (fun _ _ z => z.elim) (fun _ _ z => z.elim)
/-- the body falls off its end -/
theorem go_nilM {μ ρ : Type} {v0 : V} {s1 : μ → Slot} {Sr : ρ → Slot} {r : μ × ρ} (j : Nat) (hs : Γ[j]? = some (hold (s1 r.1) v0) := by rfl) (hr : ∀ F H, (Sr r.2).P F H [] (some .non) := by intro _ _; exact ⟨rfl, _, rfl, rfl⟩) : Go Y i [] (DM B v0 s1 Sr r) B Γ :=
  go_nil fun σ H ⟨F, os, W, S⟩ => by
    obtain ⟨o, fp, r', e, p, q, _⟩ := S.at hs
    obtain ⟨rfl, p⟩ := p
    exact ⟨F, fp, [], (W.perm q).dropR, p, hr _ _⟩
/-- behind a call that changes what is at fp -/
theorem Wo.calledM {F H F' H' : Hp} {os fp r fp' : List Addr} (W : Wo B F H os) (hp : os.Perm (fp ++ r)) (W4 : Wo ⟨F, H, fp⟩ F' H' fp') : Same F F' ∧ (∀ q ∈ r, H' q = H q) ∧ Wo B F' H' (fp' ++ r) := by
  have W1 := W.perm hp
  have nd := List.nodup_append.mp W1.nd
  have hr : ∀ q ∈ r, q ∉ fp := fun q hq hf => nd.2.2 q hf q hq rfl
  have hH : ∀ q ∈ r, H' q = H q := fun q hq => by
    obtain ⟨o, ho⟩ := W1.oH q (List.mem_append_right _ hq)
    rw [ho]; exact W4.bH q o ho (hr q hq)
  have own_old : ∀ q ∈ r, F' q = none := fun q hq => by
    cases z : F' q with
    | none => rfl
    | some u =>
      obtain ⟨o, ho⟩ := W1.oH q (List.mem_append_right _ hq)
      rcases W4.bN q u z with y | y | y
      · have y' : F q = some u := y
        rw [W1.oF q (List.mem_append_right _ hq)] at y'; cases y'
      · have y' : H q = none := y
        rw [ho] at y'; cases y'
      · exact absurd y (hr q hq)
  refine ⟨W4.bF, hH, W4.sub, List.nodup_append.mpr ⟨W4.nd, nd.2.1, fun q hq q' hq' e => ?_⟩, fun q hq => ?_, fun q hq => ?_, W.bF.trans W4.bF, fun q u e hb => ?_, fun q u e => ?_, fun q hq => ?_⟩
  · subst e
    rcases W4.bO q hq with y | y
    · have y' : H q = none := y
      obtain ⟨o, ho⟩ := W1.oH q (List.mem_append_right _ hq')
      rw [ho] at y'; cases y'
    · exact hr q hq' y
  · rcases List.mem_append.mp hq with hq | hq
    · exact W4.oF q hq
    · exact own_old q hq
  · rcases List.mem_append.mp hq with hq | hq
    · exact W4.oH q hq
    · obtain ⟨o, ho⟩ := W1.oH q (List.mem_append_right _ hq)
      exact ⟨o, by rw [hH q hq]; exact ho⟩
  · by_cases hf : q ∈ fp
    · exfalso
      rcases W1.bO q (List.mem_append_left _ hf) with z | z
      · rw [z] at e; cases e
      · exact hb z
    · exact W4.bH q u (W.bH q u e hb) hf
  · rcases W4.bN q u e with y | y | y
    · exact W.bN q u y
    · exact .inr (W.bFree y)
    · exact .inr (W1.bO q (List.mem_append_left _ y))
  · rcases List.mem_append.mp hq with hq | hq
    · rcases W4.bO q hq with y | y
      · exact W.bFree y
      · exact W1.bO q (List.mem_append_left _ y)
    · exact W1.bO q (List.mem_append_right _ hq)
theorem Wo.here {F H : Hp} {os fp r : List Addr} (W : Wo B F H os) (hp : os.Perm (fp ++ r)) : Wo ⟨F, H, fp⟩ F H fp := (W.perm hp).dropR.self
theorem lookup_no {vs : List V} (hns : ns.contains f = false) : (ns.zip vs).lookup f = none := zip_lookup_none fun z => by
  have := List.contains_iff_mem.mpr z
  rw [hns] at this; cases this
/-- C(e, ..): a new instance -/
theorem x_make {ι μ ρ : Type} {s0 : ι → Slot} {As : ι → List Slot} {m : ι → Option (μ × ρ)} {s1 : μ → Slot} {Sr : ρ → Slot} {args : List Slot} {z : ι} {q : μ × ρ} {j : Nat} {g : Addr} {fd : FuncData} {ps : List Str}
    (Fn : FnOk P w K mg base CX0 j g fd ps (spM s0 As m s1 Sr)) (hj : j + 1 ≤ k) (M : Mk K C g) (hm : mg x = some (.ref C)) (hb : Binds K fd ps []) (ha : XA Y (e :: es) Γ args) (hargs : args = As z) (hno : NoOwn args) (h0 : s0 z = obj C [] []) (hq : m z = some q) (hr : Sr q.2 = vNon)
    (hg : ∀ i, Gl (Y.X i) x := by intro _; rfl) (hdb : (x == ("__debug__" : Str)) = false := by decide)
    (he : ∀ i, starEach (e :: es) (Y.X i).env = (false, eval e (Y.X i).env) :: starEach es (Y.X i).env := by intro _; rfl) (hpl : ∀ i, (backTo pos (starEach es (Y.X i).env)).any (·.1) = false := by intro _; rfl) (hcm : Y.cm = true := by rfl) : XV Y (.Call (.Name x p') (e :: es) [] pos) Γ (s1 q.1) := by
  subst hargs
  obtain ⟨t, pa, rd⟩ := ha
  have FF : ∀ i, FnOk (Y.X i).prog (Y.X i).w (Y.X i).K (Y.X i).mg (Y.X i).base CX0 j g fd ps (spM s0 As m s1 Sr) := fun i => by rw [Y.hP i, Y.hw i, Y.hK i, Y.hM i, Y.hB i]; exact Fn
  refine ⟨_, fun i => pe_make (by rw [Y.hK i]; exact M) (FF i) ((Y.hR hcm i).mono hj) (hg i) (by rw [Y.hM i]; exact hm) (by rw [Y.hK i]; exact hb) .nil pass0 (pa i) hdb (he i) (hpl i), fun B F H os σ Q I kk => ?_⟩
  refine rd B F H os σ _ I fun vs F1 H1 fp f1 e1 W1 S1 => ?_
  obtain rfl := hno.nil S1
  intro a dx ha hdx hne
  rw [List.append_nil]
  have hdx' : (upd H1 dx (.own a)) a = none := by rw [upd_ne (fun z => hne z.symm)]; exact ha
  have W1' : Wo B F1 H1 os := W1
  have W2 : Wo B F1 (upd (upd H1 dx (.own a)) a (.ins C dx [])) (a :: dx :: os) := (W1'.newO hdx).newO hdx'
  have e3 : Same H1 (upd (upd H1 dx (.own a)) a (.ins C dx [])) := (same_upd hdx).trans (same_upd hdx')
  refine ⟨z, q, F1, [a, dx], .ref a, vs, rfl, hq, W2.here (fp := [a, dx]) (r := os) (.refl _), ?_, S1.mono same_refl e3, fun v F2 H2 fp1 fp2 W3 p2 p3 => ?_⟩
  · rw [h0]
    exact ⟨a, dx, [], [], rfl, rfl, upd_same, by rw [upd_ne hne]; exact upd_same, rfl, .nil⟩
  · rw [hr] at p3
    obtain ⟨rfl, rv⟩ := val_P p3
    refine ⟨rv, ?_⟩
    obtain ⟨c1, c2, W4⟩ := Wo.calledM (os := a :: dx :: os) (fp := [a, dx]) (r := os) W2 (.refl _) W3
    refine kk _ F2 H2 fp1 (f1.trans c1) (e1.trans ?_) W4 p2
    intro b u hb
    refine W3.bH b u (e3 b u hb) ?_
    intro hm
    rcases List.mem_cons.mp hm with rfl | hm
    · rw [ha] at hb; cases hb
    · obtain rfl := List.mem_singleton.mp hm
      rw [hdx] at hb; cases hb
end
end Ty

/-! Ty8 -/
namespace Ty
open PySem PySem.Spec L2
open PyProof.Rows (envOfC)
section
variable {P : Program} {w : World} {K : PySem.W.Frag} {mg : Str → Option Value} {base : Heap} {k : Nat}
variable {Y : Fa P w K mg base k} {i : Y.I} {e ea eb eo ev tg iter elt : Expr} {es ifs : List Expr} {rest body : List Stmt} {Γ Γ' Γ1 Γ2 Δ Δ' : List Slot} {a b c r s s' : Slot} {pos : Pos} {B : Bs} {D : Ends} {x f : Str} {p' : Pos} {C : Addr} {ns : List Str}

/-! ### dicts -/
/-- a kind of key: ints, texts, or tuples of them -/
structure DQ (κ : Type) where
  pk : VP κ
  T : Type
  dT : DecidableEq T
  enc : κ → T
  inj : ∀ a b, enc a = enc b → a = b
  ho : List (T × V) → HO
  hinj : ∀ a b, ho a = ho b → a = b
  get : ∀ {F H : Hp} {a : Addr} {v : V} {k : κ} {kvs : List (T × V)}, Same F H → pk.R F v k → H a = some (ho kvs) → DGet H a v (valV kvs (enc k))
  put : ∀ {F H : Hp} {a : Addr} {v y : V} {k : κ} {kvs : List (T × V)}, Same F H → pk.R F v k → H a = some (ho kvs) → kvs.length < sizeLine → DPut H a v y (upd H a (ho (putK kvs (enc k) y)))
instance {κ : Type} (q : DQ κ) : DecidableEq q.T := q.dT
def dInt : DQ Int where
  pk := pInt
  T := Key
  dT := inferInstance
  enc := fun i => .inl i
  inj := fun a b h => Sum.inl.inj h
  ho := .dK
  hinj := fun a b h => by injection h
  get := fun _ hv h => by cases hv; exact DGet.k (k := .inl _) h
  put := fun _ hv h hl => by cases hv; exact DPut.k (k := .inl _) h hl
def dStr : DQ Str where
  pk := pStr
  T := Key
  dT := inferInstance
  enc := fun i => .inr i
  inj := fun a b h => Sum.inr.inj h
  ho := .dK
  hinj := fun a b h => by injection h
  get := fun _ hv h => by cases hv; exact DGet.k (k := .inr _) h
  put := fun _ hv h hl => by cases hv; exact DPut.k (k := .inr _) h hl
/-- keys that are tuples -/
def dTup {κ : Type} (pk : VP κ) (enc : κ → List Key) (inj : ∀ a b, enc a = enc b → a = b) (h : ∀ F v k, pk.R F v k → ∃ b, v = .ref b ∧ F b = some (.tup ((enc k).map kV))) : DQ κ where
  pk := pk
  T := List Key
  dT := inferInstance
  enc := enc
  inj := inj
  ho := .dT
  hinj := fun a b h => by injection h
  get := fun hS hv hd => by obtain ⟨b, rfl, hb⟩ := h _ _ _ hv; exact DGet.t hd (hS _ _ hb)
  put := fun hS hv hd hl => by obtain ⟨b, rfl, hb⟩ := h _ _ _ hv; exact DPut.t hd (hS _ _ hb) hl
def dII : DQ (Int × Int) := dTup (pT2 pInt pInt) (fun x => [.inl x.1, .inl x.2]) (fun a b h => by simp at h; exact Prod.ext h.1 h.2) fun F v k h => by
  obtain ⟨l, a, b, rfl, h1, h2, h3⟩ := h
  cases h2; cases h3
  exact ⟨l, rfl, h1⟩
theorem map_inl_inj : ∀ {a b : List Int}, a.map (fun i => (Sum.inl i : Key)) = b.map Sum.inl → a = b
  | [], [], _ => rfl
  | [], _ :: _, h => by simp at h
  | _ :: _, [], h => by simp at h
  | x :: a, y :: b, h => by
    simp only [List.map_cons, List.cons.injEq, Sum.inl.injEq] at h
    rw [h.1, map_inl_inj h.2]
def dInts : DQ (List Int) := dTup (pTup pInt) (fun x => x.map Sum.inl) (fun a b h => map_inl_inj h) fun F v k h => by
  obtain ⟨l, vs, rfl, h1, h2⟩ := h
  refine ⟨l, rfl, ?_⟩
  rw [h1, map_int_of h2, List.map_map]; rfl
section
variable {κ β α : Type} [DecidableEq κ]
def dget (kvs : List (κ × β)) (k : κ) : Option β := (kvs.find? fun kv => decide (kv.1 = k)).map (·.2)
def dput (kvs : List (κ × β)) (k : κ) (v : β) : List (κ × β) := if (kvs.any fun kv => decide (kv.1 = k)) = true then kvs.map (fun kv => if kv.1 = k then (kv.1, v) else kv) else kvs ++ [(k, v)]
variable {q : DQ κ} {p : VP β}
abbrev DRel (q : DQ κ) (p : VP β) (F : Hp) (vs : List (q.T × V)) (kvs : List (κ × β)) : Prop := Paired (fun a b => a.1 = q.enc b.1 ∧ p.R F a.2 b.2) vs kvs
theorem dget_some {F : Hp} {vs : List (q.T × V)} {kvs : List (κ × β)} (h : DRel q p F vs kvs) {k : κ} {u : β} (hu : dget kvs k = some u) : ∃ v, valV vs (q.enc k) = some v ∧ p.R F v u := by
  unfold DRel at h
  induction h with
  | nil => cases hu
  | @cons a b as bs hab _ ih =>
    by_cases e : b.1 = k
    · have : a.1 = q.enc k := by rw [hab.1, e]
      refine ⟨a.2, valV_pos this, ?_⟩
      have : b.2 = u := by simpa [dget, List.find?_cons, e] using hu
      rw [← this]; exact hab.2
    · have : ¬ a.1 = q.enc k := fun z => e (q.inj _ _ (by rw [← hab.1, z]))
      rw [valV_neg this]
      exact ih (by simpa [dget, List.find?_cons, e] using hu)
theorem dget_none {F : Hp} {vs : List (q.T × V)} {kvs : List (κ × β)} (h : DRel q p F vs kvs) {k : κ} (hu : dget kvs k = none) : valV vs (q.enc k) = none := by
  unfold DRel at h
  induction h with
  | nil => rfl
  | @cons a b as bs hab _ ih =>
    by_cases e : b.1 = k
    · simp [dget, List.find?_cons, e] at hu
    · have : ¬ a.1 = q.enc k := fun z => e (q.inj _ _ (by rw [← hab.1, z]))
      rw [valV_neg this]
      exact ih (by simpa [dget, List.find?_cons, e] using hu)
theorem dget_isSome {F : Hp} {vs : List (q.T × V)} {kvs : List (κ × β)} (h : DRel q p F vs kvs) (k : κ) : (valV vs (q.enc k)).isSome = (dget kvs k).isSome := by
  cases e : dget kvs k with
  | none => rw [dget_none h e]; rfl
  | some u =>
    obtain ⟨v, hv, _⟩ := dget_some h e
    rw [hv]; rfl
theorem drel_any {F : Hp} {vs : List (q.T × V)} {kvs : List (κ × β)} (h : DRel q p F vs kvs) (k : κ) : (vs.any fun kv => decide (kv.1 = q.enc k)) = kvs.any fun kv => decide (kv.1 = k) := by
  unfold DRel at h
  induction h with
  | nil => rfl
  | @cons a b as bs hab _ ih =>
    rw [List.any_cons, List.any_cons, ih]
    congr 1
    by_cases e : b.1 = k
    · simp [e, hab.1]
    · have : ¬ a.1 = q.enc k := fun z => e (q.inj _ _ (by rw [← hab.1, z]))
      simp [e, this]
theorem drel_put {F : Hp} {vs : List (q.T × V)} {kvs : List (κ × β)} (h : DRel q p F vs kvs) (k : κ) {v : V} {u : β} (hv : p.R F v u) : DRel q p F (putK vs (q.enc k) v) (dput kvs k u) := by
  unfold putK dput
  rw [drel_any h k]
  by_cases hc : (kvs.any fun kv => decide (kv.1 = k)) = true
  · rw [if_pos hc, if_pos hc]
    clear hc
    unfold DRel at h ⊢
    induction h with
    | nil => exact .nil
    | @cons a b as bs hab _ ih =>
      rw [List.map_cons, List.map_cons]
      refine .cons ?_ ih
      by_cases e : b.1 = k
      · have : a.1 = q.enc k := by rw [hab.1, e]
        rw [if_pos e, if_pos this]
        exact ⟨hab.1, hv⟩
      · have : ¬ a.1 = q.enc k := fun z => e (q.inj _ _ (by rw [← hab.1, z]))
        rw [if_neg e, if_neg this]
        exact hab
  · rw [if_neg hc, if_neg hc]
    exact Paired.app h (.cons ⟨rfl, hv⟩ .nil)
theorem drel_mono {F F' : Hp} (hF : Same F F') {vs : List (q.T × V)} {kvs : List (κ × β)} (h : DRel q p F vs kvs) : DRel q p F' vs kvs := Paired.mon (fun _ _ r => ⟨r.1, p.mono hF r.2⟩) h
/-- an owned dict -/
def oD (q : DQ κ) (p : VP β) : OP (List (κ × β)) where
  P := fun F H fp v kvs => ∃ d vs, v = .ref d ∧ fp = [d] ∧ H d = some (q.ho vs) ∧ DRel q p F vs kvs
  mono := fun hF hH h => let ⟨d, vs, e, ef, h1, h2⟩ := h; ⟨d, vs, e, ef, hH _ _ h1, drel_mono hF h2⟩
  mm := fun hF hH h => let ⟨d, vs, e, ef, h1, h2⟩ := h; ⟨d, vs, e, ef, by rw [hH d (by rw [ef]; exact List.mem_cons_self)]; exact h1, drel_mono hF h2⟩
/-- a dict that is looked at -/
def borD (q : DQ κ) (p : VP β) (kvs : List (κ × β)) : Slot where
  P := fun F H fp o => fp = [] ∧ ∃ d vs, o = some (.ref d) ∧ H d = some (q.ho vs) ∧ DRel q p F vs kvs
  mono := fun hF hH h => let ⟨ef, d, vs, e, h1, h2⟩ := h; ⟨ef, d, vs, e, hH _ _ h1, drel_mono hF h2⟩
  st := False
  mm := fun h => h.elim
/-- a frozen dict -/
def pD (q : DQ κ) (p : VP β) : VP (List (κ × β)) where
  R := fun F v kvs => ∃ d vs, v = .ref d ∧ F d = some (q.ho vs) ∧ DRel q p F vs kvs
  mono := fun hF h => let ⟨d, vs, e, h1, h2⟩ := h; ⟨d, vs, e, hF _ _ h1, drel_mono hF h2⟩
def DV (s : Slot) (q : DQ κ) (p : VP β) (kvs : List (κ × β)) : Prop := ∀ F H fp o, Same F H → s.P F H fp o → ∃ d vs, o = some (.ref d) ∧ H d = some (q.ho vs) ∧ DRel q p F vs kvs
theorem DV.own {kvs : List (κ × β)} : DV (Ty.own (oD q p) kvs) q p kvs := fun F H fp o _ h => let ⟨v, e, d, vs, ev, _, h1, h2⟩ := h; ⟨d, vs, by rw [e, ev], h1, h2⟩
theorem DV.bor {kvs : List (κ × β)} : DV (borD q p kvs) q p kvs := fun F H fp o _ h => let ⟨_, d, vs, e, h1, h2⟩ := h; ⟨d, vs, e, h1, h2⟩
theorem DV.val {kvs : List (κ × β)} : DV (Ty.val (pD q p) kvs) q p kvs := fun F H fp o hS h => let ⟨_, v, e, d, vs, ev, h1, h2⟩ := h; ⟨d, vs, by rw [e, ev], hS _ _ h1, h2⟩
theorem WkS.dict {kvs : List (κ × β)} : WkS (Ty.own (oD q p) kvs) (Ty.val (pD q p) kvs) := fun F H fp o _ h => by
  obtain ⟨v, e, l, vs, el, ef, h1, h2⟩ := h
  subst ef
  exact ⟨[l], [], rfl, fun F' hF hs hx => ⟨rfl, v, e, l, vs, el, by rw [hx l List.mem_cons_self]; exact h1, drel_mono hF h2⟩⟩
theorem x_varD {kvs : List (κ × β)} (j : Nat) (hs : Γ[j]? = some (Ty.own (oD q p) kvs) := by rfl) (hN : ∀ i, (Y.X i).N[j]? = some x := by intro _; rfl)
    (hv : ∀ i, Vis (Y.X i).env.scope x := by intro _; first | exact Or.inl rfl | exact Or.inr (Or.inl rfl) | exact Or.inr (Or.inr rfl)) (hd : (x == ("__debug__" : Str)) = false := by decide) (hcd : (x == ("__classdict__" : Str)) = false := by decide) : XV Y (.Name x pos) Γ (borD q p kvs) := by
  refine ⟨_, fun i => pe_var (hN i) (hv i) hd hcd, fun B F H os σ Q I q => ?_⟩
  obtain ⟨o, fp, e, v, ev, l, vs, el, _, h1, h2⟩ := I.slot hs
  subst ev; subst el
  exact ⟨_, e, q _ F H [] same_refl same_refl I.W ⟨rfl, l, vs, rfl, h1, h2⟩⟩
theorem Fa.u1 (Y : Fa P w K mg base k) (i : Y.I) : (Y.X i).A.units + 1 < cLine := by have := Y.hU i; omega
theorem in_run {kvs : List (κ × β)} {z : κ} (hs : DV s q p kvs) {B : Bs} {F H : Hp} {fx fy os : List Addr} {xv yv : V} (W : Wo B F H (fy ++ (fx ++ os))) (p1 : (val q.pk z).P F H fx (some xv)) (p2 : s.P F H fy (some yv)) : ∃ d, yv = .ref d ∧ ∃ o, DGet H d xv o ∧ o.isSome = (dget kvs z).isSome := by
  obtain ⟨d, vs, ev, h1, h2⟩ := hs F H fy _ W.sub p2
  cases ev
  exact ⟨d, rfl, _, q.get W.sub (val_P p1).2 h1, dget_isSome h2 z⟩
theorem xt_din {kvs : List (κ × β)} {z : κ} {t : Bool} (ha : XV Y ea Γ (val q.pk z)) (hb : XV Y eb Γ s) (hs : DV s q p kvs) (ht : t = (dget kvs z).isSome) (hm : behindInMarks .In eb = false := by with_unfolding_all rfl) : XT Y (.Compare ea [.In] [eb] pos) Γ t := by
  obtain ⟨ta, pa, ra⟩ := ha
  obtain ⟨tb, pb, rb⟩ := hb
  refine ⟨_, fun i => pt_cmp (pc_din (Y.u1 i) (pa i) (pb i)) hm, fun B F H os σ Q I kk => ?_⟩
  refine two (Q := fun _ _ => True) I ra rb fun x y F2 H2 fx fy f2 e2 W2 p1 p2 => ?_
  obtain ⟨d, rfl, o, g, eo⟩ := in_run hs W2 p1 p2
  refine ⟨d, o, rfl, g, _, rfl, ?_⟩
  rw [eo, ← ht]
  exact kk F2 H2 f2 e2 W2.drop.drop
/-- d[k] = v -/
theorem go_dput {up : Slot → List Slot} {pos' : Pos} {kvs : List (κ × β)} {z : κ} {u : β} (ho : PL Y eo Γ (Ty.own (oD q p) kvs) up) (hi : XV Y eb Γ (val q.pk z)) (he : XV Y e Γ (val p u)) (hz : kvs.length < sizeLine) (hg : Go Y i rest D B (up (Ty.own (oD q p) (dput kvs z u))))
    (hs : swapsWith e (some (.Subscript eo eb pos')) pos.line (Y.X i).env = pure false := by rfl) : Go Y i (.Assign [.Subscript eo eb pos'] e pos :: rest) D B Γ := by
  obtain ⟨t, Pv, pe, pst, rd, up'⟩ := ho
  obtain ⟨t2, pe2, rd2⟩ := he
  obtain ⟨t3, pe3, rd3⟩ := hi
  refine go_ps (ps_dput (Y.u1 i) (pe i) (pe3 i) (pe2 i) hs) fun F H σ ⟨os, W, S⟩ => ?_
  refine rd2 B F H os σ _ (Sta.in W S) fun y F1 H1 fy f1 e1 W1 p1 => ?_
  have I1 := (Sta.in W S).step f1 e1 W1
  refine rd B F1 H1 _ σ _ I1 fun v hv => ?_
  refine rd3 B F1 H1 _ σ _ I1 fun y2 F2 H2 fy2 f2 e2 W2 p2 => ?_
  have ry := (val_P ((val p u).mono f2 e2 p1)).2
  obtain ⟨fp1, r1, hr1, hp1, kk1⟩ := up' F2 H2 os σ _ (S.mono (f1.trans f2) (e1.trans e2)) (pst _ _ _ _ e2 hv)
  obtain ⟨v1, ev1, l1, vs1, el1, ef1, g1, g2⟩ := hp1
  cases ev1; subst el1; subst ef1
  refine ⟨l1, _, rfl, q.put W2.sub (val_P p2).2 g1 (by rw [Paired.length g2]; exact hz), ?_⟩
  exact hg F2 _ σ (pl_write (fy := fy2 ++ fy) (by rw [List.append_assoc]; exact W2) hr1 ⟨_, rfl, l1, _, rfl, rfl, upd_same, drel_put g2 z ry⟩ kk1)
end
/-- {} -/
theorem x_dnewK {κ β : Type} [DecidableEq κ] {q : DQ κ} {p : VP β} (h0 : q.ho [] = .dK []) : XV Y (.Dict [] [] pos) Γ (own (oD q p) ([] : List (κ × β))) :=
  ⟨_, fun i => pe_dnewK, fun B F H os σ Q I kk l hl => kk _ F _ [l] same_refl (same_upd hl) (I.W.newO hl) ⟨_, rfl, l, [], rfl, rfl, by rw [h0]; exact upd_same, .nil⟩⟩
/-- {k: v}, the key a tuple -/
def tDisp1T (tk tv : TE) : TE := fun σ H Q => ∀ p, H p = none → tk σ (upd H p (.dT [])) fun x H1 => tv σ H1 fun y H2 => ∃ b ks, x = .ref b ∧ H2 p = some (.dT []) ∧ H2 b = some (.tup (ks.map kV)) ∧ Q (.ref p) (upd H2 p (.dT [(ks, y)]))
/-! ### None -/
theorem o_isN {α : Type} {q : VP α} {u : α} {z : Bool} (hz : ∀ F v, q.R F v u → decide (v = .non) = z) : Op2 (fun x y H Q => y = .non ∧ Q (.bl (decide (x = .non))) H) (val q u) vNon (vBl z) := fun B F H x y fx fy os Q W p1 p2 kk => by
  obtain ⟨_, r1⟩ := val_P p1
  obtain ⟨_, r2⟩ := val_P p2
  exact ⟨r2, by rw [hz F x r1]; exact kk _ F H [] same_refl same_refl W.drop.drop ⟨rfl, _, rfl, rfl⟩⟩
theorem o_notN {α : Type} {q : VP α} {u : α} {z : Bool} (hz : ∀ F v, q.R F v u → (!decide (v = .non)) = z) : Op2 (fun x y H Q => y = .non ∧ Q (.bl (!decide (x = .non))) H) (val q u) vNon (vBl z) := fun B F H x y fx fy os Q W p1 p2 kk => by
  obtain ⟨_, r1⟩ := val_P p1
  obtain ⟨_, r2⟩ := val_P p2
  exact ⟨r2, by rw [hz F x r1]; exact kk _ F H [] same_refl same_refl W.drop.drop ⟨rfl, _, rfl, rfl⟩⟩
theorem opt_isN {α : Type} {q : VP α} {u : Option α} : ∀ F v, (pOpt q).R F v u → decide (v = .non) = u.isNone := fun F v h => by
  cases u with
  | none => cases h; rfl
  | some a => simp [h.2]
theorem opt_notN {α : Type} {q : VP α} {u : Option α} : ∀ F v, (pOpt q).R F v u → (!decide (v = .non)) = u.isSome := fun F v h => by
  rw [opt_isN F v h]; cases u <;> rfl
theorem opt_get {α : Type} {q : VP α} {u : Option α} {z : α} (hz : u = some z) (h : XV Y e Γ (val (pOpt q) u)) : XV Y e Γ (val q z) := h.as fun F H fp o _ ⟨e1, v, e2, r⟩ => by subst hz; exact ⟨e1, v, e2, r.1⟩

/-! ### isinstance(e, T) -/
def pTy : VP String := ⟨fun _ v t => v = .ty t, fun _ h => h⟩
/-- a value's type -/
def TyV (K : PySem.W.Frag) (s : Slot) (T : String) : Prop := ∀ F H fp o, Same F H → s.P F H fp o → ∃ v, o = some v ∧ TyX K H v (.type T)
theorem LV.ty {α : Type} {s : Slot} {p : VP α} {xs : List α} (h : LV s p xs) : TyV K s "list" := fun F H fp o hS hp => let ⟨l, vs, e, h1, _⟩ := h F H fp o hS hp; ⟨_, e, .base (.lst h1)⟩
theorem TV.ty {α : Type} {s : Slot} {p : VP α} {xs : List α} (h : TV s p xs) : TyV K s "tuple" := fun F H fp o hS hp => let ⟨l, vs, e, h1, _⟩ := h F H fp o hS hp; ⟨_, e, .base (.tup h1)⟩
theorem TyV.int {i : Int} : TyV K (vInt i) "int" := fun F H fp o hS hp => let ⟨_, v, e, r⟩ := hp; ⟨v, e, by cases r; exact .base (.int i)⟩
theorem TyV.bl {i : Bool} : TyV K (vBl i) "bool" := fun F H fp o hS hp => let ⟨_, v, e, r⟩ := hp; ⟨v, e, by cases r; exact .base (.bl i)⟩
theorem TyV.str {i : Str} : TyV K (vStr i) "str" := fun F H fp o hS hp => let ⟨_, v, e, r⟩ := hp; ⟨v, e, by cases r; exact .base (.str i)⟩
theorem TyV.non : TyV K vNon "NoneType" := fun F H fp o hS hp => let ⟨_, v, e, r⟩ := hp; ⟨v, e, by cases r; exact .base .non⟩
theorem c_isi (Y : Fa P w K mg base k) (i : Y.I) : CallR (Y.X i) (.builtin "isinstance") (rIsi K) := by have h := call_isi (X := Y.X i); rw [Y.hK i] at h; exact h
/-! ### reversed(list) -/
/-! ### methods of frozen instances -/
theorem x_meth {ι ρ α : Type} {As : ι → List Slot} {m : ι → Option ρ} {Sr : ρ → Slot} {args : List Slot} {z : ι} {q : ρ} {j : Nat} {g : Addr} {fd : FuncData} {ps : List Str} {sl : α → List Slot} {u : α} {apos : Pos} {pl : Y.I → Sem Bool}
    (Fn : FnOk P w K mg base CX0 j g fd ps (spP As m Sr)) (hj : j ≤ k) (hc : Cls K C) (hm : Meth K C f g) (hb : Binds K fd ps []) (ho : XV Y eo Γ (val (pObj C ns sl) u)) (ha : XA Y (e :: es) Γ args) (hargs : val (pObj C ns sl) u :: args = As z) (hno : NoOwn args) (hq : m z = some q) (hns : ns.contains f = false := by decide +kernel)
    (hst : ∀ i, starEach (e :: es) (Y.X i).env = (false, eval e (Y.X i).env) :: starEach es (Y.X i).env := by intro _; rfl) (hpl : ∀ i, (backTo pos (starEach es (Y.X i).env)).any (·.1) = false := by intro _; rfl)
    (ht : ∀ i, eval (.Call (.Attribute eo f apos) (e :: es) [] pos) (Y.X i).env = (do
      let ov ← eval eo (Y.X i).env
      standAt apos.atName
      let (f, first) ← holding [ov] (getMethod ov f (pl i))
      callWith pos f first (backTo pos (starEach (e :: es) (Y.X i).env)) (backToKw pos (keywordEach [] (Y.X i).env))) := by intro _; rfl) (hcm : Y.cm = true := by rfl) : XV Y (.Call (.Attribute eo f apos) (e :: es) [] pos) Γ (Sr q) := by
  obtain ⟨to, po, ro⟩ := ho
  obtain ⟨t, pa, rd⟩ := ha
  have FF : ∀ i, FnOk (Y.X i).prog (Y.X i).w (Y.X i).K (Y.X i).mg (Y.X i).base CX0 j g fd ps (spP As m Sr) := fun i => by rw [Y.hP i, Y.hw i, Y.hK i, Y.hM i, Y.hB i]; exact Fn
  refine ⟨_, fun i => pe_meth (pl := pl i) (po i) (by rw [Y.hK i]; exact hc) (by rw [Y.hK i]; exact hm) (FF i) ((Y.hR hcm i).mono hj) (by rw [Y.hK i]; exact hb) .nil pass0 (pa i) (hst i) (hpl i) (ht i), fun B F H os σ Q I kk => ?_⟩
  refine ro B F H os σ _ I fun v0 F1 H1 fp f1 e1 W1 p1 => ?_
  obtain ⟨rfl, x, dx, vs, rfl, h1, h3, h4⟩ := val_P p1
  refine ⟨x, dx, _, rfl, W1.sub _ _ h1, lookup_no hns, ?_⟩
  have W1' : Wo B F1 H1 os := W1
  refine rd B F1 H1 os σ _ (I.step0 f1 e1 W1') fun ws F2 H2 fp f2 e2 W2 S2 => ?_
  obtain rfl := hno.nil S2
  rw [List.append_nil]
  have W2' : Wo B F2 H2 os := W2
  refine ⟨z, q, F2, hq, W2'.sub, ?_, fun v F3 H3 fp W3 p3 => ?_⟩
  · rw [← hargs]
    exact Slots.cons (fp := []) ((val (pObj C ns sl) u).mono f2 e2 p1) S2
  · obtain ⟨f3, e3, W4⟩ := W2'.called W3
    exact kk v F3 H3 fp ((f1.trans f2).trans f3) ((e1.trans e2).trans e3) W4 p3
end
end Ty

/-! Ty9 -/
namespace Ty
open PySem PySem.Spec L2
open PyProof.Rows (envOfC)
section
variable {P : Program} {w : World} {K : PySem.W.Frag} {mg : Str → Option Value} {base : Heap} {k : Nat}
variable {Y : Fa P w K mg base k} {i : Y.I} {e ea eb eo ev tg iter elt : Expr} {es ifs : List Expr} {rest body : List Stmt} {Γ Γ' Γ1 Γ2 Δ Δ' : List Slot} {a b c r s s' : Slot} {pos : Pos} {B : Bs} {D : Ends} {x f : Str} {p' : Pos} {scope : Scope}
/-! ### small helpers of mirrors -/
def guardO {α : Type} (c : Prop) [Decidable c] (x : Option α) : Option α := if c then x else none
theorem guardO_some {α : Type} {c : Prop} [Decidable c] {x : Option α} {y : α} (h : guardO c x = some y) : c ∧ x = some y := by
  unfold guardO at h
  by_cases hc : c
  · rw [if_pos hc] at h; exact ⟨hc, h⟩
  · rw [if_neg hc] at h; cases h
def lcO {α β : Type} (xs : List α) (f : α → Option (Option β)) : Option (List β) := guardO (xs.length ≤ sizeLine) (fmO xs f)
def rangeO (lo hi : Int) : Option (List Int) := guardO (-(2 ^ 62) ≤ lo ∧ lo < 2 ^ 62 ∧ -(2 ^ 62) ≤ hi ∧ hi < 2 ^ 62) (some (rangeL lo hi))
/-! ### lists of owned things -/
def lstS (Γs : List Slot) : Slot where
  P := fun F H fp o => ∃ l vs os, o = some (.ref l) ∧ fp = l :: os ∧ H l = some (.lst vs) ∧ Slots F H os (vs.map some) Γs
  mono := fun hF hH h => let ⟨l, vs, os, e1, e2, h1, h2⟩ := h; ⟨l, vs, os, e1, e2, hH _ _ h1, h2.mono hF hH⟩
  st := Stb Γs
  mm := fun hs {_ _ _ _ _ _} hF hH h => let ⟨l, vs, os, e1, e2, h1, h2⟩ := h
    ⟨l, vs, os, e1, e2, by rw [hH l (by rw [e2]; simp)]; exact h1, h2.mm hF hs fun q hq => hH q (by rw [e2]; simp [hq])⟩
theorem lstS_some : ∀ F H fp o, (lstS Δ).P F H fp o → ∃ v, o = some v := fun F H fp o h => let ⟨_, _, _, e, _⟩ := h; ⟨_, e⟩
theorem slots_paired {F H : Hp} {α : Type} {q : VP α} : ∀ {vs : List V} {xs : List α} {os : List Addr}, Slots F H os (vs.map some) (xs.map (Ty.val q)) → os = [] ∧ Paired (q.R F) vs xs
  | [], [], _, S => by cases S; exact ⟨rfl, .nil⟩
  | [], _ :: _, _, S => by have e := S.length; simp at e
  | _ :: _, [], _, S => by have e := S.length; simp at e
  | v :: vs, x :: xs, _, S => by
    rw [List.map_cons, List.map_cons] at S
    obtain ⟨f1, f2, rfl, p, S2⟩ := Slots.cons_inv S
    obtain ⟨rfl, r⟩ := val_P p
    obtain ⟨rfl, t⟩ := slots_paired S2
    exact ⟨rfl, .cons r t⟩
theorem wkL_map {α : Type} {g : α → Slot} {q : VP α} (h : ∀ x, WkS (g x) (Ty.val q x)) : ∀ xs : List α, WkL (xs.map g) (xs.map (Ty.val q))
  | [] => .nil
  | x :: xs => .cons (h x) (wkL_map h xs)
theorem WkS.lstS {α : Type} {g : α → Slot} {q : VP α} {xs : List α} (h : ∀ x, WkS (g x) (Ty.val q x)) : WkS (Ty.lstS (xs.map g)) (Ty.val (pL q) xs) := fun F H fp o hS hp => by
  obtain ⟨l, vs, os, e1, e2, h1, h2⟩ := hp
  obtain ⟨xx, yy, hperm, kk⟩ := h2.wk hS (wkL_map h xs)
  obtain ⟨rfl, _⟩ := slots_paired (kk H hS same_refl fun _ _ => rfl)
  subst e2
  refine ⟨l :: os, [], by simp, fun F' hF hs hx => ⟨rfl, _, e1, l, vs, rfl, by rw [hx l (by simp)]; exact h1, (slots_paired (kk F' hF hs fun q hq => hx q ?_)).2⟩⟩
  have := hperm.mem_iff.mpr (by simpa using hq)
  simp [this]
/-- read as data of the whole heap -/
theorem paired_bor {F H : Hp} (hS : Same F H) {α : Type} {g : α → Slot} {q : VP α} (h : ∀ x, Vw (g x) q x) : ∀ {vs : List V} {xs : List α} {os : List Addr}, Slots F H os (vs.map some) (xs.map g) → Paired (q.R H) vs xs
  | [], [], _, _ => .nil
  | [], _ :: _, _, S => by have e := S.length; simp at e
  | _ :: _, [], _, S => by have e := S.length; simp at e
  | v :: vs, x :: xs, _, S => by
    rw [List.map_cons, List.map_cons] at S
    obtain ⟨f1, f2, rfl, p, S2⟩ := Slots.cons_inv S
    obtain ⟨v', ev, rv⟩ := h x F H f1 _ hS p
    cases ev
    exact .cons rv (paired_bor hS h S2)
theorem Vw.lstS {α : Type} {g : α → Slot} {q : VP α} {xs : List α} (h : ∀ x, Vw (g x) q x) : Vw (Ty.lstS (xs.map g)) (pL q) xs := fun F H fp o hS hp => by
  obtain ⟨l, vs, os, e1, e2, h1, h2⟩ := hp
  exact ⟨_, e1, l, vs, rfl, h1, paired_bor hS h h2⟩
theorem LV.look {α : Type} {s : Slot} {p : VP α} {xs : List α} (h : LV s p xs) : Vw s (pL p) xs := h.vw
theorem XV.flat {α : Type} {p : VP α} {u : α} (h : XV Y e Γ (bor p u)) (hf : Flat p) : XV Y e Γ (val p u) := h.as fun F H fp o _ ⟨e1, v, e2, r⟩ => ⟨e1, v, e2, hf _ _ _ _ r⟩
/-- len of what is looked at -/
theorem SV.bor {α : Type} {p : VP α} {xs : List α} (hf : Flat p) : SV K (Ty.bor (pL p) xs) p xs := fun F H fp o hS h => let ⟨_, v, e, l, vs, ev, h1, h2⟩ := h; ⟨l, vs, by rw [e, ev], SqL.of h1, Paired.mon (fun _ _ r => hf _ _ _ _ r) h2⟩
/-- an int of which the heap takes no notice -/
def XS (Y : Fa P w K mg base k) (e : Expr) (Γ : List Slot) (z : Int) : Prop :=
  ∃ t : TE, (∀ i, PE (Y.X i) e t) ∧ ∀ (B : Bs) (F H : Hp) (os : List Addr) (σ : List (Option V)) (Q : VK), In B F H os σ Γ → Q (.int z) H → t σ H Q
theorem xs_var {z : Int} (j : Nat) (hs : Γ[j]? = some (vInt z) := by rfl) (hN : ∀ i, (Y.X i).N[j]? = some x := by intro _; rfl)
    (hv : ∀ i, Vis (Y.X i).env.scope x := by intro _; first | exact Or.inl rfl | exact Or.inr (Or.inl rfl) | exact Or.inr (Or.inr rfl)) (hd : (x == ("__debug__" : Str)) = false := by decide) (hcd : (x == ("__classdict__" : Str)) = false := by decide) : XS Y (.Name x pos) Γ z := by
  refine ⟨_, fun i => pe_var (hN i) (hv i) hd hcd, fun B F H os σ Q I q => ?_⟩
  obtain ⟨o, fp, e, _, v, ev, rv⟩ := I.slot hs
  subst ev
  cases rv
  exact ⟨_, e, q⟩
/-- an item of an owned list, itself owned -/
theorem pl_ix {up : Slot → List Slot} {z : Int} {j : Nat} (ho : PL Y eo Γ (lstS Δ) up) (hi : XS Y eb Γ z) (hz : ixN Δ.length z = some j) (hst : Stb Δ) (hj : Δ[j]? = some s) (hso : ∀ F H fp o, s.P F H fp o → ∃ v, o = some v) (hx : PlainIx eb := by exact fun _ _ => rfl) :
    PL Y (.Subscript eo eb pos) Γ s (fun s' => up (lstS (Δ.set j s'))) := by
  obtain ⟨t, Pv, pe, pst, rd, up'⟩ := ho
  obtain ⟨tb, pb, rb⟩ := hi
  refine ⟨_, fun σ H v => ∃ l vs, Pv σ H (.ref l) ∧ H l = some (.lst vs) ∧ vs[j]? = some v, fun i => by have h := ix_list (X := Y.X i); rw [Y.hK i] at h; exact pe_ix h (pe i) (pb i) hx,
    fun σ H H' v hH h => let ⟨l, vs, h1, h2, h3⟩ := h; ⟨l, vs, pst _ _ _ _ hH h1, hH _ _ h2, h3⟩, fun B F H os σ Q I q => ?_, fun F H os σ v S hv => ?_⟩
  · refine rd B F H os σ _ I fun v hv => ?_
    refine rb B F H os σ _ I ?_
    obtain ⟨_, o2, r, hp, S⟩ := I
    obtain ⟨fp, r2, hr2, hp2, _⟩ := up' F H o2 σ v S hv
    obtain ⟨l, vs, o3, e1, e2, g1, g4⟩ := hp2
    cases e1
    obtain ⟨o, fp', r', e3, p3, _, _⟩ := g4.at hj
    obtain ⟨v', rfl⟩ := hso _ _ _ _ p3
    have e4 : vs[j]? = some v' := by
      rw [List.getElem?_map] at e3
      obtain ⟨y, hy, ey⟩ := Option.map_eq_some_iff.mp e3
      cases ey; exact hy
    have hlen : vs.length = Δ.length := by have := g4.length; simpa using this
    refine ⟨l, vs, z, v', rfl, rfl, SqL.of g1, ?_, q v' ⟨l, vs, hv, g1, e4⟩⟩
    unfold atI
    rw [hlen, hz]
    exact e4
  · obtain ⟨l, vs, hv1, h1, h3⟩ := hv
    obtain ⟨fp, r2, hr2, hp2, kk⟩ := up' F H os σ _ S hv1
    obtain ⟨l', vs', o3, e1, e2, g1, g4⟩ := hp2
    cases e1
    rw [h1] at g1
    have ev : vs = vs' := by
      have := Option.some.inj g1
      injection this
    subst ev
    obtain ⟨o, fp', r', e3, p3, q3, k3⟩ := g4.at hj
    have eo' : o = some v := by
      rw [List.getElem?_map, h3] at e3
      exact (Option.some.inj e3).symm
    subst eo'
    subst e2
    refine ⟨fp', (l :: r') ++ r2, ?_, p3, fun F' H' fp2 s' hF hk hs' => ?_⟩
    · refine hr2.trans ?_
      have a1 : (l :: o3).Perm (fp' ++ (l :: r')) := (q3.cons l).trans List.perm_middle.symm
      have a4 := List.Perm.append_right r2 a1
      rw [List.append_assoc] at a4
      exact a4
    · obtain ⟨os', t1, t2⟩ := k3 hs' (fun s0 h0 fp0 o0 hf hp => s0.mm (hst s0 h0) hF (fun q hq => hk q (by simp [hf q hq])) hp)
      have es : (vs.map some).set j (some v) = vs.map some := by
        obtain ⟨hj', e⟩ := List.getElem?_eq_some_iff.mp e3
        rw [← e]; exact List.set_getElem_self hj'
      rw [es] at t1
      obtain ⟨os2, u1, u2⟩ := kk F' H' (l :: os') (lstS (Δ.set j s')) hF (fun q hq => hk q (by simp [hq])) ⟨l, vs, os', rfl, rfl, by rw [hk l (by simp)]; exact h1, t1⟩
      refine ⟨os2, u1, u2.trans ?_⟩
      have a1 : (l :: os').Perm (l :: (fp2 ++ r')) := t2.cons l
      have a2 : (fp2 ++ (l :: r')).Perm (l :: (fp2 ++ r')) := List.perm_middle
      have a5 := List.Perm.append_right r2 (a1.trans a2.symm)
      rw [List.append_assoc] at a5
      exact a5
end
end Ty

/-! Ty10 -/
namespace Ty
open PySem PySem.Spec L2
open PyProof.Rows (envOfC)
theorem condT {α : Type} {c : Bool} {a b : Option α} {y : α} (hc : c = true) (h : (bif c then a else b) = some y) : a = some y := by subst hc; exact h
theorem condF {α : Type} {c : Bool} {a b : Option α} {y : α} (hc : c = false) (h : (bif c then a else b) = some y) : b = some y := by subst hc; exact h
def flK {ρ S β : Type} (o : Option (Fl ρ S)) (kn : S → Option β) (kr : ρ → Option β) : Option β := o.bind fun
  | .next s => kn s
  | .brk s => kn s
  | .ret r => kr r
theorem flK_some {ρ S β : Type} {o : Option (Fl ρ S)} {kn : S → Option β} {kr : ρ → Option β} {b : β} (h : flK o kn kr = some b) : ∃ out, o = some out ∧ (∀ s, (out = .next s ∨ out = .brk s) → kn s = some b) ∧ (∀ r, out = .ret r → kr r = some b) := by
  unfold flK at h
  obtain ⟨out, h1, h2⟩ := Option.bind_eq_some_iff.mp h
  refine ⟨out, h1, ?_, ?_⟩
  · rintro s (rfl | rfl) <;> exact h2
  · rintro r rfl; exact h2
theorem stb_map {α : Type} {g : α → Slot} (h : ∀ x, (g x).st) : ∀ xs : List α, Stb (xs.map g)
  | [] => Stb.nil
  | x :: xs => Stb.cons (h x) (stb_map h xs)
theorem stb_set {Γ : List Slot} {s : Slot} {j : Nat} (h : Stb Γ) (hs : s.st) : Stb (Γ.set j s) := fun x hx => by
  rcases List.mem_or_eq_of_mem_set hx with h1 | h1
  · exact h x h1
  · rw [h1]; exact hs
section
variable {P : Program} {w : World} {K : PySem.W.Frag} {mg : Str → Option Value} {base : Heap} {k : Nat}
variable {Y : Fa P w K mg base k} {i : Y.I} {e ea eb eo ev tg iter elt : Expr} {es ifs : List Expr} {rest body : List Stmt} {Γ Γ' Γ1 Γ2 Δ Δ' : List Slot} {a b c r s s' : Slot} {pos : Pos} {B : Bs} {D : Ends} {x f : Str} {p' : Pos} {scope : Scope}
theorem Nx.wk {σ : L2.St} {H : Hp} (h : Nx B Γ σ H) (hw : WkL Γ Γ') : Nx B Γ' σ H := h.elim fun F S => S.wk hw
theorem go_forK {α T ρ β : Type} {xs : List α} {rs : α → Slot} (Γf : T → List Slot) (Sr : ρ → Slot) {s0 : T} {f : α → T → Option (Fl ρ T)} {kn : T → Option β} {kr : ρ → Option β} {b : β}
    (hi : XI Y tg iter Γ False (xs.map rs)) (h0 : WkL Γ (Γf s0)) (hm : flK (forF xs s0 f) kn kr = some b)
    (hb : ∀ B1 x s out, x ∈ xs → f x s = some out → (∀ r, out = .ret r → kr r = some b) → (∀ F H os, Wo B1 F H os → Wo B F H os) → ∃ ws Γ1, XG Y tg ws (rs x) (Γf s) Γ1 ∧ Go Y i body (LE B1 Γf Sr out) B1 Γ1)
    (hr : ∀ s, kn s = some b → Go Y i rest D B (Γf s)) (hret : ∀ r, kr r = some b → ∀ v H, Fi B (Sr r) v H → D.rt v H)
    (hs : ∀ x, foldedSetIterable iter (Y.X i).env x = pure x := by intro _; rfl) (hcm : Y.cm = true := by rfl) : Go Y i (.For tg iter body [] pos :: rest) D B Γ := by
  obtain ⟨o, h1, h2, h3⟩ := flK_some hm
  exact go_for Γf hi h0 h1 (fun B1 x s out hx hf hh hl => hb B1 x s out hx hf (fun r e => h3 r (hh r e)) hl) (fun s hs => hr s (h2 s hs)) (fun r e => hret r (h3 r e)) hs hcm
theorem go_whileK {T ρ β : Type} (Γf : T → List Slot) (Sr : ρ → Slot) {n : Nat} {s0 : T} {f : T → Option (Fl ρ T)} {kn : T → Option β} {kr : ρ → Option β} {b : β}
    (h0 : WkL Γ (Γf s0)) (hm : flK (whileF n s0 f) kn kr = some b)
    (hb : ∀ B1 s out, f s = some out → (∀ r, out = .ret r → kr r = some b) → (∀ F H os, Wo B1 F H os → Wo B F H os) → ∃ z : Bool, XT Y e (Γf s) z ∧ (z = true → Go Y i body (LE B1 Γf Sr out) B1 (Γf s)) ∧ (z = false → out = .brk s))
    (hr : ∀ s, kn s = some b → Go Y i rest D B (Γf s)) (hret : ∀ r, kr r = some b → ∀ v H, Fi B (Sr r) v H → D.rt v H) : Go Y i (.While e body [] pos :: rest) D B Γ := by
  obtain ⟨o, h1, h2, h3⟩ := flK_some hm
  exact go_while Γf h0 h1 (fun B1 s out hf hh hl => hb B1 s out hf (fun r e => h3 r (hh r e)) hl) (fun s hs => hr s (h2 s (.inr hs))) (fun r e => hret r (h3 r e))
/-! ### and, or, a if c else b whose right side may fail -/
theorem xw_andP {z u : Bool} {m2 : Option Bool} (h : XT Y ea Γ z) (hu : (bif z then m2 else some false) = some u) (h2 : ∀ z', m2 = some z' → XW Y (.BoolOp .And (eb :: es) pos) Γ z') : XW Y (.BoolOp .And (ea :: eb :: es) pos) Γ u := by
  cases z with
  | true => exact xw_and h (fun _ => h2 u hu) rfl
  | false =>
    have : false = u := by simpa using hu
    subst this
    exact xw_and (z' := false) h (fun q => by cases q) rfl
theorem xw_orP {z u : Bool} {m2 : Option Bool} (h : XT Y ea Γ z) (hu : (bif z then some true else m2) = some u) (h2 : ∀ z', m2 = some z' → XW Y (.BoolOp .Or (eb :: es) pos) Γ z') : XW Y (.BoolOp .Or (ea :: eb :: es) pos) Γ u := by
  cases z with
  | false => exact xw_or h (fun _ => h2 u hu) rfl
  | true =>
    have : true = u := by simpa using hu
    subst this
    exact xw_or (z' := true) h (fun q => by cases q) rfl
theorem x_andP {z u : Bool} {m2 : Option Bool} (h : XV Y ea Γ (vBl z)) (hu : (bif z then m2 else some false) = some u) (h2 : ∀ z', m2 = some z' → XV Y (.BoolOp .And (eb :: es) pos) Γ (vBl z')) : XV Y (.BoolOp .And (ea :: eb :: es) pos) Γ (vBl u) := by
  cases z with
  | true => exact x_and h (fun _ => h2 u hu) rfl
  | false =>
    have : false = u := by simpa using hu
    subst this
    exact x_and (z' := false) h (fun q => by cases q) rfl
theorem x_orP {z u : Bool} {m2 : Option Bool} (h : XV Y ea Γ (vBl z)) (hu : (bif z then some true else m2) = some u) (h2 : ∀ z', m2 = some z' → XV Y (.BoolOp .Or (eb :: es) pos) Γ (vBl z')) : XV Y (.BoolOp .Or (ea :: eb :: es) pos) Γ (vBl u) := by
  cases z with
  | false => exact x_or h (fun _ => h2 u hu) rfl
  | true =>
    have : true = u := by simpa using hu
    subst this
    exact x_or (z' := true) h (fun q => by cases q) rfl
theorem x_neg {z : Int} (h : XV Y e Γ (vInt z)) : XV Y (.UnaryOp .USub e pos) Γ (vInt (-z)) := x_un (fun _ => un_neg) (fun B F H x fx os Q W p1 q => by
  obtain rfl := vint p1
  exact ⟨z, rfl, q _ F H [] same_refl same_refl W.drop ⟨rfl, _, rfl, rfl⟩⟩) h
end
end Ty

/-! Ty11 -/
namespace Ty
open PySem PySem.Spec L2
open PyProof.Rows (envOfC)
def letO {α β : Type} (a : α) (f : α → Option β) : Option β := f a
theorem letO_some {α β : Type} {a : α} {f : α → Option β} {r : β} (h : letO a f = some r) : ∃ x, a = x ∧ f x = some r := ⟨a, rfl, h⟩
theorem WkL.at {s s' : Slot} : ∀ {Γ : List Slot} {j : Nat}, WkS s s' → Γ[j]? = some s → WkL Γ (Γ.set j s')
  | [], _, _, e => by simp at e
  | _ :: _, 0, h, e => by simp at e; subst e; exact .cons h .refl
  | _ :: _, j + 1, h, e => .cons .refl (WkL.at h (by simpa using e))
theorem le_line {n : Nat} (h : Nat.ble n 1000 = true) : n ≤ sizeLine := Nat.le_trans (Nat.le_of_ble_eq_true h) (by rw [sizeLine_eq]; decide)
section
variable {P : Program} {w : World} {K : PySem.W.Frag} {mg : Str → Option Value} {base : Heap} {k : Nat}
variable {Y : Fa P w K mg base k} {i : Y.I} {e ea eb eo ev tg iter elt : Expr} {es ifs : List Expr} {rest body : List Stmt} {Γ Γ' Γ1 Γ2 Δ Δ' : List Slot} {a b c r s s' : Slot} {pos : Pos} {B : Bs} {D : Ends} {x f : Str} {p' : Pos} {scope : Scope}
theorem XV.eqV {α : Type} {p : VP α} {a b : α} (h : XV Y e Γ (val p a)) (hx : a = b) : XV Y e Γ (val p b) := hx ▸ h
theorem XV.eqO {α : Type} {p : OP α} {a b : α} (h : XV Y e Γ (own p a)) (hx : a = b) : XV Y e Γ (own p b) := hx ▸ h
theorem XV.frz {α : Type} {p : VP α} {xs : List α} (h : XV Y e Γ (own (oL p) xs)) : XV Y e Γ (val (pL p) xs) := h.wk WkS.list
theorem lc_el {α : Type} {q : VP α} {y : α} (h : XV Y elt Γ (val q y)) : XTs Y [] Γ (some y).isSome ∧ ∀ z, some y = some z → XV Y elt Γ (val q z) := ⟨xts_nil, fun z hz => by cases hz; exact h⟩
theorem lc_if {α : Type} {q : VP α} {c : Bool} {m : Option (Option α)} {o : Option α} (hc : XT Y e Γ c) (hm : (bif c then m else some none) = some o) (h : m = some o → ∃ y, o = some y ∧ XV Y elt Γ (val q y)) : XTs Y [e] Γ o.isSome ∧ ∀ z, o = some z → XV Y elt Γ (val q z) := by
  cases c with
  | true =>
    obtain ⟨y, rfl, hx⟩ := h hm
    exact ⟨xts_one hc, fun z hz => by cases hz; exact hx⟩
  | false =>
    have : none = o := by simpa using hm
    subst this
    exact ⟨xts_one hc, fun z hz => by cases hz⟩
theorem c_max2 (Y : Fa P w K mg base k) (hcm : Y.cm = true := by rfl) (i : Y.I) : CallR (Y.X i) (.builtin "max") (fun xs H Q => ∃ i j, xs = [.int i, .int j] ∧ Q (.int (if j > i then j else i)) H) := call_max2 ((Y.hC i).trans hcm)
theorem c_min2 (Y : Fa P w K mg base k) (hcm : Y.cm = true := by rfl) (i : Y.I) : CallR (Y.X i) (.builtin "min") (fun xs H Q => ∃ i j, xs = [.int i, .int j] ∧ Q (.int (if j < i then j else i)) H) := call_min2 ((Y.hC i).trans hcm)
/-- enumerate(xs), its pairs as data -/
theorem xi_enum' {α : Type} {p : VP α} {xs : List α} {p' tpos : Pos} {elts : List Expr} {kk : Nat} (hm : mg "enumerate" = none) (h : XV Y e Γ (val (pL p) xs)) (hg : ∀ i, Gl (Y.X i) "enumerate" := by intro _; rfl) (hs : ∀ i, starEach [e] (Y.X i).env = [(false, eval e (Y.X i).env)] := by intro _; rfl) :
    XI Y (.Tuple elts kk tpos) (.Call (.Name "enumerate" p') [e] [] pos) Γ False (((xs.zipIdx).map fun (x : α × Nat) => ((x.2 : Int), x.1)).map (val (pT2 pInt p))) := by
  rw [List.map_map]
  exact xi_enum hm h hg hs
end
end Ty

/-! Ty18 -/
/-! errors with fields: class X(Y), Y above ValueError, X.__init__ says super().__init__(..), then self.f = f -/
namespace Ty
open PySem PySem.Spec L2
open PyProof.Rows
/-- a field of an error -/
inductive XF where
  | i (n : Int)
  | s (x : Str)
  deriving DecidableEq
def XF.v : XF → V
  | .i n => .int n
  | .s x => .str x
abbrev veI : String := "ValueError.__init__"
/-- a def that closes over __class__, which is C -/
structure FunS (K : PySem.W.Frag) (P : Program) (x qual : Str) (st : Stmt) (f : Addr) (fd : FuncData) (C : Addr) : Prop where
  ex : ∃ (oc : Value) (od : Option Addr) (kV doc pm : Value) (an : Option Addr) (cda : Addr) (ct : Value) (osl : Array (Option Value)) (cc : Addr) (oc2 : Value) (od2 : Option Addr) (vs2 : Array Value) (sl2 : Array (Option Value)) (file : Str) (tf : Tok) (oc3 : Value) (od3 : Option Addr) (sl3 : Array (Option Value)),
    fd = PySem.W.fnX x qual (defArgs st) (defBody st) (defScope st) [("__class__", cc)] .none kV doc pm an (.ref cda) ct ∧
    K.lookup f = some ⟨oc, od, .func fd, osl⟩ ∧ PySem.W.codeIn K (.ref cda) qual = true ∧
    K.lookup cda = some ⟨oc2, od2, .fields vs2, sl2⟩ ∧ vs2[2]? = some (.str file tf) ∧ ((P.main.file : Str) == file) = true ∧
    K.lookup cc = some ⟨oc3, od3, .cell (some (.ref C)), sl3⟩
/-- what of the class and the world makes super() what it is -/
structure SupC (K : PySem.W.Frag) (P : Program) (mg : Str → Option Value) (C : Addr) : Prop where
  su : mg "super" = none
  an : PySem.W.nsIn K cStatics "thirdparty.any" = some none
  hm : PySem.W.ks_superIn K C C "__init__" = some (some (.builtin veI))
  hV : PySem.W.subIn K (.ref C) (.type "ValueError") = some true
  hs : PySem.W.mroIn K C (.ref C) = some true
  ht : (P.main.scope.names.lookup ("super" : Str)).isSome = false
structure ScS (ps : List Str) (sc : Scope) : Prop where
  kind : sc.kind = .function
  co : sc.isCoroutine = false
  gen : sc.isGenerator = false
  nd : ps.Nodup
  par : ∀ x ∈ ps, sc.names.lookup x = some .local
  nocell : ∀ x ∈ sc.names, x.2 ≠ .cell
  free : ∀ x ∈ sc.names, x.2 = .free → x.1 = "__class__"
  cls : sc.names.lookup ("__class__" : Str) = some .free
  sup : sc.names.lookup ("super" : Str) = some .globalImplicit
abbrev enS (qual : Str) (sc : Scope) (L f : Addr) (cd : Value) (cc : Addr) : Env := PySem.W.envX qual sc L f cd [("__class__", cc)]
/-- what must be seen of the text super().__init__(ej) -/
structure TxS (qual : Str) (sc : Scope) (ej : Expr) (p0 p1 p2 p3 p4 : Pos) : Prop where
  hi : ∀ L f cd cc, interactive (enS qual sc L f cd cc) = false
  hs : ∀ L f cd cc, swapsWith (.Call (.Attribute (.Call (.Name "super" p0) [] [] p1) "__init__" p2) [ej] [] p3) none p4.line (enS qual sc L f cd cc) = pure false
  he : ∀ L f cd cc, ∃ pl : Sem Bool, eval (.Call (.Attribute (.Call (.Name "super" p0) [] [] p1) "__init__" p2) [ej] [] p3) (enS qual sc L f cd cc) = (do
      let ov ← attributeBase (.Call (.Name "super" p0) [] [] p1) "__init__" (enS qual sc L f cd cc) (eval (.Call (.Name "super" p0) [] [] p1) (enS qual sc L f cd cc))
      standAt p2.atName
      let (f', first) ← holding [ov] (getMethod ov "__init__" pl)
      callWith p3 f' first (backTo p3 (starEach [ej] (enS qual sc L f cd cc))) [])
  st : ∀ L f cd cc, starEach [ej] (enS qual sc L f cd cc) = (false, eval ej (enS qual sc L f cd cc)) :: starEach [] (enS qual sc L f cd cc)
  pl : ∀ L f cd cc, (backTo p3 (starEach [] (enS qual sc L f cd cc))).any (·.1) = false
/-- the context of such a body -/
def cxS (P : Program) (w : World) (K : PySem.W.Frag) (mg : Str → Option Value) (base : Heap) (N : List Str) (qual : Str) (sc : Scope) (f : Addr) (cd : Value) (cc : Addr) (A : Around) (outer : List Env) (s : Shared) (H : Hp) : Cx :=
  let env := enS qual sc s.heap.objs.size f cd cc
  { prog := P, w := w, K := K, mg := mg, base := base, A := A.deeper env, N := N, s_0 := s, H_0 := H, env := env, outer := outer, stack := env :: outer, ex := [], fn := fun _ => false, calm := true, pn := [], xe := fun _ _ => False }
theorem zip_none {x : Str} : ∀ {P : List Str} {vs : List Value}, x ∉ P → (P.zip vs).reverse.lookup x = none
  | [], _, _ => rfl
  | _ :: _, [], _ => rfl
  | p :: P, v :: vs, h => by
    have hp : (x == p) = false := by
      rw [beq_eq_false_iff_ne]
      exact fun z => h (by rw [z]; exact List.mem_cons_self)
    rw [List.zip_cons_cons, List.reverse_cons, List.lookup_append, zip_none (fun z => h (List.mem_cons_of_mem _ z))]
    simp [List.lookup, hp]
theorem zip_get {x : Str} {v : Value} : ∀ {P : List Str} {vs : List Value} {i : Nat}, P.Nodup → P[i]? = some x → vs[i]? = some v → (P.zip vs).reverse.lookup x = some v
  | [], _, _, _, h, _ => by simp at h
  | _ :: _, [], _, _, _, h => by simp at h
  | p :: P, w :: vs, 0, nd, h1, h2 => by
    simp at h1 h2; subst h1; subst h2
    rw [List.zip_cons_cons, List.reverse_cons, List.lookup_append, zip_none (List.nodup_cons.mp nd).1]
    simp [List.lookup]
  | p :: P, w :: vs, i + 1, nd, h1, h2 => by
    rw [List.zip_cons_cons, List.reverse_cons, List.lookup_append, zip_get (i := i) (List.nodup_cons.mp nd).2 (by simpa using h1) (by simpa using h2)]
    rfl
theorem inv_startS {P : Program} {w : World} {K : PySem.W.Frag} {mg : Str → Option Value} {base : Heap} {ps : List Str} {qual : Str} {sc : Scope} {f : Addr} {cd : Value} {cc : Addr} {A : Around} {outer : List Env} {s : Shared} {H : Hp} {us : List Value} {vs : List V} {h1 : Heap} {tk : Nat}
    (S : ScS ps sc) (hd : A.handled = none) (e0 : Env0 P w K mg base A outer s H) (hl : vs.length = ps.length) (r : Vals vs us) {oc : Obj} {cv : Option Value} (hcc : base.get? cc = some oc) (hcd : oc.data = .cell cv)
    (hn : h1.Ns s.heap.objs.size (fun x => (ps.zip us).reverse.lookup x)) (k : ∀ b o, s.heap.get? b = some o → h1.get? b = some o) :
    Inv (cxS P w K mg base ps qual sc f cd cc A outer s H) [] (L2.start ps vs) H { s with heap := h1, toks := tk } := by
  have cel : ∀ x c, (cxS P w K mg base ps qual sc f cd cc A outer s H).env.cells.lookup x = some c → x = "__class__" ∧ c = cc := fun x c h => by
    have h' : ([("__class__", cc)] : List (Str × Addr)).lookup x = some c := h
    by_cases q : x = "__class__"
    · subst q
      have z : some cc = some c := h'
      cases z
      exact ⟨rfl, rfl⟩
    · have q2 : (x == ("__class__" : Str)) = false := beq_eq_false_iff_ne.mpr q
      rw [List.lookup_cons, q2] at h'
      cases h'
  have noA : ∀ b : Addr, b ∉ (cxS P w K mg base ps qual sc f cd cc A outer s H).ex := fun b z => (nomatch (show b ∈ ([] : List Addr) from z))
  have hc0 := e0.bs cc oc hcc
  refine ⟨⟨e0.mod, S.kind, rfl, rfl, Nat.le_refl _, fun y z c h1 h2 => (cel y c h1).1.trans (cel z c h2).1.symm, fun y hy => ?_, fun y c h => (nomatch h), fun _ => hd, Around.frames_deeper e0.frames, .inr ⟨rfl, rfl⟩, fun b z => absurd z (noA b), e0.bs, e0.bsz, fun b _ _ => noA b, fun b z => absurd z (noA b), e0.funs, e0.frf⟩,
    rfl, e0.bare, Un.kept k, ⟨_, hn, fun i y v h1 h2 h3 => ?_⟩, fun y c h => ?_, e0.hok.fresh (Nat.le_refl _), fun y c h => ?_, fun p hp => (nomatch (show p ∈ ([] : List (Addr × Obj)) from hp)), e0.hok.kept k, ?_⟩
  · refine ⟨cc, ?_⟩
    have q : y = "__class__" := by
      rcases hy with hy | hy
      · exact absurd rfl (S.nocell _ (PySem.mem_of_lookup hy))
      · exact S.free _ (PySem.mem_of_lookup hy) rfl
    subst q
    rfl
  · have ha : vs[i]? = some v := by
      unfold L2.start at h2
      by_cases hi : i < vs.length
      · rw [List.getElem?_append_left (by simpa using hi), List.getElem?_map] at h2
        cases e : vs[i]? with
        | none => rw [e] at h2; cases h2
        | some a => rw [e] at h2; cases h2; rfl
      · rw [List.getElem?_append_right (by simpa using hi), List.getElem?_replicate] at h2
        split at h2 <;> cases h2
    obtain ⟨u, hu, rv⟩ := r.get ha
    exact ⟨u, rv, .inl ⟨S.par y (List.mem_of_getElem? h1), zip_get S.nd h1 hu⟩⟩
  · obtain ⟨_, rfl⟩ := cel y c h
    exact ⟨cv, oc, k _ _ hc0.1, hcd⟩
  · obtain ⟨_, rfl⟩ := cel y c h
    exact hc0.2
  · unfold L2.start
    show _ = ps.length
    rw [List.length_append, List.length_map, List.length_replicate]
    omega
section
variable {X : Cx} {pins : List (Addr × Obj)} {σ : L2.St} {H : Hp} {s : Shared} {a C u : Addr} {us : List Value} {Q : Value → Shared → Prop}
/-- the built-in __init__ bound to the error at a is called: nothing of it is told -/
theorem mw_call (T : OexC X.K C) (I : Inv X pins σ H s) (e : H a = some (exo a C none)) (hu : s.heap.get? u = some (PySem.W.kxs_mw veI a)) (hl : us.length ≤ sizeLine) (h : ∀ s', Inv X pins σ H s' → Q .none s') :
    wpAny (model X.prog X.w) X.A (call (.ref u) us) Q X.xe s := by
  obtain ⟨nm, q, N, bs, bm, sn, sub, ab, col, dd, k0, k1, k2, k3, k5, hC, hbm⟩ := T.cls
  have hC' := I.kIn _ _ hC
  obtain ⟨t1, ho⟩ := exo_at I.hok e
  obtain ⟨hp, g, d, t, os⟩ := s
  have same : upd H a (exo a C none) = H := funext fun b => by
    by_cases z : b = a
    · rw [z, upd_same]; exact e.symm
    · exact upd_ne z
  have fin : ∀ h', (∀ b o, b ≠ a → hp.get? b = some o → h'.get? b = some o) → h'.get? a = some (PySem.W.excObj C hp.objs.size none .none) → h'.get? hp.objs.size = some (PySem.W.excTup us) → Q .none ⟨h', g, d, t, os⟩ := fun h' k ea _ => by
    refine h _ ?_
    have J := I.write (t' := t) (x := a) (e := a) (o := exo a C none) (by rw [e]; trivial) (Or.inl rfl) k ⟨_, ea⟩ (exo_ok ea)
    exact same ▸ J
  refine wpAny_call (codeAny_of_tree ?_)
  show wpAny _ X.A.in1 (callAny (Value.ref u) ⟨us, []⟩) _ _ _
  unfold callAny
  refine wpAny_bind (wpAny_load hu ?_)
  dsimp only [PySem.W.kxs_mw]
  refine PySem.W.KFB.if_so (by decide) ?_
  refine wpAny_bind (PySem.W.check_bound_init F.excBase_ValueError.toExcCallFacts hC' ho rfl ?_)
  refine wpAny_bind (wpAny_pure (wpAny_pure ⟨plainId_quiet F.excBase_ValueError.init.plain _, codeAny_builtin F.excBase_ValueError.initEntry ?_⟩))
  exact PySem.W.exc_init_tree (cls := .ref C) (t0 := t1) (dv := none) (c2 := .none) (c3 := .none) (b4 := .bool false) ho hl fin
end
section
variable {P : Program} {w : World} {K : PySem.W.Frag} {mg : Str → Option Value} {base : Heap}
/-- THE RULE for such an __init__ -/
theorem fnS_of {k : Nat} {f C : Addr} {x qual : Str} {st : Stmt} {fd : FuncData} {ps : List Str} {sp : Sp} {ej : Expr} {rest : List Stmt} {p0 p1 p2 p3 p4 : Pos} {ar : Arg}
    (Fn : FunS K P x qual st f fd C) (S : ScS ps (defScope st)) (U : SupC K P mg C) (O : OexC K C)
    (hb : defBody st = .Expr (.Call (.Attribute (.Call (.Name "super" p0) [] [] p1) "__init__" p2) [ej] [] p3) p4 :: rest)
    (TX : TxS qual (defScope st) ej p0 p1 p2 p3 p4) (har : ((defArgs st).posonlyargs ++ (defArgs st).args).head? = some ar) (hps : ps.head? = some ar.arg)
    (len : ∀ vs H Q E, sp vs H Q E → vs.length = ps.length)
    (body : ∀ (cda cc : Addr) (A : Around) (outer : List Env) (s : Shared) (H : Hp) (vs : List V) (Q : VK) (E : XK), sp vs H Q E →
      ∃ (a : Addr) (xs : List V) (ta : TA) (tr : TS), vs = .ref a :: xs ∧ H a = some (exo a C none) ∧
        PA (cxS P w K mg base ps qual (defScope st) f (.ref cda) cc A outer s H) [ej] ta ∧ ta (L2.start ps vs) H (fun ws H1 => H1 = H ∧ ws.length ≤ 1000) ∧
        PSs (cxS P w K mg base ps qual (defScope st) f (.ref cda) cc A outer s H) rest tr ∧ tr { nx := fun _ H' => Q .non H', rt := Q } (L2.start ps vs) H) :
    FnOk P w K mg base CX0 (k + 1) f fd ps sp := by
  obtain ⟨oc, od, kV, doc, pm, an, cda, ct, osl, cc, oc2, od2, vs2, sl2, file, tf, oc3, od3, sl3, rfl, lk, hcd, lk2, hv2, hfile, lk3⟩ := Fn.ex
  refine ⟨len, fun A outer s H args us vs Q E hr e0 hbd r hsp => ?_⟩
  obtain ⟨a, xs, ta, tr, rfl, ha, hpa, hta, hrest, htr⟩ := body cda cc A outer s H vs Q E hsp
  have KX : K.In s.heap := e0.mod.kin.keeps fun b o e => (e0.bs b o e).1
  have lim : s.heap.NoLimit := e0.mod.nolimit.keeps fun b o e => (e0.bs b o e).1
  have hl := len _ _ _ _ hsp
  have hloc : ∀ y ∈ ps.zip us, (defScope st).names.lookup y.1 = some .local := fun ⟨n, v⟩ hy => S.par n (List.of_mem_zip hy).1
  refine PySem.ks_codeAny_call_defAt (fd := PySem.W.fnX x qual (defArgs st) (defBody st) (defScope st) [("__class__", cc)] .none kV doc pm an (.ref cda) ct) (body := defBody st) (binds := ps.zip us) hr.depth (KX _ _ lk) rfl lim (PySem.W.codeRec_of KX hcd) rfl hbd S.nocell hloc (fun h1 hn hk => ?_) S.co S.gen S.kind
  have I : Inv (cxS P w K mg base ps qual (defScope st) f (.ref cda) cc A outer s H) [] (L2.start ps (.ref a :: xs)) H { s with heap := h1, toks := s.toks + (ps.zip us).length } :=
    inv_startS (oc := ⟨oc3, od3, .cell (some (.ref C)), sl3⟩) (cv := some (.ref C)) S hr.hd e0 hl r (e0.mod.kin _ _ lk3) rfl hn hk
  have X1 : K.In h1 := I.kIn
  obtain ⟨nm, q, N, bs, bm, sn, sub, ab, col, dd, k0, k1, k2, k3, k5, hC, hbm⟩ := O.cls
  have hcl : PySem.W.clsIn K C = some { name := nm, bases := bs, mro := .ref C :: bm, ns := N, qualname := q, hasDict := true, slotNames := sn, subclasses := sub, abstract := ab, collection := col, hasDel := false } := by unfold PySem.W.clsIn; rw [hC] <;> rfl
  obtain ⟨t1, ho⟩ := exo_at I.hok ha
  obtain ⟨mb, hmb, hbt⟩ := e0.mod.blt
  have hself : (ps.zip us).reverse.lookup ar.arg = some (.ref a) := by
    obtain ⟨u, hu, ru⟩ := r.get (i := 0) (x := V.ref a) rfl
    obtain rfl : u = Value.ref a := ru
    refine zip_get (i := 0) S.nd ?_ hu
    rw [← List.head?_eq_getElem?]; exact hps
  have har2 : (defScope st).names.lookup ar.arg = some .local := S.par _ (List.mem_of_mem_head? (by rw [hps]; rfl))
  have hvs2 := X1 _ _ lk2
  have hC1 := X1 _ _ hC
  show PySem.wpAt _ _ (.func (defBody st) (enS qual (defScope st) s.heap.objs.size f (.ref cda) cc)) (execs (defBody st) (enS qual (defScope st) s.heap.objs.size f (.ref cda) cc)) _ _ _
  rw [show execs (defBody st) (enS qual (defScope st) s.heap.objs.size f (.ref cda) cc) = execs (.Expr (.Call (.Attribute (.Call (.Name "super" p0) [] [] p1) "__init__" p2) [ej] [] p3) p4 :: rest) (enS qual (defScope st) s.heap.objs.size f (.ref cda) cc) from congrArg (fun b => execs b _) hb]
  obtain ⟨pl, he⟩ := TX.he s.heap.objs.size f (.ref cda) cc
  refine PySem.ks_wpAt_execs_cons ?_
  refine PySem.ks_wpAt_Expr_any (hi := TX.hi ..) (hs := TX.hs ..) ?_
  refine PySem.ks_wpAt_MethodCall (he := he) ?_
  refine PySem.ks_wpAt_super_base (env := enS qual (defScope st) s.heap.objs.size f (.ref cda) cc) S.sup S.cls (by decide) rfl (X1 _ _ lk) rfl har rfl hvs2 rfl hv2 hfile U.ht ?_
  refine PySem.W.ks_loadName_global S.kind S.sup (Calls.loadGlobal_builtin (mg := mg) (mb := mb) (v := .type "super") (I.mod.glob.keeps I.bk) U.su (hmb.keeps I.bk) ((hbt _ (by decide)).trans (by first | rfl | kernel_rfl)) ⟨rfl, ?_⟩)
  refine wpAny_loadName_free S.kind S.cls rfl ⟨_, X1 _ _ lk3, rfl⟩ ?_
  refine wpAny_loadName_local S.kind har2 hn hself ?_
  refine PySem.ks_wpAny_isType_cls hC1 rfl ⟨rfl, ?_⟩
  refine PySem.ks_wpAny_call_super hC1 rfl ho rfl (fun c z => nomatch z) (PySem.W.looks_mroIn X1 U.hs) (fun h2 e2 k2 => ?_)
  have X2 : K.In h2 := X1.keeps k2
  have hmm : PySem.W.alongIn K "__init__" (((Value.ref C :: bm).dropWhile (· != .ref C)).drop 1) = some (some (.builtin veI)) := by
    have z := U.hm
    unfold PySem.W.ks_superIn at z
    rw [hcl] at z
    exact z
  have haC : a ≠ C := fun z => by
    have e1 := hC1
    rw [← z] at e1
    have e2 := e1.symm.trans ho
    cases e2
  have J0 : PySem.W.InstAt h2 a _ C none := ⟨k2 _ _ ho, rfl, rfl, trivial⟩
  refine PySem.W.kxs_getMethod PySem.W.kxs_ValueError e2 (PySem.W.looks_opaque X2 U.an) (l₀ := Value.ref C :: bm) (fun A' Q' E' s' kq q => wpAny_bind ((PySem.W.looks_clsIn X2 hcl) A' _ E' s' kq (wpAny_pure q))) rfl X2 hmm (J0.type.andThen (PySem.W.looks_subIn X2 U.hV)) haC (by decide) ?_
  have I3 : Inv (cxS P w K mg base ps qual (defScope st) f (.ref cda) cc A outer s H) [] (L2.start ps (.ref a :: xs)) H { heap := h2.push (PySem.W.kxs_mw veI a), gens := s.gens, drawn := s.drawn, toks := s.toks + (ps.zip us).length + 1, os := s.os } :=
    I.kept (t' := s.toks + (ps.zip us).length + 1) (h' := h2.push (PySem.W.kxs_mw veI a)) fun b o z => Heap.get?_push_of_some _ (k2 b o z)
  have hu3 : (h2.push (PySem.W.kxs_mw veI a)).get? h2.objs.size = some (PySem.W.kxs_mw veI a) := Heap.get?_push_size _ rfl
  have hlt : h1.objs.size ≤ h2.objs.size := Nat.le_of_lt (Heap.lt_size e2)
  have I4 : Inv (cxS P w K mg base ps qual (defScope st) f (.ref cda) cc A outer s H) [(h2.objs.size, PySem.W.kxs_mw veI a)] (L2.start ps (.ref a :: xs)) H { heap := h2.push (PySem.W.kxs_mw veI a), gens := s.gens, drawn := s.drawn, toks := s.toks + (ps.zip us).length + 1, os := s.os } := I3.pins_of fun p hp => by
    obtain rfl := List.mem_singleton.mp hp
    exact ⟨hu3, I.hok.fresh hlt, Nat.ne_of_gt (Nat.lt_of_lt_of_le I.lt hlt), I.nofs hlt, fun v z => nomatch z⟩
  show wpAny _ _ (callWith p3 (.ref h2.objs.size) [] (backTo p3 (starEach [ej] (enS qual (defScope st) s.heap.objs.size f (.ref cda) cc))) []) _ _ _
  have hrun := hpa.run p3 _ _ _ _ _ I4 hta
  rw [show starEach [ej] (cxS P w K mg base ps qual (defScope st) f (.ref cda) cc A outer s H).env = _ from TX.st s.heap.objs.size f (.ref cda) cc] at hrun
  rw [TX.st]
  refine PySem.W.kxs_callWith (i := veI) (x := a) (by show (false || (backTo p3 (starEach [] (enS qual (defScope st) s.heap.objs.size f (.ref cda) cc))).any (·.1)) = false; rw [Bool.false_or]; exact TX.pl _ _ _ _) ?_
  refine Calls.evalArgs_plain (wpAny_mono hrun (fun ws s4 hw => ?_) fun _ _ z => z.elim)
  obtain ⟨vs', H1, I5, rv, hH, hz⟩ := hw
  rw [hH] at I5
  have I6 : Inv (cxS P w K mg base ps qual (defScope st) f (.ref cda) cc A outer s H) [] (L2.start ps (.ref a :: xs)) H s4 := I5.pins_of fun p hp => absurd hp List.not_mem_nil
  have hu4 := (I5.pin (h2.objs.size, PySem.W.kxs_mw veI a) (List.mem_append_right _ List.mem_cons_self)).1
  refine ⟨hu4, wpAny_mono (mw_call (Q := fun v s' => v = .none ∧ Inv (cxS P w K mg base ps qual (defScope st) f (.ref cda) cc A outer s H) [] (L2.start ps (.ref a :: xs)) H s') O I6 ha hu4 (by
    have z : ws.length ≤ sizeLine := by rw [← Paired.length rv, sizeLine_eq]; omega
    exact z) fun s5 I7 => ⟨rfl, I7⟩) (fun v s5 h5 => ?_) fun _ _ z => z.elim⟩
  obtain ⟨_, I7⟩ := h5
  refine wpAt_of_wpAny (wpAny_mono (hrest.run [] s5 _ H _ I7 htr) (fun fl s' hs => ?_) fun _ _ z => z.elim)
  have fin : ∀ {σ' : L2.St} {H' : Hp} {v : V} {u : Value}, Inv (cxS P w K mg base ps qual (defScope st) f (.ref cda) cc A outer s H) [] σ' H' s' → RelV v u → Q v H' → CE outer P w H s Q u s' :=
    fun {σ' H' v u} J rv q => ⟨v, H', J.os, J.bare, J.base, J.hok, rv, q⟩
  cases fl with
  | ret u =>
    obtain ⟨v, σ', H', J, rv, q⟩ := hs
    exact fin J rv q
  | next =>
    obtain ⟨σ', H', J, q⟩ := hs
    exact fin (v := V.non) (u := Value.none) J rfl q
  | brk =>
    obtain ⟨_, _, _, q⟩ := hs
    exact False.elim q
  | cont =>
    obtain ⟨_, _, _, q⟩ := hs
    exact False.elim q
end
end Ty

/-! Ty12 -/
namespace Ty
open PySem PySem.Spec L2
open PyProof.Rows
/-! ### defs that may raise -/
/-- an error of an own class: its name and its fields -/
abbrev Exn := String × List XF
inductive Rx (ρ : Type) where
  | ok (r : ρ)
  | ex (e : Exn)
def exK {α β : Type} (o : Option (Rx α)) (ke : Exn → Option β) (kk : α → Option β) : Option β := o.bind fun
  | .ok r => kk r
  | .ex e => ke e
theorem exK_some {α β : Type} {o : Option (Rx α)} {ke : Exn → Option β} {kk : α → Option β} {b : β} (h : exK o ke kk = some b) : (∃ e, o = some (.ex e) ∧ ke e = some b) ∨ ∃ r, o = some (.ok r) ∧ kk r = some b := by
  unfold exK at h
  obtain ⟨x, h1, h2⟩ := Option.bind_eq_some_iff.mp h
  cases x with
  | ok r => exact .inr ⟨r, h1, h2⟩
  | ex e => exact .inl ⟨e, h1, h2⟩
/-- how an error is told: its class, its dict -/
abbrev ExT := Exn → Value → Option Addr → Hp → Prop
def slRx {ρ : Type} (Sr : ρ → Slot) : Rx ρ → Slot
  | .ok r => Sr r
  | .ex _ => { P := fun _ _ _ _ => False, mono := fun _ _ h => h, st := True, mm := fun _ {_ _ _ _ _ _} _ _ h => h }
section
variable {P : Program} {w : World} {K : PySem.W.Frag} {mg : Str → Option Value} {base : Heap} {k : Nat}
def spX {ι ρ : Type} (As : ι → List Slot) (m : ι → Option (Rx ρ)) (Sr : ρ → Slot) (X : ExT) : Sp := fun vs H Q E => ∃ (z : ι) (r : Rx ρ) (F : Hp), m z = some r ∧ Same F H ∧ Slots F H [] (vs.map some) (As z) ∧
  (∀ v F' H' fp, Wo ⟨F, H, []⟩ F' H' fp → (slRx Sr r).P F' H' fp (some v) → Q v H') ∧
  ∀ e, r = .ex e → ∀ cls d F' H', Wo ⟨F, H, []⟩ F' H' [] → X e cls d F' → E cls d H'
def fbX (P : Program) (w : World) (K : PySem.W.Frag) (mg : Str → Option Value) (base : Heap) (N : List Str) (qual : Str) (st : Stmt) (f : Addr) (cdv : Value) (A : Around) (outer : List Env) (s : Shared) (H : Hp) (E : XK) (k : Nat) (hr : Room k (A.deeper (envOfC qual (defScope st) s.heap.objs.size f cdv))) (nd : N.Nodup) : Fa P w K mg base k where
  I := Unit
  X := fun _ => cxOf (L2.CX P w) P w K mg base N qual (defScope st) f cdv A outer s H E
  hP := fun _ => rfl
  hw := fun _ => rfl
  hK := fun _ => rfl
  hM := fun _ => rfl
  hB := fun _ => rfl
  cm := true
  hC := fun _ => rfl
  hR := fun _ _ => hr
  hU := fun _ => hr.units
  W := fun cls d _ H => E cls d H
  tk := fun _ => takes_of rfl rfl rfl rfl
  hN := fun _ => nd
  hO := fun _ => passes_of rfl
/-- what a body's wish of errors is: at the entry B nothing owned; r: how the def ends -/
def Wish (Wx : WX) (B : Bs) (Γ : List Slot) (X : ExT) (e : Exn) : Prop := ∀ cls d σ F H os, In B F H os σ Γ → X e cls d F → Wx cls d σ H
theorem fn_pureX {ι ρ : Type} {As : ι → List Slot} {m : ι → Option (Rx ρ)} {Sr : ρ → Slot} {EX : ExT} {x qual : Str} {st : Stmt} {f : Addr} {fd : FuncData} {N ps : List Str} (Fn : Fun K x qual st f fd) (S : FnScope N ps (defScope st)) (hlen : ∀ z, (As z).length = ps.length)
    (body : ∀ (cdv : Value) (A : Around) (outer : List Env) (s : Shared) (H : Hp) (E : XK) (hr : Room k (A.deeper (envOfC qual (defScope st) s.heap.objs.size f cdv))) (z : ι) (r : Rx ρ) (B : Bs), m z = some r →
      (∀ e, r = .ex e → ∀ Γ, Wish (fun cls d _ H => E cls d H) B Γ EX e) →
      Go (fbX P w K mg base N qual st f cdv A outer s H E k hr S.nd) () (defBody st) (DF B (slRx Sr r)) B (As z ++ List.replicate (N.length - ps.length) dead)) : FnOk P w K mg base (L2.CX P w) (k + 1) f fd ps (spX As m Sr EX) := by
  refine Fn.okX S (fun vs H Q E h => ?_) (fun cdv A outer s H vs Q E hr h => ?_)
  · obtain ⟨z, r, F, _, _, Sl, _⟩ := h
    have e := Sl.length
    rw [List.length_map] at e
    rw [e, hlen]
  · obtain ⟨z, r, F, hm, hS, Sl, q, qe⟩ := h
    refine ⟨_, pss_cont, ?_⟩
    have go := body cdv A outer s H E hr z r ⟨F, H, []⟩ hm (fun e he Γ cls d σ F' H' os hW hx => qe e he cls d F' H' (Wo.drop (a := os) (b := []) (by simpa using hW.W)) hx)
    have S0 : Sta ⟨F, H, []⟩ F H (L2.start N vs) (As z ++ List.replicate (N.length - ps.length) dead) := by
      refine ⟨[], wo_nil hS, ?_⟩
      unfold L2.start
      have e := Sl.length
      rw [List.length_map, hlen] at e
      rw [e]
      exact Slots.append Sl (slots_dead _)
    exact cont_mono (go F H _ S0) (fun σ H' ⟨F', fp, W', p'⟩ => q .non F' H' fp W' p') (fun v H' ⟨F', fp, W', p'⟩ => q v F' H' fp W' p') (fun _ _ z => z.elim) (fun _ _ z => z.elim)
variable {Y : Fa P w K mg base k} {i : Y.I} {e ea eb eo ev tg iter elt : Expr} {es ifs : List Expr} {rest body : List Stmt} {Γ Γ' Γ1 Γ2 Δ Δ' As : List Slot} {a b c r s s' : Slot} {pos : Pos} {B : Bs} {D : Ends} {x f : Str} {p' : Pos} {C : Addr} {EX : ExT} {ex : Exn}
/-- e raises ex -/
def XXe (Y : Fa P w K mg base k) (e : Expr) (Γ : List Slot) (EX : ExT) (ex : Exn) : Prop :=
  ∃ t : TE, (∀ i, PE (Y.X i) e t) ∧ ∀ (B : Bs) (F H : Hp) (os : List Addr) (σ : List (Option V)) (Q : VK), In B F H os σ Γ →
    (∀ cls d F' H' fp, Same F F' → Same H H' → Wo B F' H' (fp ++ os) → EX ex cls d F' → Y.W cls d σ H') → t σ H Q
def XAe (Y : Fa P w K mg base k) (es : List Expr) (Γ : List Slot) (EX : ExT) (ex : Exn) : Prop :=
  ∃ t : TA, (∀ i, PA (Y.X i) es t) ∧ ∀ (B : Bs) (F H : Hp) (os : List Addr) (σ : List (Option V)) (Q : List V → Hp → Prop), In B F H os σ Γ →
    (∀ cls d F' H' fp, Same F F' → Same H H' → Wo B F' H' (fp ++ os) → EX ex cls d F' → Y.W cls d σ H') → t σ H Q
theorem pa_dum {i : Y.I} : PA (Y.X i) es (fun _ _ _ => False) := ⟨fun _ _ _ _ _ _ _ h => h.elim⟩
/-- f(e, ..) of a def that may raise -/
theorem x_callX {ι ρ : Type} {As : ι → List Slot} {m : ι → Option (Rx ρ)} {Sr : ρ → Slot} {args : List Slot} {z : ι} {q : ρ} {j : Nat} {f : Addr} {fd : FuncData} {ps : List Str} (Fn : FnOk P w K mg base (L2.CX P w) j f fd ps (spX As m Sr EX)) (hj : j ≤ k) (hm : mg x = some (.ref f)) (hk : PySem.W.keepIn K (.ref f) = true) (hb : Binds K fd ps [])
    (ha : XA Y (e :: es) Γ args) (hargs : args = As z) (hno : NoOwn args) (hq : m z = some (.ok q)) (hg : ∀ i, Gl (Y.X i) x := by intro _; rfl) (hdb : (x == ("__debug__" : Str)) = false := by decide)
    (he : ∀ i, starEach (e :: es) (Y.X i).env = (false, eval e (Y.X i).env) :: starEach es (Y.X i).env := by intro _; rfl) (hpl : ∀ i, (backTo pos (starEach es (Y.X i).env)).any (·.1) = false := by intro _; rfl) (hcm : Y.cm = true := by rfl) : XV Y (.Call (.Name x p') (e :: es) [] pos) Γ (Sr q) := by
  subst hargs
  obtain ⟨t, pa, rd⟩ := ha
  have FF : ∀ i, FnOk (Y.X i).prog (Y.X i).w (Y.X i).K (Y.X i).mg (Y.X i).base (L2.CX (Y.X i).prog (Y.X i).w) j f fd ps (spX As m Sr EX) := fun i => by rw [Y.hP i, Y.hw i, Y.hK i, Y.hM i, Y.hB i]; exact Fn
  refine ⟨_, fun i => pe_callS (FF i) ((Y.hR hcm i).mono hj) (hg i) (by rw [Y.hM i]; exact hm) (by rw [Y.hK i]; exact hk) (by rw [Y.hK i]; exact hb) (E := WE Y.W) (fun σ => passAt (Y.tk i) σ) (pa i) hdb (he i) (hpl i), fun B F H os σ Q I kk => ?_⟩
  refine rd B F H os σ _ I fun vs F1 H1 fp f1 e1 W1 S1 => ?_
  obtain rfl := hno.nil S1
  refine ⟨z, .ok q, F1, hq, W1.sub, S1, fun v F2 H2 fp W2 p2 => ?_, fun e he => by cases he⟩
  obtain ⟨f2, e2, W3⟩ := W1.called W2
  exact kk v F2 H2 fp (f1.trans f2) (e1.trans e2) W3 p2
theorem xx_call {ι ρ : Type} {As : ι → List Slot} {m : ι → Option (Rx ρ)} {Sr : ρ → Slot} {args : List Slot} {z : ι} {j : Nat} {f : Addr} {fd : FuncData} {ps : List Str} (Fn : FnOk P w K mg base (L2.CX P w) j f fd ps (spX As m Sr EX)) (hj : j ≤ k) (hm : mg x = some (.ref f)) (hk : PySem.W.keepIn K (.ref f) = true) (hb : Binds K fd ps [])
    (ha : XA Y (e :: es) Γ args) (hargs : args = As z) (hno : NoOwn args) (hq : m z = some (.ex ex)) (hg : ∀ i, Gl (Y.X i) x := by intro _; rfl) (hdb : (x == ("__debug__" : Str)) = false := by decide)
    (he : ∀ i, starEach (e :: es) (Y.X i).env = (false, eval e (Y.X i).env) :: starEach es (Y.X i).env := by intro _; rfl) (hpl : ∀ i, (backTo pos (starEach es (Y.X i).env)).any (·.1) = false := by intro _; rfl) (hcm : Y.cm = true := by rfl) : XXe Y (.Call (.Name x p') (e :: es) [] pos) Γ EX ex := by
  subst hargs
  obtain ⟨t, pa, rd⟩ := ha
  have FF : ∀ i, FnOk (Y.X i).prog (Y.X i).w (Y.X i).K (Y.X i).mg (Y.X i).base (L2.CX (Y.X i).prog (Y.X i).w) j f fd ps (spX As m Sr EX) := fun i => by rw [Y.hP i, Y.hw i, Y.hK i, Y.hM i, Y.hB i]; exact Fn
  refine ⟨_, fun i => pe_callS (FF i) ((Y.hR hcm i).mono hj) (hg i) (by rw [Y.hM i]; exact hm) (by rw [Y.hK i]; exact hk) (by rw [Y.hK i]; exact hb) (E := WE Y.W) (fun σ => passAt (Y.tk i) σ) (pa i) hdb (he i) (hpl i), fun B F H os σ Q I kk => ?_⟩
  refine rd B F H os σ _ I fun vs F1 H1 fp f1 e1 W1 S1 => ?_
  obtain rfl := hno.nil S1
  refine ⟨z, .ex ex, F1, hq, W1.sub, S1, fun v F2 H2 fp W2 p2 => p2.elim, fun e he cls d F2 H2 W2 hx => ?_⟩
  cases he
  obtain ⟨f2, e2, W3⟩ := W1.called W2
  exact kk cls d F2 H2 [] (f1.trans f2) (e1.trans e2) W3 hx
/-- an error within what is written -/
theorem xae_here (h : XXe Y e Γ EX ex) (hs : ∀ i, starEach (e :: es) (Y.X i).env = (false, eval e (Y.X i).env) :: starEach es (Y.X i).env := by intro _; rfl) : XAe Y (e :: es) Γ EX ex := by
  obtain ⟨t, p, rd⟩ := h
  exact ⟨_, fun i => pa_cons (p i) pa_dum (hs i), fun B F H os σ Q I kk => rd B F H os σ _ I kk⟩
theorem xae_next (h : XV Y e Γ a) (h2 : XAe Y es Γ EX ex) (hs : ∀ i, starEach (e :: es) (Y.X i).env = (false, eval e (Y.X i).env) :: starEach es (Y.X i).env := by intro _; rfl) : XAe Y (e :: es) Γ EX ex := by
  obtain ⟨t, p, rd⟩ := h
  obtain ⟨t2, p2, rd2⟩ := h2
  refine ⟨_, fun i => pa_cons (p i) (p2 i) (hs i), fun B F H os σ Q I kk => ?_⟩
  refine rd B F H os σ _ I fun v F1 H1 fp f1 e1 W1 p1 => ?_
  refine rd2 B F1 H1 _ σ _ (I.step f1 e1 W1) fun cls d F2 H2 fp2 f2 e2 W2 hx => ?_
  exact kk cls d F2 H2 (fp2 ++ fp) (f1.trans f2) (e1.trans e2) (by rw [List.append_assoc]; exact W2) hx
theorem xx_tup {n : Nat} (h : XAe Y es Γ EX ex) : XXe Y (.Tuple es n pos) Γ EX ex := by
  obtain ⟨t, p, rd⟩ := h
  exact ⟨_, fun i => pe_tup (p i), fun B F H os σ Q I kk => rd B F H os σ _ I kk⟩
theorem Wish.lift {Wx : WX} {B1 : Bs} (h : Wish Wx B Γ EX ex) (hB : ∀ F H os, Wo B1 F H os → Wo B F H os) : Wish Wx B1 Γ EX ex := fun cls d σ F H os I hx => h cls d σ F H os ⟨hB _ _ _ I.W, I.S⟩ hx
/-! statements whose head raises -/
theorem wish_now (hw : Wish Y.W B Γ EX ex) {F H : Hp} {os : List Addr} {σ : List (Option V)} (I : In B F H os σ Γ) : ∀ cls d F' H' fp, Same F F' → Same H H' → Wo B F' H' (fp ++ os) → EX ex cls d F' → Y.W cls d σ H' := fun cls d F' H' fp f e W hx => hw cls d σ F' H' _ (I.step f e W) hx
theorem go_setE (h : XXe Y e Γ EX ex) (hw : Wish Y.W B Γ EX ex) {py : Pos} {j : Nat} (hi : (Y.X i).N[j]? = some x := by rfl) (hx : Loc (Y.X i).env.scope x := by first | exact Or.inl rfl | exact Or.inr rfl)
    (hs : swapsWith e (some (.Name x py)) pos.line (Y.X i).env = pure false := by rfl) (hf : (Y.X i).fn x = true ∨ (Y.X i).env.scope.names.lookup x = some .local := by first | exact Or.inl rfl | exact Or.inr rfl) : Go Y i (.Assign [.Name x py] e pos :: rest) D B Γ := by
  obtain ⟨t, p, rd⟩ := h
  refine go_ps (ps_set (Y.hN i) hi hx (p i) hs hf) fun F H σ ⟨os, W, S⟩ => ?_
  exact rd B F H os σ _ (Sta.in W S) (wish_now hw (Sta.in W S))
theorem go_retE (h : XXe Y e Γ EX ex) (hw : Wish Y.W B Γ EX ex) : Go Y i (.Return (some e) pos :: rest) D B Γ := by
  obtain ⟨t, p, rd⟩ := h
  refine go_ps (ps_ret (p i)) fun F H σ ⟨os, W, S⟩ => ?_
  exact rd B F H os σ _ (Sta.in W S) (wish_now hw (Sta.in W S))
/-- raise e -/
def XMk (Y : Fa P w K mg base k) (e : Expr) (Γ : List Slot) (EX : ExT) (ex : Exn) : Prop :=
  ∃ t : L2.St → Hp → XK → Prop, (∀ i, PMk (Y.X i) e t) ∧ ∀ (B : Bs) (F H : Hp) (os : List Addr) (σ : List (Option V)) (Q : XK), In B F H os σ Γ →
    (∀ cls d F' H' fp, Same F F' → Same H H' → Wo B F' H' (fp ++ os) → EX ex cls d F' → Q cls d H') → t σ H Q
theorem go_raise (h : XMk Y e Γ EX ex) (hw : Wish Y.W B Γ EX ex) (hcm : Y.cm = true := by rfl) : Go Y i (.Raise (some e) none pos :: rest) D B Γ := by
  obtain ⟨t, p, rd⟩ := h
  refine go_ps (ps_raise ((Y.hC i).trans hcm) (Y.tk i) (p i)) fun F H σ ⟨os, W, S⟩ => ?_
  exact rd B F H os σ _ (Sta.in W S) (wish_now hw (Sta.in W S))
end
end Ty

/-! Ty13 -/
namespace Ty
open PySem PySem.Spec L2
open PyProof.Rows
section
variable {P : Program} {w : World} {K : PySem.W.Frag} {mg : Str → Option Value} {base : Heap} {k : Nat}
/-- a try's body, its wish Wt -/
def Fa.tr (Y : Fa P w K mg base k) (Wt : WX) : Fa P w K mg base k where
  I := { q : Y.I × List (Addr × Obj) × (Value → Shared → Prop) // Takes ((Y.X q.1).tr q.2.1 q.2.2) Wt ∧ PassesOwn (model (Y.X q.1).prog (Y.X q.1).w) (Y.X q.1).A (Y.X q.1).env q.2.2 }
  X := fun j => (Y.X j.1.1).tr j.1.2.1 j.1.2.2
  hP := fun j => Y.hP j.1.1
  hw := fun j => Y.hw j.1.1
  hK := fun j => Y.hK j.1.1
  hM := fun j => Y.hM j.1.1
  hB := fun j => Y.hB j.1.1
  cm := Y.cm
  hC := fun j => Y.hC j.1.1
  hR := fun h j => Y.hR h j.1.1
  hU := fun j => Y.hU j.1.1
  W := Wt
  tk := fun j => j.2.1
  hN := fun j => Y.hN j.1.1
  hO := fun j => j.2.2
/-- an except suite: the exception at a -/
def Fa.suite (Y : Fa P w K mg base k) (a : Addr) (cls : Value) (d : Option Addr) : Fa P w K mg base k where
  I := { q : Y.I × Obj × List (Addr × Obj) // Zc cls d q.2.1 ∧ ∃ vs, q.2.1.data = .fields vs }
  X := fun j => (Y.X j.1.1).suite a ((a, j.1.2.1) :: j.1.2.2)
  hP := fun j => Y.hP j.1.1
  hw := fun j => Y.hw j.1.1
  hK := fun j => Y.hK j.1.1
  hM := fun j => Y.hM j.1.1
  hB := fun j => Y.hB j.1.1
  cm := false
  hC := fun _ => rfl
  hR := fun h => by cases h
  hU := fun j => Y.hU j.1.1
  W := fun _ _ _ _ => False
  tk := fun _ => takes0
  hN := fun j => Y.hN j.1.1
  hO := fun _ => PassesOwn.never
variable {Y : Fa P w K mg base k} {i : Y.I} {e ea eb eo ev tg iter elt : Expr} {es ifs : List Expr} {rest body suite : List Stmt} {b₀ : Stmt} {Γ Γ' Γ1 Γ2 Γh Δ Δ' As : List Slot} {a b c r s s' : Slot} {pos pos' np : Pos} {B : Bs} {D : Ends} {x n f : Str} {p' : Pos} {C : Addr} {EX : ExT} {ex : Exn}
/-- the exception that a suite holds -/
def pRef (a : Addr) : VP Unit := ⟨fun _ v _ => v = .ref a, fun _ h => h⟩
abbrev exS (a : Addr) : Slot := val (pRef a) ()
def tsC (Y : Fa P w K mg base k) (i : Y.I) (sts : List Stmt) : Addr → Value → Option Addr → TS := fun a cls d D σ H => ∀ (oe : Obj) (pn : List (Addr × Obj)), Zc cls d oe → (∃ vs, oe.data = .fields vs) → cont ((Y.X i).suite a ((a, oe) :: pn)) sts D σ H
def tbC (Y : Fa P w K mg base k) (i : Y.I) (sts : List Stmt) : WX → TS := fun Wt D σ H => ∀ (pn : List (Addr × Obj)) (xe : Value → Shared → Prop), Takes ((Y.X i).tr pn xe) Wt → PassesOwn (model (Y.X i).prog (Y.X i).w) (Y.X i).A (Y.X i).env xe → cont ((Y.X i).tr pn xe) sts D σ H
/-- the ends of a suite: the exception's name goes -/
def DS (D : Ends) (jn : Nat) : Ends := { nx := fun σ H => D.nx (σ.set jn none) H, rt := D.rt, bk := fun σ H => D.bk (σ.set jn none) H, ct := fun σ H => D.ct (σ.set jn none) H }
theorem go_try_as {cv : Value} (jn : Nat) (hc : Names (Y.X i) x cv)
    (hb : ∀ j : (Y.tr (wAs K cv jn (tsC Y i (b₀ :: suite)) Y.W { D with nx := cont (Y.X i) rest D })).I, j.1.1 = i → Go (Y.tr (wAs K cv jn (tsC Y i (b₀ :: suite)) Y.W { D with nx := cont (Y.X i) rest D })) j body { D with nx := cont (Y.X i) rest D } B Γ)
    (hs : (Y.X i).stack = (Y.X i).env :: (Y.X i).outer := by rfl) (hf : (Y.X i).env.frame = some (Y.X i).env.locals := by rfl) (hi : (Y.X i).N[jn]? = some n := by rfl) (hln : (Y.X i).env.kindOf n = some .local := by rfl) :
    Go Y i (.Try body [.ExceptHandler (some (.Name x np)) (some n) (b₀ :: suite) pos'] [] [] pos :: rest) D B Γ := by
  refine go_ps (ps_try_as (tb := tbC Y i body) (ts := tsC Y i (b₀ :: suite)) hs hf (Y.hN i) hi hln hc (Y.tk i) (fun W pn xe tk po => ⟨fun pins s σ H D I h => h pn xe tk po pins s I⟩) (fun a oe cls d pn hz hf => ⟨fun pins s σ H D I h => h oe pn hz hf pins s I⟩)) fun F H σ S => ?_
  rw [Y.hK i]
  intro pn xe tk po
  exact hb ⟨(i, pn, xe), tk, po⟩ rfl F H σ S
/-- a state read otherwise: what was frozen stays -/
theorem Sta.wkF {F H : Hp} {σ : L2.St} (S : Sta B F H σ Γ) (w : WkL Γ Γ') : ∃ F', Same F F' ∧ Sta B F' H σ Γ' := by
  obtain ⟨os, W, S1⟩ := S
  obtain ⟨x, y, e, kk⟩ := S1.wk W.sub w
  obtain ⟨F', W', hF, hx⟩ := (W.perm e).freeze
  exact ⟨F', hF, y, W', kk F' hF W'.sub hx⟩
/-- the error is caught: from there the suite -/
theorem wish_as {cv : Value} {jn : Nat} {sts : List Stmt} {Wout : WX} {Γd : List Slot} (hex : ∀ cls d F, EX ex cls d F → PySem.W.exmOne K cls cv = some true) (hw : WkL Γ Γd) (hj : Nat.blt jn Γd.length = true)
    (h : ∀ a cls d F, EX ex cls d F → ∃ p : VP Unit, p.R F (.ref a) () ∧ ∀ j : (Y.suite a cls d).I, j.1.1 = i → Go (Y.suite a cls d) j sts (DS D jn) B (Γd.set jn (val p ()))) : Wish (wAs K cv jn (tsC Y i sts) Wout D) B Γ EX ex := by
  rintro cls d σ F H os ⟨W, o2, r0, hp, S⟩ hx
  refine ⟨true, hex cls d F hx, fun _ a ha oe pn hz hf => ?_, fun z => by cases z⟩
  have S0 : Sta B F H σ Γ := ⟨o2, (W.perm hp).dropR, S⟩
  obtain ⟨F', hF, o3, W3, S3⟩ := S0.wkF hw
  obtain ⟨p, hpR, hgo⟩ := h a cls d F hx
  obtain ⟨o4, d4, S4, p4⟩ := S3.put (r := val p ()) (fp := []) (o := some (.ref a)) ⟨rfl, _, rfl, p.mono hF hpR⟩ (Nat.le_of_ble_eq_true hj)
  exact hgo ⟨(i, oe, pn), hz, hf⟩ rfl F' H _ ⟨o4, (W3.perm (by simpa using p4)).drop, S4⟩
theorem wish_as_no {cv : Value} {jn : Nat} {sts : List Stmt} {Wout : WX} (hex : ∀ cls d F, EX ex cls d F → PySem.W.exmOne K cls cv = some false) (h : Wish Wout B Γ EX ex) : Wish (wAs K cv jn (tsC Y i sts) Wout D) B Γ EX ex :=
  fun cls d σ F H os I hx => ⟨false, hex cls d F hx, (fun z => by cases z), fun _ => h cls d σ F H os I hx⟩
/-- an own class's name as a value -/
theorem x_cls (hm : mg x = some (.ref C)) (hg : ∀ i, Gl (Y.X i) x := by intro _; rfl) (hd : (x == ("__debug__" : Str)) = false := by decide) : XV Y (.Name x pos) Γ (val (pRef C) ()) :=
  x_glob (v := .ref C) hm rfl (fun _ => rfl) hg hd
end
end Ty

/-! Ty14 -/
namespace Ty
open PySem PySem.Spec L2
open PyProof.Rows
section
variable {P : Program} {w : World} {K : PySem.W.Frag} {mg : Str → Option Value} {base : Heap} {k : Nat}
variable {Y : Fa P w K mg base k} {i : Y.I} {e ea eb eo ev tg iter elt : Expr} {es ifs : List Expr} {rest body suite : List Stmt} {Γ Γ' As : List Slot} {a b c r s s' : Slot} {pos kpos : Pos} {B : Bs} {D : Ends} {x n f : Str} {p' : Pos} {C : Addr} {EX : ExT} {ex : Exn} {kws : List Keyword}
/-! ### keywords -/
def XK' (Y : Fa P w K mg base k) (kws : List Keyword) (Γ As : List Slot) : Prop :=
  ∃ t : TA, (∀ i, PK (Y.X i) kws t) ∧ ∀ (B : Bs) (F H : Hp) (os : List Addr) (σ : List (Option V)) (Q : List V → Hp → Prop), In B F H os σ Γ →
    (∀ vs F' H' fp, Same F F' → Same H H' → Wo B F' H' (fp ++ os) → Slots F' H' fp (vs.map some) As → Q vs H') → t σ H Q
/-- the positional values, then the keywords' in the order of the parameters -/
def gK (n m : Nat) : List Value → List Value → List Value := fun us ws => if us.length = n ∧ ws.length = m then us ++ ws else []
def gKV (n m : Nat) : List V → List V → List V := fun us ws => if us.length = n ∧ ws.length = m then us ++ ws else []
def tCallKS (na nb : Nat) (sp : Sp) (E : L2.St → XK) (t tk : TA) : TE := fun σ H Q => t σ H fun vs H1 => tk σ H1 fun zs H2 => sp (gKV na nb vs zs) H2 Q (E σ)
end
end Ty

/-! Ty15 -/
/-! set(xs) of a list of ints, sorted of it -/
namespace Ty
section
open PySem PySem.W PySem.Calls PySem.Spec L2 PyProof.Rows
variable {P : Program} {w : World} {A : Around} {E : Value → Shared → Prop} {s : Shared}
abbrev nSet (w : World) : Obj := { cls := .type "set", dict := none, data := .set #[] 0 (.fresh 0 0 (!w.params.followText "set-order")) }
end
end Ty

/-! Ty16 -/
namespace Ty
open PySem PySem.Spec L2
/-! ### ints in order, each once -/
def insD (k : Int) : List Int → List Int
  | [] => [k]
  | x :: r => if k < x then k :: x :: r else if k = x then x :: r else x :: insD k r
def sortD (xs : List Int) : List Int := xs.foldr insD []
section
variable {P : Program} {w : World} {K : PySem.W.Frag} {mg : Str → Option Value} {base : Heap} {k : Nat}
variable {Y : Fa P w K mg base k} {i : Y.I} {e ea eb eo ev tg iter elt : Expr} {Γ : List Slot} {s : Slot} {ns : List Int}
def rSetI (K : PySem.W.Frag) (w : World) : List V → Hp → VK → Prop := fun xs H Q => ∃ (l : Addr) (ns : List Int), xs = [.ref l] ∧ SqL K H l (ns.map V.int) ∧ ns.length < 64 ∧ ∀ p n, H p = none → n ≤ ns.length → Q (.ref p) (upd H p (SetO w p (fun j => decide (j ∈ ns)) n))
/-- a set of ints, owned -/
def setS (w : World) (ns : List Int) : Slot where
  P := fun F H fp o => ∃ a n, o = some (.ref a) ∧ fp = [a] ∧ H a = some (SetO w a (fun j => decide (j ∈ ns)) n) ∧ n < 64
  mono := fun _ hH h => let ⟨a, n, e1, e2, h1, h2⟩ := h; ⟨a, n, e1, e2, hH _ _ h1, h2⟩
  st := True
  mm := fun _ {_ _ _ _ _ _} _ hH h => let ⟨a, n, e1, e2, h1, h2⟩ := h; ⟨a, n, e1, e2, by rw [hH a (by rw [e2]; simp)]; exact h1, h2⟩
end
end Ty

/-! Ty17 -/
namespace Ty
open PySem PySem.Spec L2
section
variable {P : Program} {w : World} {K : PySem.W.Frag} {mg : Str → Option Value} {base : Heap} {k : Nat}
variable {Y : Fa P w K mg base k} {i : Y.I} {e ea eb eo ev tg iter elt : Expr} {Γ : List Slot} {s : Slot} {pos p1 p2 : Pos}
theorem exm_mk {C : Addr} {cls : Value} {b : Bool} (h1 : PySem.W.subIn K (.ref C) (.type "BaseException") = some true) (hi : PySem.W.isClsIn K C = true) (ht : PySem.W.typeIn K (.ref C) = some (.type "type")) (hs : PySem.W.subIn K cls (.ref C) = some b) : PySem.W.exmOne K cls (.ref C) = some b := by
  unfold PySem.W.isClsIn at hi
  unfold PySem.W.exmOne PySem.W.kitCls
  rw [h1]
  show (if ((PySem.W.clsIn K C).isSome && PySem.W.typeIn K (.ref C) == some (.type "type")) = true then PySem.W.subIn K cls (.ref C) else none) = some b
  rw [hi, ht, hs]; rfl
theorem kit_mk {C Dc : Addr} {b : Bool} (hne : (Value.ref Dc == Value.ref C) = false) (hi : PySem.W.isClsIn K C = true) (ht : PySem.W.typeIn K (.ref C) = some (.type "type")) (hs : PySem.W.subIn K (.ref Dc) (.ref C) = some b) : PySem.W.kitOne K (.ref Dc) (.ref C) = some b := by
  unfold PySem.W.isClsIn at hi
  unfold PySem.W.kitOne PySem.W.kitCls
  rw [hne]
  show (if ((PySem.W.clsIn K C).isSome && PySem.W.typeIn K (.ref C) == some (.type "type")) = true then PySem.W.subIn K (.ref Dc) (.ref C) else none) = some b
  rw [hi, ht, hs]; rfl
/-! ### list(range(..)), tuple(range(..)) -/
/-! ### values of any make -/
def pDa (K : PySem.W.Frag) : VP PyData := ⟨fun F v d => Dp K F v d, fun hF h => Dp.mono hF h⟩
theorem XV.data {α : Type} [DecidableEq α] {p : VP α} {ok : α → Prop} {u : α} (E : DE p ok) (h : XV Y e Γ (val p u)) : XV Y e Γ (val (pDa K) (E.enc u)) := h.as fun F H fp o _ ⟨e1, v, e2, r⟩ => ⟨e1, v, e2, E.dp K F v u r⟩
theorem dpAll_paired {F : Hp} : ∀ {vs : List V} {ds : List PyData}, Paired ((pDa K).R F) vs ds → DpAll K F vs ds
  | _, _, .nil => .nil
  | _, _, .cons r t => .cons r (dpAll_paired t)
theorem paired_dpAll {F : Hp} : ∀ {vs : List V} {ds : List PyData}, DpAll K F vs ds → Paired ((pDa K).R F) vs ds
  | _, _, .nil => .nil
  | _, _, .cons r t => .cons r (paired_dpAll t)
/-- an item of such a list -/
def pdIx : PyData → Int → Option PyData
  | .list ds, z => atI ds z
  | _, _ => none
def pdLen : PyData → Option Int
  | .list ds => some (ds.length : Int)
  | _ => none
theorem SV.data {ds : List PyData} : SV K (Ty.val (pDa K) (.list ds)) (pDa K) ds := fun F H fp o hS h => by
  obtain ⟨_, v, e, r⟩ := h
  cases (show Dp K F v (.list ds) from r) with
  | lst h1 h2 => exact ⟨_, _, e, Same.seq hS h1, paired_dpAll h2⟩
theorem x_ixD {d u : PyData} {z : Int} (ha : XV Y ea Γ (val (pDa K) d)) (hb : XV Y eb Γ (vInt z)) (hz : pdIx d z = some u) (hx : PlainIx eb := by exact fun _ _ => rfl) : XV Y (.Subscript ea eb pos) Γ (val (pDa K) u) := by
  cases d with
  | list ds => exact x_ix ha SV.data hb hz hx
  | _ => cases hz
theorem o_eqP {a b : Slot} {u v : PyData} (ha : Vw a (pDa K) u) (hb : Vw b (pDa K) v) (h1 : SeqAt.shaped u = true) (h2 : SeqAt.shaped v = true) : Op2 (rEqD K) a b (vBl (PyData.eqv u v)) := fun B F H x y fx fy os Q W p1 p2 q => by
  obtain ⟨x', ex, rx⟩ := ha F H fx _ W.sub p1
  obtain ⟨y', ey, ry⟩ := hb F H fy _ W.sub p2
  cases ex; cases ey
  exact ⟨u, v, rx, ry, h1, h2, q _ F H [] same_refl same_refl W.drop.drop ⟨rfl, _, rfl, rfl⟩⟩
/-- what isinstance(d, list) says -/
def pdTy : PyData → Option String
  | .none => some "NoneType"
  | .bool _ => some "bool"
  | .int _ => some "int"
  | .str _ => some "str"
  | .list _ => some "list"
  | .tuple _ => some "tuple"
  | _ => none
theorem TyV.data {d : PyData} {T : String} (h : pdTy d = some T) : TyV K (Ty.val (pDa K) d) T := fun F H fp o hS hp => by
  obtain ⟨_, v, e, r⟩ := hp
  refine ⟨v, e, ?_⟩
  have r2 : Dp K H v d := Dp.mono hS r
  cases r2 with
  | non => cases h; exact .base .non
  | bl b => cases h; exact .base (.bl b)
  | int b => cases h; exact .base (.int b)
  | str b => cases h; exact .base (.str b)
  | lst h1 h2 =>
    cases h
    rcases h1 with (h1 | ⟨o, h1⟩) | ⟨o, its, n, h1, h3, _⟩
    · exact .base (.lst h1)
    · exact .base (.frz h1)
    · exact .kList h1 h3
  | tup h1 h2 =>
    cases h
    rcases h1 with (h1 | ⟨o, h1⟩) | ⟨o, its, n, h1, h3, _⟩
    · exact .base (.tup h1)
    · exact .fTuple h1
    · exact .kTuple h1 h3
end
end Ty

/-! Ty19a -/
namespace Ty
open PySem PySem.Spec L2
open PyProof.Rows
/-! ### what the __init__ of an error with fields promises -/
def XF.ok : XF → Prop
  | .i n => n.natAbs < 2 ^ 64
  | .s x => x.length ≤ 1000
instance (f : XF) : Decidable f.ok := by unfold XF.ok; cases f <;> infer_instance
/-- the dict of such an error -/
abbrev xfd (ns : List Str) (fs : List XF) : List (Str × V) := (ns.zip (fs.map XF.v)).reverse
def spE (C : Addr) (ns : List Str) : Sp := fun vs H Q _ => ∃ (a : Addr) (fs : List XF), vs = .ref a :: fs.map XF.v ∧ fs.length = ns.length ∧ (∀ f ∈ fs, f.ok) ∧ H a = some (exo a C none) ∧
  ∀ dx, H dx = none → dx ≠ a → Q .non (upd (upd H dx (exd dx (xfd ns fs))) a (exo a C (some dx)))
theorem spE_len {C : Addr} {ns : List Str} : ∀ vs H Q E, spE C ns vs H Q E → vs.length = (("self" : Str) :: ns).length := fun vs H Q E h => by
  obtain ⟨a, fs, rfl, hl, _⟩ := h
  simp [hl]
/-- a part of the message f'..': a constant, or a field's value -/
inductive FP (ns : List Str) : Expr → Prop
  | c {t : Str} {j : Nat} {p : Pos} (h : Nat.ble t.length 1000 = true) : FP ns (.Constant (.str t) j p)
  | v {x : Str} {p q : Pos} (i : Nat) (h : ns[i]? = some x) (h1 : (x == ("__debug__" : Str)) = false) (h2 : (x == ("__classdict__" : Str)) = false) : FP ns (.FormattedValue (.Name x p) (-1) none q)
inductive FPs (ns : List Str) : List Expr → Prop
  | nil : FPs ns []
  | cons {e : Expr} {es : List Expr} : FP ns e → FPs ns es → FPs ns (e :: es)
theorem log_small {n : Int} (h : n.natAbs < 2 ^ 64) : n.natAbs.log2 < 64 := by
  by_cases e : n.natAbs = 0
  · rw [e]; decide
  · exact (Nat.log2_lt e).mpr h
theorem int_text {n : Int} (h : n.natAbs < 2 ^ 64) : (Str.ofString (toString n)).length ≤ 1000 := by
  have e := int_text_length_le (k := 64) (by decide) (log_small h)
  rw [PySem.ofString_length]; omega
theorem str_app_len (x y : Str) : (x ++ y).length = x.length + y.length := by
  show (x.cps ++ y.cps).size = _
  rw [Array.size_append]; rfl
section
variable {X : Cx} {ns : List Str} {fs : List XF} {sc : Scope}
/-- the frame holds the fields -/
def Hd (fs : List XF) (σ : L2.St) : Prop := ∀ (i : Nat) (f : XF), fs[i]? = some f → σ[i + 1]? = some (some f.v)
theorem fp_run (hN : X.N = ("self" : Str) :: ns) (hv : ∀ x ∈ ns, Vis X.env.scope x) (hl : fs.length = ns.length) (hok : ∀ f ∈ fs, f.ok) {e : Expr} (h : FP ns e) : ∃ t, PE X e t ∧ ∀ (σ : L2.St) (H : Hp) (Q : VK), Hd fs σ → (∀ y : Str, y.length ≤ 1000 → Q (.str y) H) → t σ H Q := by
  cases h with
  | c h => exact ⟨_, pe_str, fun σ H Q _ k => k _ (Nat.le_of_ble_eq_true h)⟩
  | @v x p q i h h1 h2 =>
    refine ⟨_, pe_fmt (pe_var (i := i + 1) (by rw [hN]; simpa using h) (hv x (List.mem_of_getElem? h)) h1 h2), fun σ H Q hd k => ?_⟩
    have hi : i < fs.length := by rw [hl]; exact (List.getElem?_eq_some_iff.mp h).1
    have hf : fs[i]? = some fs[i] := List.getElem?_eq_getElem hi
    have ho := hok _ (List.mem_of_getElem? hf)
    refine ⟨_, hd i _ hf, ?_⟩
    cases hx : fs[i] with
    | i n =>
      rw [hx] at ho
      exact .inr ⟨n, rfl, Nat.lt_trans (log_small ho) (by decide), k _ (int_text ho)⟩
    | s y =>
      rw [hx] at ho
      exact .inl ⟨y, rfl, Nat.le_trans ho (by rw [sizeLine_eq]; decide), k _ ho⟩
theorem fps_run (hN : X.N = ("self" : Str) :: ns) (hv : ∀ x ∈ ns, Vis X.env.scope x) (hl : fs.length = ns.length) (hok : ∀ f ∈ fs, f.ok) {es : List Expr} (h : FPs ns es) : ∃ ts, PJ X es ts ∧ ∀ (acc : Str) (σ : L2.St) (H : Hp) (Q : Str → Hp → Prop), Hd fs σ → acc.length + 1000 * es.length ≤ sizeLine → (∀ out, Q out H) → tJs ts acc σ H Q := by
  induction h with
  | nil => exact ⟨[], .nil, fun acc σ H Q _ _ k => k acc⟩
  | @cons e es h r ih =>
    obtain ⟨t, ht, kt⟩ := fp_run hN hv hl hok h
    obtain ⟨ts, hts, kts⟩ := ih
    refine ⟨t :: ts, .cons ht hts, fun acc σ H Q hd hz k => kt σ H _ hd fun y hy => ?_⟩
    have e1 := str_app_len acc y
    rw [List.length_cons] at hz
    exact ⟨y, rfl, by omega, kts _ σ H Q hd (by omega) k⟩
end
section
variable {P : Program} {w : World} {K : PySem.W.Frag} {mg : Str → Option Value} {base : Heap}
/-- what must be seen of self.f = f -/
def AsOk (qual : Str) (sc : Scope) (f : Str) (r0 r1 r2 r3 : Pos) : Prop := ∀ L g cd cc, swapsWith (.Name f r2) (some (.Attribute (.Name "self" r0) f r1)) r3.line (enS qual sc L g cd cc) = pure false
theorem hd_start {ns : List Str} {fs : List XF} {a : Addr} : Hd fs (L2.start ("self" :: ns) (.ref a :: fs.map XF.v)) := fun i f h => by
  unfold L2.start
  have hi : i < fs.length := (List.getElem?_eq_some_iff.mp h).1
  rw [List.getElem?_append_left (by simpa using hi)]
  simp [h]
theorem ex1_of {k : Nat} {f C : Addr} {x qual : Str} {st : Stmt} {fd : FuncData} {n1 : Str} {v1 v2 : Expr} {vr : List Expr} {q p0 p1 p2 p3 p4 a0 a1 a2 a3 : Pos} {ar : Arg}
    (Fn : FunS K P x qual st f fd C) (S : ScS ["self", n1] (defScope st)) (U : SupC K P mg C) (O : OexC K C) (hno : PySem.W.findIn K (.ref C) n1 = some none)
    (hb : defBody st = .Expr (.Call (.Attribute (.Call (.Name "super" p0) [] [] p1) "__init__" p2) [.JoinedStr (v1 :: v2 :: vr) q] [] p3) p4 :: [.Assign [.Attribute (.Name "self" a0) n1 a1] (.Name n1 a2) a3])
    (TX : TxS qual (defScope st) (.JoinedStr (v1 :: v2 :: vr) q) p0 p1 p2 p3 p4) (har : ((defArgs st).posonlyargs ++ (defArgs st).args).head? = some ar) (hself : ar.arg = "self")
    (hp : FPs [n1] (v1 :: v2 :: vr)) (hlen : Nat.ble (v1 :: v2 :: vr).length 8 = true) (as1 : AsOk qual (defScope st) n1 a0 a1 a2 a3) (g1 : (n1 == ("__debug__" : Str)) = false) (g2 : (n1 == ("__classdict__" : Str)) = false) :
    FnOk P w K mg base CX0 (k + 1) f fd ["self", n1] (spE C [n1]) := by
  refine fnS_of Fn S U O hb TX har (by rw [hself]; rfl) spE_len fun cda cc A outer s H vs Q E h => ?_
  obtain ⟨a, fs, rfl, hl, hok, ha, hq⟩ := h
  have hv : ∀ x ∈ [n1], Vis (defScope st) x := fun y hy => .inl (S.par y (List.mem_cons_of_mem _ hy))
  obtain ⟨ts, hts, kts⟩ := fps_run (X := cxS P w K mg base ["self", n1] qual (defScope st) f (.ref cda) cc A outer s H) (ns := [n1]) rfl hv hl hok hp
  match fs, hl with
  | [f1], _ =>
    have hps := pss_one (ps_ost (X := cxS P w K mg base ["self", n1] qual (defScope st) f (.ref cda) cc A outer s H) (o := .Name "self" a0) (p' := a1) (f := n1) (e := .Name n1 a2) (pos := a3) (pe_var (i := 0) rfl (.inl (S.par _ List.mem_cons_self)) (by decide) (by decide)) (pe_var (i := 1) rfl (hv n1 List.mem_cons_self) g1 g2) (as1 ..))
    refine ⟨a, [f1.v], _, _, rfl, ha, pa_cons (pe_joined hts) pa_nil (TX.st ..), kts _ _ _ _ hd_start ?_ (fun out => ⟨rfl, Nat.le_of_ble_eq_true rfl⟩), hps, ?_⟩
    · have := Nat.le_of_ble_eq_true hlen
      rw [sizeLine_eq]
      show 0 + _ ≤ _
      omega
    exact ⟨f1.v, rfl, .ref a, rfl, a, C, rfl, O, hno, .inl ⟨ha, fun dx hd hda => hq dx hd hda⟩⟩
theorem upd_twice {H : Hp} {a dx : Addr} {o o' u : HO} (h : dx ≠ a) : upd (upd (upd H dx o) a u) dx o' = upd (upd H dx o') a u := funext fun b => by
  by_cases h1 : b = dx
  · subst h1; rw [upd_same, upd_ne h, upd_same]
  · rw [upd_ne h1]
    by_cases h2 : b = a
    · subst h2; rw [upd_same, upd_same]
    · rw [upd_ne h2, upd_ne h2, upd_ne h1, upd_ne h1]
theorem ex2_of {k : Nat} {f C : Addr} {x qual : Str} {st : Stmt} {fd : FuncData} {n1 n2 : Str} {v1 v2 : Expr} {vr : List Expr} {q p0 p1 p2 p3 p4 a0 a1 a2 a3 b0 b1 b2 b3 : Pos} {ar : Arg}
    (Fn : FunS K P x qual st f fd C) (S : ScS ["self", n1, n2] (defScope st)) (U : SupC K P mg C) (O : OexC K C) (hno : PySem.W.findIn K (.ref C) n1 = some none) (hno2 : PySem.W.findIn K (.ref C) n2 = some none)
    (hb : defBody st = .Expr (.Call (.Attribute (.Call (.Name "super" p0) [] [] p1) "__init__" p2) [.JoinedStr (v1 :: v2 :: vr) q] [] p3) p4 :: [.Assign [.Attribute (.Name "self" a0) n1 a1] (.Name n1 a2) a3, .Assign [.Attribute (.Name "self" b0) n2 b1] (.Name n2 b2) b3])
    (TX : TxS qual (defScope st) (.JoinedStr (v1 :: v2 :: vr) q) p0 p1 p2 p3 p4) (har : ((defArgs st).posonlyargs ++ (defArgs st).args).head? = some ar) (hself : ar.arg = "self")
    (hp : FPs [n1, n2] (v1 :: v2 :: vr)) (hlen : Nat.ble (v1 :: v2 :: vr).length 8 = true) (as1 : AsOk qual (defScope st) n1 a0 a1 a2 a3) (as2 : AsOk qual (defScope st) n2 b0 b1 b2 b3)
    (g1 : (n1 == ("__debug__" : Str)) = false) (g2 : (n1 == ("__classdict__" : Str)) = false) (g3 : (n2 == ("__debug__" : Str)) = false) (g4 : (n2 == ("__classdict__" : Str)) = false) :
    FnOk P w K mg base CX0 (k + 1) f fd ["self", n1, n2] (spE C [n1, n2]) := by
  refine fnS_of Fn S U O hb TX har (by rw [hself]; rfl) spE_len fun cda cc A outer s H vs Q E h => ?_
  obtain ⟨a, fs, rfl, hl, hok, ha, hq⟩ := h
  have hv : ∀ x ∈ [n1, n2], Vis (defScope st) x := fun y hy => .inl (S.par y (List.mem_cons_of_mem _ hy))
  obtain ⟨ts, hts, kts⟩ := fps_run (X := cxS P w K mg base ["self", n1, n2] qual (defScope st) f (.ref cda) cc A outer s H) (ns := [n1, n2]) rfl hv hl hok hp
  match fs, hl with
  | [f1, f2], _ =>
    have hps := pss_cons (ps_ost (X := cxS P w K mg base ["self", n1, n2] qual (defScope st) f (.ref cda) cc A outer s H) (o := .Name "self" a0) (p' := a1) (f := n1) (e := .Name n1 a2) (pos := a3) (pe_var (i := 0) rfl (.inl (S.par _ List.mem_cons_self)) (by decide) (by decide)) (pe_var (i := 1) rfl (hv n1 List.mem_cons_self) g1 g2) (as1 ..))
      (pss_one (ps_ost (X := cxS P w K mg base ["self", n1, n2] qual (defScope st) f (.ref cda) cc A outer s H) (o := .Name "self" b0) (p' := b1) (f := n2) (e := .Name n2 b2) (pos := b3) (pe_var (i := 0) rfl (.inl (S.par _ List.mem_cons_self)) (by decide) (by decide)) (pe_var (i := 2) rfl (hv n2 (List.mem_cons_of_mem _ List.mem_cons_self)) g3 g4) (as2 ..)))
    refine ⟨a, [f1.v, f2.v], _, _, rfl, ha, pa_cons (pe_joined hts) pa_nil (TX.st ..), kts _ _ _ _ hd_start ?_ (fun out => ⟨rfl, Nat.le_of_ble_eq_true rfl⟩), hps, ?_⟩
    · have := Nat.le_of_ble_eq_true hlen
      rw [sizeLine_eq]
      show 0 + _ ≤ _
      omega
    refine ⟨f1.v, rfl, .ref a, rfl, a, C, rfl, O, hno, .inl ⟨ha, fun dx hd hda => ?_⟩⟩
    refine ⟨f2.v, rfl, .ref a, rfl, a, C, rfl, O, hno2, .inr ⟨dx, [(n1, f1.v)], upd_same, by rw [upd_ne hda, upd_same], by simp, ?_⟩⟩
    have z := hq dx hd hda
    show Q .non _
    rw [upd_twice hda]
    exact z
end
end Ty

/-! Ty19 -/
namespace Ty
open PySem PySem.Spec L2
open PyProof.Rows
def XF.slot : XF → Slot
  | .i n => vInt n
  | .s x => vStr x
theorem XF.of_slot {F H : Hp} : ∀ {fs : List XF} {fp : List Addr} {vs : List V}, Slots F H fp (vs.map some) (fs.map XF.slot) → vs = fs.map XF.v ∧ fp = []
  | [], _, [], S => by cases S; exact ⟨rfl, rfl⟩
  | [], _, _ :: _, S => by have e := S.length; simp at e
  | _ :: _, _, [], S => by have e := S.length; simp at e
  | f :: fs, _, v :: vs, S => by
    obtain ⟨f1, f2, rfl, h1, h2⟩ := S.cons_inv
    obtain ⟨rfl, rfl⟩ := XF.of_slot h2
    cases f with
    | i n =>
      obtain ⟨rfl, w, e, r⟩ := h1
      cases e; cases r; exact ⟨rfl, rfl⟩
    | s n =>
      obtain ⟨rfl, w, e, r⟩ := h1
      cases e; cases r; exact ⟨rfl, rfl⟩
/-- an error of the class at C with these fields: how it is told -/
def exFd (C : Addr) (ns : List Str) (e : Exn) (cls : Value) (d : Option Addr) (F : Hp) : Prop := cls = .ref C ∧ ∃ dd, d = some dd ∧ F dd = some (.xd (xfd ns e.2))
section
variable {P : Program} {w : World} {K : PySem.W.Frag} {mg : Str → Option Value} {base : Heap} {k : Nat}
variable {Y : Fa P w K mg base k} {i : Y.I} {e ea eb eo ev tg iter elt : Expr} {es ifs : List Expr} {rest body suite : List Stmt} {b₀ : Stmt} {Γ Γ' Γ1 Γ2 Γh Δ Δ' As : List Slot} {a b c r s s' : Slot} {pos pos' np : Pos} {B : Bs} {D : Ends} {x n f : Str} {p' : Pos} {C : Addr} {EX : ExT} {ex : Exn}
/-- raise C(e, ..), C an error with fields -/
theorem xm_init {ns : List Str} {fs : List XF} {args : List Slot} {fI : Addr} {fd : FuncData} {j : Nat} (O : OexC K C) (iC : PySem.W.findIn K (.ref C) "__init__" = some (some (.ref fI))) (tI : PySem.W.typeIn K (.ref fI) = some (.type "function"))
    (Fn : FnOk P w K mg base CX0 j fI fd ("self" :: ns) (spE C ns)) (hj : j + 1 ≤ k) (hb : Binds K fd ("self" :: ns) []) (hm : mg x = some (.ref C)) (ha : XA Y (e :: es) Γ args) (hargs : args = fs.map XF.slot) (hl : fs.length = ns.length) (hok : ∀ f ∈ fs, f.ok)
    (hE : ∀ dd F, F dd = some (.xd (xfd ns fs)) → EX ex (.ref C) (some dd) F)
    (hg : ∀ i, Gl (Y.X i) x := by intro _; rfl) (hdb : (x == ("__debug__" : Str)) = false := by decide) (hnl : Nat.blt ns.length 900 = true := by rfl)
    (he : ∀ i, starEach (e :: es) (Y.X i).env = (false, eval e (Y.X i).env) :: starEach es (Y.X i).env := by intro _; rfl) (hpl : ∀ i, (backTo pos (starEach es (Y.X i).env)).any (·.1) = false := by intro _; rfl) (hcm : Y.cm = true := by rfl) : XMk Y (.Call (.Name x p') (e :: es) [] pos) Γ EX ex := by
  subst hargs
  obtain ⟨t, pa, rd⟩ := ha
  have FF : ∀ i, FnOk (Y.X i).prog (Y.X i).w (Y.X i).K (Y.X i).mg (Y.X i).base CX0 j fI fd ("self" :: ns) (spE C ns) := fun i => by rw [Y.hP i, Y.hw i, Y.hK i, Y.hM i, Y.hB i]; exact Fn
  refine ⟨_, fun i => pmk_oex (by rw [Y.hK i]; exact O) (by rw [Y.hK i]; exact iC) (by rw [Y.hK i]; exact tI) (FF i) ((Y.hR hcm i).mono hj) (by rw [Y.hK i]; exact hb) .nil pass0 (hg i) (by rw [Y.hM i]; exact hm) (pa i) hdb (he i) (hpl i), fun B F H os σ Q I kk => ?_⟩
  refine rd B F H os σ _ I fun vs F1 H1 fp f1 e1 W1 S1 => ?_
  obtain ⟨rfl, rfl⟩ := XF.of_slot S1
  have hlen : (fs.map XF.v).length ≤ 1000 := by
    have := Nat.le_of_ble_eq_true hnl
    rw [List.length_map]; omega
  refine ⟨hlen, fun a hn => ?_⟩
  refine ⟨a, fs, by rw [List.append_nil], hl, hok, upd_same, fun dx hd hda => ⟨rfl, dx, xfd ns fs, upd_same, by rw [upd_ne hda, upd_same], by rw [upd_ne hda] at hd; exact hd, ?_⟩⟩
  have hd1 : H1 dx = none := by rw [upd_ne hda] at hd; exact hd
  have eq : upd (del (upd (upd (upd H1 a (exo a C none)) dx (exd dx (xfd ns fs))) a (exo a C (some dx))) a) dx (.xd (xfd ns fs)) = upd H1 dx (.xd (xfd ns fs)) := funext fun b => by
    by_cases h1 : b = dx
    · subst h1; rw [upd_same, upd_same]
    · rw [upd_ne h1, upd_ne h1]
      by_cases h2 : b = a
      · subst h2; rw [del_same]; exact hn.symm
      · rw [del_ne h2, upd_ne h2, upd_ne h1, upd_ne h2]
  rw [eq]
  have W2 := W1.newF (o := .xd (xfd ns fs)) hd1
  exact kk _ _ _ _ [] (f1.trans (same_upd (W1.free hd1).1)) (e1.trans (same_upd hd1)) W2 (hE dx _ upd_same)
/-- what a suite holds: an error with a dict -/
def pExc (a dd : Addr) (fs : List (Str × V)) : VP Unit := ⟨fun F v _ => v = .ref a ∧ F dd = some (.xd fs), fun hF h => ⟨h.1, hF _ _ h.2⟩⟩
/-- n.f in the suite -/
theorem x_efld {α : Type} {p : VP α} {u : α} {ad dd : Addr} {fs : List (Str × V)} {v : V} (T : XfC K C) (hno : PySem.W.findIn K (.ref C) n = some none) (h1 : XV (Y.suite ad (.ref C) (some dd)) e Γ (val (pExc ad dd fs) ())) (hl : fs.lookup n = some v) (hp : ∀ F, p.R F v u)
    (hb : ∀ i, attributeBase e n ((Y.suite ad (.ref C) (some dd)).X i).env (eval e ((Y.suite ad (.ref C) (some dd)).X i).env) = eval e ((Y.suite ad (.ref C) (some dd)).X i).env := by intro _; rfl) : XV (Y.suite ad (.ref C) (some dd)) (.Attribute e n pos) Γ (val p u) := by
  obtain ⟨t, pe, rd⟩ := h1
  refine ⟨_, fun j => pe_xf (X := Y.X j.1.1) (a := ad) (cls := .ref C) (d := some dd) (oe := j.1.2.1) (pn := j.1.2.2) (by rw [Y.hK]; exact T) (by rw [Y.hK]; exact hno) j.2.1 j.2.2 (pe j) (hb j), fun B F H os σ Q I kk => ?_⟩
  refine rd B F H os σ _ I fun x F1 H1 fp f1 e1 W1 p1 => ?_
  obtain ⟨rfl, r1, r2⟩ := val_P p1
  exact ⟨r1, rfl, dd, fs, v, rfl, W1.sub _ _ r2, hl, kk v F1 H1 [] f1 e1 W1.drop ⟨rfl, v, rfl, hp F1⟩⟩
/-- isinstance(n, c) in the suite, n with a dict -/
def rIsD (K : PySem.W.Frag) (Dc a dd : Addr) : List V → Hp → VK → Prop := fun xs H Q => ∃ (c : V) (cv : Value) (b : Bool) (fs : List (Str × V)), xs = [.ref a, c] ∧ (∀ u, RelV c u → u = cv) ∧ PySem.W.kitOne K (.ref Dc) cv = some b ∧ H dd = some (.xd fs) ∧ Q (.bl b) H
theorem call_isD {X : Cx} {a Dc dd : Addr} {oe : Obj} {pn : List (Addr × Obj)} (T : ExcC X.K Dc) (hz : Zc (.ref Dc) (some dd) oe) (hf : ∃ vs, oe.data = .fields vs) : CallR (X.suite a ((a, oe) :: pn)) (.builtin "isinstance") (rIsD X.K Dc a dd) := by
  intro pins s σ H xs us Q I r h
  obtain ⟨c, cv, b, fs, rfl, hcv, e, hdd, q⟩ := h
  match us, r with
  | [_, _], .cons rx (.cons rt .nil) =>
    cases rx
    have ec := hcv _ rt
    subst ec
    obtain ⟨hget, _⟩ := I.pin (a, oe) (List.mem_append.mpr (.inl List.mem_cons_self))
    obtain ⟨vs, hv⟩ := hf
    have hx : ObjOk X.prog X.w H s.heap dd (.xd fs) := I.hok dd _ hdd
    obtain ⟨mA, hns, _⟩ := hx
    obtain ⟨od, ho, _⟩ := lookIn_ns hns
    have J : PySem.W.InstAt s.heap a oe Dc (some od) := ⟨hget, hz.1, by unfold PySem.W.notCls; rw [hv] <;> rfl, by rw [hz.2]; exact ho⟩
    have hcl : (PySem.W.clsIn X.K Dc).isSome = true := by
      have z := T.hd
      unfold PySem.W.hasDictIn at z
      cases hq : PySem.W.clsIn X.K Dc with
      | none => rw [hq] at z; simp at z
      | some _ => rfl
    exact PySem.W.kia_one (PySem.W.kitx_exc hcl T.hg T.hk T.hs T.ha T.hn T.ht T.hm) I.kIn J e (fun z => nomatch z) fun tk => ⟨.bl b, H, I.kept (t' := tk) fun _ _ z => z, rfl, q⟩
theorem x_isED {ad dd Dc : Addr} {fs : List (Str × V)} {α : Type} {q : VP α} {u : α} {cv : Value} {b : Bool} (hm : mg "isinstance" = none) (hE : ExcC K Dc) (hk : PySem.W.kitOne K (.ref Dc) cv = some b) (h1 : XV (Y.suite ad (.ref Dc) (some dd)) ea Γ (val (pExc ad dd fs) ())) (h2 : XV (Y.suite ad (.ref Dc) (some dd)) eb Γ (val q u)) (hq : ∀ F v, q.R F v u → ∀ z, RelV v z → z = cv)
    (hg : ∀ i, Gl ((Y.suite ad (.ref Dc) (some dd)).X i) "isinstance" := by intro _; rfl)
    (hs2 : ∀ i, starEach [eb] ((Y.suite ad (.ref Dc) (some dd)).X i).env = (false, eval eb ((Y.suite ad (.ref Dc) (some dd)).X i).env) :: starEach [] ((Y.suite ad (.ref Dc) (some dd)).X i).env := by intro _; rfl)
    (hs : ∀ i, starEach [ea, eb] ((Y.suite ad (.ref Dc) (some dd)).X i).env = (false, eval ea ((Y.suite ad (.ref Dc) (some dd)).X i).env) :: starEach [eb] ((Y.suite ad (.ref Dc) (some dd)).X i).env := by intro _; rfl)
    (hpl : ∀ i, (backTo pos (starEach [eb] ((Y.suite ad (.ref Dc) (some dd)).X i).env)).any (·.1) = false := by intro _; rfl) : XV (Y.suite ad (.ref Dc) (some dd)) (.Call (.Name "isinstance" p') [ea, eb] [] pos) Γ (vBl b) := by
  have hc : ∀ j, CallR ((Y.suite ad (.ref Dc) (some dd)).X j) (.builtin "isinstance") (rIsD K Dc ad dd) := fun j => by
    have h := call_isD (X := Y.X j.1.1) (a := ad) (Dc := Dc) (dd := dd) (pn := j.1.2.2) (by rw [Y.hK]; exact hE) j.2.1 j.2.2
    rw [Y.hK] at h
    exact h
  refine x_callB hc hm (by decide +kernel) (c := vBl b) (opA2 fun B F H x y fx fy os Q W p1 p2 kk => ?_) (xa2 h1 h2 hs2 hs) hg (he := hs) (hpl := hpl)
  obtain ⟨_, r1, r3⟩ := val_P p1
  obtain ⟨_, r2⟩ := val_P p2
  cases r1
  exact ⟨y, cv, b, fs, rfl, hq F y r2, hk, W.sub _ _ r3, kk _ F H [] same_refl same_refl W.drop.drop ⟨rfl, _, rfl, rfl⟩⟩
theorem pRef_is {C : Addr} : ∀ (F : Hp) v, (pRef C).R F v () → ∀ z, RelV v z → z = .ref C := fun F v h z r => by cases h; exact r
end
end Ty

/-! Ty20 -/
/-! expressions that change a place: xs.pop(), xs.pop(i); xs.extend(ys), xs.index(x); an owned local handed on; properties -/
namespace Ty
open PySem PySem.Spec L2
section
variable {P : Program} {w : World} {K : PySem.W.Frag} {mg : Str → Option Value} {base : Heap} {k : Nat}
variable {Y : Fa P w K mg base k} {i : Y.I} {e ea eb eo ev tg iter elt : Expr} {es ifs : List Expr} {rest body : List Stmt} {Γ Γ' Γ1 Γ2 Δ Δ' As : List Slot} {a b c r s s' : Slot} {pos pos' : Pos} {B : Bs} {D : Ends} {x f : Str} {p' : Pos} {C : Addr} {ns : List Str} {α : Type} {p : VP α} {xs : List α}
/-- e gives a value told by r and leads from Γ to Γ' -/
def XM (Y : Fa P w K mg base k) (e : Expr) (Γ : List Slot) (r : Slot) (Γ' : List Slot) : Prop :=
  ∃ t : TE, (∀ i, PE (Y.X i) e t) ∧ ∀ (B : Bs) (F H : Hp) (os : List Addr) (σ : List (Option V)) (Q : VK), Wo B F H os → Slots F H os σ Γ →
    (∀ v F' H' fp os', Wo B F' H' (fp ++ os') → Slots F' H' os' σ Γ' → r.P F' H' fp (some v) → Q v H') → t σ H Q
theorem XM.of (h : XV Y e Γ r) : XM Y e Γ r Γ := by
  obtain ⟨t, p, rd⟩ := h
  exact ⟨t, p, fun B F H os σ Q W S kk => rd B F H os σ Q (Sta.in W S) fun v F' H' fp f1 e1 W1 p1 => kk v F' H' fp os W1 (S.mono f1 e1) p1⟩
theorem go_setM (j : Nat) {py : Pos} (he : XM Y e Γ r Γ') (hg : Go Y i rest D B (Γ'.set j r)) (hj : Nat.blt j Γ'.length = true := by rfl) (hi : (Y.X i).N[j]? = some x := by rfl) (hx : Loc (Y.X i).env.scope x := by first | exact Or.inl rfl | exact Or.inr rfl)
    (hs : swapsWith e (some (.Name x py)) pos.line (Y.X i).env = pure false := by rfl) (hf : (Y.X i).fn x = true ∨ (Y.X i).env.scope.names.lookup x = some .local := by first | exact Or.inl rfl | exact Or.inr rfl) : Go Y i (.Assign [.Name x py] e pos :: rest) D B Γ := by
  obtain ⟨t, p, rd⟩ := he
  refine go_ps (ps_set (Y.hN i) hi hx (p i) hs hf) fun F H σ ⟨os, W, S⟩ => ?_
  refine rd B F H os σ _ W S fun v F1 H1 fp os1 W1 S1 p1 => ?_
  obtain ⟨os', d, h1, h2⟩ := S1.put p1 (Nat.le_of_ble_eq_true hj)
  exact hg F1 H1 _ ⟨os', (W1.perm h2).drop, h1⟩
/-- target = e -/
theorem go_asgM {ws : List Nat} (he : XM Y e Γ r Γ1) (ht : XG Y tg ws r Γ1 Γ') (hg : Go Y i rest D B Γ') (hs : swapsWithSole [tg] e pos.line (Y.X i).env = pure false := by rfl) (hw : swappedStores [tg] e (Y.X i).env = pure none := by rfl) (h1 : (assignEach [tg] (Y.X i).env).map (·.2) = [assign tg (Y.X i).env] := by rfl) :
    Go Y i (.Assign [tg] e pos :: rest) D B Γ := by
  obtain ⟨t, p, rd⟩ := he
  obtain ⟨_, g, hp, rg⟩ := ht
  refine go_ps (ps_asg (p i) (hp i) hs hw h1) fun F H σ ⟨os, W, S⟩ => ?_
  refine rd B F H os σ _ W S fun v F1 H1 fp os1 W1 S1 p1 => ?_
  exact rg F1 H1 fp os1 σ v _ W1.sub p1 S1 fun σ' os' d _ hpm S2 => hg F1 H1 σ' ⟨os', (W1.perm hpm).drop, S2⟩
/-- e as a statement -/
theorem go_exprM (he : XM Y e Γ r Γ') (hg : Go Y i rest D B Γ') (hs : swapsWith e none pos.line (Y.X i).env = pure false := by rfl) : Go Y i (.Expr e pos :: rest) D B Γ := by
  obtain ⟨t, p, rd⟩ := he
  refine go_ps (ps_expr (p i) hs) fun F H σ ⟨os, W, S⟩ => ?_
  exact rd B F H os σ _ W S fun v F1 H1 fp os1 W1 S1 p1 => hg F1 H1 σ ⟨os1, W1.drop, S1⟩
/-- what must be seen of the text of a call o.m() -/
structure Bm0 (X : Cx) (o : Expr) (name : Str) (apos cpos : Pos) : Prop where
  base : attributeBase o name X.env (eval o X.env) = eval o X.env
  line : (apos.endLine == cpos.line) = true
/-- xs.append(e), xs a name, e an expression that changes another place -/
theorem go_appM (j : Nat) {apos cpos p0 : Pos} {u : α} (he : XM Y e Γ (val p u) Γ1) (hs0 : Γ[j]? = some (own (oL p) xs)) (hs1 : Γ1[j]? = some (own (oL p) xs)) (hz : xs.length < sizeLine) (hst : Stb Γ1) (hg : Go Y i rest D B (Γ1.set j (own (oL p) (xs ++ [u]))))
    (hN : ∀ i, (Y.X i).N[j]? = some x := by intro _; rfl) (hv : Vis (Y.X i).env.scope x := by first | exact Or.inl rfl | exact Or.inr (Or.inl rfl)) (hb : Bm1 (Y.X i) (.Name x p0) "append" apos e cpos := by exact ⟨rfl, rfl, rfl, rfl, rfl⟩)
    (hd : (x == ("__debug__" : Str)) = false := by decide) (hcd : (x == ("__classdict__" : Str)) = false := by decide)
    (hs : swapsWith (.Call (.Attribute (.Name x p0) "append" apos) [e] [] cpos) none pos.line (Y.X i).env = pure false := by rfl) : Go Y i (.Expr (.Call (.Attribute (.Name x p0) "append" apos) [e] [] cpos) pos :: rest) D B Γ := by
  obtain ⟨t2, pe2, rd2⟩ := he
  refine go_ps (ps_expr (pe_bm PySem.F.plainAttrs_list PySem.F.slot_list_append PySem.F.type_list_append mt_append (pe_var (hN i) hv hd hcd) (pa_cons (pe2 i) pa_nil hb.st) hb.base hb.few hb.line hb.st hb.pl) hs) fun F H σ ⟨os, W, S⟩ => ?_
  obtain ⟨o, fp, rr, e1, h0, hp, _⟩ := S.at hs0
  obtain ⟨v0, ev, l, vs, el, ef, h1, h2⟩ := h0
  subst ev; subst el
  refine ⟨.ref l, e1, .inl ⟨rfl, vs, SqL.of h1⟩, ?_⟩
  refine rd2 B F H os σ _ W S fun y F1 H1 fy os1 W1 S1 p1 => ?_
  obtain ⟨o', fp', rr', e1', h0', hp', hk'⟩ := S1.at hs1
  obtain ⟨v1, ev1, l1, vs1, el1, ef1, g1, g2⟩ := h0'
  rw [e1] at e1'
  cases e1'; cases ev1; cases el1; subst ef1
  obtain ⟨rfl, ry⟩ := val_P p1
  refine ⟨l, vs1, y, rfl, rfl, g1, by rw [Paired.length g2]; exact hz, ?_⟩
  have W2 : Wo B F1 H1 ([l] ++ rr') := Wo.perm W1 hp'
  have nr : ∀ q ∈ rr', q ≠ l := fun q hq z => (List.nodup_append.mp W2.nd).2.2 l (by simp) q hq z.symm
  obtain ⟨os2, S2, hp2⟩ := hk' (F' := F1) (H' := upd H1 l (.lst (vs1 ++ [y]))) (fp' := [l]) (o' := some (.ref l)) (s' := own (oL p) (xs ++ [u])) ⟨_, rfl, l, _, rfl, rfl, upd_same, Paired.app g2 (.cons ry .nil)⟩ (fun s0 hs0 fp0 o0 hf q => s0.mm (hst s0 hs0) same_refl (fun z hz => upd_ne (nr z (hf z hz))) q)
  have es : σ.set j (some (.ref l)) = σ := by
    obtain ⟨hj, z⟩ := List.getElem?_eq_some_iff.mp e1
    rw [← z]; exact List.set_getElem_self hj
  rw [es] at S2
  exact hg F1 _ σ ⟨os2, (W2.write (by simp)).perm hp2.symm, S2⟩
/-- an owned local handed back -/
theorem go_retV (j : Nat) (hs : Γ[j]? = some s) (hso : ∀ F H fp o, s.P F H fp o → ∃ v, o = some v) (hd : ∀ v H, Fi B s v H → D.rt v H) (hN : ∀ i, (Y.X i).N[j]? = some x := by intro _; rfl) (hv : Vis (Y.X i).env.scope x := by first | exact Or.inl rfl | exact Or.inr (Or.inl rfl))
    (hdb : (x == ("__debug__" : Str)) = false := by decide) (hcd : (x == ("__classdict__" : Str)) = false := by decide) : Go Y i (.Return (some (.Name x p')) pos :: rest) D B Γ := by
  refine go_ps (ps_ret (pe_var (hN i) hv hdb hcd)) fun F H σ ⟨os, W, S⟩ => ?_
  obtain ⟨o, fp, rr, e1, h0, hp, _⟩ := S.at hs
  obtain ⟨v, rfl⟩ := hso F H fp o h0
  exact ⟨v, e1, hd v H ⟨F, fp, (W.perm hp).dropR, h0⟩⟩
/-- xs.extend(ys), ys a list -/
theorem go_extend {up : Slot → List Slot} {apos cpos : Pos} {ys : List α} (ho : PL Y eo Γ (own (oL p) xs) up) (he : XV Y e Γ s) (hs' : LV s p ys) (hz : xs.length + ys.length ≤ sizeLine) (hg : Go Y i rest D B (up (own (oL p) (xs ++ ys))))
    (hb : Bm1 (Y.X i) eo "extend" apos e cpos := by exact ⟨rfl, rfl, rfl, rfl, rfl⟩)
    (hs : swapsWith (.Call (.Attribute eo "extend" apos) [e] [] cpos) none pos.line (Y.X i).env = pure false := by rfl) : Go Y i (.Expr (.Call (.Attribute eo "extend" apos) [e] [] cpos) pos :: rest) D B Γ := by
  obtain ⟨t, Pv, pe, pst, rd, up'⟩ := ho
  obtain ⟨t2, pe2, rd2⟩ := he
  refine go_ps (ps_expr (pe_bm PySem.F.plainAttrs_list PySem.F.slot_list_extend PySem.F.type_list_extend mt_extend (pe i) (pa_cons (pe2 i) pa_nil hb.st) hb.base hb.few hb.line hb.st hb.pl) hs) fun F H σ ⟨os, W, S⟩ => ?_
  refine rd B F H os σ _ (Sta.in W S) fun v hv => ?_
  obtain ⟨fp, rr, hr, hp, _⟩ := up' F H os σ v S hv
  obtain ⟨v0, ev, l, vs, el, ef, h1, h2⟩ := hp
  cases ev; subst el; subst ef
  refine ⟨.inl ⟨rfl, vs, SqL.of h1⟩, rd2 B F H os σ _ (Sta.in W S) fun y F1 H1 fy f1 e1 W1 p1 => ?_⟩
  obtain ⟨fp1, r1, hr1, hp1, kk1⟩ := up' F1 H1 os σ _ (S.mono f1 e1) (pst _ _ _ _ e1 hv)
  obtain ⟨v1, ev1, l1, vs1, el1, ef1, g1, g2⟩ := hp1
  cases ev1; cases el1; subst ef1
  obtain ⟨m, ws, ey, k1, k2⟩ := hs' F1 H1 fy _ W1.sub p1
  cases ey
  refine ⟨l, m, vs1, ws, rfl, rfl, g1, k1, by rw [Paired.length g2, Paired.length k2]; exact hz, ?_⟩
  exact hg F1 _ σ (pl_write W1 hr1 ⟨_, rfl, l, _, rfl, rfl, upd_same, Paired.app g2 k2⟩ kk1)
/-- the first place of u -/
def idxL [DecidableEq α] (xs : List α) (u : α) : Option Nat := xs.findIdx? fun x => decide (x = u)
end
end Ty

/-! Ty21 -/
/-! min(xs), max(xs), min(xs, default=d), max(xs, default=d) of a list of ints -/
namespace Ty
open PySem PySem.Spec L2
open PyProof.Rows

section
variable {prog : Program} {w : World} {A : Around} {E : Value → Shared → Prop} {R : Result → Shared → Prop} {it0 : Addr} {fps wrs : List Addr} {cnt : Nat} {Pi : Nat → Value → Prop} {Si : Nat → Heap → Prop} {kws : List (Str × Value)}
end

section
variable {prog : Program} {w : World} {A : Around} {E : Value → Shared → Prop} {R : Result → Shared → Prop} {it0 : Addr} {fps wrs : List Addr} {cnt : Nat} {Pi : Nat → Value → Prop} {Si : Nat → Heap → Prop} {kws : List (Str × Value)}
end
end Ty

/-! Ty22 -/
namespace Ty
open PySem PySem.Spec L2
def mnL : List Int → Option Int
  | [] => none
  | x :: r => some (r.foldl (fun a b => if b < a then b else a) x)
def mxL : List Int → Option Int
  | [] => none
  | x :: r => some (r.foldl (fun a b => if a < b then b else a) x)
/-- the readings -/
def rMnD (K : PySem.W.Frag) : List V → List V → Hp → VK → Prop := fun vs zs H Q => ∃ (a : Addr) (ns : List Int) (d : V), vs = [V.ref a] ∧ zs = [d] ∧ SqL K H a (ns.map V.int) ∧ (ns = [] → Q d H) ∧ ∀ m, mnL ns = some m → Q (.int m) H
def rMxD (K : PySem.W.Frag) : List V → List V → Hp → VK → Prop := fun vs zs H Q => ∃ (a : Addr) (ns : List Int) (d : V), vs = [V.ref a] ∧ zs = [d] ∧ SqL K H a (ns.map V.int) ∧ (ns = [] → Q d H) ∧ ∀ m, mxL ns = some m → Q (.int m) H
section
variable {X : Cx}
end
section
variable {P : Program} {w : World} {K : PySem.W.Frag} {mg : Str → Option Value} {base : Heap} {k : Nat}
variable {Y : Fa P w K mg base k} {i : Y.I} {e ea eb eo ev tg iter elt : Expr} {es ifs : List Expr} {rest body : List Stmt} {Γ Γ' Γ1 Γ2 Δ Δ' As : List Slot} {a b c r s s' : Slot} {pos pos' kpos p2 : Pos} {B : Bs} {D : Ends} {x f : Str} {p' : Pos} {C : Addr} {ns : List Int} {α : Type} {p : VP α} {xs : List α}
/-! ### slices -/
def cutL (xs : List α) (lo hi : Option Int) : List α := (xs.drop (HT.sIx xs.length 0 lo)).take (HT.sIx xs.length xs.length hi - HT.sIx xs.length 0 lo)
def XO (Y : Fa P w K mg base k) (e : Option Expr) (Γ : List Slot) (o : Option Int) : Prop :=
  ∃ t : TO, (∀ i, PO (Y.X i) e t) ∧ ∀ (B : Bs) (F H : Hp) (os : List Addr) (σ : List (Option V)) (Q : Option Int → Hp → Prop), In B F H os σ Γ → (∀ F' H', Same F F' → Same H H' → Wo B F' H' os → Q o H') → t σ H Q
theorem xo_none : XO Y none Γ none := ⟨_, fun _ => po_none, fun B F H os σ Q I q => q F H same_refl same_refl I.W⟩
theorem xo_some {z : Int} (h : XV Y e Γ (vInt z)) : XO Y (some e) Γ (some z) := by
  obtain ⟨t, p, rd⟩ := h
  refine ⟨_, fun i => po_some (p i), fun B F H os σ Q I q => ?_⟩
  refine rd B F H os σ _ I fun v F1 H1 fp f1 e1 W1 p1 => ?_
  obtain ⟨rfl, rv⟩ := val_P p1
  cases rv
  exact ⟨z, rfl, q F1 H1 f1 e1 W1⟩
theorem paired_cut {β γ : Type} {G : β → γ → Prop} : ∀ {xs : List β} {ys : List γ} (m n : Nat), Paired G xs ys → Paired G ((xs.drop m).take n) ((ys.drop m).take n)
  | _, _, m, n, .nil => by simp only [List.drop_nil, List.take_nil]; exact .nil
  | _ :: xs, _ :: ys, 0, 0, .cons r t => by simp only [List.take_zero]; exact .nil
  | _ :: xs, _ :: ys, 0, n + 1, .cons r t => by
    have h := paired_cut 0 n t
    rw [List.drop_zero, List.drop_zero] at h
    exact .cons r h
  | _ :: xs, _ :: ys, m + 1, n, .cons r t => paired_cut m n t
theorem x_slc {lo hi : Option Expr} {l h' : Option Int} (he : XV Y e Γ s) (hs : SV K s p xs) (hl : XO Y lo Γ l) (hh : XO Y hi Γ h') : XV Y (.Subscript e (.Slice lo hi none p2) pos) Γ (own (oL p) (cutL xs l h')) := by
  obtain ⟨t, pe, rd⟩ := he
  obtain ⟨tl, pl, rdl⟩ := hl
  obtain ⟨th, ph, rdh⟩ := hh
  refine ⟨_, fun i => pe_slice (by have z := sl_list (X := Y.X i); rw [Y.hK i] at z; exact z) (pe i) (pl i) (ph i), fun B F H os σ Q I q => ?_⟩
  refine rd B F H os σ _ I fun v F1 H1 fp f1 e1 W1 p1 => ?_
  refine rdl B F1 H1 _ σ _ (I.step f1 e1 W1) fun F2 H2 f2 e2 W2 => ?_
  refine rdh B F2 H2 _ σ _ ((I.step f1 e1 W1).step0 f2 e2 W2) fun F3 H3 f3 e3 W3 => ?_
  obtain ⟨a, vs, ev, h1, h2⟩ := hs F3 H3 fp _ W3.sub (s.mono (f2.trans f3) (e2.trans e3) p1)
  cases ev
  refine ⟨a, vs, rfl, h1, fun n hn => ?_⟩
  refine q _ F3 _ [n] ((f1.trans f2).trans f3) (((e1.trans e2).trans e3).trans (same_upd hn)) (W3.drop.newO hn) ⟨_, rfl, n, _, rfl, rfl, upd_same, ?_⟩
  unfold cutV cutL
  rw [Paired.length h2]
  exact paired_cut _ _ h2
theorem x_slcS {lo hi : Option Expr} {l h' : Option Int} {z : Str} (he : XV Y e Γ (vStr z)) (hz : z.length ≤ sizeLine) (hl : XO Y lo Γ l) (hh : XO Y hi Γ h') : XV Y (.Subscript e (.Slice lo hi none p2) pos) Γ (vStr (cutS z l h')) := by
  obtain ⟨t, pe, rd⟩ := he
  obtain ⟨tl, pl, rdl⟩ := hl
  obtain ⟨th, ph, rdh⟩ := hh
  refine ⟨_, fun i => pe_slice (sl_str (X := Y.X i)) (pe i) (pl i) (ph i), fun B F H os σ Q I q => ?_⟩
  refine rd B F H os σ _ I fun v F1 H1 fp f1 e1 W1 p1 => ?_
  refine rdl B F1 H1 _ σ _ (I.step f1 e1 W1) fun F2 H2 f2 e2 W2 => ?_
  refine rdh B F2 H2 _ σ _ ((I.step f1 e1 W1).step0 f2 e2 W2) fun F3 H3 f3 e3 W3 => ?_
  obtain ⟨rfl, rv⟩ := val_P p1
  cases rv
  exact ⟨z, rfl, hz, q _ F3 H3 [] ((f1.trans f2).trans f3) ((e1.trans e2).trans e3) W3 ⟨rfl, _, rfl, rfl⟩⟩
/-! ### texts -/
theorem x_ixS {z : Str} {n : Int} {c : Nat} (ha : XV Y ea Γ (vStr z)) (hb : XV Y eb Γ (vInt n)) (hl : z.length ≤ sizeLine) (hz : atI z.cps.toList n = some c) (hx : PlainIx eb := by exact fun _ _ => rfl) : XV Y (.Subscript ea eb pos) Γ (vStr ⟨#[c]⟩) := by
  obtain ⟨ta, pa, ra⟩ := ha
  obtain ⟨tb, pb, rb⟩ := hb
  refine ⟨_, fun i => pe_ix (ix_str (X := Y.X i)) (pa i) (pb i) hx, fun B F H os σ Q I q => ?_⟩
  refine two (Q := fun _ _ => True) I ra rb fun x y F2 H2 fx fy f2 e2 W2 p1 p2 => ?_
  obtain rfl := vint p2
  obtain ⟨_, r1⟩ := val_P p1
  cases r1
  exact ⟨z, n, c, rfl, rfl, hl, hz, q _ F2 H2 [] f2 e2 W2.drop.drop ⟨rfl, _, rfl, rfl⟩⟩
theorem o_strI {n : Int} (h : n.natAbs < 2 ^ 64) : OpA (fun xs H Q => ∃ i : Int, xs = [.int i] ∧ i.natAbs.log2 < 1920 ∧ Q (.str (toString i)) H) [vInt n] (vStr (Str.ofString (toString n))) := opA1 fun B F H v fx os Q W pv q => by
  obtain ⟨_, r1⟩ := val_P pv
  cases r1
  exact ⟨n, rfl, Nat.lt_trans (log_small h) (by decide), q _ F H [] same_refl same_refl W.drop ⟨rfl, _, rfl, rfl⟩⟩
theorem o_addS {z y : Str} (h : z.length + y.length ≤ sizeLine) : Op2 (fun x y H Q => ∃ i j : Str, x = .str i ∧ y = .str j ∧ i.length + j.length ≤ sizeLine ∧ Q (.str (i ++ j)) H) (vStr z) (vStr y) (vStr (z ++ y)) := fun B F H x1 y1 fx fy os Q W p1 p2 q => by
  obtain ⟨_, r1⟩ := val_P p1
  obtain ⟨_, r2⟩ := val_P p2
  cases r1; cases r2
  exact ⟨z, y, rfl, rfl, h, q _ F H [] same_refl same_refl W.drop.drop ⟨rfl, _, rfl, rfl⟩⟩
end
end Ty

/-! Ty23 -/
namespace Ty
open PySem PySem.Spec L2
section
variable {P : Program} {w : World} {K : PySem.W.Frag} {mg : Str → Option Value} {base : Heap} {k : Nat}
variable {Y : Fa P w K mg base k} {i : Y.I} {e ea eb eo ev tg iter elt : Expr} {Γ Γ' : List Slot} {a b c r s s' : Slot} {pos p1 p2 : Pos}
end
/-! ### an error's fields read -/
def xfI (e : Exn) (n : Nat) : Option Int := match e.2[n]? with | some (.i z) => some z | _ => none
def xfS (e : Exn) (n : Nat) : Option Str := match e.2[n]? with | some (.s z) => some z | _ => none
theorem xfI_some {e : Exn} {n : Nat} {z : Int} (h : xfI e n = some z) : e.2[n]? = some (.i z) := by
  unfold xfI at h
  split at h
  · cases h; assumption
  · cases h
theorem xfS_some {e : Exn} {n : Nat} {z : Str} (h : xfS e n = some z) : e.2[n]? = some (.s z) := by
  unfold xfS at h
  split at h
  · cases h; assumption
  · cases h
theorem vzip_none {x : Str} : ∀ {P : List Str} {vs : List V}, x ∉ P → (P.zip vs).reverse.lookup x = none
  | [], _, _ => rfl
  | _ :: _, [], _ => rfl
  | p :: P, v :: vs, h => by
    have hp : (x == p) = false := by
      rw [beq_eq_false_iff_ne]
      exact fun z => h (by rw [z]; exact List.mem_cons_self)
    rw [List.zip_cons_cons, List.reverse_cons, List.lookup_append, vzip_none (fun z => h (List.mem_cons_of_mem _ z))]
    simp [List.lookup, hp]
theorem vzip_get {x : Str} {v : V} : ∀ {P : List Str} {vs : List V} {i : Nat}, P.Nodup → P[i]? = some x → vs[i]? = some v → (P.zip vs).reverse.lookup x = some v
  | [], _, _, _, h, _ => by simp at h
  | _ :: _, [], _, _, _, h => by simp at h
  | p :: P, w :: vs, 0, nd, h1, h2 => by
    simp at h1 h2; subst h1; subst h2
    rw [List.zip_cons_cons, List.reverse_cons, List.lookup_append, vzip_none (List.nodup_cons.mp nd).1]
    simp [List.lookup]
  | p :: P, w :: vs, i + 1, nd, h1, h2 => by
    rw [List.zip_cons_cons, List.reverse_cons, List.lookup_append, vzip_get (i := i) (List.nodup_cons.mp nd).2 (by simpa using h1) (by simpa using h2)]
    rfl
theorem xfd_I {ns : List Str} {e : Exn} {n : Nat} {z : Int} {x : Str} (h : xfI e n = some z) (hn : ns[n]? = some x) (nd : ns.Nodup := by decide) : (xfd ns e.2).lookup x = some (.int z) :=
  vzip_get nd hn (by rw [List.getElem?_map, xfI_some h]; rfl)
theorem xfd_S {ns : List Str} {e : Exn} {n : Nat} {z : Str} {x : Str} (h : xfS e n = some z) (hn : ns[n]? = some x) (nd : ns.Nodup := by decide) : (xfd ns e.2).lookup x = some (.str z) :=
  vzip_get nd hn (by rw [List.getElem?_map, xfS_some h]; rfl)
theorem xfC {K : PySem.W.Frag} {C : Addr} (h : ExcC K C) : XfC K C := ⟨h.hg, h.hk, h.hs, h.hd⟩
theorem ok1 {f : XF} (h : f.ok) : ∀ x ∈ [f], x.ok := fun x hx => by rw [List.mem_singleton.mp hx]; exact h
theorem ok2 {f g : XF} (h : f.ok) (h2 : g.ok) : ∀ x ∈ [f, g], x.ok := fun x hx => by
  rcases List.mem_cons.mp hx with rfl | hx
  · exact h
  · rw [List.mem_singleton.mp hx]; exact h2
end Ty
namespace Ty
open PySem PySem.Spec L2
section
variable {P : Program} {w : World} {K : PySem.W.Frag} {mg : Str → Option Value} {base : Heap} {k : Nat}
variable {Y : Fa P w K mg base k} {ev : Expr} {Γ : List Slot} {pos : Pos}
end
end Ty

/-! Ty24 -/
/-! owned things handed on: within displays, to a def that changes them; lists of things of several kinds; xs.insert; texts walked; pairs walked -/
namespace Ty
open PySem PySem.Spec L2
open PyProof.Rows (envOfC)
section
variable {P : Program} {w : World} {K : PySem.W.Frag} {mg : Str → Option Value} {base : Heap} {k : Nat}
variable {Y : Fa P w K mg base k} {i : Y.I} {e ea eb eo ev tg iter elt : Expr} {es ifs : List Expr} {rest body : List Stmt} {Γ Γ' Γ1 Γ2 Δ Δ' As : List Slot} {a b c r s s' : Slot} {pos pos' : Pos} {B : Bs} {D : Ends} {x f : Str} {p' p2 : Pos} {C : Addr} {ns : List Str} {α β : Type} {p : VP α} {q : VP β} {xs : List α}
/-! ### what may be handed on -/
def XN (Y : Fa P w K mg base k) (e : Expr) (Γ : List Slot) (r : Slot) (Γ' : List Slot) : Prop :=
  ∃ t : TE, (∀ i, PE (Y.X i) e t) ∧ ∀ (B : Bs) (F H : Hp) (os rr : List Addr) (σ : List (Option V)) (Q : VK), Wo B F H (rr ++ os) → Slots F H os σ Γ →
    (∀ v F' H' fp os', Same F F' → Same H H' → Wo B F' H' (fp ++ (rr ++ os')) → Slots F' H' os' σ Γ' → r.P F' H' fp (some v) → Q v H') → t σ H Q
def XNA (Y : Fa P w K mg base k) (es : List Expr) (Γ As Γ' : List Slot) : Prop :=
  ∃ t : TA, (∀ i, PA (Y.X i) es t) ∧ ∀ (B : Bs) (F H : Hp) (os rr : List Addr) (σ : List (Option V)) (Q : List V → Hp → Prop), Wo B F H (rr ++ os) → Slots F H os σ Γ →
    (∀ vs F' H' fp os', Same F F' → Same H H' → Wo B F' H' (fp ++ (rr ++ os')) → Slots F' H' os' σ Γ' → Slots F' H' fp (vs.map some) As → Q vs H') → t σ H Q
theorem XN.of (h : XV Y e Γ r) : XN Y e Γ r Γ := by
  obtain ⟨t, p, rd⟩ := h
  exact ⟨t, p, fun B F H os rr σ Q W S kk => rd B F H _ σ Q ⟨W, os, rr, List.perm_append_comm, S⟩ fun v F' H' fp f1 e1 W1 p1 => kk v F' H' fp os f1 e1 W1 (S.mono f1 e1) p1⟩
theorem XN.m (h : XN Y e Γ r Γ') : XM Y e Γ r Γ' := by
  obtain ⟨t, p, rd⟩ := h
  exact ⟨t, p, fun B F H os σ Q W S kk => rd B F H os [] σ Q W S fun v F' H' fp os' _ _ W1 S1 p1 => kk v F' H' fp os' W1 S1 p1⟩
theorem xn_move (j : Nat) (hs : Γ[j]? = some s) (hso : ∀ F H fp o, s.P F H fp o → ∃ v, o = some v) (hN : ∀ i, (Y.X i).N[j]? = some x := by intro _; rfl) (hv : ∀ i, Vis (Y.X i).env.scope x := by intro _; first | exact Or.inl rfl | exact Or.inr (Or.inl rfl) | exact Or.inr (Or.inr rfl))
    (hdb : (x == ("__debug__" : Str)) = false := by decide) (hcd : (x == ("__classdict__" : Str)) = false := by decide) : XN Y (.Name x pos) Γ s (Γ.set j dead) := by
  refine ⟨_, fun i => pe_var (hN i) (hv i) hdb hcd, fun B F H os rr σ Q W S kk => ?_⟩
  obtain ⟨o, fp, r, e1, h0, hp, hk⟩ := S.at hs
  obtain ⟨v, rfl⟩ := hso F H fp o h0
  refine ⟨v, e1, ?_⟩
  obtain ⟨os', S2, hp2⟩ := hk (F' := F) (H' := H) (fp' := []) (o' := some v) (s' := dead) rfl (fun _ _ _ _ _ q => q)
  have es : σ.set j (some v) = σ := by
    obtain ⟨hj, z⟩ := List.getElem?_eq_some_iff.mp e1
    rw [← z]; exact List.set_getElem_self hj
  rw [es] at S2
  refine kk v F H fp os' same_refl same_refl (W.perm ?_) S2 h0
  refine (List.Perm.append_left rr (hp.trans (List.Perm.append_left fp (by simpa using hp2.symm)))).trans ?_
  rw [← List.append_assoc, ← List.append_assoc]
  exact List.Perm.append_right os' List.perm_append_comm
theorem xna_nil : XNA Y [] Γ [] Γ := ⟨_, fun _ => pa_nil, fun B F H os rr σ Q W S kk => kk [] F H [] os same_refl same_refl W S .nil⟩
theorem xna_cons (he : XN Y e Γ s Γ1) (ha : XNA Y es Γ1 As Γ2) (hs : ∀ i, starEach (e :: es) (Y.X i).env = (false, eval e (Y.X i).env) :: starEach es (Y.X i).env := by intro _; rfl) : XNA Y (e :: es) Γ (s :: As) Γ2 := by
  obtain ⟨t, p, rd⟩ := he
  obtain ⟨ta, pa, ra⟩ := ha
  refine ⟨_, fun i => pa_cons (p i) (pa i) (hs i), fun B F H os rr σ Q W S kk => ?_⟩
  refine rd B F H os rr σ _ W S fun v F1 H1 fp os1 f1 e1 W1 S1 p1 => ?_
  rw [← List.append_assoc] at W1
  refine ra B F1 H1 os1 (fp ++ rr) σ _ W1 S1 fun vs F2 H2 fq os2 f2 e2 W2 S2 A2 => ?_
  refine kk (v :: vs) F2 H2 (fp ++ fq) os2 (f1.trans f2) (e1.trans e2) (W2.perm ?_) S2 ?_
  · rw [← List.append_assoc, ← List.append_assoc, ← List.append_assoc]
    exact List.Perm.append_right os2 (List.Perm.append_right rr List.perm_append_comm)
  · rw [List.map_cons]; exact Slots.cons (s.mono f2 e2 p1) A2
/-! ### a def that is handed owned things -/
def spO {ι ρ : Type} (As : ι → List Slot) (m : ι → Option ρ) (Sr : ρ → Slot) : Sp := fun vs H Q _ => ∃ (z : ι) (r : ρ) (F : Hp) (fp : List Addr), m z = some r ∧ Wo ⟨F, H, fp⟩ F H fp ∧ Slots F H fp (vs.map some) (As z) ∧
  ∀ v F' H' f2, Wo ⟨F, H, fp⟩ F' H' f2 → (Sr r).P F' H' f2 (some v) → Q v H'
/-! ### a list of things of several kinds, frozen -/
def pH (sl : α → List Slot) : VP α where
  R := fun F v z => ∃ l vs, v = .ref l ∧ F l = some (.lst vs) ∧ Slots F F [] (vs.map some) (sl z)
  mono := fun hF h => let ⟨l, vs, e1, h1, h2⟩ := h; ⟨l, vs, e1, hF _ _ h1, h2.mono hF hF⟩
theorem WkS.lstH {sl : α → List Slot} {z : α} (hw : WkL Δ (sl z)) (hv : AllV (sl z)) : WkS (Ty.lstS Δ) (Ty.val (pH sl) z) := fun F H fp o hS hp => by
  obtain ⟨l, vs, os, e1, e2, h1, h2⟩ := hp
  obtain ⟨xx, yy, hperm, kk⟩ := h2.wk hS hw
  obtain ⟨rfl, _⟩ := hv.no (kk H hS same_refl fun _ _ => rfl)
  subst e2
  refine ⟨l :: os, [], by simp, fun F' hF hs hx => ⟨rfl, _, e1, l, vs, rfl, by rw [hx l (by simp)]; exact h1, (hv.no (kk F' hF hs fun q hq => hx q ?_)).2⟩⟩
  have := hperm.mem_iff.mpr (by simpa using hq)
  simp [this]
theorem ixN_lit {n : Nat} {m : Nat} (h : m < n) : ixN n (m : Int) = some m := by
  unfold ixN
  by_cases hh : (m : Int) < 0
  · omega
  · simp [h]
theorem Slots.nilAt {F H : Hp} : ∀ {vs : List V} {Δ : List Slot} {n : Nat} {s : Slot}, Slots F H [] (vs.map some) Δ → Δ[n]? = some s → ∃ v, vs[n]? = some v ∧ s.P F H [] (some v)
  | [], [], n, s, _, e => by simp at e
  | [], _ :: _, _, _, S, _ => by have e := S.length; simp at e
  | _ :: _, [], _, _, S, _ => by have e := S.length; simp at e
  | v :: vs, s0 :: Δ, 0, s, S, e => by
    rw [List.map_cons] at S
    simp at e; subst e
    exact ⟨v, rfl, (S.one rfl).1⟩
  | v :: vs, s0 :: Δ, n + 1, s, S, e => by
    rw [List.map_cons] at S
    exact Slots.nilAt (n := n) (S.one rfl).2 (by simpa using e)
theorem atI_nat {γ : Type} {xs : List γ} {n : Nat} {v : γ} (h : xs[n]? = some v) : atI xs (n : Int) = some v := by
  have hl := (List.getElem?_eq_some_iff.mp h).1
  unfold atI
  rw [ixN_lit hl]
  exact h
/-- its n-th thing -/
theorem x_ixH {sl : α → List Slot} {z : α} (n : Nat) (ha : XV Y ea Γ (val (pH sl) z)) (hb : XV Y eb Γ (vInt (n : Int))) (hs : (sl z)[n]? = some s) (hx : PlainIx eb := by exact fun _ _ => rfl) : XV Y (.Subscript ea eb pos) Γ s := by
  obtain ⟨ta, pa, ra⟩ := ha
  obtain ⟨tb, pb, rb⟩ := hb
  refine ⟨_, fun i => by have h := ix_list (X := Y.X i); rw [Y.hK i] at h; exact pe_ix h (pa i) (pb i) hx, fun B F H os σ Q I q => ?_⟩
  refine two (Q := fun _ _ => True) I ra rb fun x y F2 H2 fx fy f2 e2 W2 p1 p2 => ?_
  obtain rfl := vint p2
  obtain ⟨_, l, vs, rfl, h1, h2⟩ := val_P p1
  obtain ⟨v, hv, sv⟩ := h2.nilAt hs
  exact ⟨l, vs, n, v, rfl, rfl, SqL.of (W2.sub _ _ h1), atI_nat hv, q v F2 H2 [] f2 e2 W2.drop.drop (s.mono same_refl W2.sub sv)⟩
/-- looked at as data -/
inductive VwL : List Slot → List Slot → Prop
  | nil : VwL [] []
  | cons {γ : Type} {s : Slot} {p : VP γ} {u : γ} {As Bs : List Slot} : Vw s p u → VwL As Bs → VwL (s :: As) (val p u :: Bs)
theorem VwL.to {As Cs : List Slot} (h : VwL As Cs) : ∀ F H os (vs : List V), Same F H → Slots F H os (vs.map some) As → Slots H H [] (vs.map some) Cs := by
  induction h with
  | nil =>
    intro F H os vs hS Sl
    have e := Sl.length
    cases vs with
    | nil => exact .nil
    | cons v vs => simp at e
  | @cons γ s p u As Cs hv _ ih =>
    intro F H os vs hS Sl
    have e := Sl.length
    cases vs with
    | nil => simp at e
    | cons v vs =>
      rw [List.map_cons] at Sl
      obtain ⟨f1, f2, rfl, hp, hr⟩ := Slots.cons_inv Sl
      have i1 := ih F H f2 vs hS hr
      obtain ⟨v', ev, rv⟩ := hv F H f1 _ hS hp
      cases ev
      exact Slots.cons (fp := []) ⟨rfl, v, rfl, rv⟩ i1
theorem Vw.lstH {sl : α → List Slot} {z : α} (h : VwL Δ (sl z)) : Vw (Ty.lstS Δ) (pH sl) z := fun F H fp o hS hp => by
  obtain ⟨l, vs, os, e1, e2, h1, h2⟩ := hp
  exact ⟨_, e1, l, vs, rfl, h1, h.to F H os vs hS h2⟩
/-! ### xs.insert(n, e) -/
structure Bm2 (X : Cx) (o : Expr) (name : Str) (apos : Pos) (e e2 : Expr) (cpos : Pos) : Prop where
  base : attributeBase o name X.env (eval o X.env) = eval o X.env
  few : ((backTo cpos (starEach [e, e2] X.env)).all (fun x => !x.1) && (backToKw cpos (keywordEach [] X.env)).all (fun x => x.1.isSome) && decide (([e, e2] : List Expr).length + ([] : List Keyword).length + (if ([] : List Keyword).isEmpty then 0 else 1) < 30)) = true
  line : (apos.endLine == cpos.line) = true
  st : starEach [e, e2] X.env = (false, eval e X.env) :: starEach [e2] X.env
  st2 : starEach [e2] X.env = (false, eval e2 X.env) :: starEach [] X.env
  pl : (backTo cpos (starEach [e2] X.env)).any (·.1) = false
/-! ### texts -/
theorem o_lenS {z : Str} (h : z.length ≤ sizeLine) : OpA (fun xs H Q => ∃ z, xs = [.str z] ∧ z.length ≤ sizeLine ∧ Q (.int z.length) H) [vStr z] (vInt (z.length : Int)) := opA1 fun B F H v fx os Q W pv q => by
  obtain ⟨_, r1⟩ := val_P pv
  cases r1
  exact ⟨z, rfl, h, q _ F H [] same_refl same_refl W.drop ⟨rfl, _, rfl, rfl⟩⟩
theorem in_sign (z : Str) (c : Nat) : (!(Builtin.Str.occurrences z ⟨#[c]⟩ 0 z.length 1).isEmpty) = decide (c ∈ z.cps.toList) := StrLaws.found_one z c
theorem o_ninS {z : Str} {c : Nat} : Op2 (fun x y H Q => ∃ i j, x = .str i ∧ y = .str j ∧ Q (.bl (!(!(Builtin.Str.occurrences j i 0 j.length 1).isEmpty))) H) (vStr ⟨#[c]⟩) (vStr z) (vBl (!(decide (c ∈ z.cps.toList)))) := fun B F H x1 y1 fx fy os Q W p1 p2 q => by
  obtain ⟨_, r1⟩ := val_P p1
  obtain ⟨_, r2⟩ := val_P p2
  cases r1; cases r2
  refine ⟨⟨#[c]⟩, z, rfl, rfl, ?_⟩
  rw [in_sign]
  exact q _ F H [] same_refl same_refl W.drop.drop ⟨rfl, _, rfl, rfl⟩
/-- a text of one sign -/
def pSg : VP Nat := ⟨fun _ v c => v = .str ⟨#[c]⟩, fun _ h => h⟩
theorem xi_str {z : Str} (h : XV Y iter Γ (vStr z)) : XI Y tg iter Γ False (z.cps.toList.map fun c => vStr ⟨#[c]⟩) := by
  obtain ⟨t, pe, rd⟩ := h
  refine ⟨_, fun i => pi_str (X := Y.X i) (tg := tg) (pe i), fun B F H os σ R I kk => ?_⟩
  refine rd B F H os σ _ I fun v F1 H1 fp f1 e1 W1 p1 => ?_
  obtain ⟨_, r1⟩ := val_P p1
  cases r1
  refine ⟨z, rfl, kk _ F1 H1 f1 e1 W1.drop ?_⟩
  intro F2 H2 a _ c
  refine ⟨by show _ ≤ _; simp, fun n r hr => ?_⟩
  rw [List.getElem?_map] at hr
  obtain ⟨x, ex, er⟩ := Option.map_eq_some_iff.mp hr
  have hx : z.cps[n]? = some x := by rw [← Array.getElem?_toList]; exact ex
  subst er
  refine ⟨?_, fun u H3 y => ?_⟩
  · exact (Array.getElem?_eq_some_iff.mp hx).1
  · obtain ⟨e1, c', h1, h2⟩ := y
    subst e1
    refine ⟨fun _ _ h => h, fun B os W => ⟨F2, same_refl, W, ?_⟩⟩
    rw [hx] at h1
    cases h1
    exact ⟨rfl, _, rfl, h2⟩
/-- a pair walked -/
theorem xi_t2 {y : α × α} (h : XV Y iter Γ (val (pT2 p p) y)) : XI Y tg iter Γ False ([y.1, y.2].map (val p)) := by
  refine xi_tup (p := p) (xs := [y.1, y.2]) (h.as fun F H fp o _ hp => ?_)
  obtain ⟨e1, v, e2, l, a, b, ev, h1, r1, r2⟩ := hp
  exact ⟨e1, v, e2, l, [a, b], ev, h1, .cons r1 (.cons r2 .nil)⟩
theorem Eqv.bl : Eqv pBl := fun F v a h => by
  cases h
  refine ⟨rfl, fun F' v' a' h' => ?_⟩
  cases h'
  cases a <;> cases a' <;> rfl
end
end Ty

/-! Ty25 -/
/-! an __init__ that may raise; methods that read ints of an instance that is not yet whole; tuples of things of several kinds -/
namespace Ty
open PySem PySem.Spec L2
open PyProof.Rows
section
variable {X : Cx} {CX : CXT} {k : Nat} {f C : Addr} {fd : FuncData} {ps : List Str} {sp : Sp} {E : L2.St → XK} {x m : Str} {p pos apos : Pos} {e o : Expr} {es : List Expr} {ta : TE} {t : TA}
theorem run_makeS {pins : List (Addr × Obj)} {σ : L2.St} {H : Hp} {s : Shared} {Q : VK} {us : List Value} {vs : List V} (M : Mk X.K C f) (F : FnOk X.prog X.w X.K X.mg X.base CX k f fd ps sp) (hr : Room (k + 1) X.A) (hb : Binds X.K fd ps [])
    (hx : PassesAt CX X σ (E σ)) (I : Inv X pins σ H s) (r : Vals vs us)
    (h : ∀ x dx, H x = none → H dx = none → dx ≠ x → sp (.ref x :: vs) (upd (upd H dx (.own x)) x (.ins C dx [])) (fun v H2 => v = .non ∧ Q (.ref x) H2) (E σ)) :
    wpAny (model X.prog X.w) X.A (call (.ref C) us) (EP X pins σ Q) X.xe s := by
  have hq := h (s.heap.objs.size + 1) s.heap.objs.size (I.hok.fresh (Nat.le_succ _)) (I.hok.fresh (Nat.le_refl _)) (Nat.ne_of_lt (Nat.lt_succ_self _))
  have I2 := Inv.made (C := C) I
  have r2 : Vals (V.ref (s.heap.objs.size + 1) :: vs) (Value.ref (s.heap.objs.size + 1) :: us) := .cons rfl r
  have hl : (Value.ref (s.heap.objs.size + 1) :: us ++ []).length = ps.length := by
    have e := r2.length
    rw [F.len _ _ _ _ hq] at e
    rw [List.append_nil]
    exact e.symm
  have hb' := hb _ (Value.ref (s.heap.objs.size + 1) :: us) I2.kIn hl
  rw [List.append_nil] at hb'
  refine wpAny_call (make_map (f := f) I.kIn M.makes M.init (beq_iff_eq.mp M.fn) (codeAny_mono (F.run _ X.stack _ _ ⟨Value.ref (s.heap.objs.size + 1) :: us, []⟩ (Value.ref (s.heap.objs.size + 1) :: us) _ _ (E σ) (hr.make C us [])
    (I2.env0.make C us []) hb' r2 hq) fun r s' hq' => ?_))
  cases r with
  | error e => exact hx pins _ _ e s' I2 hq'
  | ok fl =>
    cases fl with
    | ret u =>
      obtain ⟨v, H', I3, rv, ev, q3⟩ := I2.after hq'
      subst ev
      exact ⟨rv, ⟨V.ref (s.heap.objs.size + 1), H', I3, rfl, q3⟩⟩
    | next => exact False.elim hq'
    | brk => exact False.elim hq'
    | cont => exact False.elim hq'
def tMakeS (C : Addr) (sp : Sp) (E : L2.St → XK) (t : TA) : TE := fun σ H Q => t σ H fun vs H1 => ∀ x dx, H1 x = none → H1 dx = none → dx ≠ x →
  sp (.ref x :: vs) (upd (upd H1 dx (.own x)) x (.ins C dx [])) (fun v H2 => v = .non ∧ Q (.ref x) H2) (E σ)
theorem pe_makeS (M : Mk X.K C f) (F : FnOk X.prog X.w X.K X.mg X.base CX k f fd ps sp) (hr : Room (k + 1) X.A) (hg : Gl X x) (hm : X.mg x = some (.ref C)) (hb : Binds X.K fd ps []) (hx : ∀ σ, PassesAt CX X σ (E σ))
    (ha : PA X (e :: es) t) (hdb : (x == ("__debug__" : Str)) = false := by decide) (he : starEach (e :: es) X.env = (false, eval e X.env) :: starEach es X.env := by rfl) (hpl : (backTo pos (starEach es X.env)).any (·.1) = false := by rfl) :
    PE X (.Call (.Name x p) (e :: es) [] pos) (tMakeS C sp E t) := by
  refine ⟨fun pins s σ H Q I h => ?_⟩
  refine wpAny_Call_Name_kw (ld_glob I hg hm ?_ hdb)
  refine PySem.W.callWith_K (h₀ := X.base) I.ok.mod.kin M.kp (thn (ha.run pos pins s σ H _ I h) fun us s1 ⟨vs, H1, I1, r, q⟩ => ⟨I1.kIn, ?_⟩) he hpl
  exact run_makeS M F hr hb (hx σ) I1 r q
end
/-- nothing is so -/
def noS : Slot := { P := fun _ _ _ _ => False, mono := fun _ _ h => h, st := True, mm := fun _ {_ _ _ _ _ _} _ _ h => h }
theorem no_noS {B : Bs} {v : V} {H : Hp} (h : Fi B noS v H) : False := let ⟨_, _, _, h⟩ := h; h
section
variable {P : Program} {w : World} {K : PySem.W.Frag} {mg : Str → Option Value} {base : Heap} {k : Nat}
/-- an __init__ that may raise -/
def spMX {ι μ : Type} (C : Addr) (As : ι → List Slot) (m : ι → Option (Rx (μ × Unit))) (s1 : μ → Slot) (X : ExT) : Sp := fun vs H Q E => ∃ (z : ι) (r : Rx (μ × Unit)) (F : Hp) (fp : List Addr) (v0 : V) (ws : List V), vs = v0 :: ws ∧ m z = some r ∧ Wo ⟨F, H, fp⟩ F H fp ∧ (obj C [] []).P F H fp (some v0) ∧ Slots F H [] (ws.map some) (As z) ∧
  (∀ q, r = .ok q → ∀ F' H' f1, Wo ⟨F, H, fp⟩ F' H' f1 → (s1 q.1).P F' H' f1 (some v0) → Q .non H') ∧ ∀ e, r = .ex e → ∀ cls d F' H', Wo ⟨F, H, fp⟩ F' H' [] → X e cls d F' → E cls d H'
@[reducible] def DMX {μ : Type} (B : Bs) (v0 : V) (s1 : μ → Slot) (r : Rx (μ × Unit)) : Ends where
  nx := fun _ H => ∃ q F f1, r = .ok q ∧ Wo B F H f1 ∧ (s1 q.1).P F H f1 (some v0)
  rt := fun _ _ => False
theorem fn_mutX {ι μ : Type} {C : Addr} {As : ι → List Slot} {m : ι → Option (Rx (μ × Unit))} {s1 : μ → Slot} {EX : ExT} {x qual : Str} {st : Stmt} {f : Addr} {fd : FuncData} {N ps : List Str} (Fn : Fun K x qual st f fd) (S : FnScope N ps (defScope st)) (hlen : ∀ z, (As z).length + 1 = ps.length)
    (body : ∀ (cdv : Value) (A : Around) (outer : List Env) (s : Shared) (H : Hp) (E : XK) (hr : Room k (A.deeper (envOfC qual (defScope st) s.heap.objs.size f cdv))) (z : ι) (r : Rx (μ × Unit)) (v0 : V) (B : Bs), m z = some r →
      (∀ e, r = .ex e → ∀ Γ, Wish (fun cls d _ H => E cls d H) B Γ EX e) →
      Go (fbX P w K mg base N qual st f cdv A outer s H E k hr S.nd) () (defBody st) (DMX B v0 s1 r) B (hold (obj C [] []) v0 :: As z ++ List.replicate (N.length - ps.length) dead)) : FnOk P w K mg base (L2.CX P w) (k + 1) f fd ps (spMX C As m s1 EX) := by
  refine Fn.okX S (fun vs H Q E h => ?_) (fun cdv A outer s H vs Q E hr h => ?_)
  · obtain ⟨z, r, F, fp, v0, ws, rfl, _, _, _, Sl, _⟩ := h
    have e := Sl.length
    rw [List.length_map] at e
    rw [List.length_cons, e, hlen]
  · obtain ⟨z, r, F, fp, v0, ws, rfl, hm, hW, hp, Sl, q, qe⟩ := h
    refine ⟨_, pss_cont, ?_⟩
    have go := body cdv A outer s H E hr z r v0 ⟨F, H, fp⟩ hm (fun e he Γ cls d σ F' H' os hI hx => qe e he cls d F' H' (Wo.drop (a := os) (b := []) (by simpa using hI.W)) hx)
    have S0 : Sta ⟨F, H, fp⟩ F H (L2.start N (v0 :: ws)) (hold (obj C [] []) v0 :: As z ++ List.replicate (N.length - ps.length) dead) := by
      refine ⟨fp, hW, ?_⟩
      unfold L2.start
      have e := Sl.length
      rw [List.length_map] at e
      rw [List.length_cons, e, hlen]
      have e1 := Slots.cons (s := hold (obj C [] []) v0) ⟨rfl, hp⟩ (Slots.append Sl (slots_dead (F := F) (H := H) (N.length - ps.length)))
      simpa using e1
    exact cont_mono (go F H _ S0) (fun σ H' ⟨qq, F', f1, er, W', p'⟩ => q qq er F' H' f1 W' p') (fun v H' z => z.elim) (fun _ _ z => z.elim) (fun _ _ z => z.elim)
variable {Y : Fa P w K mg base k} {i : Y.I} {e ea eb eo ev tg iter elt : Expr} {es ifs : List Expr} {rest body : List Stmt} {Γ Γ' Γ1 Γ2 Δ Δ' As : List Slot} {a b c r s s' : Slot} {pos pos' : Pos} {B : Bs} {D : Ends} {x f : Str} {p' p2 : Pos} {C : Addr} {ns : List Str} {α β : Type} {p : VP α} {q : VP β} {xs : List α} {EX : ExT} {ex : Exn}
theorem go_nilMX {μ : Type} {v0 : V} {s1 : μ → Slot} {u : μ × Unit} (hs : Γ[0]? = some (hold (s1 u.1) v0) := by rfl) : Go Y i [] (DMX B v0 s1 (.ok u)) B Γ :=
  go_nil fun σ H ⟨F, os, W, S⟩ => by
    obtain ⟨o, fp, r', e, p, q, _⟩ := S.at hs
    obtain ⟨rfl, p⟩ := p
    exact ⟨u, F, fp, rfl, (W.perm q).dropR, p⟩
/-- C(e, ..): a new instance, of an __init__ that may raise -/
theorem x_makeX {ι μ : Type} {As : ι → List Slot} {m : ι → Option (Rx (μ × Unit))} {s1 : μ → Slot} {args : List Slot} {z : ι} {q : μ × Unit} {j : Nat} {g : Addr} {fd : FuncData} {ps : List Str}
    (Fn : FnOk P w K mg base (L2.CX P w) j g fd ps (spMX C As m s1 EX)) (hj : j + 1 ≤ k) (M : Mk K C g) (hm : mg x = some (.ref C)) (hb : Binds K fd ps []) (ha : XA Y (e :: es) Γ args) (hargs : args = As z) (hno : NoOwn args) (hq : m z = some (.ok q))
    (hg : ∀ i, Gl (Y.X i) x := by intro _; rfl) (hdb : (x == ("__debug__" : Str)) = false := by decide)
    (he : ∀ i, starEach (e :: es) (Y.X i).env = (false, eval e (Y.X i).env) :: starEach es (Y.X i).env := by intro _; rfl) (hpl : ∀ i, (backTo pos (starEach es (Y.X i).env)).any (·.1) = false := by intro _; rfl) (hcm : Y.cm = true := by rfl) : XV Y (.Call (.Name x p') (e :: es) [] pos) Γ (s1 q.1) := by
  subst hargs
  obtain ⟨t, pa, rd⟩ := ha
  have FF : ∀ i, FnOk (Y.X i).prog (Y.X i).w (Y.X i).K (Y.X i).mg (Y.X i).base (L2.CX (Y.X i).prog (Y.X i).w) j g fd ps (spMX C As m s1 EX) := fun i => by rw [Y.hP i, Y.hw i, Y.hK i, Y.hM i, Y.hB i]; exact Fn
  refine ⟨_, fun i => pe_makeS (by rw [Y.hK i]; exact M) (FF i) ((Y.hR hcm i).mono hj) (hg i) (by rw [Y.hM i]; exact hm) (by rw [Y.hK i]; exact hb) (E := WE Y.W) (fun σ => passAt (Y.tk i) σ) (pa i) hdb (he i) (hpl i), fun B F H os σ Q I kk => ?_⟩
  refine rd B F H os σ _ I fun vs F1 H1 fp f1 e1 W1 S1 => ?_
  obtain rfl := hno.nil S1
  intro a dx ha hdx hne
  have hdx' : (upd H1 dx (.own a)) a = none := by rw [upd_ne (fun z => hne z.symm)]; exact ha
  have W1' : Wo B F1 H1 os := W1
  have W2 : Wo B F1 (upd (upd H1 dx (.own a)) a (.ins C dx [])) (a :: dx :: os) := (W1'.newO hdx).newO hdx'
  have e3 : Same H1 (upd (upd H1 dx (.own a)) a (.ins C dx [])) := (same_upd hdx).trans (same_upd hdx')
  refine ⟨z, .ok q, F1, [a, dx], .ref a, vs, rfl, hq, W2.here (fp := [a, dx]) (r := os) (.refl _), ?_, S1.mono same_refl e3, fun q' eq F2 H2 fp1 W3 p2 => ?_, fun e he => by cases he⟩
  · exact ⟨a, dx, [], [], rfl, rfl, upd_same, by rw [upd_ne hne]; exact upd_same, rfl, .nil⟩
  · cases eq
    refine ⟨rfl, ?_⟩
    obtain ⟨c1, c2, W4⟩ := Wo.calledM (os := a :: dx :: os) (fp := [a, dx]) (r := os) W2 (.refl _) W3
    refine kk _ F2 H2 fp1 (f1.trans c1) (e1.trans ?_) W4 p2
    intro b u hb
    refine W3.bH b u (e3 b u hb) ?_
    intro hm
    rcases List.mem_cons.mp hm with rfl | hm
    · rw [ha] at hb; cases hb
    · obtain rfl := List.mem_singleton.mp hm
      rw [hdx] at hb; cases hb
theorem xx_make {ι μ : Type} {As : ι → List Slot} {m : ι → Option (Rx (μ × Unit))} {s1 : μ → Slot} {args : List Slot} {z : ι} {j : Nat} {g : Addr} {fd : FuncData} {ps : List Str}
    (Fn : FnOk P w K mg base (L2.CX P w) j g fd ps (spMX C As m s1 EX)) (hj : j + 1 ≤ k) (M : Mk K C g) (hm : mg x = some (.ref C)) (hb : Binds K fd ps []) (ha : XA Y (e :: es) Γ args) (hargs : args = As z) (hno : NoOwn args) (hq : m z = some (.ex ex))
    (hg : ∀ i, Gl (Y.X i) x := by intro _; rfl) (hdb : (x == ("__debug__" : Str)) = false := by decide)
    (he : ∀ i, starEach (e :: es) (Y.X i).env = (false, eval e (Y.X i).env) :: starEach es (Y.X i).env := by intro _; rfl) (hpl : ∀ i, (backTo pos (starEach es (Y.X i).env)).any (·.1) = false := by intro _; rfl) (hcm : Y.cm = true := by rfl) : XXe Y (.Call (.Name x p') (e :: es) [] pos) Γ EX ex := by
  subst hargs
  obtain ⟨t, pa, rd⟩ := ha
  have FF : ∀ i, FnOk (Y.X i).prog (Y.X i).w (Y.X i).K (Y.X i).mg (Y.X i).base (L2.CX (Y.X i).prog (Y.X i).w) j g fd ps (spMX C As m s1 EX) := fun i => by rw [Y.hP i, Y.hw i, Y.hK i, Y.hM i, Y.hB i]; exact Fn
  refine ⟨_, fun i => pe_makeS (by rw [Y.hK i]; exact M) (FF i) ((Y.hR hcm i).mono hj) (hg i) (by rw [Y.hM i]; exact hm) (by rw [Y.hK i]; exact hb) (E := WE Y.W) (fun σ => passAt (Y.tk i) σ) (pa i) hdb (he i) (hpl i), fun B F H os σ Q I kk => ?_⟩
  refine rd B F H os σ _ I fun vs F1 H1 fp f1 e1 W1 S1 => ?_
  obtain rfl := hno.nil S1
  intro a dx ha hdx hne
  have hdx' : (upd H1 dx (.own a)) a = none := by rw [upd_ne (fun z => hne z.symm)]; exact ha
  have W1' : Wo B F1 H1 os := W1
  have W2 : Wo B F1 (upd (upd H1 dx (.own a)) a (.ins C dx [])) (a :: dx :: os) := (W1'.newO hdx).newO hdx'
  have e3 : Same H1 (upd (upd H1 dx (.own a)) a (.ins C dx [])) := (same_upd hdx).trans (same_upd hdx')
  refine ⟨z, .ex ex, F1, [a, dx], .ref a, vs, rfl, hq, W2.here (fp := [a, dx]) (r := os) (.refl _), ?_, S1.mono same_refl e3, fun q' eq => (by cases eq), fun e he cls d F2 H2 W3 hx => ?_⟩
  · exact ⟨a, dx, [], [], rfl, rfl, upd_same, by rw [upd_ne hne]; exact upd_same, rfl, .nil⟩
  · cases he
    obtain ⟨c1, c2, W4⟩ := Wo.calledM (os := a :: dx :: os) (fp := [a, dx]) (r := os) W2 (.refl _) W3
    refine kk cls d F2 H2 [] (f1.trans c1) (e1.trans ?_) W4 hx
    intro b u hb
    refine W3.bH b u (e3 b u hb) ?_
    intro hm
    rcases List.mem_cons.mp hm with rfl | hm
    · rw [ha] at hb; cases hb
    · obtain rfl := List.mem_singleton.mp hm
      rw [hdx] at hb; cases hb
/-! ### ints of an instance -/
def pFl (C : Addr) (fs : List Str) : VP (List Int) where
  R := fun F v z => ∃ (x dx : Addr) (ps : List (Str × V)), v = .ref x ∧ F x = some (.ins C dx ps) ∧ ∀ (i : Nat) f n, fs[i]? = some f → z[i]? = some n → ps.lookup f = some (.int n)
  mono := fun hF h => let ⟨x, dx, ps, e1, h1, h2⟩ := h; ⟨x, dx, ps, e1, hF _ _ h1, h2⟩
inductive FlS (ns : List Str) (Δ : List Slot) : List Str → List Int → Prop
  | nil : FlS ns Δ [] []
  | cons {f : Str} {n : Int} {fs : List Str} {z : List Int} (j : Nat) (h1 : ns[j]? = some f) (h2 : Δ[j]? = some (vInt n)) (t : FlS ns Δ fs z) : FlS ns Δ (f :: fs) (n :: z)
theorem FlS.look {ns : List Str} {Δ : List Slot} {fs : List Str} {z : List Int} {F H : Hp} {os : List Addr} {vs : List V} (h : FlS ns Δ fs z) (nd : ns.Nodup) (hl : vs.length = ns.length) (S : Slots F H os (vs.map some) Δ) : ∀ (i : Nat) f n, fs[i]? = some f → z[i]? = some n → (ns.zip vs).lookup f = some (.int n) := by
  induction h with
  | nil => intro i f n e; simp at e
  | @cons f0 n0 fs z j h1 h2 t ih =>
    intro i f n e1 e2
    cases i with
    | succ i => exact ih i f n (by simpa using e1) (by simpa using e2)
    | zero =>
      simp at e1 e2
      subst e1; subst e2
      obtain ⟨o, fp, r, e3, p3, _, _⟩ := S.at h2
      obtain ⟨_, v', ev, rv⟩ := p3
      subst ev
      cases rv
      rw [List.getElem?_map] at e3
      obtain ⟨y, hy, ey⟩ := Option.map_eq_some_iff.mp e3
      cases ey
      exact zip_lookup nd hl h1 hy
/-! ### tuples of things of several kinds -/
def pHT (sl : α → List Slot) : VP α where
  R := fun F v z => ∃ l vs, v = .ref l ∧ F l = some (.tup vs) ∧ Slots F F [] (vs.map some) (sl z)
  mono := fun hF h => let ⟨l, vs, e1, h1, h2⟩ := h; ⟨l, vs, e1, hF _ _ h1, h2.mono hF hF⟩
theorem x_tupH {sl : α → List Slot} {z : α} {n : Nat} (ha : XA Y es Γ (sl z)) (hv : AllV (sl z)) (hz : (sl z).length ≤ sizeLine) : XV Y (.Tuple es n pos) Γ (val (pHT sl) z) := by
  obtain ⟨t, pa, rd⟩ := ha
  refine ⟨_, fun i => pe_tup (pa i), fun B F H os σ Q I kk => ?_⟩
  refine rd B F H os σ _ I fun vs F1 H1 fp f1 e1 W1 S1 => ?_
  obtain ⟨rfl, S2⟩ := hv.no S1
  refine ⟨by have := S1.length; rw [List.length_map] at this; rw [this]; exact hz, fun p' hl => newF (r := val (pHT sl) z) W1 hl (fun F' f e => ⟨rfl, _, rfl, p', vs, rfl, e, S2.mono f f⟩) fun v F' H' fp' f2 e2 => kk v F' H' fp' (f1.trans f2) (e1.trans e2)⟩
end
end Ty

/-! Ty26 -/
/-! several except clauses that name the error -/
namespace Ty
open PySem PySem.Spec L2 PyProof.Rows
abbrev TsH := Addr → Value → Option Addr → TS
/-- clauses 'except x as n: ..' one after the other, with what they wish -/
inductive ClsAs (X : Cx) (D : Ends) (Wo : WX) : List ExceptHandler → WX → Prop
  | nil : ClsAs X D Wo [] Wo
  | cons {x n : Str} {c : Value} {i : Nat} {ts : TsH} {b₀ : Stmt} {suite : List Stmt} {np q : Pos} {hs : List ExceptHandler} {W : WX} (hc : Names X x c) (hi : X.N[i]? = some n) (hl : X.env.kindOf n = some .local)
      (hsu : ∀ (a : Addr) (oe : Obj) (cls : Value) (d : Option Addr) (pn : List (Addr × Obj)), Zc cls d oe → (∃ vs, oe.data = .fields vs) → PSs (X.suite a ((a, oe) :: pn)) (b₀ :: suite) (ts a cls d)) (r : ClsAs X D Wo hs W) :
      ClsAs X D Wo (.ExceptHandler (some (.Name x np)) (some n) (b₀ :: suite) q :: hs) (wAs X.K c i ts W D)
section
variable {X : Cx} {body : List Stmt} {h0 : ExceptHandler} {hr : List ExceptHandler} {pos : Pos} {tb : WX → TS} {Wout : WX} {Wf : Ends → WX}
theorem ps_try_asL (sk : X.stack = X.env :: X.outer) (fr : X.env.frame = some X.env.locals) (nd : X.N.Nodup) (tk : Takes X Wout)
    (hbody : ∀ (W : WX) (pn : List (Addr × Obj)) (xe : Value → Shared → Prop), Takes (X.tr pn xe) W → PassesOwn (model X.prog X.w) X.A X.env xe → PSs (X.tr pn xe) body (tb W))
    (cl : ∀ D, ClsAs X D Wout (h0 :: hr) (Wf D)) : PS X (.Try body (h0 :: hr) [] [] pos) (fun D σ H => tb (Wf D) D σ H) := by
  refine ⟨fun pins s σ H D J0 want => ?_⟩
  have okX := J0.ok
  have frs0 : X.A.frames = some (X.env :: X.outer) := by rw [okX.frames, sk]
  refine wpAny_Try_except ?_
  refine wpAny_mono ((hbody (Wf D) (X.pn ++ pins) (fun e t1 => wpAny (model X.prog X.w) X.A (noteFrame e X.env) (fun _ t2 => wpAny (model X.prog X.w) X.A (setFlight e none) (fun _ t3 =>
    wpAny (model X.prog X.w) X.A (handleBy e X.env (h0 :: hr)) (SP X pins D) X.xe t3) X.xe t2) X.xe t1) (fun u t0 caught => ?_) PassesOwn.looking).run [] s σ H D (J0.toTry _) want) (fun fl t1 done => ?_) (fun e t1 he => he)
  · obtain ⟨a, B, sI, pins', σ1, H1, cls, d, rfl, Jt, nb, up, sky0, na, os, ag, wished⟩ := caught
    have J1 : Inv X pins σ1 H1 sI := Jt.ofTry okX
    have sky1 : Sky B (X.env :: X.outer) a (Zc cls d) X.env.locals t0.heap := by rw [← sk]; exact sky0
    show wpAny (model X.prog X.w) X.A (noteFrame (.ref a) X.env) _ _ _
    refine Sky.land Zc.steady frs0 fr sky1 fun g3 land3 up3 => ?_
    have J3 : Inv X pins σ1 H1 { t0 with heap := g3 } := J1.landed nb land3.1 (up.trans up3) os ag
    obtain ⟨o3, v3, get3, zc3, dat3⟩ := land3.there
    have noFrame : ∀ {h : Heap} {o : Obj} {vs : Array Value}, h.FunFrames B (X.env :: X.outer) → h.get? a = some o → o.data = .fields vs → a ∉ frs (X.env :: X.outer) := fun {h o vs} ff e dd hm => by
      obtain ⟨_, ob, eb, isn⟩ := ff.mem hm
      rw [e] at eb; cases eb
      exact isn _ dd
    have na1 := noFrame land3.2.2.1 get3 dat3
    have aL : a ≠ X.env.locals := fun z => na1 (List.mem_filterMap.mpr ⟨X.env, List.mem_cons_self, by rw [fr, z]⟩)
    have aF : a ∉ X.fs := fun hm => by
      obtain ⟨e, he, q⟩ := List.mem_filterMap.mp hm
      exact na1 (List.mem_filterMap.mpr ⟨e, List.mem_cons_of_mem _ he, q⟩)
    have Q3 := J3.suite get3 dat3 na aL aF
    have each : ∀ {hs2 : List ExceptHandler} {W2 : WX}, ClsAs X D Wout hs2 W2 → W2 cls d σ1 H1 → wpAny (model X.prog X.w) X.A (handleBy (.ref a) X.env hs2) (SP X pins D) X.xe { t0 with heap := g3 } := by
      intro hs2 W2 hk
      induction hk with
      | nil =>
        intro w
        refine wpAny_handleBy_nil ?_
        obtain ⟨_, _, _, ob, vs, T, oT, tT, gob, zob, dob, fob, _⟩ := id land3
        unfold PySem.passOn
        refine wpAny_bind (wpAny_field gob dob fob ?_)
        rw [if_neg (show ¬ ((Value.ref T == Value.none) = true) by simp)]
        have last : wpAny (model X.prog X.w) X.A (setFlight (.ref a) X.env.frame) (fun _ t4 => wpAny (model X.prog X.w) X.A (throw (.ref a) : Sem Flow) (SP X pins D) X.xe t4) X.xe { t0 with heap := g3 } := by
          rw [fr]
          refine HandSPX.setFlight_upZ land3 fun g4 in4 up4 => wpAny_throw (tk _ _ ?_)
          exact ⟨a, B, sI, pins, σ1, H1, cls, d, rfl, J1, nb, (up.trans up3).trans up4, .inr (.inr (by rw [sk]; exact in4)), na, os, ag, w⟩
        first
          | exact wpAny_bind (wpAny_pure (wpAny_bind last))
          | exact wpAny_bind last
      | @cons x n c i ts b₀ suite np q hs3 W3 hc hi hl hsu _ ih =>
        rintro ⟨b, isx, yes, no⟩
        refine wpAny_handleBy_cons (codeAny_handlers_test ?_) (by intro q; cases q)
        have kindA : PySem.W.Looks (model X.prog X.w) g3 (typeOf (.ref a)) cls := fun A Q E s k q => wpAny_typeOf_ref (k _ _ get3) (by rw [zc3.1]; exact q)
        have matchA := PySem.W.exm_one (M := model X.prog X.w) (J3.kIn) kindA isx
        have named : ∀ {Q : Value → Shared → Prop} {E : Value → Shared → Prop}, Q c { t0 with heap := g3 } → wpAny (model X.prog X.w) (X.A.mark (some (.ref a))) (eval (.Name x np) X.env) Q E { t0 with heap := g3 } := fun {Q E} q => by
          obtain ⟨g1, g2, m1 | ⟨m1, m2, m3⟩⟩ := hc
          · exact ld_glob (X := X.suite a ((a, o3) :: (X.pn ++ pins))) Q3 g1 m1 q g2
          · exact ld_blt (X := X.suite a ((a, o3) :: (X.pn ++ pins))) Q3 g1 m1 m2 q m3 g2
        refine named (matchA.here ?_)
        cases b with
        | false =>
          show wpAny _ X.A (handleBy (.ref a) X.env hs3) _ _ _
          exact ih (no rfl)
        | true =>
          refine codeAny_handlers_suite_as ?_
          refine HandSPX.lands_againZ land3 fun g4 land4 up4 => ?_
          have J4 : Inv X pins σ1 H1 { t0 with heap := g4 } := J1.landed nb land4.1 ((up.trans up3).trans up4) os ag
          obtain ⟨o4, v4, get4, zc4, dat4⟩ := land4.there
          have Q4 := J4.suite get4 dat4 na aL aF
          refine store_ok (X := X.suite a ((a, o4) :: (X.pn ++ pins))) (v := .ref a) Q4 nd hi (.inl hl) rfl (fun t5 Q5 => ?_) (.inr hl)
          refine wpAny_mono ((hsu a o4 cls d (X.pn ++ pins) zc4 ⟨_, dat4⟩).run [] t5 _ H1 _ Q5 (yes rfl a na)) (fun fl t6 ends => ?_) (fun _ _ z => False.elim z)
          have away : ∀ {σ6 : L2.St} {H6 : Hp} {Q : Shared → Prop}, Inv (X.suite a ((a, o4) :: (X.pn ++ pins))) [] σ6 H6 t6 → (∀ t7, Inv X pins (σ6.set i none) H6 t7 → Q t7) →
              wpAny (model X.prog X.w) X.A (do bindName X.env n .none; unbindBehindTheSuite X.env n q) (fun _ t7 => Q t7) X.xe t6 := fun {σ6 H6 Q} Q6 hq => gone_ok (Q6.unsuite okX) nd hi hl hq
          cases fl with
          | next =>
            obtain ⟨_, _, Q6, q6⟩ := ends
            exact away Q6 fun t7 J7 => ⟨_, _, J7, q6⟩
          | brk =>
            obtain ⟨_, _, Q6, q6⟩ := ends
            exact away Q6 fun t7 J7 => ⟨_, _, J7, q6⟩
          | cont =>
            obtain ⟨_, _, Q6, q6⟩ := ends
            exact away Q6 fun t7 J7 => ⟨_, _, J7, q6⟩
          | ret u =>
            obtain ⟨_, _, _, Q6, r6, q6⟩ := ends
            exact away Q6 fun t7 J7 => ⟨_, _, _, J7, r6, q6⟩
    exact each (cl D) wished
  · cases fl with
    | next =>
      obtain ⟨_, _, Jd, q⟩ := done
      exact wpAny_execs_nil ⟨_, _, Jd.ofTry okX, q⟩
    | brk =>
      obtain ⟨_, _, Jd, q⟩ := done
      exact ⟨_, _, Jd.ofTry okX, q⟩
    | cont =>
      obtain ⟨_, _, Jd, q⟩ := done
      exact ⟨_, _, Jd.ofTry okX, q⟩
    | ret u =>
      obtain ⟨_, _, _, Jd, r, q⟩ := done
      exact ⟨_, _, _, Jd.ofTry okX, r, q⟩
end
section
variable {P : Program} {w : World} {K : PySem.W.Frag} {mg : Str → Option Value} {base : Heap} {k : Nat}
variable {Y : Fa P w K mg base k} {i : Y.I} {rest body s1 s2 : List Stmt} {b1 b2 : Stmt} {Γ : List Slot} {pos q1 q2 np1 np2 : Pos} {B : Bs} {D : Ends} {x1 x2 n1 n2 : Str}
/-- the wish of a try of two clauses -/
abbrev W2 (Y : Fa P w K mg base k) (i : Y.I) (c1 c2 : Value) (j1 j2 : Nat) (t1 t2 : List Stmt) (D : Ends) : WX := wAs K c1 j1 (tsC Y i t1) (wAs K c2 j2 (tsC Y i t2) Y.W D) D
theorem go_try_as2 {c1 c2 : Value} (j1 j2 : Nat) (h1 : Names (Y.X i) x1 c1) (h2 : Names (Y.X i) x2 c2)
    (hb : ∀ j : (Y.tr (W2 Y i c1 c2 j1 j2 (b1 :: s1) (b2 :: s2) { D with nx := cont (Y.X i) rest D })).I, j.1.1 = i → Go (Y.tr (W2 Y i c1 c2 j1 j2 (b1 :: s1) (b2 :: s2) { D with nx := cont (Y.X i) rest D })) j body { D with nx := cont (Y.X i) rest D } B Γ)
    (sk : (Y.X i).stack = (Y.X i).env :: (Y.X i).outer := by rfl) (fr : (Y.X i).env.frame = some (Y.X i).env.locals := by rfl) (hi1 : (Y.X i).N[j1]? = some n1 := by rfl) (hl1 : (Y.X i).env.kindOf n1 = some .local := by rfl) (hi2 : (Y.X i).N[j2]? = some n2 := by rfl) (hl2 : (Y.X i).env.kindOf n2 = some .local := by rfl) :
    Go Y i (.Try body [.ExceptHandler (some (.Name x1 np1)) (some n1) (b1 :: s1) q1, .ExceptHandler (some (.Name x2 np2)) (some n2) (b2 :: s2) q2] [] [] pos :: rest) D B Γ := by
  refine go_ps (ps_try_asL (tb := tbC Y i body) (Wf := fun D => W2 Y i c1 c2 j1 j2 (b1 :: s1) (b2 :: s2) D) sk fr (Y.hN i) (Y.tk i) (fun W pn xe tk po => ⟨fun pins s σ H D I h => h pn xe tk po pins s I⟩) (fun D => ?_)) fun F H σ S => ?_
  · have r2 := ClsAs.cons (X := Y.X i) (D := D) (Wo := Y.W) (ts := tsC Y i (b2 :: s2)) (np := np2) (q := q2) h2 hi2 hl2 (fun a oe cls d pn hz hf => ⟨fun pins s σ H D I h => h oe pn hz hf pins s I⟩) .nil
    have r1 := ClsAs.cons (X := Y.X i) (D := D) (Wo := Y.W) (ts := tsC Y i (b1 :: s1)) (np := np1) (q := q1) h1 hi1 hl1 (fun a oe cls d pn hz hf => ⟨fun pins s σ H D I h => h oe pn hz hf pins s I⟩) r2
    rw [Y.hK i] at r1
    exact r1
  · intro pn xe tk po
    exact hb ⟨(i, pn, xe), tk, po⟩ rfl F H σ S
end
end Ty

/-! Ty27 -/
/-! == and != by an own __eq__; isinstance with an own class -/
namespace Ty
open PySem PySem.Spec L2 PyProof.Rows
section
variable {X : Cx} {CX : CXT} {n : Nat} {f C : Addr} {fd : FuncData} {ps : List Str} {sp : Sp} {E : XK} {pins : List (Addr × Obj)} {σ : L2.St} {H : Hp} {s : Shared}
/-- what an instance of C is compared with -/
inductive Oth (K : PySem.W.Frag) (C : Addr) (H : Hp) : V → Prop
  | ins {a dx : Addr} {fs : List (Str × V)} (h : H a = some (.ins C dx fs)) : Oth K C H (.ref a)
  | int {i : Int} (h : PySem.W.subIn K (.type "int") (.ref C) = some false) : Oth K C H (.int i)
theorem Oth.looks (I : Inv X pins σ H s) {y : V} {u : Value} (o : Oth X.K C H y) (r : RelV y u) : ∃ tb, PySem.W.Looks (model X.prog X.w) s.heap (typeOf u) tb ∧ PySem.W.notFirst X.K C tb = true := by
  cases o with
  | ins h =>
    cases r
    obtain ⟨mB, J, _⟩ := ins_get I.hok h
    obtain ⟨od, J, _⟩ := J.look
    exact ⟨_, J.type, by simp [PySem.W.notFirst]⟩
  | int h =>
    obtain ⟨t, rfl⟩ := r
    exact ⟨.type "int", fun A Q E s k q => wpAny_typeOf (show s.TypeIs (.int _ t) "int" from rfl) q, by simp [PySem.W.notFirst, h]⟩
/-- the own == is asked -/
theorem own_call {A : Around} (F : FnOk X.prog X.w X.K X.mg X.base CX n f fd ps sp) (hb : Binds X.K fd ps []) (hx : Passes CX X E) (sb : Sub X n A) (I : Inv X pins σ H s) {a : Addr} {y : V} {u : Value} (ry : RelV y u) {Q : VK}
    (h : sp [.ref a, y] H (fun v H' => ∃ b, v = .bl b ∧ Q (.bl b) H') E) : wpAny (model X.prog X.w) A (call (.ref f) [.ref a, u]) (fun v s' => ∃ b H', v = .bool b ∧ Inv X pins σ H' s' ∧ Q (.bl b) H') X.xe s := by
  have e0 : Env0 X.prog X.w X.K X.mg X.base A X.stack s H := by
    have e := I.env0
    exact ⟨(by rw [sb.fr]; exact e.frames), e.mod, e.bs, e.bsz, e.funs, e.frf, e.hok, e.bare⟩
  have hl := F.len _ _ _ _ h
  have r2 : Vals [V.ref a, y] [Value.ref a, u] := .cons rfl (.cons ry .nil)
  have hb' := hb s [.ref a, u] I.kIn (by simpa using hl)
  rw [List.append_nil] at hb'
  refine wpAny_call (codeAny_mono (F.run A X.stack s H ⟨[.ref a, u], []⟩ [.ref a, u] [.ref a, y] _ E sb.room e0 hb' r2 h) fun r s' hq => ?_)
  cases r with
  | error e => exact hx pins σ H s e s' I hq
  | ok fl =>
    cases fl with
    | ret w =>
      obtain ⟨z, H', I', rz, b, ez, q⟩ := I.after hq
      subst ez
      cases rz
      exact ⟨b, H', rfl, I', q⟩
    | next => exact False.elim hq
    | brk => exact False.elim hq
    | cont => exact False.elim hq
def rOwn (K : PySem.W.Frag) (C : Addr) (sp : Sp) (E : XK) (g : Bool → Bool) : R2 := fun x y H Q => ∃ (a dx : Addr) (fs : List (Str × V)), x = .ref a ∧ H a = some (.ins C dx fs) ∧ Oth K C H y ∧ sp [x, y] H (fun v H' => ∃ b, v = .bl b ∧ Q (.bl (g b)) H') E
theorem op_ownEq (F : FnOk X.prog X.w X.K X.mg X.base CX n f fd ps sp) (hs : PySem.W.findIn X.K (.ref C) "__eq__" = some (some (.ref f))) (hf : PySem.W.isFn X.K (.ref f) = true) (hb : Binds X.K fd ps []) (hx : Passes CX X E) (hr : Room n X.A) :
    OpR X (compareOp .Eq) (rOwn X.K C sp E id) := by
  intro pins s σ H x y v u Q I rx ry hq
  obtain ⟨a, dx, fs, rfl, ha, oy, h⟩ := hq
  cases rx
  obtain ⟨mA, J, _⟩ := ins_get I.hok ha
  obtain ⟨od, J, _⟩ := J.look
  obtain ⟨m, hF⟩ := I.fr
  obtain ⟨tb, hT, hn⟩ := oy.looks I ry
  show wpAny (model X.prog X.w) X.A (richCompare .Eq (.ref a) u) (EP X pins σ Q) X.xe s
  refine PySem.W.cmp_K (op := .Eq) hr.units0 hF I.ok.mod.kin J hT hn hs hf ?_
  refine wpAny_mono (own_call F hb hx ⟨hr, rfl⟩ I ry h) (fun w s' z => ?_) fun _ _ e => e
  obtain ⟨b, H', rfl, I', q⟩ := z
  exact ⟨.bl b, H', I', rfl, q⟩
section
variable {M : Model} {prog : Program} {w : World} {A : Around} {E : Value → Shared → Prop} {s : Shared} {K : PySem.W.Frag} {x C f : Addr} {ox : Obj} {od : Option Obj} {b : Value}
end
end
section
variable {P : Program} {w : World} {K : PySem.W.Frag} {mg : Str → Option Value} {base : Heap} {k : Nat}
variable {Y : Fa P w K mg base k} {Γ : List Slot} {a b s : Slot} {C C' : Addr} {ns : List Str} {α β : Type} {q : VP β} {f : Addr} {fd : FuncData} {ps : List Str} {As : α × β → List Slot} {m : α × β → Option Bool} {j : Nat}
abbrev E0' : XK := fun _ _ _ => False
theorem c_ownEq (Fn : FnOk P w K mg base CX0 j f fd ps (spP As m (val pBl))) (hj : j ≤ k) (hs : PySem.W.findIn K (.ref C) "__eq__" = some (some (.ref f))) (hf : PySem.W.isFn K (.ref f) = true) (hb : Binds K fd ps []) (hcm : Y.cm = true := by rfl) :
    ∀ i, OpR (Y.X i) (compareOp .Eq) (rOwn K C (spP As m (val pBl)) E0' id) := fun i => by
  have FF : FnOk (Y.X i).prog (Y.X i).w (Y.X i).K (Y.X i).mg (Y.X i).base CX0 j f fd ps (spP As m (val pBl)) := by rw [Y.hP i, Y.hw i, Y.hK i, Y.hM i, Y.hB i]; exact Fn
  have h := op_ownEq (C := C) (E := E0') FF (by rw [Y.hK i]; exact hs) (by rw [Y.hK i]; exact hf) (by rw [Y.hK i]; exact hb) pass0 ((Y.hR hcm i).mono hj)
  rw [Y.hK i] at h
  exact h
/-- what may stand on the right -/
def OthV (K : PySem.W.Frag) (C : Addr) (q : VP β) (z : β) : Prop := ∀ H v, q.R H v z → Oth K C H v
theorem OthV.obj {sl : β → List Slot} {z : β} : OthV K C (pObj C ns sl) z := fun H v h => by
  obtain ⟨x, dx, vs, rfl, h1, _⟩ := h
  exact .ins h1
theorem OthV.int {z : Int} (h : PySem.W.subIn K (.type "int") (.ref C) = some false) : OthV K C pInt z := fun H v e => by
  cases e
  exact .int h
theorem o_own {g : Bool → Bool} {sl : α → List Slot} {z : α × β} {r : Bool} (hA : As z = [val (pObj C ns sl) z.1, val q z.2]) (ha : Vw a (pObj C ns sl) z.1) (hb : Vw b q z.2) (ho : OthV K C q z.2) (hm : m z = some r) : Op2 (rOwn K C (spP As m (val pBl)) E0' g) a b (vBl (g r)) := fun B F H x y fx fy os Q W p1 p2 kk => by
  obtain ⟨x', ex, rx⟩ := ha F H fx _ W.sub p1
  obtain ⟨y', ey, ry⟩ := hb F H fy _ W.sub p2
  cases ex; cases ey
  obtain ⟨xa, dx, vs, rfl, h1, h3, h4⟩ := id rx
  refine ⟨xa, dx, _, rfl, h1, ho H y ry, z, r, H, hm, same_refl, ?_, fun v F2 H2 fp W2 p2 => ?_⟩
  · rw [hA]
    exact Slots.cons (fp := []) ⟨rfl, _, rfl, rx⟩ (Slots.cons (fp := []) ⟨rfl, _, rfl, ry⟩ .nil)
  · have hH : Same H H2 := fun a o e => W2.bH a o e (by simp)
    have W0 := W.drop.drop
    have W3 : Wo B F H2 os := ⟨W0.sub.trans hH, W0.nd, W0.oF, fun a ha => let ⟨o, ho⟩ := W0.oH a ha; ⟨o, hH a o ho⟩, W0.bF, fun a o e hb => hH a o (W0.bH a o e hb), W0.bN, W0.bO⟩
    obtain ⟨_, rv⟩ := val_P p2
    cases rv
    exact ⟨r, rfl, kk _ F H2 [] same_refl hH W3 ⟨rfl, _, rfl, rfl⟩⟩
/-! ### isinstance with an own class -/
def TyX' (K : PySem.W.Frag) (s : Slot) (t : Value) : Prop := ∀ F H fp o, Same F H → s.P F H fp o → ∃ v, o = some v ∧ TyX K H v t
structure IsC (K : PySem.W.Frag) (C : Addr) : Prop where
  cl : Cls K C
  ha : PySem.W.findIn K (.ref C) "__class__" = some (some (.builtin "object.__class__"))
  hn : PySem.W.specialIn K (.builtin "object.__class__") "__get__" = some (some (.builtin "getset_descriptor.__get__"))
  ht : PySem.W.takesIn K (.builtin "object.__class__") = some true
  hm : PySem.W.mroIn K C (.type "object") = some true
theorem TyX'.obj (c : IsC K C) {sl : α → List Slot} {z : α} : TyX' K (val (pObj C ns sl) z) (.ref C) := fun F H fp o hS h => by
  obtain ⟨_, v, e, x, dx, vs, rfl, h1, _⟩ := h
  exact ⟨_, e, .base (.ins (hS _ _ h1) c.cl c.ha c.hn c.ht c.hm)⟩
theorem TyX'.bobj (c : IsC K C) {Δ : List Slot} : TyX' K (bobj C ns Δ) (.ref C) := fun F H fp o hS h => by
  obtain ⟨_, x, dx, vs, os, e, h1, _⟩ := h
  exact ⟨_, e, .base (.ins h1 c.cl c.ha c.hn c.ht c.hm)⟩
theorem TyX'.of {T : String} (h : TyV K s T) : TyX' K s (.type T) := h
theorem o_isiC {t : Value} {z : Bool} (hs : TyX' K s t) (hz : PySem.W.kitOne K t (.ref C) = some z) : OpA (rIsi K) [s, val (pRef C) ()] (vBl z) := opA2 fun B F H x y fx fy os Q W p1 p2 kk => by
  obtain ⟨v, ev, ty⟩ := hs F H fx _ W.sub p1
  cases ev
  obtain ⟨_, r2⟩ := val_P p2
  cases r2
  exact ⟨x, _, t, .ref C, z, rfl, .own C, ty, hz, kk _ F H [] same_refl same_refl W.drop.drop ⟨rfl, _, rfl, rfl⟩⟩
theorem kit_self : PySem.W.kitOne K (.ref C) (.ref C) = some true := by
  unfold PySem.W.kitOne
  rw [if_pos (by simp)]
end
end Ty

/-! Ty28 -/
/-! lists of several kinds unpacked; data of any make walked and displayed; wide division; errors within subscripts -/
namespace Ty
open PySem PySem.Spec L2
section
variable {P : Program} {w : World} {K : PySem.W.Frag} {mg : Str → Option Value} {base : Heap} {k : Nat}
variable {Y : Fa P w K mg base k} {i : Y.I} {e ea eb eo ev tg iter elt : Expr} {es ifs : List Expr} {rest body : List Stmt} {Γ Γ' Γ1 Γ2 Δ Δ' As : List Slot} {a b c r s s' : Slot} {pos pos' : Pos} {B : Bs} {D : Ends} {x f : Str} {p' p2 : Pos} {C : Addr} {ns : List Str} {α β : Type} {p : VP α} {q : VP β} {xs : List α} {EX : ExT} {ex : Exn}
/-- [e, ..] of things of several kinds, none handed on -/
theorem x_lstA (ha : XA Y es Γ As) (hz : As.length ≤ sizeLine) : XV Y (.List es pos) Γ (lstS As) := by
  obtain ⟨t, pa, rd⟩ := ha
  refine ⟨_, fun i => pe_lst (pa i), fun B F H os σ Q I kk => ?_⟩
  refine rd B F H os σ _ I fun vs F1 H1 fp f1 e1 W1 A1 => ?_
  refine ⟨by have := A1.length; rw [List.length_map] at this; rw [this]; exact hz, fun n hn => ?_⟩
  exact kk _ F1 _ (n :: fp) f1 (e1.trans (same_upd hn)) (W1.newO hn) ⟨n, vs, fp, rfl, rfl, upd_same, A1.mono same_refl (same_upd hn)⟩
theorem slots_nil {F H : Hp} {vs : List V} {Δ : List Slot} (S : Slots F H [] (vs.map some) Δ) : vs.length = Δ.length := by
  have := S.length
  rw [List.length_map] at this
  exact this
/-- a, b, .. = such a list, frozen -/
theorem xg_lstH {sl : α → List Slot} {z : α} {n : Nat} {ws : List Nat} (h : XGs Y es ws (sl z) Γ Γ') (hn : ∀ i, (assignEach es (Y.X i).env).length = (sl z).length := by intro _; rfl) (hst : ∀ i, (assignEach es (Y.X i).env).findIdx? (·.1) = none := by intro _; rfl) (hcm : Y.cm = true := by rfl) :
    XG Y (.Tuple es n pos) ws (val (pH sl) z) Γ Γ' := by
  obtain ⟨kk, g, pp, qq⟩ := h
  refine ⟨kk, _, fun i => by have := pg_lst (X := Y.X i) (k := n) (pos := pos) ((Y.hC i).trans hcm) (pp i) (hn i) (hst i); rw [Y.hK i] at this; exact this, fun F H fp os σ v Q hS pv S q => ?_⟩
  obtain ⟨rfl, l, vs, ev, h1, h2⟩ := val_P pv
  subst ev
  exact ⟨l, vs, rfl, SqL.of (hS _ _ h1), slots_nil h2, qq F H [] os σ vs Q hS (h2.mono same_refl hS) S q⟩
/-! ### data -/
theorem x_tupD {n : Nat} {ds : List PyData} (ha : XA Y es Γ (ds.map (val (pDa K)))) (hz : ds.length ≤ sizeLine) : XV Y (.Tuple es n pos) Γ (val (pDa K) (.tuple ds)) :=
  (x_tupN (p := pDa K) ha hz).as fun F H fp o _ ⟨e1, v, e2, l, vs, ev, h1, h2⟩ => ⟨e1, v, e2, by subst ev; exact .tup (SqT.of h1) (dpAll_paired h2)⟩
def pdItems : PyData → Option (List PyData)
  | .list ds => some ds
  | _ => none
/-- an item of a list or of a tuple -/
def pdAt : PyData → Int → Option PyData
  | .list ds, z => atI ds z
  | .tuple ds, z => atI ds z
  | _, _ => none
def pdIsT : PyData → Bool
  | .tuple _ => true
  | _ => false
theorem sameT {H H' : Hp} {a : Addr} {vs : List V} (e : Same H H') (h : SqT K H a vs) : SqT K H' a vs := by
  rcases h with h | h
  · refine .inl ?_
    rcases h with h | ⟨o, h⟩
    · exact .inl (e _ _ h)
    · exact .inr ⟨o, e _ _ h⟩
  · exact .inr h
theorem TV.data {ds : List PyData} : ∀ F H fp o, Same F H → (Ty.val (pDa K) (.tuple ds)).P F H fp o → ∃ l vs, o = some (.ref l) ∧ SqT K H l vs ∧ Paired ((pDa K).R F) vs ds := fun F H fp o hS h => by
  obtain ⟨_, v, e, r⟩ := h
  cases (show Dp K F v (.tuple ds) from r) with
  | tup h1 h2 => exact ⟨_, _, e, sameT hS h1, paired_dpAll h2⟩
theorem x_ixDT {d u : PyData} {z : Int} (ht : pdIsT d = true) (ha : XV Y ea Γ (val (pDa K) d)) (hb : XV Y eb Γ (vInt z)) (hz : pdAt d z = some u) (hx : PlainIx eb := by exact fun _ _ => rfl) : XV Y (.Subscript ea eb pos) Γ (val (pDa K) u) := by
  cases d with
  | tuple ds =>
    obtain ⟨ta, pa, ra⟩ := ha
    obtain ⟨tb, pb, rb⟩ := hb
    refine ⟨_, fun i => by have h := ix_tup (X := Y.X i); rw [Y.hK i] at h; exact pe_ix h (pa i) (pb i) hx, fun B F H os σ Q I q => ?_⟩
    refine two (Q := fun _ _ => True) I ra rb fun x y F2 H2 fx fy f2 e2 W2 p1 p2 => ?_
    obtain rfl := vint p2
    obtain ⟨rfl, _⟩ := val_P p1
    obtain ⟨l, vs, ev, h1, h2⟩ := TV.data F2 H2 _ _ W2.sub p1
    cases ev
    obtain ⟨v, hv, rv⟩ := paired_atI h2 hz
    exact ⟨l, vs, z, v, rfl, rfl, h1, hv, q v F2 H2 [] f2 e2 W2.drop ⟨rfl, _, rfl, rv⟩⟩
  | _ => cases ht
theorem x_ixDA {d u : PyData} {z : Int} (ha : XV Y ea Γ (val (pDa K) d)) (hb : XV Y eb Γ (vInt z)) (hz : pdAt d z = some u) (hx : PlainIx eb := by exact fun _ _ => rfl) : XV Y (.Subscript ea eb pos) Γ (val (pDa K) u) := by
  cases d with
  | list ds => exact x_ixD ha hb hz hx
  | tuple ds => exact x_ixDT rfl ha hb hz hx
  | _ => cases hz
/-! ### errors within -/
/-! ### // by great numbers -/
end
end Ty

/-! Ty29 -/
/-! lending: an owned list is handed to a def that only looks at it, and is owned again behind the call -/
namespace Ty
open PySem PySem.Spec L2
open PyProof.Rows (envOfC)
/-- all of F but its lists is in F' -/
def Kp (F F' : Hp) : Prop := ∀ a o, F a = some o → (∀ vs, o ≠ .lst vs) → F' a = some o
/-- what leans on no frozen list -/
def NLp {α : Type} (p : VP α) : Prop := ∀ F F' v a, Kp F F' → p.R F v a → p.R F' v a
def NLs (s : Slot) : Prop := ∀ F F' H fp o, Kp F F' → s.P F H fp o → s.P F' H fp o
def NLl (Γ : List Slot) : Prop := ∀ s ∈ Γ, NLs s
theorem NLp.flat {α : Type} {p : VP α} (h : Flat p) : NLp p := fun F F' v a _ r => h F F' v a r
theorem NLp.int : NLp pInt := .flat Flat.int
theorem NLp.bl : NLp pBl := .flat Flat.bl
theorem NLp.str : NLp pStr := .flat Flat.str
theorem paired_nl {α : Type} {p : VP α} {F F' : Hp} (h : NLp p) (k : Kp F F') : ∀ {vs : List V} {xs : List α}, Paired (p.R F) vs xs → Paired (p.R F') vs xs
  | _, _, .nil => .nil
  | _, _, .cons r t => .cons (h F F' _ _ k r) (paired_nl h k t)
theorem NLp.tup {α : Type} {p : VP α} (h : NLp p) : NLp (pTup p) := fun F F' v a k ⟨l, vs, e, h1, h2⟩ => ⟨l, vs, e, k _ _ h1 (by intro _ z; cases z), paired_nl h k h2⟩
theorem NLp.t2 {α β : Type} {p : VP α} {q : VP β} (h : NLp p) (h' : NLp q) : NLp (pT2 p q) := fun F F' v a k ⟨l, x, y, e, h1, h2, h3⟩ => ⟨l, x, y, e, k _ _ h1 (by intro _ z; cases z), h _ _ _ _ k h2, h' _ _ _ _ k h3⟩
theorem NLp.t3 {α β γ : Type} {p : VP α} {q : VP β} {r : VP γ} (h : NLp p) (h' : NLp q) (h'' : NLp r) : NLp (pT3 p q r) := fun F F' v a k ⟨l, x, y, z, e, h1, h2, h3, h4⟩ => ⟨l, x, y, z, e, k _ _ h1 (by intro _ z; cases z), h _ _ _ _ k h2, h' _ _ _ _ k h3, h'' _ _ _ _ k h4⟩
theorem NLs.val {α : Type} {p : VP α} {a : α} (h : NLp p) : NLs (Ty.val p a) := fun F F' H fp o k ⟨e, v, ev, r⟩ => ⟨e, v, ev, h _ _ _ _ k r⟩
theorem NLs.oL {α : Type} {p : VP α} {xs : List α} (h : NLp p) : NLs (own (Ty.oL p) xs) := fun F F' H fp o k ⟨v, ev, l, vs, e, ef, h1, h2⟩ => ⟨v, ev, l, vs, e, ef, h1, paired_nl h k h2⟩
theorem NLl.nil : NLl [] := fun _ h => nomatch h
theorem NLl.cons {s : Slot} {Γ : List Slot} (h : NLs s) (r : NLl Γ) : NLl (s :: Γ) := fun x hx => by
  rcases List.mem_cons.mp hx with rfl | hx
  · exact h
  · exact r x hx
theorem NLl.map {α : Type} {g : α → Slot} {xs : List α} (h : ∀ x, NLs (g x)) : NLl (xs.map g) := fun s hs => by
  obtain ⟨x, _, rfl⟩ := List.mem_map.mp hs
  exact h x
theorem NLl.slots {F F' H : Hp} (k : Kp F F') {os : List Addr} {σ : List (Option V)} {Γ : List Slot} (S : Slots F H os σ Γ) : NLl Γ → Slots F' H os σ Γ := by
  induction S with
  | nil => exact fun _ => .nil
  | cons p _ ih => exact fun h => .cons (h _ List.mem_cons_self _ _ _ _ _ k p) (ih fun s hs => h s (List.mem_cons_of_mem _ hs))
theorem NLs.lst {Δ : List Slot} (h : NLl Δ) : NLs (lstS Δ) := fun F F' H fp o k ⟨l, vs, os, e1, e2, h1, h2⟩ => ⟨l, vs, os, e1, e2, h1, h.slots k h2⟩
theorem NLs.obj {C : Addr} {ns : List Str} {Δ : List Slot} (h : NLl Δ) : NLs (Ty.obj C ns Δ) := fun F F' H fp o k ⟨x, dx, vs, os, e1, e2, h1, h2, h3, h4⟩ => ⟨x, dx, vs, os, e1, e2, h1, h2, h3, h.slots k h4⟩
/-- what is owned is lists alone -/
def OnlyL (s : Slot) : Prop := ∀ F H fp o, s.P F H fp o → ∀ a ∈ fp, ∃ vs, H a = some (.lst vs)
theorem OnlyL.oL {α : Type} {p : VP α} {xs : List α} : OnlyL (own (Ty.oL p) xs) := fun F H fp o ⟨v, ev, l, vs, e, ef, h1, h2⟩ a ha => by
  rw [ef] at ha
  rw [List.mem_singleton.mp ha]
  exact ⟨vs, h1⟩
theorem onlyL_slots {F H : Hp} {os : List Addr} {σ : List (Option V)} {Γ : List Slot} (S : Slots F H os σ Γ) : (∀ s ∈ Γ, OnlyL s) → ∀ a ∈ os, ∃ vs, H a = some (.lst vs) := by
  induction S with
  | nil => exact fun _ a ha => nomatch ha
  | cons p _ ih =>
    intro h a ha
    rcases List.mem_append.mp ha with ha | ha
    · exact h _ List.mem_cons_self _ _ _ _ p a ha
    · exact ih (fun s hs => h s (List.mem_cons_of_mem _ hs)) a ha
theorem OnlyL.lst {Δ : List Slot} (h : ∀ s ∈ Δ, OnlyL s) : OnlyL (lstS Δ) := fun F H fp o ⟨l, vs, os, e1, e2, h1, h2⟩ a ha => by
  rw [e2] at ha
  rcases List.mem_cons.mp ha with rfl | ha
  · exact ⟨vs, h1⟩
  · exact onlyL_slots h2 h a ha
theorem OnlyL.map {α : Type} {g : α → Slot} {xs : List α} (h : ∀ x, OnlyL (g x)) : ∀ s ∈ xs.map g, OnlyL s := fun s hs => by
  obtain ⟨x, _, rfl⟩ := List.mem_map.mp hs
  exact h x
def EXL (EX : ExT) : Prop := ∀ ex cls d F F', Kp F F' → EX ex cls d F → EX ex cls d F'
/-- owned objects become frozen, and nothing else -/
theorem Wo.freeze2 {B : Bs} {F H : Hp} {a b : List Addr} (W : Wo B F H (a ++ b)) : ∃ F', Wo B F' H b ∧ Same F F' ∧ (∀ x ∈ a, F' x = H x) ∧ ∀ x o, F' x = some o → x ∈ a ∨ F x = some o := by
  classical
  have nd := List.nodup_append.mp W.nd
  refine ⟨fun x => if x ∈ a then H x else F x, ⟨fun x o e => ?_, nd.2.1, fun x hx => ?_, fun x hx => W.oH x (List.mem_append_right _ hx), fun x o e => ?_, W.bH, fun x o e => ?_, fun x hx => W.bO x (List.mem_append_right _ hx)⟩, fun x o e => ?_, fun x hx => if_pos hx, fun x o e => ?_⟩
  · by_cases q : x ∈ a
    · simp only [q, if_true] at e; exact e
    · simp only [q, if_false] at e; exact W.sub x o e
  · have q : x ∉ a := fun q => (nd.2.2 x q x hx) rfl
    simp only [q, if_false]; exact W.oF x (List.mem_append_right _ hx)
  · have q : x ∉ a := fun q => by
      have z := W.oF x (List.mem_append_left _ q)
      rw [W.bF x o e] at z; cases z
    simp only [q, if_false]; exact W.bF x o e
  · by_cases q : x ∈ a
    · exact .inr (W.bO x (List.mem_append_left _ q))
    · simp only [q, if_false] at e; exact W.bN x o e
  · have q : x ∉ a := fun q => by
      have z := W.oF x (List.mem_append_left _ q)
      rw [e] at z; cases z
    simp only [q, if_false]; exact e
  · by_cases q : x ∈ a
    · exact .inl q
    · simp only [q, if_false] at e; exact .inr e
/-- what was frozen for a while is owned again -/
theorem Wo.thaw {B : Bs} {F F1 F2 H H2 : Hp} {a b os2 : List Addr} (W : Wo B F H (a ++ b)) (hF : Same F F1) (hx : ∀ x ∈ a, F1 x = H x) (hl : ∀ x ∈ a, ∃ vs, H x = some (.lst vs)) (ho : ∀ x o, F1 x = some o → x ∈ a ∨ F x = some o) (W2 : Wo ⟨F1, H, b⟩ F2 H2 os2) :
    ∃ F3, Wo B F3 H2 (a ++ os2) ∧ Same F F3 ∧ Kp F2 F3 ∧ Same F3 F2 := by
  classical
  have nd := List.nodup_append.mp W.nd
  have hm : ∀ x ∈ a, ∃ vs, F2 x = some (.lst vs) := fun x hq => by
    obtain ⟨vs, e⟩ := hl x hq
    exact ⟨vs, W2.bF x _ ((hx x hq).trans e)⟩
  have hS : Same F (fun x => if x ∈ a then none else F2 x) := fun x o e => by
    have q : x ∉ a := fun q => by rw [W.oF x (List.mem_append_left _ q)] at e; cases e
    show (if x ∈ a then none else F2 x) = _
    rw [if_neg q]
    exact W2.bF x o (hF x o e)
  have dj : ∀ x ∈ os2, x ∉ a := fun x hx2 q => by
    obtain ⟨vs, e⟩ := hm x q
    rw [W2.oF x hx2] at e; cases e
  have inv : ∀ x o, (if x ∈ a then none else F2 x) = some o → x ∉ a ∧ F2 x = some o := fun x o e => by
    by_cases q : x ∈ a
    · rw [if_pos q] at e; cases e
    · rw [if_neg q] at e; exact ⟨q, e⟩
  have bo : ∀ x ∈ b, B.H x = none ∨ x ∈ B.os := fun x hx => W.bO x (List.mem_append_right _ hx)
  refine ⟨fun x => if x ∈ a then none else F2 x, ⟨fun x o e => W2.sub x o (inv x o e).2, List.nodup_append.mpr ⟨nd.1, W2.nd, fun x h1 y h2 e => dj y h2 (e ▸ h1)⟩, fun x hx2 => ?_, fun x hx2 => ?_, W.bF.trans hS, fun x o e hb => ?_, fun x o e => ?_, fun x hx2 => ?_⟩, hS, fun x o e hn => ?_, fun x o e => (inv x o e).2⟩
  · show (if x ∈ a then none else F2 x) = none
    rcases List.mem_append.mp hx2 with q | q
    · rw [if_pos q]
    · rw [if_neg (dj x q)]; exact W2.oF x q
  · rcases List.mem_append.mp hx2 with q | q
    · obtain ⟨vs, e⟩ := hm x q
      exact ⟨_, W2.sub x _ e⟩
    · exact W2.oH x q
  · refine W2.bH x o (W.bH x o e hb) fun q => ?_
    rcases bo x q with z | z
    · rw [z] at e; cases e
    · exact hb z
  · obtain ⟨q, e⟩ := inv x o e
    rcases W2.bN x o e with z | z | z
    · rcases ho x o z with z | z
      · exact absurd z q
      · exact W.bN x o z
    · exact .inr (W.bFree z)
    · exact .inr (bo x z)
  · rcases List.mem_append.mp hx2 with q | q
    · exact W.bO x (List.mem_append_left _ q)
    · rcases W2.bO x q with z | z
      · exact W.bFree z
      · exact bo x z
  · have q : x ∉ a := fun q => by
      obtain ⟨vs, e2⟩ := hm x q
      rw [e] at e2; cases e2
      exact hn vs rfl
    show (if x ∈ a then none else F2 x) = _
    rw [if_neg q]; exact e
section
variable {P : Program} {w : World} {K : PySem.W.Frag} {mg : Str → Option Value} {base : Heap} {k : Nat}
variable {Y : Fa P w K mg base k} {e : Expr} {es : List Expr} {Γ : List Slot} {s s' r : Slot} {EX : ExT} {ex : Exn}
/-- where the slot j stands lent -/
theorem In.lend {B : Bs} {F H : Hp} {os : List Addr} {σ : List (Option V)} {j : Nat} (I : In B F H os σ Γ) (hs : Γ[j]? = some s) (hw : WkS s s') (hl : OnlyL s) :
    ∃ F1 x b, Same F F1 ∧ os.Perm (x ++ b) ∧ In ⟨F1, H, b⟩ F1 H b σ (Γ.set j s') ∧ ∀ F2 H2 fp, Same H H2 → Wo ⟨F1, H, b⟩ F2 H2 (fp ++ b) → ∃ F3, Wo B F3 H2 (fp ++ os) ∧ Same F F3 ∧ Kp F2 F3 := by
  obtain ⟨o2, r1, p, S⟩ := I.S
  obtain ⟨o, fp, r2, eσ, q, p2, kk⟩ := S.at hs
  obtain ⟨x, y, rfl, wk⟩ := hw F H fp o I.W.sub q
  have hp : os.Perm (x ++ (y ++ r2 ++ r1)) := by
    refine p.trans ((List.Perm.append_right r1 p2).trans ?_)
    rw [List.append_assoc, List.append_assoc, List.append_assoc]
  have W1 := I.W.perm hp
  obtain ⟨F1, W2, hF, hx, ho⟩ := W1.freeze2
  have hxl : ∀ z ∈ x, ∃ vs, H z = some (.lst vs) := fun z hz => hl F H _ o q z (List.mem_append_left _ hz)
  refine ⟨F1, x, y ++ r2 ++ r1, hF, hp, ⟨W2.self, ?_⟩, fun F2 H2 fp hH W3 => ?_⟩
  · obtain ⟨os', S', p3⟩ := kk (F' := F1) (H' := H) (fp' := y) (o' := o) (wk F1 hF W2.sub hx) fun s0 _ fp0 o0 _ h0 => s0.mono hF same_refl h0
    have es : σ.set j o = σ := by
      refine List.ext_getElem? fun m => ?_
      rw [List.getElem?_set]
      split
      · rename_i h; subst h
        split
        · exact eσ.symm
        · rename_i h2
          rw [List.getElem?_eq_none (by omega)]
      · rfl
    rw [es] at S'
    exact ⟨os', r1, List.Perm.append_right r1 p3.symm, S'⟩
  · obtain ⟨F3, W4, h1, h2, _⟩ := W1.thaw hF hx hxl ho W3
    refine ⟨F3, W4.perm ?_, h1, h2⟩
    refine List.Perm.trans ?_ (List.Perm.append_left fp hp.symm)
    rw [← List.append_assoc x fp, ← List.append_assoc fp x]
    exact List.Perm.append_right _ List.perm_append_comm
theorem x_lend (j : Nat) (hs : Γ[j]? = some s) (hw : WkS s s') (hl : OnlyL s) (hr : NLs r) (h : XV Y e (Γ.set j s') r) : XV Y e Γ r := by
  obtain ⟨t, p, rd⟩ := h
  refine ⟨t, p, fun B F H os σ Q I kk => ?_⟩
  obtain ⟨F1, x, b, hF, hp, I1, th⟩ := I.lend hs hw hl
  refine rd _ F1 H b σ Q I1 fun v F2 H2 fp f2 e2 W2 q => ?_
  obtain ⟨F3, W3, h1, h2⟩ := th F2 H2 fp e2 W2
  exact kk v F3 H2 fp h1 e2 W3 (hr _ _ _ _ _ h2 q)
end
end Ty

/-! Ty30 -/
/-! a loop over an owned list of owned lists that changes each of them -/
namespace Ty
open PySem PySem.Spec L2
open PyProof.Rows (envOfC)
/-- an owned list of owned things, its address and theirs known -/
def lstAt (l : Addr) (vs : List V) (Γs : List Slot) : Slot where
  P := fun F H fp o => ∃ os, o = some (.ref l) ∧ fp = l :: os ∧ H l = some (.lst vs) ∧ Slots F H os (vs.map some) Γs
  mono := fun hF hH h => let ⟨os, e1, e2, h1, h2⟩ := h; ⟨os, e1, e2, hH _ _ h1, h2.mono hF hH⟩
  st := Stb Γs
  mm := fun hs {_ _ _ _ _ _} hF hH h => let ⟨os, e1, e2, h1, h2⟩ := h
    ⟨os, e1, e2, by rw [hH l (by rw [e2]; simp)]; exact h1, h2.mm hF hs fun q hq => hH q (by rw [e2]; simp [hq])⟩
section
variable {P : Program} {w : World} {K : PySem.W.Frag} {mg : Str → Option Value} {base : Heap} {k : Nat}
variable {Y : Fa P w K mg base k} {i : Y.I} {e ea eb eo ev tg iter elt : Expr} {es ifs : List Expr} {rest body : List Stmt} {Γ Γ' Γ1 Γ2 Δ Δ' : List Slot} {a b c r s s' : Slot} {pos : Pos} {B : Bs} {D : Ends} {x g f : Str} {p' : Pos}
end
end Ty

/-! Ty31 -/
/-! one of an owned display; an owned thing put at the end of an owned list -/
namespace Ty
open PySem PySem.Spec L2
open PyProof.Rows (envOfC)
section
variable {P : Program} {w : World} {K : PySem.W.Frag} {mg : Str → Option Value} {base : Heap} {k : Nat}
variable {Y : Fa P w K mg base k} {i : Y.I} {e ea eb eo ev tg iter elt : Expr} {es ifs : List Expr} {rest body : List Stmt} {Γ Γ' Γ1 Γ2 Δ Δ' : List Slot} {a b c r s s' : Slot} {pos : Pos} {B : Bs} {D : Ends} {x g f : Str} {p' : Pos}
end
end Ty

/-! Ty32 -/
/-! more ints of which the heap takes no notice -/
namespace Ty
open PySem PySem.Spec L2
open PyProof.Rows (envOfC)
section
variable {P : Program} {w : World} {K : PySem.W.Frag} {mg : Str → Option Value} {base : Heap} {k : Nat}
variable {Y : Fa P w K mg base k} {i : Y.I} {e ea eb eo : Expr} {Γ : List Slot} {s : Slot} {pos p' pn : Pos} {x : Str}
end
end Ty

/-! Ty33 -/
/-! an owned thing put into an owned list of owned things -/
namespace Ty
open PySem PySem.Spec L2
open PyProof.Rows (envOfC)
section
variable {P : Program} {w : World} {K : PySem.W.Frag} {mg : Str → Option Value} {base : Heap} {k : Nat}
variable {Y : Fa P w K mg base k} {i : Y.I} {e ea eb eo ev tg iter elt : Expr} {es ifs : List Expr} {rest body : List Stmt} {Γ Γ' Γ1 Γ2 Δ Δ' : List Slot} {a b c r s s' : Slot} {pos : Pos} {B : Bs} {D : Ends} {x g f : Str} {p' : Pos}
/-- what is looked at, its items without a heap -/
theorem XV.bl {α : Type} {p : VP α} {xs : List α} (h : XV Y e Γ (bor (pL p) xs)) (hf : Flat p) : XV Y e Γ (borL p xs) := h.as fun F H fp o _ ⟨e1, v, e2, l, vs, ev, h1, h2⟩ => ⟨e1, l, vs, by rw [e2, ev], h1, Paired.mon (fun _ _ r => hf _ _ _ _ r) h2⟩
end
end Ty

/-! Ty34 -/
/-! an own == said plainly; what leans on no list -/
namespace Ty
open PySem PySem.Spec L2
open PyProof.Rows (envOfC)
section
variable {P : Program} {w : World} {K : PySem.W.Frag} {mg : Str → Option Value} {base : Heap} {k : Nat}
variable {Y : Fa P w K mg base k} {Γ : List Slot} {a b s : Slot} {C C' : Addr} {ns : List Str} {α β : Type} {q : VP β} {f : Addr} {fd : FuncData} {ps : List Str} {As : α × β → List Slot} {m : α × β → Option Bool} {j : Nat}
theorem o_ownE {sl : α → List Slot} {z : α × β} {r : Bool} (hA : As z = [val (pObj C ns sl) z.1, val q z.2]) (ha : Vw a (pObj C ns sl) z.1) (hb : Vw b q z.2) (ho : OthV K C q z.2) (hm : m z = some r) : Op2 (rOwn K C (spP As m (val pBl)) E0' id) a b (vBl r) := o_own (g := id) hA ha hb ho hm
end
/-- a def that may raise, where it does not -/
def okR {α : Type} (o : Option (Rx α)) : Option α := o.bind fun
  | .ok a => some a
  | .ex _ => none
theorem okR_some {α : Type} {o : Option (Rx α)} {a : α} (h : okR o = some a) : o = some (.ok a) := by
  unfold okR at h
  obtain ⟨x, h1, h2⟩ := Option.bind_eq_some_iff.mp h
  cases x with
  | ok r => cases h2; exact h1
  | ex e => cases h2
section
variable {P : Program} {w : World} {K : PySem.W.Frag} {mg : Str → Option Value} {base : Heap} {k : Nat}
variable {Y : Fa P w K mg base k} {i : Y.I} {Γ : List Slot} {pos p' pn : Pos} {x : Str}
end
section
variable {P : Program} {w : World} {K : PySem.W.Frag} {mg : Str → Option Value} {base : Heap} {k : Nat}
variable {Y : Fa P w K mg base k} {i : Y.I} {tg iter elt : Expr} {ifs : List Expr} {Γ : List Slot} {pos : Pos} {scope : Scope}
theorem x_emptyL {α : Type} {p : VP α} : XV Y (.List [] pos) Γ (own (oL p) ([] : List α)) := x_lst (xs := []) xa_nil (Nat.zero_le _)
end
theorem Kp.xd {F F' : Hp} (h : Kp F F') {a : Addr} {d : HO} (e : F a = some d) (hd : ∀ vs, d ≠ .lst vs) : F' a = some d := h a d e hd
end Ty

/-! Ty35 -/
/-! dicts whose keys are tuples within tuples -/
namespace Ty
open PySem PySem.Spec L2
mutual
/-- v is such a key, its tuples in H -/
inductive NkR (H : Hp) : NestedKey → V → Prop
  | non : NkR H .none .non
  | int (i : Int) : NkR H (.num i) (.int i)
  | str (x : Str) : NkR H (.text x) (.str x)
  | tup {l : Addr} {vs : List V} {ks : List NestedKey} : H l = some (.tup vs) → NkA H ks vs → NkR H (.tup ks) (.ref l)
inductive NkA (H : Hp) : List NestedKey → List V → Prop
  | nil : NkA H [] []
  | cons {k : NestedKey} {v : V} {ks : List NestedKey} {vs : List V} : NkR H k v → NkA H ks vs → NkA H (k :: ks) (v :: vs)
end
mutual
theorem NkR.mono {H H' : Hp} (h : ∀ l vs, H l = some (.tup vs) → H' l = some (.tup vs)) : ∀ (k : NestedKey) (v : V), NkR H k v → NkR H' k v
  | .none, _, hx => by cases hx; exact .non
  | .num i, _, hx => by cases hx; exact .int i
  | .text x, _, hx => by cases hx; exact .str x
  | .tup ks, _, hx => by
    cases hx with
    | tup e r => exact .tup (h _ _ e) (NkA.mono h ks _ r)
theorem NkA.mono {H H' : Hp} (h : ∀ l vs, H l = some (.tup vs) → H' l = some (.tup vs)) : ∀ (ks : List NestedKey) (vs : List V), NkA H ks vs → NkA H' ks vs
  | [], _, hx => by cases hx; exact .nil
  | k :: ks, _, hx => by
    cases hx with
    | cons a b => exact .cons (NkR.mono h k _ a) (NkA.mono h ks _ b)
end
mutual
theorem nk_is {P : Program} {w : World} {H : Hp} {h : Heap} (ok : HOk P w H h) : ∀ (k : NestedKey) (v : V) (u : Value), NkR H k v → RelV v u → NestedIs h k u
  | .none, _, u, hx, r => by
    cases hx
    rw [show u = Value.none from r]
    exact .none
  | .num i, _, u, hx, r => by
    cases hx
    obtain ⟨t, rfl⟩ := (show ∃ t, u = Value.int i t from r)
    exact .int i t
  | .text x, _, u, hx, r => by
    cases hx
    obtain ⟨t, rfl⟩ := (show ∃ t, u = Value.str x t from r)
    exact .text x t
  | .tup ks, _, u, hx, r => by
    cases hx with
    | @tup l vs _ e q =>
      rw [show u = Value.ref l from r]
      obtain ⟨_, its, rv, ob, e1, e2, n, e3⟩ := ok l _ e
      exact .tup e1 e2 e3 (by simpa using nka_is ok ks vs its q rv)
theorem nka_is {P : Program} {w : World} {H : Hp} {h : Heap} (ok : HOk P w H h) : ∀ (ks : List NestedKey) (vs : List V) (us : List Value), NkA H ks vs → Vals vs us → NestedAll h ks us
  | [], _, us, hx, r => by
    cases hx
    cases r
    exact .nil
  | k :: ks, _, us, hx, r => by
    cases hx with
    | cons a b =>
      cases r with
      | cons r1 r2 => exact .cons (nk_is ok k _ _ a r1) (nka_is ok ks _ _ b r2)
end
def pNK : VP NestedKey where
  R := fun F v k => NkR F k v ∧ k.depth ≤ 8 ∧ ∃ l, v = .ref l
  mono := fun hF h => ⟨NkR.mono (fun l vs e => hF _ _ e) _ _ h.1, h.2⟩
/-! ### the dict -/
abbrev NDX := List (NestedKey × Addr × V)
def ndo (P : Program) (w : World) (d : Addr) (xs : NDX) : HO := .ext fun h => xs.length ≤ sizeLine ∧ (d == sysModules) = false ∧ ∃ ys : List (NestedKey × Addr × Value),
  Paired (fun (x : NestedKey × Addr × V) (y : NestedKey × Addr × Value) => x.1 = y.1 ∧ x.2.1 = y.2.1 ∧ RelV x.2.2 y.2.2) xs ys ∧
  ∃ o es ep, h.get? d = some o ∧ o.ExactDict ∧ o.data = .dict es ep ∧ es.toList = ys.map (entryOfKey (nestedKind P w)) ∧ (ys.map (·.1)).Nodup
abbrev NRl (xs : NDX) (ys : List (NestedKey × Addr × Value)) : Prop := Paired (fun (x : NestedKey × Addr × V) (y : NestedKey × Addr × Value) => x.1 = y.1 ∧ x.2.1 = y.2.1 ∧ RelV x.2.2 y.2.2) xs ys
abbrev Kys (H : Hp) (xs : NDX) : Prop := ∀ x ∈ xs, pNK.R H (.ref x.2.1) x.1
def atN (xs : NDX) (k : NestedKey) : Option V := (xs.find? fun x => decide (x.1 = k)).map (·.2.2)
def putN (xs : NDX) (k : NestedKey) (a : Addr) (v : V) : NDX := if (atN xs k).isSome = true then xs.map (fun x => if x.1 = k then (x.1, x.2.1, v) else x) else xs ++ [(k, a, v)]
/-! ### reading and writing -/
def NGet (P : Program) (w : World) (H : Hp) (d : Addr) (y : V) (r : Option V) : Prop := ∃ xs k b, H d = some (ndo P w d xs) ∧ Kys H xs ∧ y = .ref b ∧ pNK.R H y k ∧ r = atN xs k
section
variable {X : Cx} {pins : List (Addr × Obj)} {σ : St} {H : Hp} {s : Shared} {d : Addr} {y v : V} {u r : Value} {o : Option V} {A : Around} {E : Value → Shared → Prop}
end
def tNGet (P : Program) (w : World) (td ty : TE) : TE := fun σ H Q => td σ H fun x H1 => ty σ H1 fun y H2 => ∃ a v, x = .ref a ∧ NGet P w H2 a y (some v) ∧ Q v H2
def tNIn (P : Program) (w : World) (ty td : TE) : TE := fun σ H Q => ty σ H fun y H1 => td σ H1 fun x H2 => ∃ a o, x = .ref a ∧ NGet P w H2 a y o ∧ Q (.bl o.isSome) H2
def tNNotIn (P : Program) (w : World) (ty td : TE) : TE := fun σ H Q => ty σ H fun y H1 => td σ H1 fun x H2 => ∃ a o, x = .ref a ∧ NGet P w H2 a y o ∧ Q (.bl (!o.isSome)) H2
def sNPut (P : Program) (w : World) (td ty tv : TE) : TS := fun D σ H => tv σ H fun v H1 => td σ H1 fun x H2 => ty σ H2 fun y H3 => ∃ a xs k b, x = .ref a ∧ H3 a = some (ndo P w a xs) ∧ Kys H3 xs ∧ y = .ref b ∧ pNK.R H3 y k ∧ xs.length < sizeLine ∧ D.nx σ (upd H3 a (ndo P w a (putN xs k b v)))
def tNNew (P : Program) (w : World) : TE := fun _ H Q => ∀ p, H p = none → Q (.ref p) (upd H p (ndo P w p []))
section
variable {X : Cx} {o i e value : Expr} {pos pos' tpos : Pos} {td ty tv : TE}
end
def rLenN (P : Program) (w : World) : List V → Hp → VK → Prop := fun vs H Q => ∃ (p : Addr) (xs : NDX), vs = [.ref p] ∧ H p = some (ndo P w p xs) ∧ Kys H xs ∧ Q (.int ((xs.length : Nat) : Int)) H
/-! ### typed -/
section
variable {β : Type} {P : Program} {w : World} {p : VP β}
abbrev NRel (p : VP β) (F : Hp) (xs : NDX) (kvs : List (NestedKey × β)) : Prop := Paired (fun (x : NestedKey × Addr × V) (kv : NestedKey × β) => x.1 = kv.1 ∧ pNK.R F (.ref x.2.1) x.1 ∧ p.R F x.2.2 kv.2) xs kvs
theorem NRel.keys {F : Hp} {xs : NDX} {kvs : List (NestedKey × β)} (h : NRel p F xs kvs) : Kys F xs := by
  induction h with
  | nil => intro x hx; cases hx
  | cons r _ ih =>
    intro x hx
    rcases List.mem_cons.mp hx with rfl | hx
    · exact r.2.1
    · exact ih x hx
theorem nrel_mono {F F' : Hp} (hF : Same F F') {xs : NDX} {kvs : List (NestedKey × β)} (h : NRel p F xs kvs) : NRel p F' xs kvs := Paired.mon (fun _ _ r => ⟨r.1, pNK.mono hF r.2.1, p.mono hF r.2.2⟩) h
/-- an owned dict -/
def oN (P : Program) (w : World) (p : VP β) : OP (List (NestedKey × β)) where
  P := fun F H fp v kvs => ∃ d xs, v = .ref d ∧ fp = [d] ∧ H d = some (ndo P w d xs) ∧ NRel p F xs kvs
  mono := fun hF hH h => let ⟨d, vs, e, ef, h1, h2⟩ := h; ⟨d, vs, e, ef, hH _ _ h1, nrel_mono hF h2⟩
  mm := fun hF hH h => let ⟨d, vs, e, ef, h1, h2⟩ := h; ⟨d, vs, e, ef, by rw [hH d (by rw [ef]; exact List.mem_cons_self)]; exact h1, nrel_mono hF h2⟩
def borN (P : Program) (w : World) (p : VP β) (kvs : List (NestedKey × β)) : Slot where
  P := fun F H fp o => fp = [] ∧ ∃ d xs, o = some (.ref d) ∧ H d = some (ndo P w d xs) ∧ NRel p F xs kvs
  mono := fun hF hH h => let ⟨ef, d, vs, e, h1, h2⟩ := h; ⟨ef, d, vs, e, hH _ _ h1, nrel_mono hF h2⟩
  st := False
  mm := fun h => h.elim
def pN (P : Program) (w : World) (p : VP β) : VP (List (NestedKey × β)) where
  R := fun F v kvs => ∃ d xs, v = .ref d ∧ F d = some (ndo P w d xs) ∧ NRel p F xs kvs
  mono := fun hF h => let ⟨d, vs, e, h1, h2⟩ := h; ⟨d, vs, e, hF _ _ h1, nrel_mono hF h2⟩
theorem WkS.nd {kvs : List (NestedKey × β)} : WkS (Ty.own (oN P w p) kvs) (Ty.val (pN P w p) kvs) := fun F H fp o _ h => by
  obtain ⟨v, e, l, vs, el, ef, h1, h2⟩ := h
  subst ef
  exact ⟨[l], [], rfl, fun F' hF hs hx => ⟨rfl, v, e, l, vs, el, by rw [hx l List.mem_cons_self]; exact h1, nrel_mono hF h2⟩⟩
end
section
variable {P : Program} {w : World} {K : PySem.W.Frag} {mg : Str → Option Value} {base : Heap} {k : Nat} {β : Type} {p : VP β}
variable {Y : Fa P w K mg base k} {i : Y.I} {e ea eb eo ev tg iter elt : Expr} {es ifs : List Expr} {rest body : List Stmt} {Γ Γ' Γ1 Γ2 Δ Δ' : List Slot} {a b c r s s' : Slot} {pos : Pos} {B : Bs} {D : Ends} {x f : Str} {p' : Pos} {C : Addr} {ns : List Str}
theorem Kys.mono {F H : Hp} {xs : NDX} (hF : Same F H) (h : Kys F xs) : Kys H xs := fun x hx => pNK.mono hF (h x hx)
end
/-! ### data as keys -/
structure NE {α : Type} (p : VP α) where
  enc : α → NestedKey
  d : Nat
  rel : ∀ F v a, p.R F v a → NkR F (enc a) v
  dep : ∀ a, (enc a).depth ≤ d
def NE.int : NE pInt := ⟨.num, 0, fun F v a h => by cases h; exact .int a, fun _ => Nat.le_refl _⟩
theorem nka_of {α : Type} {p : VP α} (E : NE p) {F : Hp} {vs : List V} {xs : List α} (h : Paired (p.R F) vs xs) : NkA F (xs.map E.enc) vs := by
  induction h with
  | nil => exact .nil
  | cons r _ ih => exact .cons (E.rel _ _ _ r) ih
theorem depAll {α : Type} {p : VP α} (E : NE p) : ∀ xs : List α, NestedKey.depthAll (xs.map E.enc) ≤ E.d
  | [] => Nat.zero_le _
  | x :: xs => by
    rw [List.map_cons, NestedKey.depthAll]
    exact Nat.max_le.mpr ⟨E.dep x, depAll E xs⟩
def NE.tup {α : Type} {p : VP α} (E : NE p) : NE (pTup p) where
  enc := fun xs => .tup (xs.map E.enc)
  d := E.d + 1
  rel := fun F v a ⟨l, vs, e, h1, h2⟩ => by subst e; exact .tup h1 (nka_of E h2)
  dep := fun a => by rw [NestedKey.depth]; exact Nat.succ_le_succ (depAll E a)
def NE.t2 {α β : Type} {p : VP α} {q : VP β} (E : NE p) (E' : NE q) : NE (pT2 p q) where
  enc := fun x => .tup [E.enc x.1, E'.enc x.2]
  d := max E.d E'.d + 1
  rel := fun F v a ⟨l, u, w, e, h1, h2, h3⟩ => by subst e; exact .tup h1 (.cons (E.rel _ _ _ h2) (.cons (E'.rel _ _ _ h3) .nil))
  dep := fun a => by
    have h1 := E.dep a.1
    have h2 := E'.dep a.2
    simp only [NestedKey.depth, NestedKey.depthAll]
    omega
section
variable {P : Program} {w : World} {K : PySem.W.Frag} {mg : Str → Option Value} {base : Heap} {k : Nat}
variable {Y : Fa P w K mg base k} {e : Expr} {Γ : List Slot}
end
end Ty

/-! Ty36 -/
/-! repr: defs whose caller has no repr under way -/
namespace Ty
open PySem PySem.Spec L2
open PyProof.Rows
/-- as FnOk, called where no repr is under way -/
structure FnG (P : Program) (w : World) (K : PySem.W.Frag) (mg : Str → Option Value) (base : Heap) (k : Nat) (f : Addr) (fd : FuncData) (ps : List Str) (sp : Sp) : Prop where
  len : ∀ vs H Q E, sp vs H Q E → vs.length = ps.length
  run : ∀ (A : Around) (outer : List Env) (s : Shared) (H : Hp) (args : Args) (us : List Value) (vs : List V) (Q : VK) (E : XK), A.guards = some [] → Room k A → Env0 P w K mg base A outer s H → BindsTo s fd args (ps.zip us) → Vals vs us → sp vs H Q E →
    codeAny (model P w) A (.call (.ref f) args) (CR CX0 outer P w H s Q E) s
theorem FnG.imp {P : Program} {w : World} {K : PySem.W.Frag} {mg : Str → Option Value} {base : Heap} {k : Nat} {f : Addr} {fd : FuncData} {ps : List Str} {sp sp' : Sp} (F : FnG P w K mg base k f fd ps sp) (h : ∀ vs H Q E, sp' vs H Q E → sp vs H Q E) : FnG P w K mg base k f fd ps sp' :=
  ⟨fun vs H Q E q => F.len vs H Q E (h _ _ _ _ q), fun A outer s H args us vs Q E hga hr he hb hv q => F.run A outer s H args us vs Q E hga hr he hb hv (h _ _ _ _ q)⟩
section
variable {P : Program} {w : World} {K : PySem.W.Frag} {mg : Str → Option Value} {base : Heap} {k : Nat}
end
section
variable {X : Cx} {k : Nat} {f : Addr} {fd : FuncData} {ps : List Str} {sp : Sp} {E : XK} {x : Str} {p pos : Pos} {e : Expr} {es : List Expr} {t : TA}
end
section
variable {P : Program} {w : World} {K : PySem.W.Frag} {mg : Str → Option Value} {base : Heap} {k : Nat}
variable {Y : Fa P w K mg base k} {i : Y.I} {e ea eb : Expr} {es : List Expr} {Γ : List Slot} {a b c s : Slot} {pos : Pos} {B : Bs} {D : Ends} {x : Str} {p' : Pos}
/-! ### repr of data -/
def pdIsR : PyData → Bool
  | .int _ => true
  | .list _ => true
  | .tuple _ => true
  | _ => false
def rRepr (K : PySem.W.Frag) : List V → Hp → VK → Prop := fun xs H Q => ∃ v d, xs = [v] ∧ Dp K H v d ∧ ((∃ i, v = .int i) ∨ ∃ a, v = .ref a) ∧ d.showable = true ∧ d.hasDict = false ∧ d.depth ≤ 40 ∧ d.shown.length ≤ sizeLine ∧ Q (.str d.shown) H
def ReprOk (d : PyData) : Prop := (pdIsR d = true ∧ d.showable = true) ∧ d.hasDict = false ∧ d.depth ≤ 40 ∧ d.shown.length ≤ sizeLine
instance (d : PyData) : Decidable (ReprOk d) := by unfold ReprOk; infer_instance
end
/-! ### lists of several kinds, as data -/
inductive DSl (K : PySem.W.Frag) : List Slot → List PyData → Prop
  | nil : DSl K [] []
  | cons {α : Type} [DecidableEq α] {p : VP α} {ok : α → Prop} {a : α} {Γ : List Slot} {ds : List PyData} (E : DE p ok) (r : DSl K Γ ds) : DSl K (val p a :: Γ) (E.enc a :: ds)
theorem DSl.all {K : PySem.W.Frag} {F H : Hp} {Γ : List Slot} {ds : List PyData} (h : DSl K Γ ds) : ∀ {vs : List V} {fp : List Addr}, Slots F H fp (vs.map some) Γ → DpAll K F vs ds := by
  induction h with
  | nil =>
    intro vs fp S
    cases vs with
    | nil => exact .nil
    | cons _ _ => have := S.length; simp at this
  | cons E _ ih =>
    intro vs fp S
    cases vs with
    | nil => have := S.length; simp at this
    | cons v vs =>
      obtain ⟨f1, f2, rfl, pv, pr⟩ := Slots.cons_inv S
      exact .cons (E.dp K F v _ (val_P pv).2) (ih pr)
section
variable {P : Program} {w : World} {K : PySem.W.Frag} {mg : Str → Option Value} {base : Heap} {k : Nat}
variable {Y : Fa P w K mg base k} {e : Expr} {Γ : List Slot}
theorem XV.dataH {α : Type} {sl : α → List Slot} {z : α} {ds : List PyData} (D : DSl K (sl z) ds) (h : XV Y e Γ (val (pH sl) z)) : XV Y e Γ (val (pDa K) (.list ds)) := h.as fun F H fp o _ ⟨e1, v, e2, l, vs, ev, h1, h2⟩ => ⟨e1, v, e2, by subst ev; exact .lst (SqL.of h1) (D.all h2)⟩
end

/-! ### the law, called where no repr is under way -/
end Ty

/-! Ty37 -/
/-! tuples: tuple + tuple, slices, enumerate(tuple) -/
namespace PySem
open Sem (wp)
open AutoSeq1 (wpAny_loadPart')
section
variable {prog : Program} {w : World} {A : Around} {E : Value → Shared → Prop} {s : Shared}
end
end PySem
namespace Ty
open PySem PySem.Spec L2
open PyProof.Rows
def ItET (K : PySem.W.Frag) (a : Addr) : It :=
  ⟨fun i H => ∃ (xs : List V) (x : V), SqT K H a xs ∧ xs[i]? = some x, fun i H v H' => ∃ T x, v = .ref T ∧ H T = none ∧ H' = upd H T (.tup [.int (i : Nat), x]) ∧ ∀ xs, SqT K H a xs → xs[i]? = some x, fun i H => ∃ xs : List V, SqT K H a xs ∧ xs.length ≤ i⟩
def iEnumT (K : PySem.W.Frag) (ta : TA) : TI := fun σ H R => ta σ H fun vs H1 => ∃ a xs, vs = [.ref a] ∧ SqT K H1 a xs ∧ R (ItET K a) H1
section
variable {P : Program} {w : World} {K : PySem.W.Frag} {mg : Str → Option Value} {base : Heap} {k : Nat} {Y : Fa P w K mg base k} {Γ : List Slot} {e ea eb iter tg : Expr} {pos : Pos}
variable {α : Type} {p : VP α} {xs ys : List α}
end
end Ty

/-! Ty55 -/
/-! max(xs, key=lambda x: ..): the builtin's loop over an invariant of the state -/
namespace Ty
open PySem PySem.Spec L2
open PyProof.Rows
section
variable {prog : Program} {w : World} {A : Around} {E : Value → Shared → Prop} {l q I S : Addr} {n : Nat} {Pv : Nat → Value → Prop} {R : Result → Shared → Prop} {Q : Value → Shared → Prop} {J : Shared → Prop}
end
end Ty

/-! Ty56 -/
/-! a lambda of one parameter, made and called; max(xs, key=lambda x: ..) -/
namespace Ty
open PySem PySem.Spec L2
open PyProof.Rows
open LamX
/-! ### the lambda's frame -/
structure LamS1 (sc scope : Scope) (p : Str) : Prop where
  kind : scope.kind = .function
  co : scope.isCoroutine = false
  gen : scope.isGenerator = false
  own : ∀ y ∈ scope.names, y.2 ≠ .cell ∧ (y.2 = .local → y.1 = p)
  par : scope.names.lookup p = some .local
  free : ∀ y ∈ scope.names, y.2 = .free → sc.names.lookup y.1 = some .cell ∨ sc.names.lookup y.1 = some .free
def lamC1 (X : Cx) (A : Around) (scope : Scope) (f c' : Addr) (p : Str) (s : Shared) (H : Hp) : Cx where
  prog := X.prog
  w := X.w
  K := X.K
  mg := X.mg
  base := X.base
  A := A.deeper (lamEnv X scope s.heap.objs.size f c')
  N := X.N ++ [p]
  s_0 := s
  H_0 := H
  env := lamEnv X scope s.heap.objs.size f c'
  outer := X.stack
  stack := lamEnv X scope s.heap.objs.size f c' :: X.stack
  ex := []
  fn := fun _ => false
  calm := true
  pn := []
  xe := fun _ _ => False
section
variable {X : Cx} {pins : List (Addr × Obj)} {σ : L2.St} {H : Hp} {s : Shared}
end
/-! ### the first of the greatest -/
def fmx (g : Int → Int) : List Int → Option Int
  | [] => none
  | x :: xs => some (xs.foldl (fun b y => if g b < g y then y else b) x)
/-! ### max(e, key=lambda p: body) -/
/-- the codes that the table tells -/
def Cds (ps : Array Value) (q : Str) (R : Addr → Prop) : Prop := TriplesOk ps.toList ∧ ∀ (pos : Pos) (cv : Value), codeAmong pos ps.toList = some cv → ∃ c, cv = .ref c ∧ R c
def MaxLam (K : PySem.W.Frag) (P : Addr) (q : Str) (tb : TE) (σ : L2.St) (Q : VK) : VK := fun v H0 => ∃ (a : Addr) (ns : List Int) (ps : Array Value) (R : Addr → Prop) (JH : Addr → Hp → Prop) (g : Int → Int) (m : Int),
  v = .ref a ∧ SqL K H0 a (ns.map V.int) ∧ H0 P = some (.tbl ps) ∧ (∀ c, R c → H0 c = some (CodeO c q)) ∧ Cds ps q R ∧ fmx g ns = some m ∧
  (∀ (c' : Addr) (H1 : Hp), ((H1 = H0 ∧ H0 c' = some (CodeO c' q)) ∨ (H0 c' = none ∧ ∃ ps' : Array Value, H1 = upd (upd H0 P (.tbl ps')) c' (CodeO c' q) ∧ Cds ps' q (fun c => c = c' ∨ R c))) → JH c' H1) ∧
  (∀ (c' : Addr) (H2 : Hp), JH c' H2 → H2 c' = some (CodeO c' q) ∧ SqL K H2 a (ns.map V.int) ∧ ∀ n ∈ ns, tb (σ ++ [some (.int n)]) H2 (fun v H3 => v = .int (g n) ∧ JH c' H3)) ∧
  ∀ (c' : Addr) (H3 : Hp), JH c' H3 → Q (.int m) H3
def tMaxLam (K : PySem.W.Frag) (P : Addr) (q : Str) (te tb : TE) : TE := fun σ H Q => te σ H (MaxLam K P q tb σ Q)
/-- an address of our own, out of the frames' reach -/
structure Apart (X : Cx) (pins : List (Addr × Obj)) (b : Addr) : Prop where
  new : X.s_0.heap.objs.size ≤ b
  loc : b ≠ X.env.locals
  cel : ∀ x c, X.env.cells.lookup x = some c → c ≠ b
  pin : ∀ p ∈ X.pn ++ pins, p.1 ≠ b
  frs : b ∉ frs X.stack
section
variable {X : Cx} {pins : List (Addr × Obj)} {σ : L2.St} {H : Hp} {s : Shared}
theorem Apart.of (I : Inv X pins σ H s) {b : Addr} (h : s.heap.objs.size ≤ b) : Apart X pins b := by
  have hl := I.lt
  refine ⟨Nat.le_trans I.sz h, fun z => ?_, fun x c e z => ?_, fun p hp z => ?_, fun z => ?_⟩
  · rw [z] at h; exact absurd (Nat.lt_of_lt_of_le hl h) (Nat.lt_irrefl _)
  · obtain ⟨v, o, ho, _⟩ := I.cell x c e
    have := Heap.lt_size ho
    rw [z] at this; exact absurd (Nat.lt_of_lt_of_le this h) (Nat.lt_irrefl _)
  · obtain ⟨e, _⟩ := I.pin p hp
    have := Heap.lt_size e
    rw [z] at this; exact absurd (Nat.lt_of_lt_of_le this h) (Nat.lt_irrefl _)
  · rcases List.mem_cons.mp (I.stkSub _ z) with e | e
    · rw [e] at h; exact absurd (Nat.lt_of_lt_of_le hl h) (Nat.lt_irrefl _)
    · exact I.nofs h e
/-- untracked objects of ours are written -/
theorem Inv.apart (I : Inv X pins σ H s) {S T : Addr} {h' : Heap} {t' : Nat} (aS : Apart X pins S) (aT : Apart X pins T) (hS : H S = none) (hT : H T = none) (k : ∀ b o, b ≠ S → b ≠ T → s.heap.get? b = some o → h'.get? b = some o) : Inv X pins σ H { s with heap := h', toks := t' } := by
  have ne : ∀ b, b ∉ [S, T] → b ≠ S ∧ b ≠ T := fun b hb => by simpa using hb
  refine I.step (g' := s.gens) (d' := s.drawn) (ch := [S, T]) (fun b hb => ?_) (fun b o _ _ hc e n => k b o (ne b hc).1 (ne b hc).2 e) (fun b o _ _ hc e n => ⟨o.slots, k b o (ne b hc).1 (ne b hc).2 e⟩) (fun b o _ _ n => n) (fun b o hc e => ⟨o, k b o (ne b hc).1 (ne b hc).2 e⟩)
    (fun b xs e => e) (fun b o u e => e) (fun b ps e => ⟨#[], by simpa using e⟩) (fun m hn => ?_) (fun b u e => (I.hok b u e).stay (fun d v hd q => ?_) (fun _ q => q) fun _ _ q => q) I.bare
  · have : Apart X pins b := by
      rcases List.mem_cons.mp hb with e | e
      · rw [e]; exact aS
      · rw [List.mem_singleton.mp e]; exact aT
    exact ⟨.inr this.new, this.loc, this.cel, this.pin⟩
  · obtain ⟨ob, es, ep, ho, r⟩ := hn
    exact ⟨ob, es, ep, k _ ob (fun z => aS.loc z.symm) (fun z => aT.loc z.symm) ho, r⟩
  · have nn : H d ≠ none := by
      rcases hd with z | z
      · rw [z, e]; simp
      · rw [z]; simp
    exact k d v (fun z => nn (by rw [z]; exact hS)) (fun z => nn (by rw [z]; exact hT)) q
end
end Ty

/-! Ty57 -/
/-! the table of a def that makes a lambda: owned by the frame, in a slot of its own -/
namespace Ty
open PySem PySem.Spec L2
open PyProof.Rows
open LamX
theorem Cds.mono {ps : Array Value} {q : Str} {R R' : Addr → Prop} (h : Cds ps q R) (k : ∀ c, R c → R' c) : Cds ps q R' := ⟨h.1, fun pos cv e => let ⟨c, e1, e2⟩ := h.2 pos cv e; ⟨c, e1, k c e2⟩⟩
/-- the slot: the table at P, owned; the codes that it tells are frozen -/
def gT (P : Addr) (q : Str) : Slot where
  P := fun F H fp _ => fp = [P] ∧ ∃ ps : Array Value, H P = some (.tbl ps) ∧ Cds ps q (fun c => F c = some (CodeO c q))
  mono := fun hF hH h => let ⟨e, ps, h1, h2⟩ := h; ⟨e, ps, hH _ _ h1, h2.mono fun c z => hF _ _ z⟩
  st := True
  mm := fun _ {_ _ _ _ _ _} hF hH h => let ⟨e, ps, h1, h2⟩ := h; ⟨e, ps, by rw [hH _ (by rw [e]; simp)]; exact h1, h2.mono fun c z => hF _ _ z⟩
section
variable {P : Program} {w : World} {K : PySem.W.Frag} {mg : Str → Option Value} {base : Heap} {k : Nat}
/-- the frames of a lambda made in Y's frames -/
def Fa.lam (Y : Fa P w K mg base k) (scope : Scope) (p : Str) (hp : ∀ i, p ∉ (Y.X i).N) : Fa P w K mg base 0 where
  I := { z : Y.I × Around × Shared × Hp × Addr × Addr // Room 0 (z.2.1.deeper (lamEnv (Y.X z.1) scope z.2.2.1.heap.objs.size z.2.2.2.2.1 z.2.2.2.2.2)) }
  X := fun z => lamC1 (Y.X z.1.1) z.1.2.1 scope z.1.2.2.2.2.1 z.1.2.2.2.2.2 p z.1.2.2.1 z.1.2.2.2.1
  hP := fun z => Y.hP z.1.1
  hw := fun z => Y.hw z.1.1
  hK := fun z => Y.hK z.1.1
  hM := fun z => Y.hM z.1.1
  hB := fun z => Y.hB z.1.1
  cm := true
  hC := fun _ => rfl
  hR := fun _ z => z.2
  hU := fun z => z.2.units
  W := fun _ _ _ _ => False
  tk := fun _ => LamX.takes0
  hN := fun z => List.nodup_append.mpr ⟨Y.hN z.1.1, by simp, fun a ha b hb => by rw [List.mem_singleton.mp hb]; exact fun e => hp z.1.1 (e ▸ ha)⟩
  hO := fun _ => PassesOwn.never
variable {Y : Fa P w K mg base k} {i : Y.I} {e ea eb elt : Expr} {es : List Expr} {rest : List Stmt} {Γ Γ' Γ1 : List Slot} {a b r s : Slot} {pos : Pos} {B : Bs} {D : Ends} {x : Str} {p' : Pos}
theorem Rd.upd {H : Hp} {l P : Addr} {u : HO} {ps : Array Value} {ps' : Array Value} (hP : H P = some (.tbl ps)) (h : Rd H l u) (hu : ∀ q, u ≠ .tbl q) : Rd (upd H P (.tbl ps')) l u := by
  rcases h with h | ⟨o, h⟩
  · exact .inl ((upd_ne (fun z => by rw [z, hP] at h; exact hu ps (Option.some.inj h).symm)).trans h)
  · exact .inr ⟨o, (upd_ne (fun z => by rw [z, hP] at h; cases h)).trans h⟩
/-- what stands behind a change of the table and a new code -/
theorem Slots.tbl {F H : Hp} {os : List Addr} {σ : L2.St} {P c' : Addr} {q : Str} {ps' : Array Value} (j : Nat) (W : Wo B F H os) (S : Slots F H os σ Γ) (hs : Γ[j]? = some (gT P q)) (hst : Stb Γ) (hc : H c' = none) (hcd : Cds ps' q (fun c => c = c' ∨ F c = some (CodeO c q))) :
    ∃ F1 os', Same F F1 ∧ F1 c' = some (CodeO c' q) ∧ Wo B F1 (upd (upd H P (.tbl ps')) c' (CodeO c' q)) os' ∧ Slots F1 (upd (upd H P (.tbl ps')) c' (CodeO c' q)) os' σ Γ := by
  obtain ⟨o, fp, r0, eo, ⟨efp, ps, hP, _⟩, hperm, back⟩ := S.at hs
  subst efp
  have W1 := W.perm hperm
  have nd := W1.nd
  have W2 : Wo B F (upd H P (.tbl ps')) ([P] ++ r0) := W1.write (by simp)
  have hc1 : upd H P (.tbl ps') c' = none := by rw [upd_ne (fun z => by rw [z, hP] at hc; cases hc)]; exact hc
  have W3 := W2.newF (o := CodeO c' q) hc1
  have hF : Same F (upd F c' (CodeO c' q)) := same_upd (W.free hc).1
  obtain ⟨os', S', hp'⟩ := back (F' := upd F c' (CodeO c' q)) (H' := upd (upd H P (.tbl ps')) c' (CodeO c' q)) (fp' := [P]) (o' := o) (s' := gT P q) ⟨rfl, ps', by rw [upd_ne (fun z => by rw [← z, hP] at hc; cases hc), upd_same], hcd.mono fun c z => by
      rcases z with z | z
      · rw [z, upd_same]
      · exact hF _ _ z⟩ (fun s0 h0 fp0 o0 hsub p0 => s0.mm (hst s0 h0) hF (fun a ha => by
        have ha' := hsub a ha
        have n1 : a ≠ P := fun z => by rw [z] at ha'; exact (List.nodup_cons.mp nd).1 ha'
        obtain ⟨u, hu⟩ := W1.oH a (List.mem_cons_of_mem _ ha')
        have n2 : a ≠ c' := fun z => by rw [z, hc] at hu; cases hu
        rw [upd_ne n2, upd_ne n1]) p0)
  have es : σ.set j o = σ := by
    obtain ⟨hj, z⟩ := List.getElem?_eq_some_iff.mp eo
    rw [← z]; exact List.set_getElem_self hj
  have eG : Γ.set j (gT P q) = Γ := by
    obtain ⟨hj, z⟩ := List.getElem?_eq_some_iff.mp hs
    rw [← z]; exact List.set_getElem_self hj
  rw [es, eG] at S'
  exact ⟨_, os', hF, upd_same, W3.perm hp'.symm, S'⟩
end
end Ty

/-! Ty38 -/
/-! calls of methods that change their object, within expressions -/
namespace Ty
open PySem PySem.Spec L2
section
variable {P : Program} {w : World} {K : PySem.W.Frag} {mg : Str → Option Value} {base : Heap} {k : Nat}
variable {Y : Fa P w K mg base k} {i : Y.I} {e ea eb eo ev tg iter elt : Expr} {es ifs : List Expr} {rest body orelse : List Stmt} {Γ Γ' Γ1 Γ2 Δ Δ' As : List Slot} {a b c r s s' : Slot} {pos pos' : Pos} {B : Bs} {D : Ends} {x f : Str} {p' : Pos} {C : Addr} {ns : List Str} {α : Type} {p : VP α} {xs : List α}
/-! tests that change something -/
def XMT (Y : Fa P w K mg base k) (e : Expr) (Γ : List Slot) (z : Bool) (Γ' : List Slot) : Prop :=
  ∃ t : TT, (∀ i, PT (Y.X i) e t) ∧ ∀ (B : Bs) (F H : Hp) (os : List Addr) (σ : List (Option V)) (Q : Bool → Hp → Prop), Wo B F H os → Slots F H os σ Γ →
    (∀ F' H' os', Wo B F' H' os' → Slots F' H' os' σ Γ' → Q z H') → t σ H Q
/-! a slot at a known value and heap -/
def fixS (s : Slot) (v : V) (fp0 : List Addr) (H0 : Hp) : Slot where
  P := fun F H fp o => o = some v ∧ fp = fp0 ∧ (∀ a ∈ fp0, ∃ u, H0 a = some u ∧ H a = some u) ∧ s.P F H fp o
  mono := fun hF hH h => ⟨h.1, h.2.1, fun a ha => let ⟨u, e1, e2⟩ := h.2.2.1 a ha; ⟨u, e1, hH _ _ e2⟩, s.mono hF hH h.2.2.2⟩
  st := s.st
  mm := fun hs {_ _ _ _ _ _} hF hH h => ⟨h.1, h.2.1, fun a ha => let ⟨u, e1, e2⟩ := h.2.2.1 a ha; ⟨u, e1, by rw [hH a (by rw [h.2.1]; exact ha)]; exact e2⟩, s.mm hs hF hH h.2.2.2⟩
/-- the list of a field at its known place, looked at -/
def lstB (fp0 : List Addr) (Δ : List Slot) : Slot where
  P := fun F H fp o => fp = [] ∧ ∃ (l : Addr) (vs : List V) (os : List Addr), o = some (.ref l) ∧ fp0 = l :: os ∧ H l = some (.lst vs) ∧ Slots F H os (vs.map some) Δ
  mono := fun hF hH h => let ⟨e, l, vs, os, e1, e2, h1, h2⟩ := h; ⟨e, l, vs, os, e1, e2, hH _ _ h1, h2.mono hF hH⟩
  st := False
  mm := fun h => h.elim
def borA {α : Type} (fp0 : List Addr) (p : VP α) (xs : List α) : Slot where
  P := fun F H fp o => fp = [] ∧ ∃ (l : Addr) (vs : List V), o = some (.ref l) ∧ l ∈ fp0 ∧ H l = some (.lst vs) ∧ Paired (p.R F) vs xs
  mono := fun hF hH h => let ⟨e, l, vs, e1, e2, h1, h2⟩ := h; ⟨e, l, vs, e1, e2, hH _ _ h1, Paired.mon (fun _ _ r => p.mono hF r) h2⟩
  st := False
  mm := fun h => h.elim
/-- a frame that keeps the places fp0 as H0 tells them -/
def PinL (Γ : List Slot) (fp0 : List Addr) (H0 : Hp) : Prop := ∀ F H os σ, Slots F H os σ Γ → ∀ a ∈ fp0, ∃ u, H0 a = some u ∧ H a = some u
theorem PinL.self {fp0 : List Addr} {H0 : Hp} {v v0 : V} (j n : Nat) (hs : Γ[j]? = some (hold (obj C ns Δ) v0)) (hn : Δ[n]? = some (fixS s v fp0 H0)) : PinL Γ fp0 H0 := fun F H os σ S a ha => by
  obtain ⟨o, fp, r, e1, p1, _, _⟩ := S.at hs
  obtain ⟨_, x, dx, vs, o2, _, _, _, _, _, h4⟩ := p1
  obtain ⟨o', fp', r', e3, p3, _, _⟩ := h4.at hn
  exact p3.2.2.1 a ha
def XIp (Y : Fa P w K mg base k) (tg iter : Expr) (Γ : List Slot) (fp0 : List Addr) (H0 : Hp) (rs : List Slot) : Prop :=
  ∃ wi : TI, (∀ i, PI (Y.X i) tg iter wi) ∧ ∀ (B : Bs) (F H : Hp) (os : List Addr) (σ : List (Option V)) (R : It → Hp → Prop), In B F H os σ Γ →
    (∀ J F' H', Same F F' → Same H H' → Wo B F' H' os → (∀ F1 H1, Same F' F1 → (∀ a ∈ fp0, ∃ u, H0 a = some u ∧ H1 a = some u) → Same F1 H1 → J.stop rs.length H1 ∧
      ∀ (n : Nat) (r : Slot), rs[n]? = some r → J.go n H1 ∧ ∀ v H2, J.yld n H1 v H2 → Same H1 H2 ∧ ∀ (B : Bs) (os : List Addr), Wo B F1 H1 os → ∃ F2, Same F1 F2 ∧ Wo B F2 H2 os ∧ r.P F2 H2 [] (some v)) → R J H') → wi σ H R
end
end Ty

/-! Ty39 -/
/-! methods that change their object and hand a value back -/
namespace Ty
open PySem PySem.Spec L2
section
variable {P : Program} {w : World} {K : PySem.W.Frag} {mg : Str → Option Value} {base : Heap} {k : Nat}
variable {Y : Fa P w K mg base k} {i : Y.I} {e ea eb eo ev tg iter elt : Expr} {es ifs : List Expr} {rest body orelse : List Stmt} {Γ Γ' Γ1 Γ2 Δ Δ' As : List Slot} {a b c r s s' : Slot} {pos pos' : Pos} {B : Bs} {D : Ends} {x f : Str} {p' : Pos} {C : Addr} {ns : List Str} {α : Type} {p : VP α} {xs : List α}
/-- the object at v0 and the value handed back -/
def mS {μ ρ : Type} (v0 : V) (s1 : μ → Slot) (Sr : ρ → Slot) (r : μ × ρ) : Slot where
  P := fun F H fp o => ∃ f1 f2, fp = f2 ++ f1 ∧ (s1 r.1).P F H f1 (some v0) ∧ (Sr r.2).P F H f2 o
  mono := fun hF hH h => let ⟨f1, f2, e, p1, p2⟩ := h; ⟨f1, f2, e, (s1 r.1).mono hF hH p1, (Sr r.2).mono hF hH p2⟩
  st := False
  mm := fun h => h.elim
theorem mS_rt {μ ρ : Type} {v0 v : V} {s1 : μ → Slot} {Sr : ρ → Slot} {q : μ × ρ} {H : Hp} (h : Fi B (mS v0 s1 Sr q) v H) : (DM B v0 s1 Sr q).rt v H := by
  obtain ⟨F, fp, W, f1, f2, rfl, p1, p2⟩ := h
  exact ⟨F, f1, f2, W, p1, p2⟩
theorem go_retS {μ ρ : Type} {v0 : V} {s1 : μ → Slot} {Sr : ρ → Slot} {q : μ × ρ} (j : Nat) (h : XV Y e Γ (Sr q.2)) (hd : ∀ v H, Fi B (mS v0 s1 Sr q) v H → D.rt v H) (hs : Γ[j]? = some (hold (s1 q.1) v0) := by rfl) : Go Y i (.Return (some e) pos :: rest) D B Γ := by
  obtain ⟨t, p, rd⟩ := h
  refine go_ps (ps_ret (p i)) fun F H σ ⟨os, W, S⟩ => ?_
  refine rd B F H os σ _ (Sta.in W S) fun v F1 H1 fp f1 e1 W1 p1 => ?_
  obtain ⟨o, fp2, r', e, p, q, _⟩ := (S.mono f1 e1).at hs
  obtain ⟨rfl, p⟩ := p
  refine hd v H1 ⟨F1, fp ++ fp2, ?_, fp2, fp, rfl, p, p1⟩
  have := W1.perm (List.Perm.append_left fp q)
  rw [← List.append_assoc] at this
  exact this.dropR
theorem go_retXS {μ ρ : Type} {v0 : V} {s1 : μ → Slot} {Sr : ρ → Slot} {q : μ × ρ} (j : Nat) (h : XM Y e Γ (Sr q.2) Γ') (hd : ∀ v H, Fi B (mS v0 s1 Sr q) v H → D.rt v H) (hs : Γ'[j]? = some (hold (s1 q.1) v0) := by rfl) : Go Y i (.Return (some e) pos :: rest) D B Γ := by
  obtain ⟨t, p, rd⟩ := h
  refine go_ps (ps_ret (p i)) fun F H σ ⟨os, W, S⟩ => ?_
  refine rd B F H os σ _ W S fun v F1 H1 fp os1 W1 S1 p1 => ?_
  obtain ⟨o, fp2, r', e, p, q, _⟩ := S1.at hs
  obtain ⟨rfl, p⟩ := p
  refine hd v H1 ⟨F1, fp ++ fp2, ?_, fp2, fp, rfl, p, p1⟩
  have := W1.perm (List.Perm.append_left fp q)
  rw [← List.append_assoc] at this
  exact this.dropR
/-! ### a list or a tuple -/
def pSq {α : Type} (p : VP α) : VP (List α) where
  R := fun F v xs => (pL p).R F v xs ∨ (pTup p).R F v xs
  mono := fun hF h => h.elim (fun h => .inl ((pL p).mono hF h)) (fun h => .inr ((pTup p).mono hF h))
theorem XV.sqL (h : XV Y e Γ (val (pL p) xs)) : XV Y e Γ (val (pSq p) xs) := h.as fun F H fp o _ hp => by
  obtain ⟨e1, v, e2, r⟩ := hp
  exact ⟨e1, v, e2, .inl r⟩
end
end Ty

/-! Ty40 -/
/-! fields looked at, pins taken away, sets of a list or tuple -/
namespace Ty
open PySem PySem.Spec L2
section
variable {P : Program} {w : World} {K : PySem.W.Frag} {mg : Str → Option Value} {base : Heap} {k : Nat}
variable {Y : Fa P w K mg base k} {i : Y.I} {e ea eb eo ev tg iter elt : Expr} {es ifs : List Expr} {rest body orelse : List Stmt} {Γ Γ' Γ1 Γ2 Δ Δ' As : List Slot} {a b c r s s' : Slot} {pos pos' : Pos} {B : Bs} {D : Ends} {x f : Str} {p' : Pos} {C : Addr} {ns : List Str} {α : Type} {p : VP α} {xs : List α}
/-! ### set of a list or a tuple of ints -/
def rSetSq (K : PySem.W.Frag) (w : World) : List V → Hp → VK → Prop := fun xs H Q => ∃ (l : Addr) (ns : List Int), xs = [.ref l] ∧ (SqL K H l (ns.map V.int) ∨ SqT K H l (ns.map V.int)) ∧ ns.length < 64 ∧ ∀ p n, H p = none → n ≤ ns.length → Q (.ref p) (upd H p (SetO w p (fun j => decide (j ∈ ns)) n))
end
end Ty

/-! Ty41 -/
/-! sorted of a list or a tuple of ints -/
namespace SrtO
open PySem PyProof.Rows Srt
section
variable {prog : Program} {w : World} {A : Around} {E : Value → Shared → Prop} {s : Shared}
end
end SrtO
namespace Ty
open PySem PySem.Spec L2
/-! ### the sorted list -/
def insI (x : Int) : List Int → List Int
  | [] => [x]
  | y :: ys => if x ≤ y then x :: y :: ys else y :: insI x ys
def sortL : List Int → List Int
  | [] => []
  | x :: xs => insI x (sortL xs)
def rSortSq (K : PySem.W.Frag) : List V → Hp → VK → Prop := fun vs H Q => ∃ (a : Addr) (ns : List Int), vs = [V.ref a] ∧ (SqL K H a (ns.map V.int) ∨ SqT K H a (ns.map V.int)) ∧ ∀ p, H p = none → Q (.ref p) (upd H p (.lst ((sortL ns).map V.int)))
section
variable {P : Program} {w : World} {K : PySem.W.Frag} {mg : Str → Option Value} {base : Heap} {k : Nat}
end
end Ty

/-! Ty42 -/
/-! comparisons whose left side changes something; lists as tests; pinned lists walked with numbers or from behind -/
namespace Ty
open PySem PySem.Spec L2
section
variable {X : Cx}
end
section
variable {P : Program} {w : World} {K : PySem.W.Frag} {mg : Str → Option Value} {base : Heap} {k : Nat}
variable {Y : Fa P w K mg base k} {i : Y.I} {e ea eb eo ev tg iter elt : Expr} {es ifs : List Expr} {rest body orelse : List Stmt} {Γ Γ' Γ1 Γ2 Δ Δ' As : List Slot} {a b c r s s' : Slot} {pos pos' : Pos} {B : Bs} {D : Ends} {x f : Str} {p' : Pos} {C : Addr} {ns : List Str} {α : Type} {p : VP α} {xs : List α}
theorem SV.borA {fp0 : List Addr} : SV K (borA fp0 p xs) p xs := fun F H fp o hS h => by
  obtain ⟨_, l, vs, e, _, h1, h2⟩ := h
  exact ⟨l, vs, e, SqL.of h1, h2⟩
end
end Ty

/-! Ty43 -/
/-! self.m(e), e changes self; a method that changes self and two lists -/
namespace Ty
open PySem PySem.Spec L2
open PyProof.Rows (envOfC)
section
variable {P : Program} {w : World} {K : PySem.W.Frag} {mg : Str → Option Value} {base : Heap} {k : Nat}
variable {Y : Fa P w K mg base k} {i : Y.I} {e ea eb eo ev tg iter elt : Expr} {es ifs : List Expr} {rest body orelse : List Stmt} {Γ Γ' Γ1 Γ2 Δ Δ' As : List Slot} {a b c r s s' : Slot} {pos pos' : Pos} {B : Bs} {D : Ends} {x f : Str} {p' : Pos} {C : Addr} {ns : List Str} {α : Type} {p : VP α} {xs : List α}
end
end Ty

/-! Ty44 -/
/-! a method that changes self and two lists that it is handed: self.m(a, b, xs, ys) -/
namespace Ty
open PySem PySem.Spec L2
open PyProof.Rows (envOfC)
section
variable {P : Program} {w : World} {K : PySem.W.Frag} {mg : Str → Option Value} {base : Heap} {k : Nat}
/-- self and its two lists are changed -/
def spC {ι μ ρ : Type} (s0 s3 s4 a1 a2 : ι → Slot) (m : ι → Option (μ × ρ)) (t0 t3 t4 : μ → Slot) (Sr : ρ → Slot) : Sp := fun vs H Q _ => ∃ (z : ι) (r : μ × ρ) (F : Hp) (f0 f3 f4 : List Addr) (v0 v1 v2 v3 v4 : V), vs = [v0, v1, v2, v3, v4] ∧ m z = some r ∧ Wo ⟨F, H, f0 ++ (f3 ++ f4)⟩ F H (f0 ++ (f3 ++ f4)) ∧
  (s0 z).P F H f0 (some v0) ∧ (a1 z).P F H [] (some v1) ∧ (a2 z).P F H [] (some v2) ∧ (s3 z).P F H f3 (some v3) ∧ (s4 z).P F H f4 (some v4) ∧
  ∀ v F' H' g0 g3 g4 f2, Wo ⟨F, H, f0 ++ (f3 ++ f4)⟩ F' H' (f2 ++ (g0 ++ (g3 ++ g4))) → (t0 r.1).P F' H' g0 (some v0) → (t3 r.1).P F' H' g3 (some v3) → (t4 r.1).P F' H' g4 (some v4) → (Sr r.2).P F' H' f2 (some v) → Q v H'
/-- what is left: self, the lists, the value -/
def cPS {μ ρ : Type} (v0 v3 v4 : V) (t0 t3 t4 : μ → Slot) (Sr : ρ → Slot) (r : μ × ρ) : Slot where
  P := fun F H fp o => ∃ g0 g3 g4 f2, fp = f2 ++ (g0 ++ (g3 ++ g4)) ∧ (t0 r.1).P F H g0 (some v0) ∧ (t3 r.1).P F H g3 (some v3) ∧ (t4 r.1).P F H g4 (some v4) ∧ (Sr r.2).P F H f2 o
  mono := fun hF hH h => let ⟨g0, g3, g4, f2, e, p0, p3, p4, p2⟩ := h; ⟨g0, g3, g4, f2, e, (t0 r.1).mono hF hH p0, (t3 r.1).mono hF hH p3, (t4 r.1).mono hF hH p4, (Sr r.2).mono hF hH p2⟩
  st := False
  mm := fun h => h.elim
def DC {μ ρ : Type} (B : Bs) (v0 v3 v4 : V) (t0 t3 t4 : μ → Slot) (Sr : ρ → Slot) (r : μ × ρ) : Ends where
  nx := fun _ _ => False
  rt := fun v H => Fi B (cPS v0 v3 v4 t0 t3 t4 Sr r) v H
variable {Y : Fa P w K mg base k} {i : Y.I} {e ea eb eo ev tg iter elt : Expr} {es ifs : List Expr} {rest body orelse : List Stmt} {Γ Γ' Γ1 Γ2 Δ Δ' As : List Slot} {a b c r s s' : Slot} {pos pos' : Pos} {B : Bs} {D : Ends} {x f : Str} {p' : Pos} {C : Addr} {ns : List Str} {α : Type} {p : VP α} {xs : List α}
theorem Stb.set {s : Slot} {j : Nat} (h : Stb Γ) (hs : s.st) : Stb (Γ.set j s) := stb_set h hs
end
end Ty

/-! Ty45 -/
namespace Ty
open PySem PySem.Spec L2
theorem Vw.hold {α : Type} {s : Slot} {p : VP α} {u : α} {v : V} (h : Vw s p u) : Vw (Ty.hold s v) p u := fun F H fp o hS q => h F H fp o hS q.2
section
variable {P : Program} {w : World} {K : PySem.W.Frag} {mg : Str → Option Value} {base : Heap} {k : Nat}
variable {Y : Fa P w K mg base k} {i : Y.I} {e ea eb eo ev tg iter elt : Expr} {es ifs : List Expr} {rest body orelse : List Stmt} {Γ Γ' Γ1 Γ2 Δ Δ' As : List Slot} {a b c r s s' : Slot} {pos pos' : Pos} {B : Bs} {D : Ends} {x f : Str} {p' : Pos} {C : Addr} {ns : List Str} {α : Type} {p : VP α} {xs : List α}
theorem XM.wk (h : XM Y e Γ a Γ') (hw : WkS a b) : XM Y e Γ b Γ' := by
  obtain ⟨t, p, rd⟩ := h
  refine ⟨t, p, fun B F H os σ Q W S q => rd B F H os σ _ W S fun v F1 H1 fp os1 W1 S1 p1 => ?_⟩
  obtain ⟨x, y, e, kk⟩ := hw F1 H1 fp _ W1.sub p1
  subst e
  rw [List.append_assoc] at W1
  obtain ⟨F', W', hF, hx⟩ := W1.freeze
  exact q v F' H1 y os1 W' (S1.mono hF same_refl) (kk F' hF W'.sub hx)
theorem XM.sqL (h : XM Y e Γ (own (oL p) xs) Γ') : XM Y e Γ (val (pSq p) xs) Γ' := (h.wk WkS.list).wk (WkS.val fun F v r => .inl r)
end
end Ty

/-! Ty58 -/
/-! defs whose frames own a table: their promises, their calls, what they hand back -/
namespace Ty
open PySem PySem.Spec L2
open PyProof.Rows (envOfC)
def FiT (B : Bs) (Pt : Addr) (tq : Str) (s : Slot) : VK := fun v H => ∃ F fp, Wo B F H (fp ++ [Pt]) ∧ (gT Pt tq).P F H [Pt] none ∧ s.P F H fp (some v)
def DT (B : Bs) (Pt : Addr) (tq : Str) (s : Slot) : Ends := { nx := fun _ H => FiT B Pt tq s .non H, rt := FiT B Pt tq s }
structure FunC (K : PySem.W.Frag) (x qual : Str) (st : Stmt) (f : Addr) (fd : FuncData) (c : Addr) : Prop where
  ex : ∃ (oc : Value) (od : Option Addr) (kV doc pm : Value) (an : Option Addr) (ct : Value) (osl : Array (Option Value)),
    fd = PySem.W.fnOf x qual (defArgs st) (defBody st) (defScope st) .none kV doc pm an (.ref c) ct ∧ K.lookup f = some ⟨oc, od, .func fd, osl⟩ ∧ PySem.W.codeIn K (.ref c) qual = true
section
variable {P : Program} {w : World} {K : PySem.W.Frag} {mg : Str → Option Value} {base : Heap} {k : Nat}
def spPT {ι ρ : Type} (Pt : Addr) (tq : Str) (As : ι → List Slot) (m : ι → Option ρ) (Sr : ρ → Slot) : Sp := fun vs H Q _ => ∃ (z : ι) (r : ρ) (F : Hp), m z = some r ∧ Wo ⟨F, H, [Pt]⟩ F H [Pt] ∧ (gT Pt tq).P F H [Pt] none ∧ Slots F H [] (vs.map some) (As z) ∧ ∀ v H', FiT ⟨F, H, [Pt]⟩ Pt tq (Sr r) v H' → Q v H'
def spXT {ι ρ : Type} (Pt : Addr) (tq : Str) (As : ι → List Slot) (m : ι → Option (Rx ρ)) (Sr : ρ → Slot) (X : ExT) : Sp := fun vs H Q E => ∃ (z : ι) (r : Rx ρ) (F : Hp), m z = some r ∧ Wo ⟨F, H, [Pt]⟩ F H [Pt] ∧ (gT Pt tq).P F H [Pt] none ∧ Slots F H [] (vs.map some) (As z) ∧
  (∀ v H', FiT ⟨F, H, [Pt]⟩ Pt tq (slRx Sr r) v H' → Q v H') ∧ ∀ e, r = .ex e → ∀ cls d F' H', Wo ⟨F, H, [Pt]⟩ F' H' [Pt] → (gT Pt tq).P F' H' [Pt] none → X e cls d F' → E cls d H'
variable {Y : Fa P w K mg base k} {i : Y.I} {e ea eb elt tg iter : Expr} {es : List Expr} {rest : List Stmt} {Γ Γ' Γ1 : List Slot} {a b r s : Slot} {pos : Pos} {B : Bs} {D : Ends} {x : Str} {p' : Pos} {EX : ExT} {ex : Exn} {Pt : Addr} {tq : Str}
/-- an error behind changes -/
def XXm (Y : Fa P w K mg base k) (e : Expr) (Γ : List Slot) (EX : ExT) (ex : Exn) (Γ' : List Slot) : Prop :=
  ∃ t : TE, (∀ i, PE (Y.X i) e t) ∧ ∀ (B : Bs) (F H : Hp) (os : List Addr) (σ : List (Option V)) (Q : VK), Wo B F H os → Slots F H os σ Γ →
    (∀ cls d F' H' os', Wo B F' H' os' → Slots F' H' os' σ Γ' → EX ex cls d F' → Y.W cls d σ H') → t σ H Q
end
end Ty

/-! Ty59 -/
/-! a comprehension whose element changes the table -/
namespace Ty
open PySem PySem.Spec L2
section
variable {P : Program} {w : World} {K : PySem.W.Frag} {mg : Str → Option Value} {base : Heap} {k : Nat}
variable {Y : Fa P w K mg base k} {i : Y.I} {e ea eb eo tg iter elt : Expr} {es ifs : List Expr} {rest body : List Stmt} {Γ Γ' Γ1 Γ2 : List Slot} {a b c r s : Slot} {pos : Pos} {B : Bs} {D : Ends} {x : Str} {p' : Pos} {scope : Scope}
end
end Ty

/-! Ty60 -/
/-! the law's def with a table, and the end -/
namespace Ty
open PySem PySem.Spec L2
open PyProof.Rows
open LamX (TabB)
section
variable {P : Program} {w : World} {K : PySem.W.Frag} {mg : Str → Option Value} {base : Heap} {k : Nat}
def spLT {ι ρ : Type} (Pt : Addr) (tq : Str) (As : ι → List Slot) (m : ι → Option ρ) (Sr : ρ → Slot) : Sp := fun vs H Q _ => ∃ (z : ι) (r : ρ) (F : Hp), m z = some r ∧ Wo ⟨F, H, [Pt]⟩ F H [Pt] ∧ (gT Pt tq).P F H [Pt] none ∧ Slots F H [] (vs.map some) (As z) ∧
  ∀ v F' H' fp, Wo ⟨F, H, [Pt]⟩ F' H' fp → (Sr r).P F' H' fp (some v) → Q v H'
end
def LawAtG (l : PySem.W.OpenLaw) (w : World) (K : PySem.W.Frag) (k n : Nat) (x : Str) (mg : Str → Option Value) (fa : Addr) (h : Heap) : Prop :=
  ∃ (fd : FuncData) (c Pt : Addr) (sp : Sp), h.get? Pt = some { cls := .none, data := .fields #[] } ∧ K.lookup Pt = none ∧ PySem.W.CodeHd h c Pt ∧ (∀ (s : Shared) (u : Value), BindsTo s fd ⟨[u], []⟩ [(x, u)]) ∧
    (∀ (H : Hp) (a : Addr) (ns : List Int), ns.length ≤ n → H Pt = some (.tbl #[]) → SqL K H a (ns.map V.int) → sp [.ref a] H (fun v _ => v = .bl true) fun _ _ _ => False) ∧
    ∀ base : Heap, K.In base → base.Ns mainGlobals mg → TabB base mg c Pt → FnG l.prog w K mg base k fa fd [x] sp
end Ty

/-! Ty61 -/
/-! lists of data as data; ints out of data; lengths; what a lambda asks of its text -/
namespace Ty
open PySem PySem.Spec L2
section
variable {P : Program} {w : World} {K : PySem.W.Frag} {mg : Str → Option Value} {base : Heap} {k : Nat}
variable {Y : Fa P w K mg base k} {e ea eb : Expr} {Γ Γ' : List Slot}
def pdInt : PyData → Option Int
  | .int i => some i
  | _ => none
theorem XV.pdi {d : PyData} {i : Int} (hi : pdInt d = some i) (h : XV Y e Γ (val (pDa K) d)) : XV Y e Γ (vInt i) := h.as fun F H fp o _ ⟨e1, v, e2, r⟩ => by
  cases (show Dp K F v d from r) with
  | int j => cases hi; exact ⟨e1, _, e2, rfl⟩
  | _ => cases hi
def pdLenA : PyData → Option Int
  | .list ds => some (ds.length : Int)
  | .tuple ds => some (ds.length : Int)
  | _ => none
theorem XM.data {α : Type} [DecidableEq α] {p : VP α} {ok : α → Prop} {u : α} (E : DE p ok) (h : XM Y e Γ (val p u) Γ') : XM Y e Γ (val (pDa K) (E.enc u)) Γ' := h.wk (WkS.val fun F v r => E.dp K F v u r)
end
def lamS1B (sc scope : Scope) (p : Str) : Bool :=
  decide (scope.kind = .function) && !scope.isCoroutine && !scope.isGenerator && decide (scope.names.lookup p = some .local) && scope.names.all fun y => !decide (y.2 = .cell) && (!decide (y.2 = .local) || decide (y.1 = p)) && (!decide (y.2 = .free) || decide (sc.names.lookup y.1 = some .cell) || decide (sc.names.lookup y.1 = some .free))
end Ty

/-! Ty46 -/
/-! x in xs, by ==, of data -/
namespace Ty
open PySem PySem.Spec L2
def rInD (K : PySem.W.Frag) : R2 := fun x y H Q => ∃ d ds, Dp K H x d ∧ Dp K H y (.list ds) ∧ d.canLay0 = true ∧ PyData.canLayAll0 ds = true ∧ d.depth ≤ 60 ∧ Q (.bl (ds.any fun z => PyData.eqv z d)) H
def rNinD (K : PySem.W.Frag) : R2 := fun x y H Q => ∃ d ds, Dp K H x d ∧ Dp K H y (.list ds) ∧ d.canLay0 = true ∧ PyData.canLayAll0 ds = true ∧ d.depth ≤ 60 ∧ Q (.bl (!ds.any fun z => PyData.eqv z d)) H
section
variable {X : Cx}
end
section
variable {P : Program} {w : World} {K : PySem.W.Frag} {mg : Str → Option Value} {base : Heap} {k : Nat} {α : Type} {p : VP α} {a b : Slot}
/-- x in xs, by the equality that is decided -/
def memD {β : Type} [DecidableEq β] (u : β) (xs : List β) : Bool := decide (u ∈ xs)
end
end Ty

/-! Ty47 -/
/-! methods that change a fresh object, within expressions; one of two makes of value -/
namespace Ty
open PySem PySem.Spec L2
section
variable {P : Program} {w : World} {K : PySem.W.Frag} {mg : Str → Option Value} {base : Heap} {k : Nat}
variable {Y : Fa P w K mg base k} {i : Y.I} {e ea eb eo ev tg iter elt : Expr} {es ifs : List Expr} {rest body orelse : List Stmt} {Γ Γ' Γ1 Γ2 Δ Δ' As : List Slot} {a b c r s s' : Slot} {pos pos' : Pos} {B : Bs} {D : Ends} {x f : Str} {p' : Pos} {C : Addr} {ns : List Str} {α β : Type} {p : VP α} {q : VP β} {xs : List α}
/-! ### one of two makes -/
def pSum (p : VP α) (q : VP β) : VP (α ⊕ β) where
  R := fun F v x => match x with | .inl a => p.R F v a | .inr b => q.R F v b
  mono := fun {F F' v x} hF h => by
    cases x with
    | inl a => exact p.mono hF h
    | inr b => exact q.mono hF h
theorem XV.inl {u : α} (h : XV Y e Γ (val p u)) : XV Y e Γ (val (pSum p q) (.inl u)) := h.as fun F H fp o _ ⟨e1, v, e2, r⟩ => ⟨e1, v, e2, r⟩
theorem XV.inr {u : β} (h : XV Y e Γ (val q u)) : XV Y e Γ (val (pSum p q) (.inr u)) := h.as fun F H fp o _ ⟨e1, v, e2, r⟩ => ⟨e1, v, e2, r⟩
theorem XV.unl {u : α ⊕ β} {y : α} (hz : u.getLeft? = some y) (h : XV Y e Γ (val (pSum p q) u)) : XV Y e Γ (val p y) := h.as fun F H fp o _ ⟨e1, v, e2, r⟩ => by
  cases u with
  | inl a => cases hz; exact ⟨e1, v, e2, r⟩
  | inr b => cases hz
def DE.sum [DecidableEq α] [DecidableEq β] {ok : α → Prop} {ok' : β → Prop} (E : DE p ok) (E' : DE q ok') (h : ∀ a, ok a) (h' : ∀ b, ok' b) (hn : ∀ a b, PyData.eqv (E.enc a) (E'.enc b) = false ∧ PyData.eqv (E'.enc b) (E.enc a) = false) : DE (pSum p q) (fun _ => True) where
  enc := fun x => match x with | .inl a => E.enc a | .inr b => E'.enc b
  dp := fun K F v x r => by
    cases x with
    | inl a => exact E.dp K F v a r
    | inr b => exact E'.dp K F v b r
  sh := fun x _ => by
    cases x with
    | inl a => exact E.sh a (h a)
    | inr b => exact E'.sh b (h' b)
  d := max E.d E'.d
  hd := fun x => by
    cases x with
    | inl a => exact Nat.le_trans (E.hd a) (Nat.le_max_left _ _)
    | inr b => exact Nat.le_trans (E'.hd b) (Nat.le_max_right _ _)
  eq := fun x y => by
    cases x with
    | inl a =>
      cases y with
      | inl b => dsimp only; rw [E.eq, Bool.eq_iff_iff]; simp
      | inr b => dsimp only; rw [(hn a b).1, Bool.eq_iff_iff]; simp
    | inr a =>
      cases y with
      | inl b => dsimp only; rw [(hn b a).2, Bool.eq_iff_iff]; simp
      | inr b => dsimp only; rw [E'.eq, Bool.eq_iff_iff]; simp
end
end Ty

/-! Ty48 -/
/-! sorted of a list of tuples of ints -/
namespace Ty
open PySem PySem.Spec L2
def encT (xs : List Int) : PyData := .tuple (xs.map .int)
def leT (p q : List Int) : Bool := decide (p ≤ q)
def sortT (xss : List (List Int)) : List (List Int) := xss.mergeSort leT
def rSortT (K : PySem.W.Frag) : List V → Hp → VK → Prop := fun vs H Q => ∃ (a : Addr) (us : List V) (xss : List (List Int)) (G : V → List Int → Prop), vs = [V.ref a] ∧ SqL K H a us ∧ Paired (fun v xs => G v xs ∧ Dp K H v (encT xs)) us xss ∧ (∀ xs ∈ xss, xs ≠ []) ∧ ∀ p us', H p = none → Paired G us' (sortT xss) → Q (.ref p) (upd H p (.lst us'))
section
variable {P : Program} {w : World} {K : PySem.W.Frag} {mg : Str → Option Value} {base : Heap} {k : Nat}
variable {s : Slot}
end
end Ty

/-! Ty49 -/
/-! dicts: get with a default, walked while they stand still; dicts of nested keys: one entry shown, list(d) -/
namespace Ty
open PySem PySem.Spec L2
section
variable {P : Program} {w : World} {K : PySem.W.Frag} {mg : Str → Option Value} {base : Heap} {k : Nat} {β : Type} {p : VP β}
variable {Y : Fa P w K mg base k} {i : Y.I} {e ea eb eo ef ek ev tg iter elt : Expr} {es ifs : List Expr} {rest body : List Stmt} {Γ Γ' Γ1 Γ2 Δ Δ' : List Slot} {a b c r s s' : Slot} {pos : Pos} {B : Bs} {D : Ends} {x f : Str} {p' : Pos} {C : Addr} {ns : List Str}
/-- a dict with int keys that stands still -/
def pLk (p : VP β) : VP (List (Int × β)) where
  R := fun F v kvs => ∃ d od xs, v = .ref d ∧ F d = some (.frz od (.dK xs)) ∧ DRel dInt p F xs kvs
  mono := fun hF h => let ⟨d, od, xs, e, h1, h2⟩ := h; ⟨d, od, xs, e, hF _ _ h1, drel_mono hF h2⟩
/-! ### nested keys -/
def tDisp1N (P : Program) (w : World) (tk tv : TE) : TE := fun σ H Q => ∀ p, H p = none → tk σ (upd H p (ndo P w p [])) fun x H1 => tv σ H1 fun y H2 => ∃ b ks, x = .ref b ∧ H2 p = some (ndo P w p []) ∧ pNK.R H2 (.ref b) ks ∧ Q (.ref p) (upd H2 p (ndo P w p (putN [] ks b y)))
def numsOf : List NestedKey → Option (List Int)
  | [] => some []
  | .num i :: r => (numsOf r).map (i :: ·)
  | _ :: _ => none
def keyT : NestedKey → Option (List Int)
  | .tup ks => numsOf ks
  | _ => none
def keysT : List (NestedKey × β) → Option (List (List Int))
  | [] => some []
  | kv :: r => (keyT kv.1).bind fun x => (keysT r).map (x :: ·)
def rListN (P : Program) (w : World) : List V → Hp → VK → Prop := fun vs H Q => ∃ (d : Addr) (xs : NDX), vs = [.ref d] ∧ H d = some (ndo P w d xs) ∧ Kys H xs ∧ ∀ q, H q = none → Q (.ref q) (upd H q (.lst (xs.map fun x => V.ref x.2.1)))
end
end Ty

/-! Ty50 -/
/-! z.bit_length(); sorted of a list of pairs of an int and a tuple; a range of any size; isinstance(e, ValueError) of an error without fields -/
namespace Ty
open PySem PySem.Spec L2
/-! ### z.bit_length() -/
def tBitLen (ta : TE) : TE := fun σ H Q => ta σ H fun x H1 => ∃ z : Int, x = .int z ∧ Q (.int ((Builtin.Int.intBits z : Nat) : Int)) H1
/-! ### a range of any size -/
section
variable {X : Cx} {tg : Expr}
def iRngA (ta : TA) : TI := fun σ H R => ta σ H fun vs H1 => ∃ j : Int, vs = [.int j] ∧ R (Itr 0 j.toNat) H1
end
section
variable {P : Program} {w : World} {K : PySem.W.Frag} {mg : Str → Option Value} {base : Heap} {k : Nat} {β : Type} {p : VP β}
variable {Y : Fa P w K mg base k} {i : Y.I} {e ea eb eo ef ek ev tg iter elt : Expr} {es ifs : List Expr} {rest body : List Stmt} {Γ Γ' Γ1 Γ2 Δ Δ' : List Slot} {a b c r s s' : Slot} {pos : Pos} {B : Bs} {D : Ends} {x f : Str} {p' : Pos} {C : Addr} {ns : List Str}
end
section
variable {P : Program} {w : World} {K : PySem.W.Frag} {mg : Str → Option Value} {base : Heap} {k : Nat}
variable {Y : Fa P w K mg base k} {ea eb : Expr} {Γ : List Slot} {pos : Pos} {p' : Pos} {C : Addr}
end
/-! ### sorted -/
def encP (x : Int × List Int) : PyData := .tuple [.int x.1, encT x.2]
def leP (p q : Int × List Int) : Bool := PySem.W.dataLe false encP p q
def sortP (xs : List (Int × List Int)) : List (Int × List Int) := xs.mergeSort leP
def rSortP (K : PySem.W.Frag) : List V → Hp → VK → Prop := fun vs H Q => ∃ (a : Addr) (us : List V) (xss : List (Int × List Int)) (G : V → Int × List Int → Prop), vs = [V.ref a] ∧ SqL K H a us ∧ Paired (fun v xs => G v xs ∧ Dp K H v (encP xs)) us xss ∧ ∀ p us', H p = none → Paired G us' (sortP xss) → Q (.ref p) (upd H p (.lst us'))
section
variable {P : Program} {w : World} {K : PySem.W.Frag} {mg : Str → Option Value} {base : Heap} {k : Nat}
variable {s : Slot}
end
/-! ### pairs and one of two makes of pairs: their kind and length -/
section
variable {P : Program} {w : World} {K : PySem.W.Frag} {mg : Str → Option Value} {base : Heap} {k : Nat} {α β γ δ : Type} {p : VP α} {q : VP β}
variable {Y : Fa P w K mg base k} {e : Expr} {Γ : List Slot} {s : Slot}
theorem TyV.t2 {u : α × β} : TyV K (val (pT2 p q) u) "tuple" := fun F H fp o hS hp => by
  obtain ⟨_, v, e, l, a, b, e2, h, _⟩ := hp
  subst e2
  exact ⟨_, e, .base (.tup (hS _ _ h))⟩
theorem TyV.sum {T : String} {u : α ⊕ β} (h1 : ∀ a, TyV K (val p a) T) (h2 : ∀ b, TyV K (val q b) T) : TyV K (val (pSum p q) u) T := fun F H fp o hS hp => by
  obtain ⟨e1, v, e, r⟩ := hp
  cases u with
  | inl a => exact h1 a F H fp o hS ⟨e1, v, e, r⟩
  | inr b => exact h2 b F H fp o hS ⟨e1, v, e, r⟩
/-- a tuple of n things -/
def TLen (s : Slot) (n : Nat) : Prop := ∀ F H fp o, Same F H → s.P F H fp o → ∃ l vs, o = some (.ref l) ∧ H l = some (.tup vs) ∧ vs.length = n
theorem TLen.t2 {u : α × β} : TLen (val (pT2 p q) u) 2 := fun F H fp o hS hp => by
  obtain ⟨_, v, e, l, a, b, e2, h, _⟩ := hp
  subst e2
  exact ⟨l, [a, b], e, hS _ _ h, rfl⟩
theorem TLen.sum {n : Nat} {u : α ⊕ β} (h1 : ∀ a, TLen (val p a) n) (h2 : ∀ b, TLen (val q b) n) : TLen (val (pSum p q) u) n := fun F H fp o hS hp => by
  obtain ⟨e1, v, e, r⟩ := hp
  cases u with
  | inl a => exact h1 a F H fp o hS ⟨e1, v, e, r⟩
  | inr b => exact h2 b F H fp o hS ⟨e1, v, e, r⟩
theorem XV.unr {u : α ⊕ β} {y : β} (hz : u.getRight? = some y) (h : XV Y e Γ (val (pSum p q) u)) : XV Y e Γ (val q y) := h.as fun F H fp o _ ⟨e1, v, e2, r⟩ => by
  cases u with
  | inr a => cases hz; exact ⟨e1, v, e2, r⟩
  | inl b => cases hz
end
/-! ### is, of two bools -/
end Ty

/-! Ty51 -/
/-! displays of owned things of several kinds: looked at, walked when frozen, weakened -/
namespace Ty
open PySem PySem.Spec L2
/-- an owned display, looked at -/
def borH (Δ : List Slot) : Slot where
  P := fun F H fp o => fp = [] ∧ ∃ l vs os, o = some (.ref l) ∧ H l = some (.lst vs) ∧ Slots F H os (vs.map some) Δ
  mono := fun hF hH h => let ⟨ef, l, vs, os, e, h1, h2⟩ := h; ⟨ef, l, vs, os, e, hH _ _ h1, h2.mono hF hH⟩
  st := False
  mm := fun h => h.elim
section
variable {P : Program} {w : World} {K : PySem.W.Frag} {mg : Str → Option Value} {base : Heap} {k : Nat}
variable {Y : Fa P w K mg base k} {i : Y.I} {e ea eb eo ev tg iter elt : Expr} {es ifs : List Expr} {rest body : List Stmt} {Γ Γ' Γ1 Γ2 Δ Δ' : List Slot} {a b c r s s' : Slot} {pos : Pos} {B : Bs} {D : Ends} {x g f : Str} {p' : Pos}
end
/-! ### anything -/
def pAny : VP Unit := ⟨fun _ _ _ => True, fun _ h => h⟩
/-- slot by slot -/
inductive SImp : List Slot → List Slot → Prop
  | nil : SImp [] []
  | cons {s s' : Slot} {a b : List Slot} : (∀ F H fp o, s.P F H fp o → s'.P F H fp o) → SImp a b → SImp (s :: a) (s' :: b)
theorem SImp.to {F H : Hp} : ∀ {Δ Δ' : List Slot} {os : List Addr} {σ : List (Option V)}, SImp Δ Δ' → Slots F H os σ Δ → Slots F H os σ Δ'
  | _, _, _, _, .nil, S => by cases S; exact .nil
  | _, _, _, _, .cons h t, S => by
    cases S with
    | cons p r => exact .cons (h _ _ _ _ p) (t.to r)
section
variable {P : Program} {w : World} {K : PySem.W.Frag} {mg : Str → Option Value} {base : Heap} {k : Nat}
variable {Y : Fa P w K mg base k} {e : Expr} {Γ : List Slot}
theorem XV.any {α : Type} {p : VP α} {u : α} (h : XV Y e Γ (val p u)) : XV Y e Γ (val pAny ()) := h.as fun F H fp o _ ⟨e1, v, e2, _⟩ => ⟨e1, v, e2, True.intro⟩
end
end Ty
namespace Ty
open PySem PySem.Spec L2
end Ty

/-! Ty52 -/
/-! owned things of several kinds: tuples of them, taken out, unpacked; errors as values; min and max of a pair -/
namespace Ty
open PySem PySem.Spec L2
open PyProof.Rows (envOfC)
/-- an owned tuple of things of several kinds -/
def tupS (Γs : List Slot) : Slot where
  P := fun F H fp o => ∃ l vs os, o = some (.ref l) ∧ fp = l :: os ∧ H l = some (.tup vs) ∧ Slots F H os (vs.map some) Γs
  mono := fun hF hH h => let ⟨l, vs, os, e1, e2, h1, h2⟩ := h; ⟨l, vs, os, e1, e2, hH _ _ h1, h2.mono hF hH⟩
  st := Stb Γs
  mm := fun hs {_ _ _ _ _ _} hF hH h => let ⟨l, vs, os, e1, e2, h1, h2⟩ := h
    ⟨l, vs, os, e1, e2, by rw [hH l (by rw [e2]; simp)]; exact h1, h2.mm hF hs fun q hq => hH q (by rw [e2]; simp [hq])⟩
section
variable {P : Program} {w : World} {K : PySem.W.Frag} {mg : Str → Option Value} {base : Heap} {k : Nat}
variable {Y : Fa P w K mg base k} {i : Y.I} {e ea eb eo ev tg iter elt : Expr} {es ifs : List Expr} {rest body : List Stmt} {Γ Γ' Γ1 Γ2 Δ Δ' As : List Slot} {a b c r s s' : Slot} {pos : Pos} {B : Bs} {D : Ends} {x g f : Str} {p' : Pos}
/-- (e, ..), of things of several kinds -/
theorem xn_tup (ha : XNA Y es Γ As Γ') (hz : As.length ≤ sizeLine) {n : Nat} : XN Y (.Tuple es n pos) Γ (tupS As) Γ' := by
  obtain ⟨t, pa, rd⟩ := ha
  refine ⟨_, fun i => pe_tup (pa i), fun B F H os rr σ Q W S kk => ?_⟩
  refine rd B F H os rr σ _ W S fun vs F1 H1 fp os1 f1 e1 W1 S1 A1 => ?_
  refine ⟨by have := A1.length; rw [List.length_map] at this; rw [this]; exact hz, fun n hn => ?_⟩
  refine kk _ F1 _ (n :: fp) os1 f1 (e1.trans (same_upd hn)) (W1.newO hn) (S1.mono same_refl (same_upd hn)) ⟨n, vs, fp, rfl, rfl, upd_same, A1.mono same_refl (same_upd hn)⟩
end
end Ty

/-! Ty53 -/
/-! errors as values; min and max of a pair of ints -/
namespace Ty
open PySem PySem.Spec L2
open PyProof.Rows
/-- an exception object of this class with this dict, at a -/
def ExV (cls : Value) (d : Option Addr) (a : Addr) : HO := .ext fun h => ∃ (oe : Obj) (vs : Array Value), h.get? a = some oe ∧ Zc cls d oe ∧ oe.data = .fields vs
section
variable {X : Cx} {pins : List (Addr × Obj)} {σ : L2.St} {H : Hp} {s s' : Shared}
/-- isinstance(e, c), e an exception as a value -/
def rIsV (K : PySem.W.Frag) : List V → Hp → VK → Prop := fun xs H Q => ∃ (a Dc : Addr) (d : Option Addr) (c : V) (cv : Value) (b : Bool), xs = [.ref a, c] ∧ H a = some (ExV (.ref Dc) d a) ∧ (d = none ∨ ∃ dd fs, d = some dd ∧ H dd = some (.xd fs)) ∧ ExcC K Dc ∧ (∀ u, RelV c u → u = cv) ∧ PySem.W.kitOne K (.ref Dc) cv = some b ∧ Q (.bl b) H
end
/-- an error as a value -/
def pErr (EX : ExT) : VP Exn := ⟨fun F v e => ∃ (a : Addr) (cls : Value) (d : Option Addr) (F0 : Hp), v = .ref a ∧ F a = some (ExV cls d a) ∧ Same F0 F ∧ EX e cls d F0, fun hF ⟨a, cls, d, F0, h1, h2, h3, h4⟩ => ⟨a, cls, d, F0, h1, hF _ _ h2, h3.trans hF, h4⟩⟩
section
variable {P : Program} {w : World} {K : PySem.W.Frag} {mg : Str → Option Value} {base : Heap} {k : Nat}
variable {Y : Fa P w K mg base k} {i : Y.I} {e ea eb eo ev tg iter elt : Expr} {es ifs : List Expr} {rest body : List Stmt} {Γ Γ' Γ1 Γ2 Δ Δ' As : List Slot} {a b c r s s' : Slot} {pos : Pos} {B : Bs} {D : Ends} {x g f : Str} {p' : Pos} {C : Addr} {EX : ExT} {ex : Exn}
end
/-! ### min and max of a pair -/
def rMinT (K : PySem.W.Frag) : List V → Hp → VK → Prop := fun vs H Q => ∃ (a : Addr) (x y : Int), vs = [V.ref a] ∧ SqT K H a [.int x, .int y] ∧ Q (.int (if y < x then y else x)) H
def rMaxT (K : PySem.W.Frag) : List V → Hp → VK → Prop := fun vs H Q => ∃ (a : Addr) (x y : Int), vs = [V.ref a] ∧ SqT K H a [.int x, .int y] ∧ Q (.int (if x < y then y else x)) H
section
variable {P : Program} {w : World} {K : PySem.W.Frag} {mg : Str → Option Value} {base : Heap} {k : Nat}
variable {Y : Fa P w K mg base k} {Γ : List Slot}
end
end Ty

/-! Ty54 -/
/-! an own == that answers NotImplemented to an int -/
namespace Ty
open PySem PySem.Spec L2 PyProof.Rows
open AutoSeq1 (wpAny_loadPart')
open MeetsSeq MeetsSeq2 MeetsSeq3 SeqRoads2
/-- a def that answers NotImplemented -/
def NiOk (P : Program) (w : World) (K : PySem.W.Frag) (mg : Str → Option Value) (base : Heap) (k : Nat) (f : Addr) (fd : FuncData) (ps : List Str) (sp : List V → Hp → Prop) : Prop :=
  ∀ (A : Around) (outer : List Env) (s : Shared) (H : Hp) (us : List Value) (vs : List V), Room k A → Env0 P w K mg base A outer s H → BindsTo s fd ⟨us, []⟩ (ps.zip us) → Vals vs us → vs.length = ps.length → sp vs H →
    codeAny (model P w) A (.call (.ref f) ⟨us, []⟩) (fun r s' => r = .ok (.ret .notImplemented) ∧ ∃ H', Same H H' ∧ s'.os = s.os ∧ AllBare s'.gens ∧ Un (frs outer) [] H H' s.heap s'.heap ∧ HOk P w H' s'.heap) s
section
variable {P : Program} {w : World} {K : PySem.W.Frag} {mg : Str → Option Value} {base : Heap}
end
section
variable {X : Cx} {n : Nat} {f C : Addr} {fd : FuncData} {ps : List Str} {sp : List V → Hp → Prop} {pins : List (Addr × Obj)} {σ : L2.St} {H : Hp} {s : Shared}
def rEqI (K : PySem.W.Frag) (C : Addr) (sp : List V → Hp → Prop) : R2 := fun x y H Q => ∃ (a dx : Addr) (fs : List (Str × V)) (z : Int), x = .ref a ∧ y = .int z ∧ H a = some (.ins C dx fs) ∧ PySem.W.subIn K (.type "int") (.ref C) = some false ∧ sp [x, y] H ∧ ∀ H', Same H H' → Q (.bl false) H'
end
/-! ### in the layer -/
def spNi : List V → Hp → Prop := fun vs _ => ∃ (x : V) (z : Int), vs = [x, .int z]
section
variable {P : Program} {w : World} {K : PySem.W.Frag} {mg : Str → Option Value} {base : Heap} {k : Nat}
variable {Y : Fa P w K mg base k} {Γ : List Slot} {a b s : Slot} {C : Addr} {ns : List Str} {α : Type} {f : Addr} {fd : FuncData} {ps : List Str} {j : Nat}
end
theorem NLp.opt {α : Type} {p : VP α} (h : NLp p) : NLp (pOpt p) := fun F F' v a k r => by
  cases a with
  | none => exact r
  | some a => exact ⟨h _ _ _ _ k r.1, r.2⟩
end Ty

/-! Ty62 -/
/-! texts: split, join, f'..', int(text); texts out of data; lists as data -/
namespace Ty
open PySem PySem.Spec L2
open PyProof.Rows
section
variable {P : Program} {w : World} {K : PySem.W.Frag} {mg : Str → Option Value} {base : Heap} {k : Nat}
variable {Y : Fa P w K mg base k} {i : Y.I} {e ea eb eo : Expr} {es : List Expr} {Γ Γ' : List Slot} {a b r s : Slot} {pos : Pos} {x : Str} {p' : Pos}
theorem paired_map_str {F : Hp} : ∀ (ys : List Str), Paired (pStr.R F) (ys.map V.str) ys
  | [] => .nil
  | _ :: r => .cons rfl (paired_map_str r)
theorem map_str_of {F : Hp} : ∀ {vs : List V} {ys : List Str}, Paired (pStr.R F) vs ys → vs = ys.map V.str
  | _, _, .nil => rfl
  | _, _, .cons r t => by rw [show _ = V.str _ from r, map_str_of t]; rfl
/-- t.split(sep) -/
theorem x_split {t u : Str} {apos cpos : Pos} (ho : XV Y eo Γ (vStr t)) (he : XV Y e Γ (vStr u)) (hu : (u.length == 0) = false) (hz : t.length + 2 ≤ sizeLine)
    (hs : ∀ i, starEach [e] (Y.X i).env = [(false, eval e (Y.X i).env)] := by intro _; rfl) (hb : ∀ i, attributeBase eo "split" (Y.X i).env (eval eo (Y.X i).env) = eval eo (Y.X i).env := by intro _; rfl) (hl : (apos.endLine == cpos.line) = true := by rfl) :
    XV Y (.Call (.Attribute eo "split" apos) [e] [] cpos) Γ (own (oL pStr) (Txt.split t u)) := by
  obtain ⟨t1, p1, r1⟩ := ho
  obtain ⟨t2, p2, r2⟩ := he
  refine ⟨_, fun i => pe_m1 F.slot_str_split F.type_str_split mt_split (p1 i) (p2 i) (hs i) (hb i) hl, fun B F H os σ Q I q => ?_⟩
  refine r1 B F H os σ _ I fun v F1 H1 fp f1 e1 W1 q1 => ?_
  obtain ⟨rfl, rv⟩ := val_P q1
  cases rv
  refine ⟨⟨t, rfl⟩, r2 B F1 H1 _ σ _ (I.step f1 e1 W1) fun v2 F2 H2 fp2 f2 e2 W2 q2 => ?_⟩
  obtain ⟨rfl, rv⟩ := val_P q2
  cases rv
  refine ⟨t, u, rfl, rfl, hu, hz, fun l hl => ?_⟩
  have W3 : Wo B F2 H2 os := by simpa using W2
  exact q (.ref l) F2 _ [l] (f1.trans f2) ((e1.trans e2).trans (same_upd hl)) (W3.newO hl) ⟨_, rfl, l, _, rfl, rfl, upd_same, paired_map_str _⟩
/-- sep.join(ys) -/
theorem x_join {t : Str} {ys : List Str} {apos cpos : Pos} (ho : XV Y eo Γ (vStr t)) (he : XV Y e Γ s) (hs' : SV K s pStr ys) (hz : (ys.map (·.length)).sum + ys.length * t.length ≤ 16777216)
    (hs : ∀ i, starEach [e] (Y.X i).env = [(false, eval e (Y.X i).env)] := by intro _; rfl) (hb : ∀ i, attributeBase eo "join" (Y.X i).env (eval eo (Y.X i).env) = eval eo (Y.X i).env := by intro _; rfl) (hl : (apos.endLine == cpos.line) = true := by rfl) :
    XV Y (.Call (.Attribute eo "join" apos) [e] [] cpos) Γ (vStr (Txt.join t ys)) := by
  obtain ⟨t1, p1, r1⟩ := ho
  obtain ⟨t2, p2, r2⟩ := he
  refine ⟨_, fun i => by have h := pe_m1 F.slot_str_join F.type_str_join mt_join (p1 i) (p2 i) (hs i) (hb i) hl; rw [Y.hK i] at h; exact h, fun B F H os σ Q I q => ?_⟩
  refine r1 B F H os σ _ I fun v F1 H1 fp f1 e1 W1 q1 => ?_
  obtain ⟨rfl, rv⟩ := val_P q1
  cases rv
  refine ⟨⟨t, rfl⟩, r2 B F1 H1 _ σ _ (I.step f1 e1 W1) fun v2 F2 H2 fp2 f2 e2 W2 q2 => ?_⟩
  obtain ⟨l, vs, ev, h1, h2⟩ := hs' F2 H2 fp2 _ W2.sub q2
  cases ev
  obtain rfl := map_str_of h2
  refine ⟨t, l, ys, rfl, rfl, .inl h1, hz, q _ F2 H2 [] (f1.trans f2) (e1.trans e2) (by simpa using W2.drop) ⟨rfl, _, rfl, rfl⟩⟩
/-- int(t) -/
theorem o_intS {t : Str} {n : Int} (h : intText? t = some n) (hl : t.length ≤ 640) : OpA (fun xs H Q => ∃ a n, xs = [V.str a] ∧ PySem.intText? a = some n ∧ a.length ≤ 640 ∧ Q (.int n) H) [vStr t] (vInt n) := opA1 fun B F H v fx os Q W pv q => by
  obtain ⟨rfl, rv⟩ := val_P pv
  cases rv
  exact ⟨t, n, rfl, h, hl, q _ F H [] same_refl same_refl W ⟨rfl, _, rfl, rfl⟩⟩
/-! ### f'..' -/
def XJs (Y : Fa P w K mg base k) (es : List Expr) (Γ : List Slot) (acc out : Str) : Prop :=
  ∃ ts : List TE, (∀ i, PJ (Y.X i) es ts) ∧ ∀ (B : Bs) (F H : Hp) (os : List Addr) (σ : List (Option V)) (Q : Str → Hp → Prop), In B F H os σ Γ → (∀ F' H', Same F F' → Same H H' → Wo B F' H' os → Q out H') → tJs ts acc σ H Q
theorem xj_nil {acc : Str} : XJs Y [] Γ acc acc := ⟨[], fun _ => .nil, fun B F H os σ Q I q => q F H same_refl same_refl I.W⟩
theorem xj_c {acc out y : Str} (he : XV Y e Γ (vStr y)) (hz : (acc ++ y).length ≤ sizeLine) (hr : XJs Y es Γ (acc ++ y) out) : XJs Y (e :: es) Γ acc out := by
  obtain ⟨t, p, r⟩ := he
  obtain ⟨ts, ps, rs⟩ := hr
  refine ⟨t :: ts, fun i => .cons (p i) (ps i), fun B F H os σ Q I q => ?_⟩
  refine r B F H os σ _ I fun v F1 H1 fp f1 e1 W1 q1 => ?_
  obtain ⟨rfl, rv⟩ := val_P q1
  cases rv
  exact ⟨y, rfl, hz, rs B F1 H1 os σ Q (by simpa using I.step f1 e1 W1) fun F' H' f e W => q F' H' (f1.trans f) (e1.trans e) W⟩
theorem x_fmtS {y : Str} (he : XV Y e Γ (vStr y)) (hz : y.length ≤ sizeLine) : XV Y (.FormattedValue e (-1) none pos) Γ (vStr y) := by
  obtain ⟨t, p, r⟩ := he
  refine ⟨_, fun i => pe_fmt (p i), fun B F H os σ Q I q => ?_⟩
  refine r B F H os σ _ I fun v F1 H1 fp f1 e1 W1 q1 => ?_
  obtain ⟨rfl, rv⟩ := val_P q1
  cases rv
  exact .inl ⟨y, rfl, hz, q _ F1 H1 [] f1 e1 W1 ⟨rfl, _, rfl, rfl⟩⟩
theorem x_fmtI {n : Int} (he : XV Y e Γ (vInt n)) (hz : n.natAbs.log2 < 1920) : XV Y (.FormattedValue e (-1) none pos) Γ (vStr (toString n)) := by
  obtain ⟨t, p, r⟩ := he
  refine ⟨_, fun i => pe_fmt (p i), fun B F H os σ Q I q => ?_⟩
  refine r B F H os σ _ I fun v F1 H1 fp f1 e1 W1 q1 => ?_
  obtain ⟨rfl, rv⟩ := val_P q1
  cases rv
  exact .inr ⟨n, rfl, hz, q _ F1 H1 [] f1 e1 W1 ⟨rfl, _, rfl, rfl⟩⟩
theorem x_joined {v1 v2 : Expr} {out : Str} (h : XJs Y (v1 :: v2 :: es) Γ Str.empty out) : XV Y (.JoinedStr (v1 :: v2 :: es) pos) Γ (vStr out) := by
  obtain ⟨ts, ps, rs⟩ := h
  exact ⟨_, fun i => pe_joined (ps i), fun B F H os σ Q I q => rs B F H os σ _ I fun F' H' f e W => q _ F' H' [] f e W ⟨rfl, _, rfl, rfl⟩⟩
/-! ### data -/
def pdStr : PyData → Option Str
  | .str x => some x
  | _ => none
theorem XV.pds {d : PyData} {t : Str} (hi : pdStr d = some t) (h : XV Y e Γ (val (pDa K) d)) : XV Y e Γ (vStr t) := h.as fun F H fp o _ ⟨e1, v, e2, r⟩ => by
  cases (show Dp K F v d from r) with
  | str j => cases hi; exact ⟨e1, _, e2, rfl⟩
  | _ => cases hi
theorem paired_enc {α : Type} [DecidableEq α] {p : VP α} {ok : α → Prop} (E : DE p ok) {F : Hp} : ∀ {vs : List V} {xs : List α}, Paired (p.R F) vs xs → Paired ((pDa K).R F) vs (xs.map E.enc)
  | _, _, .nil => .nil
  | _, _, .cons r t => .cons (E.dp K F _ _ r) (paired_enc E t)
/-- items told as data -/
theorem XV.oLdata {α : Type} [DecidableEq α] {p : VP α} {ok : α → Prop} {xs : List α} (E : DE p ok) (h : XV Y e Γ (own (oL p) xs)) : XV Y e Γ (own (oL (pDa K)) (xs.map E.enc)) := h.as fun F H fp o _ ⟨v, e1, l, vs, e2, e3, h1, h2⟩ => ⟨v, e1, l, vs, e2, e3, h1, paired_enc E h2⟩
theorem XV.vLdata {α : Type} [DecidableEq α] {p : VP α} {ok : α → Prop} {xs : List α} (E : DE p ok) (h : XV Y e Γ (val (pL p) xs)) : XV Y e Γ (val (pL (pDa K)) (xs.map E.enc)) := h.as fun F H fp o _ ⟨e1, v, e2, l, vs, e3, h1, h2⟩ => ⟨e1, v, e2, l, vs, e3, h1, paired_enc E h2⟩
end
end Ty

/-! Ty63 -/
/-! defs that change their first argument, answer, and may raise -/
namespace Ty
open PySem PySem.Spec L2
open PyProof.Rows (envOfC)
section
variable {P : Program} {w : World} {K : PySem.W.Frag} {mg : Str → Option Value} {base : Heap} {k : Nat}
def spMR {ι μ ρ : Type} (s0 : ι → Slot) (As : ι → List Slot) (m : ι → Option (Rx (μ × ρ))) (s1 : μ → Slot) (Sr : ρ → Slot) (X : ExT) : Sp := fun vs H Q E => ∃ (z : ι) (r : Rx (μ × ρ)) (F : Hp) (fp : List Addr) (v0 : V) (ws : List V), vs = v0 :: ws ∧ m z = some r ∧ Wo ⟨F, H, fp⟩ F H fp ∧ (s0 z).P F H fp (some v0) ∧ Slots F H [] (ws.map some) (As z) ∧
  (∀ q, r = .ok q → ∀ v F' H' f1 f2, Wo ⟨F, H, fp⟩ F' H' (f2 ++ f1) → (s1 q.1).P F' H' f1 (some v0) → (Sr q.2).P F' H' f2 (some v) → Q v H') ∧ ∀ e, r = .ex e → ∀ cls d F' H', Wo ⟨F, H, fp⟩ F' H' [] → X e cls d F' → E cls d H'
def DMR {μ ρ : Type} (B : Bs) (v0 : V) (s1 : μ → Slot) (Sr : ρ → Slot) (r : Rx (μ × ρ)) : Ends where
  nx := fun σ H => ∃ q, r = .ok q ∧ (DM B v0 s1 Sr q).nx σ H
  rt := fun v H => ∃ q, r = .ok q ∧ (DM B v0 s1 Sr q).rt v H
theorem fn_mutR {ι μ ρ : Type} {s0 : ι → Slot} {As : ι → List Slot} {m : ι → Option (Rx (μ × ρ))} {s1 : μ → Slot} {Sr : ρ → Slot} {EX : ExT} {x qual : Str} {st : Stmt} {f : Addr} {fd : FuncData} {N ps : List Str} (Fn : Fun K x qual st f fd) (S : FnScope N ps (defScope st)) (hlen : ∀ z, (As z).length + 1 = ps.length)
    (body : ∀ (cdv : Value) (A : Around) (outer : List Env) (s : Shared) (H : Hp) (E : XK) (hr : Room k (A.deeper (envOfC qual (defScope st) s.heap.objs.size f cdv))) (z : ι) (r : Rx (μ × ρ)) (v0 : V) (B : Bs), m z = some r →
      (∀ e, r = .ex e → ∀ Γ, Wish (fun cls d _ H => E cls d H) B Γ EX e) →
      Go (fbX P w K mg base N qual st f cdv A outer s H E k hr S.nd) () (defBody st) (DMR B v0 s1 Sr r) B (hold (s0 z) v0 :: As z ++ List.replicate (N.length - ps.length) dead)) : FnOk P w K mg base (L2.CX P w) (k + 1) f fd ps (spMR s0 As m s1 Sr EX) := by
  refine Fn.okX S (fun vs H Q E h => ?_) (fun cdv A outer s H vs Q E hr h => ?_)
  · obtain ⟨z, r, F, fp, v0, ws, rfl, _, _, _, Sl, _⟩ := h
    have e := Sl.length
    rw [List.length_map] at e
    rw [List.length_cons, e, hlen]
  · obtain ⟨z, r, F, fp, v0, ws, rfl, hm, hW, hp, Sl, q, qe⟩ := h
    refine ⟨_, pss_cont, ?_⟩
    have go := body cdv A outer s H E hr z r v0 ⟨F, H, fp⟩ hm (fun e he Γ cls d σ F' H' os hI hx => qe e he cls d F' H' (Wo.drop (a := os) (b := []) (by simpa using hI.W)) hx)
    have S0 : Sta ⟨F, H, fp⟩ F H (L2.start N (v0 :: ws)) (hold (s0 z) v0 :: As z ++ List.replicate (N.length - ps.length) dead) := by
      refine ⟨fp, hW, ?_⟩
      unfold L2.start
      have e := Sl.length
      rw [List.length_map] at e
      rw [List.length_cons, e, hlen]
      have e1 := Slots.cons (s := hold (s0 z) v0) ⟨rfl, hp⟩ (Slots.append Sl (slots_dead (F := F) (H := H) (N.length - ps.length)))
      simpa using e1
    exact cont_mono (go F H _ S0) (fun σ H' ⟨qq, er, F', f1, f2, W', p', q'⟩ => q qq er .non F' H' f1 f2 W' p' q') (fun v H' ⟨qq, er, F', f1, f2, W', p', q'⟩ => q qq er v F' H' f1 f2 W' p' q') (fun _ _ z => z.elim) (fun _ _ z => z.elim)
variable {Y : Fa P w K mg base k} {i : Y.I} {e ea eb eo : Expr} {es : List Expr} {rest : List Stmt} {Γ Γ' Γ1 : List Slot} {a b r s : Slot} {pos : Pos} {B : Bs} {D : Ends} {x f : Str} {p' : Pos} {EX : ExT} {ex : Exn} {C : Addr} {ns : List Str} {Δ : List Slot}
theorem go_nilMR {μ ρ : Type} {v0 : V} {s1 : μ → Slot} {Sr : ρ → Slot} {q : μ × ρ} (j : Nat) (hs : Γ[j]? = some (hold (s1 q.1) v0) := by rfl) (hr : ∀ F H, (Sr q.2).P F H [] (some .non) := by intro _ _; exact ⟨rfl, _, rfl, rfl⟩) : Go Y i [] (DMR B v0 s1 Sr (.ok q)) B Γ :=
  go_nil fun σ H ⟨F, os, W, S⟩ => by
    obtain ⟨o, fp, r', e, p, q', _⟩ := S.at hs
    obtain ⟨rfl, p⟩ := p
    exact ⟨q, rfl, F, fp, [], (W.perm q').dropR, p, hr _ _⟩
/-- what W asks does not lean on the slots -/
def WFree (Y : Fa P w K mg base k) : Prop := ∀ cls d σ σ' H, Y.W cls d σ H → Y.W cls d σ' H
theorem passW (hW : WFree Y) (i : Y.I) : Passes (L2.CX (Y.X i).prog (Y.X i).w) (Y.X i) (fun cls d H => ∀ σ, Y.W cls d σ H) := passes_call (Y.tk i) fun cls d σ H h => h σ
/-- o.m(e, ..) -/
theorem xm_methR {ι μ ρ : Type} {s0 : ι → Slot} {As : ι → List Slot} {m : ι → Option (Rx (μ × ρ))} {s1 : μ → Slot} {Sr : ρ → Slot} {args : List Slot} {z : ι} {q : μ × ρ} {j : Nat} {g : Addr} {fd : FuncData} {ps : List Str} {up : Slot → List Slot} {apos cpos : Pos} {pl : Y.I → Sem Bool}
    (Fn : FnOk P w K mg base (L2.CX P w) j g fd ps (spMR s0 As m s1 Sr EX)) (hj : j ≤ k) (hc : Cls K C) (hm : Meth K C f g) (hb : Binds K fd ps []) (ho : PL Y eo Γ (obj C ns Δ) up) (h0 : s0 z = obj C ns Δ) (ha : XA Y (e :: es) Γ args) (hargs : args = As z) (hno : NoOwn args) (hq : m z = some (.ok q))
    (hW : WFree Y := by intro _ _ _ _ _ h; exact h) (hns : ns.contains f = false := by decide +kernel)
    (hst : ∀ i, starEach (e :: es) (Y.X i).env = (false, eval e (Y.X i).env) :: starEach es (Y.X i).env := by intro _; rfl) (hpl : ∀ i, (backTo cpos (starEach es (Y.X i).env)).any (·.1) = false := by intro _; rfl)
    (ht : ∀ i, eval (.Call (.Attribute eo f apos) (e :: es) [] cpos) (Y.X i).env = (do
      let ov ← eval eo (Y.X i).env
      standAt apos.atName
      let (f, first) ← holding [ov] (getMethod ov f (pl i))
      callWith cpos f first (backTo cpos (starEach (e :: es) (Y.X i).env)) (backToKw cpos (keywordEach [] (Y.X i).env))) := by intro _; rfl) (hcm : Y.cm = true := by rfl) : XM Y (.Call (.Attribute eo f apos) (e :: es) [] cpos) Γ (Sr q.2) (up (s1 q.1)) := by
  subst hargs
  obtain ⟨t, Pv, pe, pst, rd, up'⟩ := ho
  obtain ⟨ta, pa, ra⟩ := ha
  have FF : ∀ i, FnOk (Y.X i).prog (Y.X i).w (Y.X i).K (Y.X i).mg (Y.X i).base (L2.CX (Y.X i).prog (Y.X i).w) j g fd ps (spMR s0 As m s1 Sr EX) := fun i => by rw [Y.hP i, Y.hw i, Y.hK i, Y.hM i, Y.hB i]; exact Fn
  refine ⟨_, fun i => pe_meth (pl := pl i) (pe i) (by rw [Y.hK i]; exact hc) (by rw [Y.hK i]; exact hm) (FF i) ((Y.hR hcm i).mono hj) (by rw [Y.hK i]; exact hb) .nil (passW hW i) (pa i) (hst i) (hpl i) (ht i), fun B F H os σ Q W S qq => ?_⟩
  refine rd B F H os σ _ (Sta.in W S) fun v hv => ?_
  obtain ⟨fp, r2, hr2, hp2, _⟩ := up' F H os σ v S hv
  obtain ⟨x, dx, vs, o3, ex, e2, g1, g2, g3, g4⟩ := hp2
  cases ex
  refine ⟨x, dx, _, rfl, g1, lookup_no hns, ?_⟩
  refine ra B F H os σ _ (Sta.in W S) fun ws F1 H1 fa f1 e1 W1 S1 => ?_
  obtain rfl := hno.nil S1
  obtain ⟨fp, r2, hr2, hp2, kk⟩ := up' F1 H1 os σ _ (S.mono f1 e1) (pst _ _ _ _ e1 hv)
  rw [List.append_nil]
  refine ⟨z, .ok q, F1, fp, _, ws, rfl, hq, W1.here hr2, by rw [h0]; exact hp2, S1, fun q' eq v F2 H2 fp1 fp2 W2 p2 p3 => ?_, fun e he => by cases he⟩
  cases eq
  obtain ⟨c1, c2, W3⟩ := Wo.calledM (os := os) W1 hr2 W2
  obtain ⟨os2, v1, v2⟩ := kk F2 H2 fp1 (s1 q.1) c1 c2 p2
  rw [List.append_assoc] at W3
  exact qq v F2 H2 fp2 os2 (W3.perm (List.Perm.append_left fp2 v2.symm)) v1 p3
theorem xxm_methR {ι μ ρ : Type} {s0 : ι → Slot} {As : ι → List Slot} {m : ι → Option (Rx (μ × ρ))} {s1 : μ → Slot} {Sr : ρ → Slot} {args : List Slot} {z : ι} {j : Nat} {g : Addr} {fd : FuncData} {ps : List Str} {up : Slot → List Slot} {apos cpos : Pos} {pl : Y.I → Sem Bool}
    (Fn : FnOk P w K mg base (L2.CX P w) j g fd ps (spMR s0 As m s1 Sr EX)) (hj : j ≤ k) (hc : Cls K C) (hm : Meth K C f g) (hb : Binds K fd ps []) (ho : PL Y eo Γ (obj C ns Δ) up) (h0 : s0 z = obj C ns Δ) (ha : XA Y (e :: es) Γ args) (hargs : args = As z) (hno : NoOwn args) (hq : m z = some (.ex ex))
    (hW : WFree Y := by intro _ _ _ _ _ h; exact h) (hns : ns.contains f = false := by decide +kernel)
    (hst : ∀ i, starEach (e :: es) (Y.X i).env = (false, eval e (Y.X i).env) :: starEach es (Y.X i).env := by intro _; rfl) (hpl : ∀ i, (backTo cpos (starEach es (Y.X i).env)).any (·.1) = false := by intro _; rfl)
    (ht : ∀ i, eval (.Call (.Attribute eo f apos) (e :: es) [] cpos) (Y.X i).env = (do
      let ov ← eval eo (Y.X i).env
      standAt apos.atName
      let (f, first) ← holding [ov] (getMethod ov f (pl i))
      callWith cpos f first (backTo cpos (starEach (e :: es) (Y.X i).env)) (backToKw cpos (keywordEach [] (Y.X i).env))) := by intro _; rfl) (hcm : Y.cm = true := by rfl) : XXm Y (.Call (.Attribute eo f apos) (e :: es) [] cpos) Γ EX ex (up dead) := by
  subst hargs
  obtain ⟨t, Pv, pe, pst, rd, up'⟩ := ho
  obtain ⟨ta, pa, ra⟩ := ha
  have FF : ∀ i, FnOk (Y.X i).prog (Y.X i).w (Y.X i).K (Y.X i).mg (Y.X i).base (L2.CX (Y.X i).prog (Y.X i).w) j g fd ps (spMR s0 As m s1 Sr EX) := fun i => by rw [Y.hP i, Y.hw i, Y.hK i, Y.hM i, Y.hB i]; exact Fn
  refine ⟨_, fun i => pe_meth (pl := pl i) (pe i) (by rw [Y.hK i]; exact hc) (by rw [Y.hK i]; exact hm) (FF i) ((Y.hR hcm i).mono hj) (by rw [Y.hK i]; exact hb) .nil (passW hW i) (pa i) (hst i) (hpl i) (ht i), fun B F H os σ Q W S qq => ?_⟩
  refine rd B F H os σ _ (Sta.in W S) fun v hv => ?_
  obtain ⟨fp, r2, hr2, hp2, _⟩ := up' F H os σ v S hv
  obtain ⟨x, dx, vs, o3, exx, e2, g1, g2, g3, g4⟩ := hp2
  cases exx
  refine ⟨x, dx, _, rfl, g1, lookup_no hns, ?_⟩
  refine ra B F H os σ _ (Sta.in W S) fun ws F1 H1 fa f1 e1 W1 S1 => ?_
  obtain rfl := hno.nil S1
  obtain ⟨fp, r2, hr2, hp2, kk⟩ := up' F1 H1 os σ _ (S.mono f1 e1) (pst _ _ _ _ e1 hv)
  rw [List.append_nil]
  refine ⟨z, .ex ex, F1, fp, _, ws, rfl, hq, W1.here hr2, by rw [h0]; exact hp2, S1, fun q' eq => (by cases eq), fun e he cls d F2 H2 W2 hx σ' => ?_⟩
  cases he
  obtain ⟨c1, c2, W3⟩ := Wo.calledM (os := os) W1 hr2 W2
  obtain ⟨os2, v1, v2⟩ := kk F2 H2 [] dead c1 c2 rfl
  exact hW cls d σ σ' H2 (qq cls d F2 H2 os2 (W3.perm (by simpa using v2.symm)) v1 hx)
/-- f(o), o changed -/
theorem xm_callR {ι μ ρ : Type} {s0 : ι → Slot} {As : ι → List Slot} {m : ι → Option (Rx (μ × ρ))} {s1 : μ → Slot} {Sr : ρ → Slot} {z : ι} {q : μ × ρ} {j : Nat} {g : Addr} {fd : FuncData} {ps : List Str} {up : Slot → List Slot}
    (Fn : FnOk P w K mg base (L2.CX P w) j g fd ps (spMR s0 As m s1 Sr EX)) (hj : j ≤ k) (hm : mg x = some (.ref g)) (hk : PySem.W.keepIn K (.ref g) = true) (hb : Binds K fd ps []) (ho : PL Y eo Γ a up) (h0 : s0 z = a) (hargs : As z = []) (hq : m z = some (.ok q))
    (hW : WFree Y := by intro _ _ _ _ _ h; exact h) (hg : ∀ i, Gl (Y.X i) x := by intro _; rfl) (hdb : (x == ("__debug__" : Str)) = false := by decide)
    (he : ∀ i, starEach [eo] (Y.X i).env = (false, eval eo (Y.X i).env) :: starEach [] (Y.X i).env := by intro _; rfl) (hpl : ∀ i, (backTo pos (starEach [] (Y.X i).env)).any (·.1) = false := by intro _; rfl) (hcm : Y.cm = true := by rfl) : XM Y (.Call (.Name x p') [eo] [] pos) Γ (Sr q.2) (up (s1 q.1)) := by
  obtain ⟨t, Pv, pe, pst, rd, up'⟩ := ho
  have FF : ∀ i, FnOk (Y.X i).prog (Y.X i).w (Y.X i).K (Y.X i).mg (Y.X i).base (L2.CX (Y.X i).prog (Y.X i).w) j g fd ps (spMR s0 As m s1 Sr EX) := fun i => by rw [Y.hP i, Y.hw i, Y.hK i, Y.hM i, Y.hB i]; exact Fn
  refine ⟨_, fun i => pe_call (FF i) ((Y.hR hcm i).mono hj) (hg i) (by rw [Y.hM i]; exact hm) (by rw [Y.hK i]; exact hk) (by rw [Y.hK i]; exact hb) .nil (passW hW i) (pa_cons (pe i) pa_nil (he i)) hdb (he i) (hpl i), fun B F H os σ Q W S qq => ?_⟩
  refine rd B F H os σ _ (Sta.in W S) fun v hv => ?_
  obtain ⟨fp, r2, hr2, hp2, kk⟩ := up' F H os σ v S hv
  refine ⟨z, .ok q, F, fp, v, [], rfl, hq, W.here hr2, by rw [h0]; exact hp2, by rw [hargs]; exact .nil, fun q' eq v2 F2 H2 fp1 fp2 W2 p2 p3 => ?_, fun e he => by cases he⟩
  cases eq
  obtain ⟨c1, c2, W3⟩ := Wo.calledM (os := os) W hr2 W2
  obtain ⟨os2, v1, v3⟩ := kk F2 H2 fp1 (s1 q.1) c1 c2 p2
  rw [List.append_assoc] at W3
  exact qq v2 F2 H2 fp2 os2 (W3.perm (List.Perm.append_left fp2 v3.symm)) v1 p3
theorem xxm_callR {ι μ ρ : Type} {s0 : ι → Slot} {As : ι → List Slot} {m : ι → Option (Rx (μ × ρ))} {s1 : μ → Slot} {Sr : ρ → Slot} {z : ι} {j : Nat} {g : Addr} {fd : FuncData} {ps : List Str} {up : Slot → List Slot}
    (Fn : FnOk P w K mg base (L2.CX P w) j g fd ps (spMR s0 As m s1 Sr EX)) (hj : j ≤ k) (hm : mg x = some (.ref g)) (hk : PySem.W.keepIn K (.ref g) = true) (hb : Binds K fd ps []) (ho : PL Y eo Γ a up) (h0 : s0 z = a) (hargs : As z = []) (hq : m z = some (.ex ex))
    (hW : WFree Y := by intro _ _ _ _ _ h; exact h) (hg : ∀ i, Gl (Y.X i) x := by intro _; rfl) (hdb : (x == ("__debug__" : Str)) = false := by decide)
    (he : ∀ i, starEach [eo] (Y.X i).env = (false, eval eo (Y.X i).env) :: starEach [] (Y.X i).env := by intro _; rfl) (hpl : ∀ i, (backTo pos (starEach [] (Y.X i).env)).any (·.1) = false := by intro _; rfl) (hcm : Y.cm = true := by rfl) : XXm Y (.Call (.Name x p') [eo] [] pos) Γ EX ex (up dead) := by
  obtain ⟨t, Pv, pe, pst, rd, up'⟩ := ho
  have FF : ∀ i, FnOk (Y.X i).prog (Y.X i).w (Y.X i).K (Y.X i).mg (Y.X i).base (L2.CX (Y.X i).prog (Y.X i).w) j g fd ps (spMR s0 As m s1 Sr EX) := fun i => by rw [Y.hP i, Y.hw i, Y.hK i, Y.hM i, Y.hB i]; exact Fn
  refine ⟨_, fun i => pe_call (FF i) ((Y.hR hcm i).mono hj) (hg i) (by rw [Y.hM i]; exact hm) (by rw [Y.hK i]; exact hk) (by rw [Y.hK i]; exact hb) .nil (passW hW i) (pa_cons (pe i) pa_nil (he i)) hdb (he i) (hpl i), fun B F H os σ Q W S qq => ?_⟩
  refine rd B F H os σ _ (Sta.in W S) fun v hv => ?_
  obtain ⟨fp, r2, hr2, hp2, kk⟩ := up' F H os σ v S hv
  refine ⟨z, .ex ex, F, fp, v, [], rfl, hq, W.here hr2, by rw [h0]; exact hp2, by rw [hargs]; exact .nil, fun q' eq => (by cases eq), fun e he cls d F2 H2 W2 hx σ' => ?_⟩
  cases he
  obtain ⟨c1, c2, W3⟩ := Wo.calledM (os := os) W hr2 W2
  obtain ⟨os2, v1, v2⟩ := kk F2 H2 [] dead c1 c2 rfl
  exact hW cls d σ σ' H2 (qq cls d F2 H2 os2 (W3.perm (by simpa using v2.symm)) v1 hx)
/-- o.m() -/
theorem xm_meth0R {ι μ ρ : Type} {s0 : ι → Slot} {As : ι → List Slot} {m : ι → Option (Rx (μ × ρ))} {s1 : μ → Slot} {Sr : ρ → Slot} {z : ι} {q : μ × ρ} {j : Nat} {g : Addr} {fd : FuncData} {ps : List Str} {up : Slot → List Slot} {apos cpos : Pos} {pl : Y.I → Sem Bool}
    (Fn : FnOk P w K mg base (L2.CX P w) j g fd ps (spMR s0 As m s1 Sr EX)) (hj : j ≤ k) (hc : Cls K C) (hm : Meth K C f g) (hb : Binds K fd ps []) (ho : PL Y eo Γ (obj C ns Δ) up) (h0 : s0 z = obj C ns Δ) (hargs : As z = []) (hq : m z = some (.ok q))
    (hW : WFree Y := by intro _ _ _ _ _ h; exact h) (hns : ns.contains f = false := by decide +kernel)
    (ht : ∀ i, eval (.Call (.Attribute eo f apos) [] [] cpos) (Y.X i).env = (do
      let ov ← eval eo (Y.X i).env
      standAt apos.atName
      let (f, first) ← holding [ov] (getMethod ov f (pl i))
      callWith cpos f first (backTo cpos (starEach [] (Y.X i).env)) (backToKw cpos (keywordEach [] (Y.X i).env))) := by intro _; rfl) (hcm : Y.cm = true := by rfl) : XM Y (.Call (.Attribute eo f apos) [] [] cpos) Γ (Sr q.2) (up (s1 q.1)) := by
  obtain ⟨t, Pv, pe, pst, rd, up'⟩ := ho
  have FF : ∀ i, FnOk (Y.X i).prog (Y.X i).w (Y.X i).K (Y.X i).mg (Y.X i).base (L2.CX (Y.X i).prog (Y.X i).w) j g fd ps (spMR s0 As m s1 Sr EX) := fun i => by rw [Y.hP i, Y.hw i, Y.hK i, Y.hM i, Y.hB i]; exact Fn
  refine ⟨_, fun i => pe_meth0 (pl := pl i) (pe i) (by rw [Y.hK i]; exact hc) (by rw [Y.hK i]; exact hm) (FF i) ((Y.hR hcm i).mono hj) (by rw [Y.hK i]; exact hb) .nil (passW hW i) (ht i), fun B F H os σ Q W S qq => ?_⟩
  refine rd B F H os σ _ (Sta.in W S) fun v hv => ?_
  obtain ⟨fp, r2, hr2, hp2, kk⟩ := up' F H os σ v S hv
  have hp3 := hp2
  obtain ⟨x, dx, vs, o3, exx, e2, g1, g2, g3, g4⟩ := hp2
  cases exx
  refine ⟨x, dx, _, rfl, g1, lookup_no hns, ?_⟩
  refine ⟨z, .ok q, F, fp, _, [], rfl, hq, W.here hr2, by rw [h0]; exact hp3, by rw [hargs]; exact .nil, fun q' eq v F2 H2 fp1 fp2 W2 p2 p3 => ?_, fun e he => by cases he⟩
  cases eq
  obtain ⟨c1, c2, W3⟩ := Wo.calledM (os := os) W hr2 W2
  obtain ⟨os2, v1, v2⟩ := kk F2 H2 fp1 (s1 q.1) c1 c2 p2
  rw [List.append_assoc] at W3
  exact qq v F2 H2 fp2 os2 (W3.perm (List.Perm.append_left fp2 v2.symm)) v1 p3
theorem xxm_meth0R {ι μ ρ : Type} {s0 : ι → Slot} {As : ι → List Slot} {m : ι → Option (Rx (μ × ρ))} {s1 : μ → Slot} {Sr : ρ → Slot} {z : ι} {j : Nat} {g : Addr} {fd : FuncData} {ps : List Str} {up : Slot → List Slot} {apos cpos : Pos} {pl : Y.I → Sem Bool}
    (Fn : FnOk P w K mg base (L2.CX P w) j g fd ps (spMR s0 As m s1 Sr EX)) (hj : j ≤ k) (hc : Cls K C) (hm : Meth K C f g) (hb : Binds K fd ps []) (ho : PL Y eo Γ (obj C ns Δ) up) (h0 : s0 z = obj C ns Δ) (hargs : As z = []) (hq : m z = some (.ex ex))
    (hW : WFree Y := by intro _ _ _ _ _ h; exact h) (hns : ns.contains f = false := by decide +kernel)
    (ht : ∀ i, eval (.Call (.Attribute eo f apos) [] [] cpos) (Y.X i).env = (do
      let ov ← eval eo (Y.X i).env
      standAt apos.atName
      let (f, first) ← holding [ov] (getMethod ov f (pl i))
      callWith cpos f first (backTo cpos (starEach [] (Y.X i).env)) (backToKw cpos (keywordEach [] (Y.X i).env))) := by intro _; rfl) (hcm : Y.cm = true := by rfl) : XXm Y (.Call (.Attribute eo f apos) [] [] cpos) Γ EX ex (up dead) := by
  obtain ⟨t, Pv, pe, pst, rd, up'⟩ := ho
  have FF : ∀ i, FnOk (Y.X i).prog (Y.X i).w (Y.X i).K (Y.X i).mg (Y.X i).base (L2.CX (Y.X i).prog (Y.X i).w) j g fd ps (spMR s0 As m s1 Sr EX) := fun i => by rw [Y.hP i, Y.hw i, Y.hK i, Y.hM i, Y.hB i]; exact Fn
  refine ⟨_, fun i => pe_meth0 (pl := pl i) (pe i) (by rw [Y.hK i]; exact hc) (by rw [Y.hK i]; exact hm) (FF i) ((Y.hR hcm i).mono hj) (by rw [Y.hK i]; exact hb) .nil (passW hW i) (ht i), fun B F H os σ Q W S qq => ?_⟩
  refine rd B F H os σ _ (Sta.in W S) fun v hv => ?_
  obtain ⟨fp, r2, hr2, hp2, kk⟩ := up' F H os σ v S hv
  have hp3 := hp2
  obtain ⟨x, dx, vs, o3, exx, e2, g1, g2, g3, g4⟩ := hp2
  cases exx
  refine ⟨x, dx, _, rfl, g1, lookup_no hns, ?_⟩
  refine ⟨z, .ex ex, F, fp, _, [], rfl, hq, W.here hr2, by rw [h0]; exact hp3, by rw [hargs]; exact .nil, fun q' eq => (by cases eq), fun e he cls d F2 H2 W2 hx σ' => ?_⟩
  cases he
  obtain ⟨c1, c2, W3⟩ := Wo.calledM (os := os) W hr2 W2
  obtain ⟨os2, v1, v2⟩ := kk F2 H2 [] dead c1 c2 rfl
  exact hW cls d σ σ' H2 (qq cls d F2 H2 os2 (W3.perm (by simpa using v2.symm)) v1 hx)
/-! statements whose head raises behind changes -/
theorem go_setXm (h : XXm Y e Γ EX ex Γ') (hw : Wish Y.W B Γ' EX ex) {py : Pos} {j : Nat} (hi : (Y.X i).N[j]? = some x := by rfl) (hx : Loc (Y.X i).env.scope x := by first | exact Or.inl rfl | exact Or.inr rfl)
    (hs : swapsWith e (some (.Name x py)) pos.line (Y.X i).env = pure false := by rfl) (hf : (Y.X i).fn x = true ∨ (Y.X i).env.scope.names.lookup x = some .local := by first | exact Or.inl rfl | exact Or.inr rfl) : Go Y i (.Assign [.Name x py] e pos :: rest) D B Γ := by
  obtain ⟨t, p, rd⟩ := h
  refine go_ps (ps_set (Y.hN i) hi hx (p i) hs hf) fun F H σ ⟨os, W, S⟩ => ?_
  exact rd B F H os σ _ W S fun cls d F' H' os' W' S' hx => hw cls d σ F' H' os' (Sta.in W' S') hx
theorem go_exprXm (h : XXm Y e Γ EX ex Γ') (hw : Wish Y.W B Γ' EX ex) (hs : swapsWith e none pos.line (Y.X i).env = pure false := by rfl) : Go Y i (.Expr e pos :: rest) D B Γ := by
  obtain ⟨t, p, rd⟩ := h
  refine go_ps (ps_expr (p i) hs) fun F H σ ⟨os, W, S⟩ => ?_
  exact rd B F H os σ _ W S fun cls d F' H' os' W' S' hx => hw cls d σ F' H' os' (Sta.in W' S') hx
end
end Ty

/-! Ty64 -/
/-! lists of data taken apart; places in what a changing call answers; errors behind them -/
namespace Ty
open PySem PySem.Spec L2
section
variable {P : Program} {w : World} {K : PySem.W.Frag} {mg : Str → Option Value} {base : Heap} {k : Nat}
variable {Y : Fa P w K mg base k} {i : Y.I} {e ea eb eo tg : Expr} {es : List Expr} {rest : List Stmt} {Γ Γ' Γ1 : List Slot} {a b r s : Slot} {pos : Pos} {B : Bs} {D : Ends} {x f : Str} {p' : Pos} {EX : ExT} {ex : Exn} {α : Type}
/-- data told as values of these kinds -/
inductive DsTo : List PyData → List Slot → Prop
  | nil : DsTo [] []
  | str {t : Str} {ds : List PyData} {Γ : List Slot} (r : DsTo ds Γ) : DsTo (.str t :: ds) (vStr t :: Γ)
  | int {n : Int} {ds : List PyData} {Γ : List Slot} (r : DsTo ds Γ) : DsTo (.int n :: ds) (vInt n :: Γ)
theorem DsTo.slots {F : Hp} {ds : List PyData} {Γ : List Slot} (h : DsTo ds Γ) : ∀ {vs : List V}, Paired ((pDa K).R F) vs ds → Slots F F [] (vs.map some) Γ := by
  induction h with
  | nil =>
    intro vs hp
    cases hp
    exact .nil
  | str _ ih =>
    intro vs hp
    cases hp with
    | cons r t => cases r; exact Slots.cons (fp := []) ⟨rfl, _, rfl, rfl⟩ (ih t)
  | int _ ih =>
    intro vs hp
    cases hp with
    | cons r t => cases r; exact Slots.cons (fp := []) ⟨rfl, _, rfl, rfl⟩ (ih t)
theorem WkS.dataH {sl : α → List Slot} {z : α} {ds : List PyData} (h : DsTo ds (sl z)) : WkS (Ty.own (oL (pDa K)) ds) (Ty.val (pH sl) z) := fun F H fp o hS hp => by
  obtain ⟨v, e, l, vs, el, ef, h1, h2⟩ := hp
  subst ef
  exact ⟨[l], [], rfl, fun F' hF hs hx => ⟨rfl, v, e, l, vs, el, by rw [hx l List.mem_cons_self]; exact h1, h.slots (Paired.mon (fun _ _ r => (pDa K).mono hF r) h2)⟩⟩
def pdSII : List PyData → Option (Str × Int × Int)
  | [.str a, .int b, .int c] => some (a, b, c)
  | _ => none
def pdII : List PyData → Option (Int × Int)
  | [.int b, .int c] => some (b, c)
  | _ => none
def pdSI : List PyData → Option (Str × Int)
  | [.str a, .int b] => some (a, b)
  | _ => none
theorem pdSII_to {ds : List PyData} {q : Str × Int × Int} (h : pdSII ds = some q) : DsTo ds [vStr q.1, vInt q.2.1, vInt q.2.2] := by
  unfold pdSII at h
  split at h
  · cases h; exact .str (.int (.int .nil))
  · cases h
theorem pdII_to {ds : List PyData} {q : Int × Int} (h : pdII ds = some q) : DsTo ds [vInt q.1, vInt q.2] := by
  unfold pdII at h
  split at h
  · cases h; exact .int (.int .nil)
  · cases h
theorem pdSI_to {ds : List PyData} {q : Str × Int} (h : pdSI ds = some q) : DsTo ds [vStr q.1, vInt q.2] := by
  unfold pdSI at h
  split at h
  · cases h; exact .str (.int .nil)
  · cases h
/-- the text at the head of what a changing call answers -/
theorem xm_ixS0 {ds : List PyData} {t : Str} {pz : Pos} {nz : Nat} (h : XM Y ea Γ (own (oL (pDa K)) ds) Γ') (hd : ds[0]? = some (.str t)) : XM Y (.Subscript ea (.Constant (.int 0) nz pz) pos) Γ (vStr t) Γ' := by
  obtain ⟨t1, p, rd⟩ := h
  refine ⟨_, fun i => by have h := ix_list (X := Y.X i); rw [Y.hK i] at h; exact pe_ix h (p i) pe_int (fun _ _ => rfl), fun B F H os σ Q W S kk => ?_⟩
  refine rd B F H os σ _ W S fun v F1 H1 fp os1 W1 S1 p1 => ?_
  obtain ⟨v0, ev, l, vs, el, ef, h1, h2⟩ := p1
  cases ev; subst el; subst ef
  obtain ⟨y, hy, ry⟩ := paired_at' h2 hd
  cases ry
  refine ⟨l, vs, 0, .str t, rfl, rfl, SqL.of h1, (Ty.atI_nat (n := 0) hy : atI vs ((0 : Nat) : Int) = _), ?_⟩
  exact kk (.str t) F1 H1 [] os1 W1.drop S1 ⟨rfl, _, rfl, rfl⟩
theorem xxm_ix1 (h : XXm Y ea Γ EX ex Γ') (hx : PlainIx eb := by exact fun _ _ => rfl) : XXm Y (.Subscript ea eb pos) Γ EX ex Γ' := by
  obtain ⟨t, p, rd⟩ := h
  exact ⟨_, fun i => by have h := ix_list (X := Y.X i); rw [Y.hK i] at h; exact pe_ix h (p i) pe_dum hx, fun B F H os σ Q W S kk => rd B F H os σ _ W S kk⟩
/-- xs.append(e), e raises -/
theorem xxm_app (j : Nat) {apos cpos p0 : Pos} {p : VP α} {xs : List α} (he : XXm Y e Γ EX ex Γ') (hs0 : Γ[j]? = some (own (oL p) xs) := by rfl)
    (hN : ∀ i, (Y.X i).N[j]? = some x := by intro _; rfl) (hv : ∀ i, Vis (Y.X i).env.scope x := by intro _; first | exact Or.inl rfl | exact Or.inr (Or.inl rfl)) (hb : ∀ i, Bm1 (Y.X i) (.Name x p0) "append" apos e cpos := by exact fun _ => ⟨rfl, rfl, rfl, rfl, rfl⟩)
    (hd : (x == ("__debug__" : Str)) = false := by decide) (hcd : (x == ("__classdict__" : Str)) = false := by decide) : XXm Y (.Call (.Attribute (.Name x p0) "append" apos) [e] [] cpos) Γ EX ex Γ' := by
  obtain ⟨t2, pe2, rd2⟩ := he
  refine ⟨_, fun i => by have h := pe_bm PySem.F.plainAttrs_list PySem.F.slot_list_append PySem.F.type_list_append mt_append (pe_var (hN i) (hv i) hd hcd) (pa_cons (pe2 i) pa_nil (hb i).st) (hb i).base (hb i).few (hb i).line (hb i).st (hb i).pl; rw [Y.hK i] at h; exact h, fun B F H os σ Q W S kk => ?_⟩
  obtain ⟨o, fp, rr, e1, h0, hp, _⟩ := S.at hs0
  obtain ⟨v0, ev, l, vs, el, ef, h1, h2⟩ := h0
  subst ev; subst el
  exact ⟨.ref l, e1, .inl ⟨rfl, vs, SqL.of h1⟩, rd2 B F H os σ _ W S kk⟩
/-- targets = e, e raises -/
theorem pg_dum {i : Y.I} : PG (Y.X i) tg (fun _ _ _ _ => False) := ⟨fun _ _ _ _ _ _ _ _ _ h => h.elim⟩
theorem go_asgXm (h : XXm Y e Γ EX ex Γ') (hw : Wish Y.W B Γ' EX ex) (hs : swapsWithSole [tg] e pos.line (Y.X i).env = pure false := by rfl) (hw2 : swappedStores [tg] e (Y.X i).env = pure none := by rfl) (h1 : (assignEach [tg] (Y.X i).env).map (·.2) = [assign tg (Y.X i).env] := by rfl) :
    Go Y i (.Assign [tg] e pos :: rest) D B Γ := by
  obtain ⟨t, p, rd⟩ := h
  refine go_ps (ps_asg (p i) pg_dum hs hw2 h1) fun F H σ ⟨os, W, S⟩ => ?_
  exact rd B F H os σ _ W S fun cls d F' H' os' W' S' hx => hw cls d σ F' H' os' (Sta.in W' S') hx
end
end Ty

/-! Ty65 -/
/-! lending for flat answers; owned tuples unpacked; errors in what is handed to a class; heads of sums -/
namespace Ty
open PySem PySem.Spec L2
theorem Wo.thawF {B : Bs} {F F1 F2 H H2 : Hp} {a b os2 : List Addr} (W : Wo B F H (a ++ b)) (hF : Same F F1) (hx : ∀ x ∈ a, F1 x = H x) (ho : ∀ x o, F1 x = some o → x ∈ a ∨ F x = some o) (W2 : Wo ⟨F1, H, b⟩ F2 H2 os2) :
    ∃ F3, Wo B F3 H2 (a ++ os2) ∧ Same F F3 := by
  classical
  have nd := List.nodup_append.mp W.nd
  have hm : ∀ x ∈ a, ∃ o, F2 x = some o := fun x hq => by
    obtain ⟨o, e⟩ := W.oH x (List.mem_append_left _ hq)
    exact ⟨o, W2.bF x _ ((hx x hq).trans e)⟩
  have hS : Same F (fun x => if x ∈ a then none else F2 x) := fun x o e => by
    have q : x ∉ a := fun q => by rw [W.oF x (List.mem_append_left _ q)] at e; cases e
    show (if x ∈ a then none else F2 x) = _
    rw [if_neg q]
    exact W2.bF x o (hF x o e)
  have dj : ∀ x ∈ os2, x ∉ a := fun x hx2 q => by
    obtain ⟨o, e⟩ := hm x q
    rw [W2.oF x hx2] at e; cases e
  have inv : ∀ x o, (if x ∈ a then none else F2 x) = some o → x ∉ a ∧ F2 x = some o := fun x o e => by
    by_cases q : x ∈ a
    · rw [if_pos q] at e; cases e
    · rw [if_neg q] at e; exact ⟨q, e⟩
  have bo : ∀ x ∈ b, B.H x = none ∨ x ∈ B.os := fun x hx => W.bO x (List.mem_append_right _ hx)
  refine ⟨fun x => if x ∈ a then none else F2 x, ⟨fun x o e => W2.sub x o (inv x o e).2, List.nodup_append.mpr ⟨nd.1, W2.nd, fun x h1 y h2 e => dj y h2 (e ▸ h1)⟩, fun x hx2 => ?_, fun x hx2 => ?_, W.bF.trans hS, fun x o e hb => ?_, fun x o e => ?_, fun x hx2 => ?_⟩, hS⟩
  · show (if x ∈ a then none else F2 x) = none
    rcases List.mem_append.mp hx2 with q | q
    · rw [if_pos q]
    · rw [if_neg (dj x q)]; exact W2.oF x q
  · rcases List.mem_append.mp hx2 with q | q
    · obtain ⟨o, e⟩ := hm x q
      exact ⟨_, W2.sub x _ e⟩
    · exact W2.oH x q
  · refine W2.bH x o (W.bH x o e hb) fun q => ?_
    rcases bo x q with z | z
    · rw [z] at e; cases e
    · exact hb z
  · obtain ⟨q, e⟩ := inv x o e
    rcases W2.bN x o e with z | z | z
    · rcases ho x o z with z | z
      · exact absurd z q
      · exact W.bN x o z
    · exact .inr (W.bFree z)
    · exact .inr (bo x z)
  · rcases List.mem_append.mp hx2 with q | q
    · exact W.bO x (List.mem_append_left _ q)
    · rcases W2.bO x q with z | z
      · exact W.bFree z
      · exact bo x z
theorem slen0 : Str.empty.length = 0 := rfl
section
variable {P : Program} {w : World} {K : PySem.W.Frag} {mg : Str → Option Value} {base : Heap} {k : Nat}
variable {Y : Fa P w K mg base k} {i : Y.I} {e ea eb eo tg : Expr} {es : List Expr} {rest : List Stmt} {Γ Γ' Γ1 : List Slot} {a b r s s' : Slot} {Δ : List Slot} {pos : Pos} {B : Bs} {D : Ends} {x f : Str} {p' : Pos} {EX : ExT} {ex : Exn} {α β : Type} {C : Addr}
theorem WkS.hold {v : V} (h : WkS s s') : WkS (Ty.hold s v) s' := fun F H fp o hS hp => h F H fp o hS hp.2
/-- where the slot j stands lent; what comes back leans on nothing -/
theorem In.lendF {B : Bs} {F H : Hp} {os : List Addr} {σ : List (Option V)} {j : Nat} (I : In B F H os σ Γ) (hs : Γ[j]? = some s) (hw : WkS s s') :
    ∃ F1 x b, Same F F1 ∧ os.Perm (x ++ b) ∧ In ⟨F1, H, b⟩ F1 H b σ (Γ.set j s') ∧ ∀ F2 H2 fp, Same H H2 → Wo ⟨F1, H, b⟩ F2 H2 (fp ++ b) → ∃ F3, Wo B F3 H2 (fp ++ os) ∧ Same F F3 := by
  obtain ⟨o2, r1, p, S⟩ := I.S
  obtain ⟨o, fp, r2, eσ, q, p2, kk⟩ := S.at hs
  obtain ⟨x, y, rfl, wk⟩ := hw F H fp o I.W.sub q
  have hp : os.Perm (x ++ (y ++ r2 ++ r1)) := by
    refine p.trans ((List.Perm.append_right r1 p2).trans ?_)
    rw [List.append_assoc, List.append_assoc, List.append_assoc]
  have W1 := I.W.perm hp
  obtain ⟨F1, W2, hF, hx, ho⟩ := W1.freeze2
  refine ⟨F1, x, y ++ r2 ++ r1, hF, hp, ⟨W2.self, ?_⟩, fun F2 H2 fp hH W3 => ?_⟩
  · obtain ⟨os', S', p3⟩ := kk (F' := F1) (H' := H) (fp' := y) (o' := o) (wk F1 hF W2.sub hx) fun s0 _ fp0 o0 _ h0 => s0.mono hF same_refl h0
    have es : σ.set j o = σ := by
      refine List.ext_getElem? fun m => ?_
      rw [List.getElem?_set]
      split
      · rename_i h; subst h
        split
        · exact eσ.symm
        · rename_i h2
          rw [List.getElem?_eq_none (by omega)]
      · rfl
    rw [es] at S'
    exact ⟨os', r1, List.Perm.append_right r1 p3.symm, S'⟩
  · obtain ⟨F3, W4, h1⟩ := W1.thawF hF hx ho W3
    refine ⟨F3, W4.perm ?_, h1⟩
    refine List.Perm.trans ?_ (List.Perm.append_left fp hp.symm)
    rw [← List.append_assoc x fp, ← List.append_assoc fp x]
    exact List.Perm.append_right _ List.perm_append_comm
theorem x_lendF {p : VP α} {u : α} (j : Nat) (hs : Γ[j]? = some s) (hw : WkS s s') (hr : Flat p) (h : XV Y e (Γ.set j s') (val p u)) : XV Y e Γ (val p u) := by
  obtain ⟨t, p1, rd⟩ := h
  refine ⟨t, p1, fun B F H os σ Q I kk => ?_⟩
  obtain ⟨F1, x, b, hF, hp, I1, th⟩ := I.lendF hs hw
  refine rd _ F1 H b σ Q I1 fun v F2 H2 fp f2 e2 W2 q => ?_
  obtain ⟨F3, W3, h1⟩ := th F2 H2 fp e2 W2
  obtain ⟨e0, v', e1, rv⟩ := q
  exact kk v F3 H2 fp h1 e2 W3 ⟨e0, v', e1, hr _ _ _ _ rv⟩
theorem int_notN {u : Int} : ∀ (F : Hp) v, pInt.R F v u → (!decide (v = .non)) = true := fun F v h => by cases h; rfl
/-- C(e, ..), e raises -/
theorem xx_makeA {j : Nat} {g : Addr} {fd : FuncData} {ps : List Str} {sp : Sp}
    (Fn : FnOk P w K mg base CX0 j g fd ps sp) (hj : j + 1 ≤ k) (M : Mk K C g) (hm : mg x = some (.ref C)) (hb : Binds K fd ps []) (ha : XAe Y (e :: es) Γ EX ex)
    (hg : ∀ i, Gl (Y.X i) x := by intro _; rfl) (hdb : (x == ("__debug__" : Str)) = false := by decide)
    (he : ∀ i, starEach (e :: es) (Y.X i).env = (false, eval e (Y.X i).env) :: starEach es (Y.X i).env := by intro _; rfl) (hpl : ∀ i, (backTo pos (starEach es (Y.X i).env)).any (·.1) = false := by intro _; rfl) (hcm : Y.cm = true := by rfl) : XXe Y (.Call (.Name x p') (e :: es) [] pos) Γ EX ex := by
  obtain ⟨t, pa, rd⟩ := ha
  have FF : ∀ i, FnOk (Y.X i).prog (Y.X i).w (Y.X i).K (Y.X i).mg (Y.X i).base CX0 j g fd ps sp := fun i => by rw [Y.hP i, Y.hw i, Y.hK i, Y.hM i, Y.hB i]; exact Fn
  exact ⟨_, fun i => pe_make (by rw [Y.hK i]; exact M) (FF i) ((Y.hR hcm i).mono hj) (hg i) (by rw [Y.hM i]; exact hm) (by rw [Y.hK i]; exact hb) .nil pass0 (pa i) hdb (he i) (hpl i), fun B F H os σ Q I kk => rd B F H os σ _ I kk⟩
/-- a, b, .. = an owned tuple -/
theorem xg_tupO {n : Nat} {ws : List Nat} (h : XGs Y es ws Δ Γ Γ') (hn : ∀ i, (assignEach es (Y.X i).env).length = Δ.length := by intro _; rfl) (hst : ∀ i, (assignEach es (Y.X i).env).findIdx? (·.1) = none := by intro _; rfl) (hcm : Y.cm = true := by rfl) :
    XG Y (.Tuple es n pos) ws (tupS Δ) Γ Γ' := by
  obtain ⟨kk, g, pp, qq⟩ := h
  refine ⟨kk, _, fun i => by have := pg_tup (X := Y.X i) (k := n) (pos := pos) ((Y.hC i).trans hcm) (pp i) (hn i) (hst i); rw [Y.hK i] at this; exact this, fun F H fp os σ v Q hS pv S q => ?_⟩
  obtain ⟨l, vs, ol, ev, ef, h1, h2⟩ := pv
  cases ev
  subst ef
  refine ⟨l, vs, rfl, SqT.of h1, by have := h2.length; rw [List.length_map] at this; exact this, qq F H ol os σ vs Q hS h2 S fun σ' os' d c1 c2 c3 => q σ' os' (l :: d) c1 ?_ c3⟩
  exact List.Perm.cons l c2
/-- a, b, .. = such a tuple, frozen -/
theorem xg_tupH {sl : α → List Slot} {z : α} {n : Nat} {ws : List Nat} (h : XGs Y es ws (sl z) Γ Γ') (hn : ∀ i, (assignEach es (Y.X i).env).length = (sl z).length := by intro _; rfl) (hst : ∀ i, (assignEach es (Y.X i).env).findIdx? (·.1) = none := by intro _; rfl) (hcm : Y.cm = true := by rfl) :
    XG Y (.Tuple es n pos) ws (val (pHT sl) z) Γ Γ' := by
  obtain ⟨kk, g, pp, qq⟩ := h
  refine ⟨kk, _, fun i => by have := pg_tup (X := Y.X i) (k := n) (pos := pos) ((Y.hC i).trans hcm) (pp i) (hn i) (hst i); rw [Y.hK i] at this; exact this, fun F H fp os σ v Q hS pv S q => ?_⟩
  obtain ⟨rfl, l, vs, ev, h1, h2⟩ := val_P pv
  subst ev
  exact ⟨l, vs, rfl, SqT.of (hS _ _ h1), slots_nil h2, qq F H [] os σ vs Q hS (h2.mono same_refl hS) S q⟩
/-- the head of a pair or of data -/
def hdS : (Str × β) ⊕ PyData → Option Str
  | .inl a => some a.1
  | .inr d => (pdAt d 0).bind pdStr
theorem x_hdS {q : VP β} {u : (Str × β) ⊕ PyData} {t : Str} (ha : XV Y ea Γ (val (pSum (pT2 pStr q) (pDa K)) u)) (hb : XV Y eb Γ (vInt 0)) (hz : hdS u = some t) (hx : PlainIx eb := by exact fun _ _ => rfl) : XV Y (.Subscript ea eb pos) Γ (vStr t) := by
  cases u with
  | inl a => cases hz; exact x_fst (XV.unl rfl ha) hb hx
  | inr d =>
    obtain ⟨d0, h1, h2⟩ := Option.bind_eq_some_iff.mp hz
    exact XV.pds h2 (x_ixDA (XV.unr rfl ha) hb h1 hx)
theorem mSX_rt {μ ρ : Type} {v0 v : V} {s1 : μ → Slot} {Sr : ρ → Slot} {r : Rx (μ × ρ)} {H : Hp} (h : Fi B (slRx (mS v0 s1 Sr) r) v H) : (DMR B v0 s1 Sr r).rt v H := by
  cases r with
  | ok q => exact ⟨q, rfl, mS_rt h⟩
  | ex e => obtain ⟨_, _, _, z⟩ := h; exact z.elim
def hdStr : List PyData → Option Str
  | .str t :: _ => some t
  | _ => none
theorem hdStr_ix {ds : List PyData} {t : Str} (h : hdStr ds = some t) : ds[0]? = some (.str t) := by
  cases ds with
  | nil => cases h
  | cons d r =>
    cases d with
    | str u => cases h; rfl
    | _ => cases h
end
end Ty

/-! K13M -/
namespace K13
open PySem PySem.Spec L2 Ty
structure S_Circuit where
  inputs : List (Str)
  latches : List ((Str) × (Int) × (Int))
  ands : List ((Int) × (Int))
  outputs : List ((Str) × (Int))
  deriving DecidableEq
structure S_Lines where
  _rest : List (Str)
  place : Int
  deriving DecidableEq
def m_Circuit_eq (self_0 : S_Circuit) (other_0 : S_Circuit) : Option (Bool) :=
  guardO ((∀ q_3 ∈ self_0.inputs, PyData.strOk q_3 = true)) <|
  guardO ((∀ q_4 ∈ other_0.inputs, PyData.strOk q_4 = true)) <|
  (bif (!decide (self_0.inputs = other_0.inputs)) then some true else (guardO ((∀ q_7 ∈ self_0.latches, (PyData.strOk q_7.1 = true ∧ True ∧ True))) (guardO ((∀ q_8 ∈ other_0.latches, (PyData.strOk q_8.1 = true ∧ True ∧ True))) (some (!decide (self_0.latches = other_0.latches)))))).bind fun b_9 =>
  bif b_9 then (
  some false)
  else (
  (bif decide (self_0.ands = other_0.ands) then (guardO ((∀ q_13 ∈ self_0.outputs, (PyData.strOk q_13.1 = true ∧ True))) (guardO ((∀ q_14 ∈ other_0.outputs, (PyData.strOk q_14.1 = true ∧ True))) (some (decide (self_0.outputs = other_0.outputs))))) else some false).bind fun b_15 =>
  some b_15)

def m__law_rows (script_0 : List Int) (count_0 : Int) : Option (List (Int)) :=
  guardO (-(2 ^ 62) ≤ count_0 ∧ count_0 < 2 ^ 62) <|
  flK (forF (ρ := List (Int)) (rangeL 0 count_0) (([] : List (Int)) : (List (Int))) fun k_20 rows_19 =>
  (bif decide ((0 : Int) < ((script_0).length : Int)) then (
  guardO (0 < ((script_0).length : Int)) <|
  (atI script_0 (k_20 % ((script_0).length : Int))).bind fun v_23 =>
  some v_23)
  else (
  some (0 : Int)) : Option ((Int))).bind fun cell_21 =>
  (bif decide (cell_21 < (0 : Int)) then (
  letO ((1 : Int) - ((2 : Int) * cell_21)) fun cell_28 =>
  some cell_28)
  else (
  some cell_21) : Option ((Int))).bind fun cell_27 =>
  (bif (decide (((script_0).length : Int) ≤ k_20) || decide (cell_27 < ((10 : Int) ^ ((9 : Int)).toNat))) then (
  letO ((((cell_27 + ((211 : Int) * k_20)) + (5 : Int)) * (6364136223846793005 : Int)) % (2305843009213693951 : Int)) fun cell_33 =>
  letO (((((cell_33 / (32 : Int)) + ((17 : Int) * k_20)) + (9 : Int)) * (2862933555777941757 : Int)) % (18446744073709551557 : Int)) fun cell_35 =>
  some cell_35)
  else (
  some cell_27) : Option ((Int))).bind fun cell_32 =>
  guardO ((rows_19).length < sizeLine) <|
  some (.next (rows_19 ++ [cell_32]))) (fun rows_19 =>
  some rows_19)
  (fun _ => none)

def m__law_literal (row_0 : Int) (near_0 : Int) (count_0 : Int) : Option (Int) :=
  guardO (0 < count_0) <|
  letO (row_0 % count_0) fun node_41 =>
  (bif decide ((near_0 % (2 : Int)) = (1 : Int)) then (
  guardO (0 < (if count_0 < (4 : Int) then count_0 else (4 : Int))) <|
  letO ((count_0 - (1 : Int)) - (node_41 % (if count_0 < (4 : Int) then count_0 else (4 : Int)))) fun node_45 =>
  some node_45)
  else (
  some node_41) : Option ((Int))).bind fun node_43 =>
  guardO (0 < count_0 ∧ count_0 < 1073741824) <|
  some (((2 : Int) * node_43) + ((row_0 / count_0) % (2 : Int)))

def m__law_ands (rows_0 : List (Int)) (at_0 : Int) (first_and_0 : Int) (count_0 : Int) : Option (List ((Int) × (Int))) :=
  guardO (-(2 ^ 62) ≤ count_0 ∧ count_0 < 2 ^ 62) <|
  flK (forF (ρ := List ((Int) × (Int))) (rangeL 0 count_0) (([] : List ((Int) × (Int))) : (List ((Int) × (Int)))) fun k_53 ands_52 =>
  (atI rows_0 (at_0 + k_53)).bind fun v_54 =>
  letO (v_54 / (4 : Int)) fun row_56 =>
  letO (first_and_0 + k_53) fun size_58 =>
  (atI rows_0 (at_0 + k_53)).bind fun v_60 =>
  (m__law_literal row_56 v_60 size_58).bind fun r_62 =>
  guardO (0 < ((2 : Int) * size_58) ∧ ((2 : Int) * size_58) < 1073741824) <|
  (atI rows_0 (at_0 + k_53)).bind fun v_65 =>
  (m__law_literal (row_56 / ((2 : Int) * size_58)) (v_65 / (2 : Int)) size_58).bind fun r_67 =>
  guardO ((ands_52).length < sizeLine) <|
  some (.next (ands_52 ++ [(r_62, r_67)]))) (fun ands_52 =>
  some ands_52)
  (fun _ => none)

def m__law_name (row_0 : Int) (k_0 : Int) : Option (Str) :=
  letO ("abcdefghijklmnopqrstuvwxyz0123456789" : Str) fun signs_70 =>
  letO (row_0 / (208 : Int)) fun rest_72 =>
  guardO ((signs_70).length ≤ sizeLine) <|
  (atI (signs_70).cps.toList (row_0 % (26 : Int))).bind fun c_74 =>
  letO (⟨#[c_74]⟩ : Str) fun name_77 =>
  guardO (-(2 ^ 62) ≤ ((row_0 / (26 : Int)) % (8 : Int)) ∧ ((row_0 / (26 : Int)) % (8 : Int)) < 2 ^ 62) <|
  flK (forF (ρ := Str) (rangeL 0 ((row_0 / (26 : Int)) % (8 : Int))) ((rest_72, name_77) : (Int) × (Str)) fun j_83 (rest_81, name_82) =>
  guardO ((signs_70).length ≤ sizeLine) <|
  (atI (signs_70).cps.toList (rest_81 % (36 : Int))).bind fun c_84 =>
  guardO ((name_82).length + ((⟨#[c_84]⟩ : Str)).length ≤ sizeLine) <|
  letO (name_82 ++ (⟨#[c_84]⟩ : Str)) fun name_88 =>
  letO (rest_81 / (36 : Int)) fun rest_90 =>
  some (.next (rest_90, name_88))) (fun (rest_81, name_82) =>
  guardO ((name_82).length ≤ sizeLine) <|
  guardO (0 < ((name_82).length : Int)) <|
  letO ((1 : Int) + (rest_81 % ((name_82).length : Int))) fun place_94 =>
  guardO ((name_82).length ≤ sizeLine) <|
  guardO (((cutS name_82 none (some place_94))).length + (("_" : Str)).length ≤ sizeLine) <|
  guardO ((k_0).natAbs < 2 ^ 64) <|
  guardO ((((cutS name_82 none (some place_94)) ++ ("_" : Str))).length + ((Str.ofString (toString k_0))).length ≤ sizeLine) <|
  guardO ((name_82).length ≤ sizeLine) <|
  guardO (((((cutS name_82 none (some place_94)) ++ ("_" : Str)) ++ (Str.ofString (toString k_0)))).length + ((cutS name_82 (some place_94) none)).length ≤ sizeLine) <|
  some ((((cutS name_82 none (some place_94)) ++ ("_" : Str)) ++ (Str.ofString (toString k_0))) ++ (cutS name_82 (some place_94) none)))
  (fun _ => none)

def m__law_parts (rows_0 : List (Int)) (most_inputs_0 : Int) (most_latches_0 : Int) (most_ands_0 : Int) : Option ((List (Str)) × (List ((Str) × (Int) × (Int))) × (List ((Int) × (Int))) × (List ((Str) × (Int)))) :=
  (atI rows_0 (0 : Int)).bind fun v_102 =>
  guardO (0 < (most_inputs_0 + (1 : Int))) <|
  letO (v_102 % (most_inputs_0 + (1 : Int))) fun input_count_105 =>
  guardO (0 < (most_inputs_0 + (1 : Int)) ∧ (most_inputs_0 + (1 : Int)) < 1073741824) <|
  letO (v_102 / (most_inputs_0 + (1 : Int))) fun head_108 =>
  guardO (0 < (most_latches_0 + (1 : Int))) <|
  letO (head_108 % (most_latches_0 + (1 : Int))) fun latch_count_111 =>
  guardO (0 < (most_latches_0 + (1 : Int)) ∧ (most_latches_0 + (1 : Int)) < 1073741824) <|
  letO (head_108 / (most_latches_0 + (1 : Int))) fun head_114 =>
  guardO (0 < (most_ands_0 + (1 : Int))) <|
  letO (head_114 % (most_ands_0 + (1 : Int))) fun gate_count_117 =>
  guardO (0 < (most_ands_0 + (1 : Int)) ∧ (most_ands_0 + (1 : Int)) < 1073741824) <|
  letO ((1 : Int) + ((head_114 / (most_ands_0 + (1 : Int))) % (3 : Int))) fun output_count_120 =>
  guardO (-(2 ^ 62) ≤ (input_count_105 + latch_count_111) ∧ (input_count_105 + latch_count_111) < 2 ^ 62) <|
  guardO (((rangeL 0 (input_count_105 + latch_count_111))).length ≤ sizeLine) <|
  (fmO (rangeL 0 (input_count_105 + latch_count_111)) fun k_126 => ((atI rows_0 ((1 : Int) + k_126)).bind fun v_127 => (m__law_name v_127 k_126).bind fun r_129 => some (some r_129))).bind fun ys_124 =>
  letO (((1 : Int) + input_count_105) + latch_count_111) fun first_and_132 =>
  letO (first_and_132 + gate_count_117) fun size_134 =>
  (m__law_ands rows_0 (9 : Int) first_and_132 gate_count_117).bind fun r_136 =>
  guardO (-(2 ^ 62) ≤ latch_count_111 ∧ latch_count_111 < 2 ^ 62) <|
  flK (forF (ρ := (List (Str)) × (List ((Str) × (Int) × (Int))) × (List ((Int) × (Int))) × (List ((Str) × (Int)))) (rangeL 0 latch_count_111) (([] : List ((Str) × (Int) × (Int))) : (List ((Str) × (Int) × (Int)))) fun k_141 latches_140 =>
  (atI rows_0 ((22 : Int) + k_141)).bind fun v_142 =>
  (atI ys_124 (input_count_105 + k_141)).bind fun v_144 =>
  (m__law_literal (v_142 / (4 : Int)) (v_142 / (2 : Int)) size_134).bind fun r_146 =>
  guardO ((latches_140).length < sizeLine) <|
  some (.next (latches_140 ++ [(v_144, (v_142 % (2 : Int)), r_146)]))) (fun latches_140 =>
  guardO (-(2 ^ 62) ≤ output_count_120 ∧ output_count_120 < 2 ^ 62) <|
  flK (forF (ρ := (List (Str)) × (List ((Str) × (Int) × (Int))) × (List ((Int) × (Int))) × (List ((Str) × (Int)))) (rangeL 0 output_count_120) (([] : List ((Str) × (Int))) : (List ((Str) × (Int)))) fun k_152 outputs_151 =>
  (atI rows_0 ((27 : Int) + k_152)).bind fun v_153 =>
  (m__law_name (v_153 / (7 : Int)) k_152).bind fun r_155 =>
  (m__law_literal (v_153 / (2 : Int)) v_153 size_134).bind fun r_157 =>
  guardO ((outputs_151).length < sizeLine) <|
  some (.next (outputs_151 ++ [(r_155, r_157)]))) (fun outputs_151 =>
  some ((cutL ys_124 none (some input_count_105)), latches_140, r_136, outputs_151))
  (fun _ => none))
  (fun _ => none)

def m_joined_words (word_0 : Str) (numbers_0 : (Int) × (Int)) : Option (Str) :=
  guardO (([numbers_0.1, numbers_0.2]).length ≤ sizeLine) <|
  (fmO ([numbers_0.1, numbers_0.2]) fun number_162 => (guardO ((number_162).natAbs < 2 ^ 64) (some (some (Str.ofString (toString number_162)))))).bind fun ys_160 =>
  guardO (([word_0]).length + (ys_160).length ≤ sizeLine) <|
  guardO ((([word_0] ++ ys_160).map (·.length)).sum + (([word_0] ++ ys_160)).length * ((" " : Str)).length ≤ 16777216) <|
  some (Txt.join (" " : Str) ([word_0] ++ ys_160))

def m_circuit_lines (circuit_0 : S_Circuit) : Option (List (Str)) :=
  guardO ((circuit_0.inputs).length ≤ sizeLine) <|
  (fmO circuit_0.inputs fun name_169 => (guardO ((name_169).length ≤ sizeLine) (guardO ((("input " : Str)).length + (name_169).length ≤ sizeLine) (some (some ((Str.empty ++ ("input " : Str)) ++ name_169)))))).bind fun ys_167 =>
  guardO (([("circuit" : Str)]).length + (ys_167).length ≤ sizeLine) <|
  guardO ((circuit_0.latches).length ≤ sizeLine) <|
  (fmO circuit_0.latches fun p_176 => (guardO ((p_176.1).length ≤ sizeLine) (guardO ((p_176.2.1).natAbs.log2 < 1920) (guardO ((p_176.2.2).natAbs.log2 < 1920) (guardO ((("latch " : Str)).length + (p_176.1).length + ((" " : Str)).length + ((Str.ofString (toString p_176.2.1))).length + ((" " : Str)).length + ((Str.ofString (toString p_176.2.2))).length ≤ sizeLine) (some (some ((((((Str.empty ++ ("latch " : Str)) ++ p_176.1) ++ (" " : Str)) ++ (Str.ofString (toString p_176.2.1))) ++ (" " : Str)) ++ (Str.ofString (toString p_176.2.2)))))))))).bind fun ys_174 =>
  guardO ((([("circuit" : Str)] ++ ys_167)).length + (ys_174).length ≤ sizeLine) <|
  guardO ((circuit_0.ands).length ≤ sizeLine) <|
  (fmO circuit_0.ands fun pair_185 => ((m_joined_words ("and" : Str) pair_185).bind fun r_186 => some (some r_186))).bind fun ys_183 =>
  guardO (((([("circuit" : Str)] ++ ys_167) ++ ys_174)).length + (ys_183).length ≤ sizeLine) <|
  guardO ((circuit_0.outputs).length ≤ sizeLine) <|
  (fmO circuit_0.outputs fun p_192 => (guardO ((p_192.1).length ≤ sizeLine) (guardO ((p_192.2).natAbs.log2 < 1920) (guardO ((("output " : Str)).length + (p_192.1).length + ((" " : Str)).length + ((Str.ofString (toString p_192.2))).length ≤ sizeLine) (some (some ((((Str.empty ++ ("output " : Str)) ++ p_192.1) ++ (" " : Str)) ++ (Str.ofString (toString p_192.2))))))))).bind fun ys_190 =>
  guardO ((((([("circuit" : Str)] ++ ys_167) ++ ys_174) ++ ys_183)).length + (ys_190).length ≤ sizeLine) <|
  some (((([("circuit" : Str)] ++ ys_167) ++ ys_174) ++ ys_183) ++ ys_190)

def m_write_circuit (circuit_0 : S_Circuit) : Option (Str) :=
  (m_circuit_lines circuit_0).bind fun r_198 =>
  guardO ((r_198).length ≤ sizeLine) <|
  (fmO r_198 fun line_202 => (guardO ((line_202).length + (("\n" : Str)).length ≤ sizeLine) (some (some (line_202 ++ ("\n" : Str)))))).bind fun ys_200 =>
  guardO ((ys_200.map (·.length)).sum + (ys_200).length * (("" : Str)).length ≤ 16777216) <|
  some (Txt.join ("" : Str) ys_200)

def m__law_number (word_0 : Str) : Option (Bool) :=
  guardO ((word_0).length ≤ sizeLine) <|
  (bif decide (((word_0).length : Int) < (1 : Int)) then some true else (guardO ((word_0).length ≤ sizeLine) ((bif decide ((6 : Int) < ((word_0).length : Int)) then some true else (guardO (((word_0).cps.toList).length ≤ sizeLine) ((fmO ((word_0).cps.toList) fun sign_210 => (bif (!decide (sign_210 ∈ (("0123456789" : Str)).cps.toList)) then (some (some (⟨#[sign_210]⟩ : Str))) else some none)).bind fun ys_208 => guardO ((∀ q_214 ∈ ys_208, PyData.strOk q_214 = true)) (guardO ((∀ q_215 ∈ ([] : List (Str)), PyData.strOk q_215 = true)) (some (!decide (ys_208 = ([] : List (Str))))))))).bind fun b_216 => some b_216))).bind fun b_218 =>
  bif b_218 then (
  some false)
  else (
  guardO ((word_0).length ≤ sizeLine) <|
  (atI (word_0).cps.toList (0 : Int)).bind fun c_220 =>
  (bif (!decide ((⟨#[c_220]⟩ : Str) = ("0" : Str))) then some true else (guardO ((word_0).length ≤ sizeLine) (some (decide (((word_0).length : Int) = (1 : Int)))))).bind fun b_224 =>
  some b_224)

def m__law_reading (text_0 : Str) : Option ((Int) × (Option ((List (Str)) × (List ((Str) × (Int) × (Int))) × (List ((Int) × (Int))) × (List ((Str) × (Int)))))) :=
  guardO ((text_0).length + 2 ≤ sizeLine) <|
  (atI (Txt.split text_0 ("\n" : Str)) ((((Txt.split text_0 ("\n" : Str))).length : Int) - (1 : Int))).bind fun v_227 =>
  bif (!decide (v_227 = ("" : Str))) then (
  some ((((Txt.split text_0 ("\n" : Str))).length : Int), none))
  else (
  letO (cutL (Txt.split text_0 ("\n" : Str)) none (some ((((Txt.split text_0 ("\n" : Str))).length : Int) - (1 : Int)))) fun lines_229 =>
  letO ([("circuit" : Str), ("input" : Str), ("latch" : Str), ("and" : Str), ("output" : Str)]) fun words_231 =>
  letO ([(0 : Int), (1 : Int), (1 : Int), (0 : Int), (1 : Int)]) fun names_233 =>
  letO ([(0 : Int), (0 : Int), (2 : Int), (2 : Int), (1 : Int)]) fun counts_235 =>
  guardO (-(2 ^ 62) ≤ ((lines_229).length : Int) ∧ ((lines_229).length : Int) < 2 ^ 62) <|
  flK (forF (ρ := (Int) × (Option ((List (Str)) × (List ((Str) × (Int) × (Int))) × (List ((Int) × (Int))) × (List ((Str) × (Int)))))) (rangeL 0 ((lines_229).length : Int)) ((([[], [], [], [], []] : List (List (List (PyData)))), (0 : Int)) : (List (List (List (PyData)))) × (Int)) fun k_241 (parts_239, rank_240) =>
  (atI lines_229 k_241).bind fun v_242 =>
  guardO ((v_242).length + 2 ≤ sizeLine) <|
  guardO (-(2 ^ 62) ≤ (5 : Int) ∧ (5 : Int) < 2 ^ 62) <|
  guardO (((rangeL 0 (5 : Int))).length ≤ sizeLine) <|
  (fmO (rangeL 0 (5 : Int)) fun j_249 => ((atI words_231 j_249).bind fun v_250 => (atI (Txt.split v_242 (" " : Str)) (0 : Int)).bind fun v_252 => bif decide (v_250 = v_252) then (some (some j_249)) else some none)).bind fun ys_247 =>
  (bif decide (ys_247 = ([] : List (Int))) then some true else ((atI ys_247 (0 : Int)).bind fun v_255 => (bif (!decide (decide (k_241 = (0 : Int)) = decide (v_255 = (0 : Int)))) then some true else ((atI ys_247 (0 : Int)).bind fun v_257 => some (decide (v_257 < rank_240)))).bind fun b_259 => some b_259)).bind fun b_261 =>
  bif b_261 then (
  some (.ret ((k_241 + (1 : Int)), none)))
  else (
  (atI ys_247 (0 : Int)).bind fun v_263 =>
  (atI names_233 v_263).bind fun v_265 =>
  letO (cutL (Txt.split v_242 (" " : Str)) (some ((1 : Int) + v_265)) none) fun rest_267 =>
  (atI names_233 v_263).bind fun v_269 =>
  (atI counts_235 v_263).bind fun v_271 =>
  (bif (!decide ((((Txt.split v_242 (" " : Str))).length : Int) = (((1 : Int) + v_269) + v_271))) then some true else (guardO ((rest_267).length ≤ sizeLine) ((fmO rest_267 fun word_275 => ((m__law_number word_275).bind fun r_276 => bif (!r_276) then (some (some word_275)) else some none)).bind fun ys_273 => guardO ((∀ q_281 ∈ ys_273, PyData.strOk q_281 = true)) (guardO ((∀ q_282 ∈ ([] : List (Str)), PyData.strOk q_282 = true)) (some (!decide (ys_273 = ([] : List (Str))))))))).bind fun b_283 =>
  bif b_283 then (
  some (.ret ((k_241 + (1 : Int)), none)))
  else (
  (ixN (parts_239).length v_263).bind fun j_287 =>
  ((parts_239)[j_287]?).bind fun row_285 =>
  (atI names_233 v_263).bind fun v_289 =>
  guardO ((rest_267).length ≤ sizeLine) <|
  (fmO rest_267 fun word_293 => (guardO ((word_293).length ≤ 640) ((intText? word_293).bind fun n_294 => some (some n_294)))).bind fun ys_291 =>
  guardO ((((cutL (Txt.split v_242 (" " : Str)) (some (1 : Int)) (some ((1 : Int) + v_289))).map DE.str.enc)).length + ((ys_291.map DE.int.enc)).length ≤ sizeLine) <|
  guardO ((row_285).length < sizeLine) <|
  some (.next (((parts_239).set j_287 (row_285 ++ [(((cutL (Txt.split v_242 (" " : Str)) (some (1 : Int)) (some ((1 : Int) + v_289))).map DE.str.enc) ++ (ys_291.map DE.int.enc))])), v_263))))) (fun (parts_239, rank_240) =>
  bif decide (((lines_229).length : Int) = (0 : Int)) then (
  some ((1 : Int), none))
  else (
  (atI parts_239 (2 : Int)).bind fun v_300 =>
  guardO ((v_300).length ≤ sizeLine) <|
  (fmO v_300 fun row_304 => ((atI row_304 (0 : Int)).bind fun v_305 => (pdStr v_305).bind fun t_307 => (atI row_304 (1 : Int)).bind fun v_309 => (pdInt v_309).bind fun i_311 => (atI row_304 (2 : Int)).bind fun v_313 => (pdInt v_313).bind fun i_315 => some (some (t_307, i_311, i_315)))).bind fun ys_302 =>
  (atI parts_239 (3 : Int)).bind fun v_318 =>
  guardO ((v_318).length ≤ sizeLine) <|
  (fmO v_318 fun row_322 => ((atI row_322 (0 : Int)).bind fun v_323 => (pdInt v_323).bind fun i_325 => (atI row_322 (1 : Int)).bind fun v_327 => (pdInt v_327).bind fun i_329 => some (some (i_325, i_329)))).bind fun ys_320 =>
  (atI parts_239 (4 : Int)).bind fun v_332 =>
  guardO ((v_332).length ≤ sizeLine) <|
  (fmO v_332 fun row_336 => ((atI row_336 (0 : Int)).bind fun v_337 => (pdStr v_337).bind fun t_339 => (atI row_336 (1 : Int)).bind fun v_341 => (pdInt v_341).bind fun i_343 => some (some (t_339, i_343)))).bind fun ys_334 =>
  (atI parts_239 (1 : Int)).bind fun v_376 =>
  guardO ((v_376).length ≤ sizeLine) <|
  (fmO v_376 fun row_380 => ((atI row_380 (0 : Int)).bind fun v_381 => (pdStr v_381).bind fun t_383 => some (some t_383))).bind fun ys_378 =>
  some ((0 : Int), (some (ys_378, ys_302, ys_320, ys_334)))))
  (fun r => some r))

def m_Lines_init (lines_0 : List (Str)) : Option (S_Lines × Unit) :=
  some (⟨lines_0, (0 : Int)⟩, ())

def m_Lines_more (self_0 : S_Lines) (word_0 : Str) : Option (Bool) :=
  (bif decide (self_0.place < ((self_0._rest).length : Int)) then ((atI self_0._rest self_0.place).bind fun v_386 => guardO ((v_386).length + 2 ≤ sizeLine) ((atI (Txt.split v_386 (" " : Str)) (0 : Int)).bind fun v_389 => some (decide (v_389 = word_0)))) else some false).bind fun b_391 =>
  some b_391

def m_Lines_take (self_0 : S_Lines) (word_0 : Str) : Option (Rx (S_Lines × (List (Str)))) :=
  (m_Lines_more (⟨self_0._rest, self_0.place⟩ : S_Lines) word_0).bind fun r_393 =>
  bif (!r_393) then (
  guardO ((XF.i (self_0.place + (1 : Int))).ok) <|
  some (.ex ("InvalidText", [.i (self_0.place + (1 : Int))])))
  else (
  (atI self_0._rest ((self_0.place + (1 : Int)) - (1 : Int))).bind fun v_396 =>
  guardO ((v_396).length + 2 ≤ sizeLine) <|
  some (.ok (⟨self_0._rest, (self_0.place + (1 : Int))⟩, (cutL (Txt.split v_396 (" " : Str)) (some (1 : Int)) none))))

def m_is_number (word_0 : Str) : Option (Bool) :=
  guardO ((word_0).length ≤ sizeLine) <|
  (bif (!(decide ((1 : Int) ≤ ((word_0).length : Int)) && decide (((word_0).length : Int) ≤ (6 : Int)))) then some true else (guardO ((word_0).length ≤ sizeLine) ((atI (word_0).cps.toList (0 : Int)).bind fun c_400 => (bif decide ((⟨#[c_400]⟩ : Str) = ("0" : Str)) then (guardO ((word_0).length ≤ sizeLine) (some (decide ((1 : Int) < ((word_0).length : Int))))) else some false).bind fun b_404 => some b_404))).bind fun b_406 =>
  bif b_406 then (
  some false)
  else (
  flK (forF (ρ := Bool) ((word_0).cps.toList) (() : Unit) fun sign_408 _ =>
  bif (!decide (sign_408 ∈ (("0123456789" : Str)).cps.toList)) then (
  some (.ret false))
  else (
  some (.next ()))) (fun _ =>
  some true)
  (fun r => some r))

def m_numbers_of (words_0 : List (Str)) : Option (Option (List (Int))) :=
  guardO ((words_0).length ≤ sizeLine) <|
  (fmO words_0 fun word_411 => ((m_is_number word_411).bind fun r_412 => bif (!r_412) then (some (some word_411)) else some none)).bind fun ys_409 =>
  guardO ((∀ q_417 ∈ ys_409, PyData.strOk q_417 = true)) <|
  guardO ((∀ q_418 ∈ ([] : List (Str)), PyData.strOk q_418 = true)) <|
  bif (!decide (ys_409 = ([] : List (Str)))) then (
  some none)
  else (
  guardO ((words_0).length ≤ sizeLine) <|
  (fmO words_0 fun word_421 => (guardO ((word_421).length ≤ 640) ((intText? word_421).bind fun n_422 => some (some n_422)))).bind fun ys_419 =>
  some (some ys_419))

def m_Lines_take_numbers (self_0 : S_Lines) (word_0 : Str) (skipped_0 : Int) (count_0 : Int) : Option (Rx (S_Lines × (List (PyData)))) :=
  exK (m_Lines_take (⟨self_0._rest, self_0.place⟩ : S_Lines) word_0) (fun e_428 => some (.ex e_428)) fun o_426 =>
  (m_numbers_of (cutL o_426.2 (some skipped_0) none)).bind fun r_429 =>
  (bif decide (((o_426.2).length : Int) < skipped_0) then some true else ((bif (r_429).isNone then some true else ((bif true then ((r_429).bind fun u_431 => some (!decide (((u_431).length : Int) = count_0))) else some false).bind fun b_433 => some b_433)).bind fun b_435 => some b_435)).bind fun b_437 =>
  bif b_437 then (
  guardO ((XF.i o_426.1.place).ok) <|
  some (.ex ("InvalidText", [.i o_426.1.place])))
  else (
  (r_429).bind fun u_440 =>
  guardO ((((cutL o_426.2 none (some skipped_0)).map DE.str.enc)).length + ((u_440.map DE.int.enc)).length ≤ sizeLine) <|
  some (.ok (⟨o_426.1._rest, o_426.1.place⟩, (((cutL o_426.2 none (some skipped_0)).map DE.str.enc) ++ (u_440.map DE.int.enc)))))

def m_take_circuit (lines_0 : S_Lines) : Option (Rx (S_Lines × ((List (Str)) × (List ((Str) × (Int) × (Int))) × (List ((Int) × (Int))) × (List ((Str) × (Int)))))) :=
  exK (m_Lines_take_numbers (⟨lines_0._rest, lines_0.place⟩ : S_Lines) ("circuit" : Str) (0 : Int) (0 : Int)) (fun e_445 => some (.ex e_445)) fun o_443 =>
  flK (whileF (ρ := Rx (S_Lines × ((List (Str)) × (List ((Str) × (Int) × (Int))) × (List ((Int) × (Int))) × (List ((Str) × (Int)))))) 20000000 (((⟨o_443.1._rest, o_443.1.place⟩ : S_Lines), ([] : List (Str))) : (S_Lines) × (List (Str))) fun (lines_446, inputs_447) =>
  (m_Lines_more (⟨lines_446._rest, lines_446.place⟩ : S_Lines) ("input" : Str)).bind fun r_448 =>
  bif r_448 then (
  exK (m_Lines_take_numbers (⟨lines_446._rest, lines_446.place⟩ : S_Lines) ("input" : Str) (1 : Int) (0 : Int)) (fun e_452 => some (.ret (.ex e_452))) fun o_450 =>
  (hdStr o_450.2).bind fun t_453 =>
  guardO ((inputs_447).length < sizeLine) <|
  some (.next ((⟨o_450.1._rest, o_450.1.place⟩ : S_Lines), (inputs_447 ++ [t_453]))))
  else some (.brk (lines_446, inputs_447))) (fun (lines_446, inputs_447) =>
  flK (whileF (ρ := Rx (S_Lines × ((List (Str)) × (List ((Str) × (Int) × (Int))) × (List ((Int) × (Int))) × (List ((Str) × (Int)))))) 20000000 (((⟨lines_446._rest, lines_446.place⟩ : S_Lines), ([] : List ((Str) × (Int) × (Int)))) : (S_Lines) × (List ((Str) × (Int) × (Int)))) fun (lines_456, latches_457) =>
  (m_Lines_more (⟨lines_456._rest, lines_456.place⟩ : S_Lines) ("latch" : Str)).bind fun r_458 =>
  bif r_458 then (
  exK (m_Lines_take_numbers (⟨lines_456._rest, lines_456.place⟩ : S_Lines) ("latch" : Str) (1 : Int) (2 : Int)) (fun e_462 => some (.ret (.ex e_462))) fun o_460 =>
  (pdSII o_460.2).bind fun q_463 =>
  guardO ((latches_457).length < sizeLine) <|
  some (.next ((⟨o_460.1._rest, o_460.1.place⟩ : S_Lines), (latches_457 ++ [(q_463.1, q_463.2.1, q_463.2.2)]))))
  else some (.brk (lines_456, latches_457))) (fun (lines_456, latches_457) =>
  flK (whileF (ρ := Rx (S_Lines × ((List (Str)) × (List ((Str) × (Int) × (Int))) × (List ((Int) × (Int))) × (List ((Str) × (Int)))))) 20000000 (((⟨lines_456._rest, lines_456.place⟩ : S_Lines), ([] : List ((Int) × (Int)))) : (S_Lines) × (List ((Int) × (Int)))) fun (lines_466, ands_467) =>
  (m_Lines_more (⟨lines_466._rest, lines_466.place⟩ : S_Lines) ("and" : Str)).bind fun r_468 =>
  bif r_468 then (
  exK (m_Lines_take_numbers (⟨lines_466._rest, lines_466.place⟩ : S_Lines) ("and" : Str) (0 : Int) (2 : Int)) (fun e_472 => some (.ret (.ex e_472))) fun o_470 =>
  (pdII o_470.2).bind fun q_473 =>
  guardO ((ands_467).length < sizeLine) <|
  some (.next ((⟨o_470.1._rest, o_470.1.place⟩ : S_Lines), (ands_467 ++ [(q_473.1, q_473.2)]))))
  else some (.brk (lines_466, ands_467))) (fun (lines_466, ands_467) =>
  flK (whileF (ρ := Rx (S_Lines × ((List (Str)) × (List ((Str) × (Int) × (Int))) × (List ((Int) × (Int))) × (List ((Str) × (Int)))))) 20000000 (((⟨lines_466._rest, lines_466.place⟩ : S_Lines), ([] : List ((Str) × (Int)))) : (S_Lines) × (List ((Str) × (Int)))) fun (lines_476, outputs_477) =>
  (m_Lines_more (⟨lines_476._rest, lines_476.place⟩ : S_Lines) ("output" : Str)).bind fun r_478 =>
  bif r_478 then (
  exK (m_Lines_take_numbers (⟨lines_476._rest, lines_476.place⟩ : S_Lines) ("output" : Str) (1 : Int) (1 : Int)) (fun e_482 => some (.ret (.ex e_482))) fun o_480 =>
  (pdSI o_480.2).bind fun q_483 =>
  guardO ((outputs_477).length < sizeLine) <|
  some (.next ((⟨o_480.1._rest, o_480.1.place⟩ : S_Lines), (outputs_477 ++ [(q_483.1, q_483.2)]))))
  else some (.brk (lines_476, outputs_477))) (fun (lines_476, outputs_477) =>
  some (.ok (⟨lines_476._rest, lines_476.place⟩, (inputs_447, latches_457, ands_467, outputs_477))))
  (fun r => some r))
  (fun r => some r))
  (fun r => some r))
  (fun r => some r)

def m_Lines_finish (self_0 : S_Lines) : Option (Rx (S_Lines × (Unit))) :=
  bif decide (self_0.place < ((self_0._rest).length : Int)) then (
  guardO ((XF.i (self_0.place + (1 : Int))).ok) <|
  some (.ex ("InvalidText", [.i (self_0.place + (1 : Int))])))
  else (
  some (.ok (⟨self_0._rest, self_0.place⟩, ())))

def m_is_name (text_0 : Str) : Option (Bool) :=
  guardO ((text_0).length ≤ sizeLine) <|
  (bif (!(decide ((1 : Int) ≤ ((text_0).length : Int)) && decide (((text_0).length : Int) ≤ (12 : Int)))) then some true else (guardO ((text_0).length ≤ sizeLine) ((atI (text_0).cps.toList (0 : Int)).bind fun c_488 => some (!decide (c_488 ∈ (("abcdefghijklmnopqrstuvwxyz" : Str)).cps.toList))))).bind fun b_491 =>
  bif b_491 then (
  some false)
  else (
  flK (forF (ρ := Bool) ((text_0).cps.toList) (() : Unit) fun sign_493 _ =>
  bif (!decide (sign_493 ∈ (("abcdefghijklmnopqrstuvwxyz0123456789_" : Str)).cps.toList)) then (
  some (.ret false))
  else (
  some (.next ()))) (fun _ =>
  some true)
  (fun r => some r))

def m_fault_of_leaves (inputs_0 : List (Str)) (latches_0 : List ((Str) × (Int) × (Int))) (node_count_0 : Int) : Option (Option ((Str) × (Int))) :=
  flK (forF (ρ := Option ((Str) × (Int))) ((inputs_0).zipIdx.map fun x => ((x.2 : Int), x.1)) (([] : List ((Str) × (Bool))) : (List ((Str) × (Bool)))) fun p_495 names_494 =>
  (bif decide (p_495.1 = (16 : Int)) then some true else ((m_is_name p_495.2).bind fun r_496 => some ((!r_496) || (dget names_494 p_495.2).isSome))).bind fun b_498 =>
  bif b_498 then (
  some (.ret (some (("inputs" : Str), p_495.1))))
  else (
  guardO ((names_494).length < sizeLine) <|
  some (.next (dput names_494 p_495.2 true)))) (fun names_494 =>
  flK (forF (ρ := Option ((Str) × (Int))) ((latches_0).zipIdx.map fun x => ((x.2 : Int), x.1)) (names_494 : (List ((Str) × (Bool)))) fun p_502 names_501 =>
  (bif decide (p_502.1 = (40 : Int)) then some true else ((m_is_name p_502.2.1).bind fun r_503 => some ((!r_503) || (dget names_501 p_502.2.1).isSome))).bind fun b_505 =>
  bif b_505 then (
  some (.ret (some (("latches" : Str), p_502.1))))
  else (
  bif ((!(decide ((0 : Int) ≤ p_502.2.2.1) && decide (p_502.2.2.1 ≤ (1 : Int)))) || (!(decide ((0 : Int) ≤ p_502.2.2.2) && decide (p_502.2.2.2 < ((2 : Int) * node_count_0))))) then (
  some (.ret (some (("latches" : Str), p_502.1))))
  else (
  guardO ((names_501).length < sizeLine) <|
  some (.next (dput names_501 p_502.2.1 true))))) (fun names_501 =>
  some none)
  (fun r => some r))
  (fun r => some r)

def m_fault_of_ands (first_and_0 : Int) (ands_0 : List ((Int) × (Int))) : Option (Option ((Str) × (Int))) :=
  flK (forF (ρ := Option ((Str) × (Int))) ((ands_0).zipIdx.map fun x => ((x.2 : Int), x.1)) (() : Unit) fun p_508 _ =>
  letO ((2 : Int) * (first_and_0 + p_508.1)) fun limit_509 =>
  bif (decide (p_508.1 = (2000 : Int)) || ((!(decide ((0 : Int) ≤ p_508.2.1) && decide (p_508.2.1 < limit_509))) || (!(decide ((0 : Int) ≤ p_508.2.2) && decide (p_508.2.2 < limit_509))))) then (
  some (.ret (some (("ands" : Str), p_508.1))))
  else (
  some (.next ()))) (fun _ =>
  some none)
  (fun r => some r)

def m_fault_of_outputs (outputs_0 : List ((Str) × (Int))) (node_count_0 : Int) : Option (Option ((Str) × (Int))) :=
  flK (forF (ρ := Option ((Str) × (Int))) ((outputs_0).zipIdx.map fun x => ((x.2 : Int), x.1)) (([] : List ((Str) × (Bool))) : (List ((Str) × (Bool)))) fun p_512 names_511 =>
  (bif decide (p_512.1 = (32 : Int)) then some true else ((m_is_name p_512.2.1).bind fun r_513 => some ((!r_513) || (dget names_511 p_512.2.1).isSome))).bind fun b_515 =>
  bif b_515 then (
  some (.ret (some (("outputs" : Str), p_512.1))))
  else (
  bif (!(decide ((0 : Int) ≤ p_512.2.2) && decide (p_512.2.2 < ((2 : Int) * node_count_0)))) then (
  some (.ret (some (("outputs" : Str), p_512.1))))
  else (
  guardO ((names_511).length < sizeLine) <|
  some (.next (dput names_511 p_512.2.1 true))))) (fun names_511 =>
  some none)
  (fun r => some r)

def m_Circuit_init (inputs_0 : List (Str)) (latches_0 : List ((Str) × (Int) × (Int))) (ands_0 : List ((Int) × (Int))) (outputs_0 : List ((Str) × (Int))) : Option (Rx (S_Circuit × Unit)) :=
  letO (((1 : Int) + ((inputs_0).length : Int)) + ((latches_0).length : Int)) fun first_and_518 =>
  letO (first_and_518 + ((ands_0).length : Int)) fun node_count_520 =>
  (m_fault_of_leaves inputs_0 latches_0 node_count_520).bind fun r_522 =>
  (bif (r_522).isNone then (
  (m_fault_of_ands first_and_518 ands_0).bind fun r_525 =>
  some r_525)
  else (
  some r_522) : Option ((Option ((Str) × (Int))))).bind fun fault_524 =>
  (bif (fault_524).isNone then (
  (m_fault_of_outputs outputs_0 node_count_520).bind fun r_530 =>
  some r_530)
  else (
  some fault_524) : Option ((Option ((Str) × (Int))))).bind fun fault_529 =>
  bif (fault_529).isSome then (
  (fault_529).bind fun u_534 =>
  (fault_529).bind fun u_536 =>
  guardO ((XF.s u_534.1).ok) <|
  guardO ((XF.i u_536.2).ok) <|
  some (.ex ("InvalidCircuit", [.s u_534.1, .i u_536.2])))
  else (
  some (.ok (⟨inputs_0, latches_0, ands_0, outputs_0⟩, ())))

def m_lines_of (text_0 : Str) : Option (Rx (List (Str))) :=
  guardO ((text_0).length + 2 ≤ sizeLine) <|
  (atI (Txt.split text_0 ("\n" : Str)) (-(1 : Int))).bind fun v_541 =>
  bif (!decide (v_541 = ("" : Str))) then (
  guardO ((XF.i (((Txt.split text_0 ("\n" : Str))).length : Int)).ok) <|
  some (.ex ("InvalidText", [.i (((Txt.split text_0 ("\n" : Str))).length : Int)])))
  else (
  some (.ok (cutL (Txt.split text_0 ("\n" : Str)) none (some (-(1 : Int))))))

def m_read_circuit (text_0 : Str) : Option (Rx (S_Circuit)) :=
  exK (m_lines_of text_0) (fun e_546 => some (.ex e_546)) fun r_544 =>
  (m_Lines_init r_544).bind fun o_547 =>
  exK (m_take_circuit o_547.1) (fun e_551 => some (.ex e_551)) fun o_549 =>
  exK (m_Lines_finish o_549.1) (fun e_554 => some (.ex e_554)) fun o_552 =>
  exK (m_Circuit_init o_549.2.1 o_549.2.2.1 o_549.2.2.2.1 o_549.2.2.2.2) (fun e_557 => some (.ex e_557)) fun r_555 =>
  some (.ok r_555.1)

def m__law_told (text_0 : Str) : Option (Sum ((Str) × (S_Circuit)) (PyData)) :=
  exK (m_read_circuit text_0) (fun e_560 => (bif decide (e_560.1 = "InvalidText") then (
  (xfI e_560 0).bind fun v_561 =>
  some (Sum.inr (PyData.tuple [DE.str.enc ("text" : Str), DE.int.enc v_561, DE.bl.enc true, DE.bl.enc false])))
  else (bif decide (e_560.1 = "InvalidCircuit") then (
  (xfS e_560 0).bind fun v_563 =>
  (xfI e_560 1).bind fun v_565 =>
  some (Sum.inr (PyData.tuple [DE.str.enc ("parts" : Str), DE.str.enc v_563, DE.int.enc v_565])))
  else none))) fun r_558 =>
  some (Sum.inl (("circuit" : Str), r_558))

def m__law_made (parts_0 : (List (Str)) × (List ((Str) × (Int) × (Int))) × (List ((Int) × (Int))) × (List ((Str) × (Int)))) : Option (Sum ((Str) × (S_Circuit)) (PyData)) :=
  exK (m_Circuit_init parts_0.1 parts_0.2.1 parts_0.2.2.1 parts_0.2.2.2) (fun e_569 => (bif decide (e_569.1 = "InvalidCircuit") then (
  (xfS e_569 0).bind fun v_570 =>
  (xfI e_569 1).bind fun v_572 =>
  some (Sum.inr (PyData.tuple [DE.str.enc ("parts" : Str), DE.str.enc v_570, DE.int.enc v_572])))
  else none)) fun r_567 =>
  some (Sum.inl (("circuit" : Str), r_567.1))

def m__law_changed (lines_0 : List (Str)) (row_0 : Int) : Option (List (Str)) :=
  letO ([("" : Str), (" " : Str), ("circuit" : Str), ("and 0 1 2" : Str), ("and 0" : Str), ("input" : Str), ("input a b" : Str), ("latch x 0" : Str), ("Output y 1" : Str), ("output  1" : Str), ("next 3" : Str)]) fun odd_574 =>
  (atI ([("" : Str), ("00" : Str), ("07" : Str), ("1234567" : Str), ("-1" : Str), ("+1" : Str), ("x" : Str), ("1." : Str), ("999999" : Str), ("1_0" : Str)]) ((row_0 / (60 : Int)) % (10 : Int))).bind fun v_576 =>
  guardO (0 < (if ((lines_0).length : Int) > (1 : Int) then ((lines_0).length : Int) else (1 : Int))) <|
  letO ((row_0 / (600 : Int)) % (if ((lines_0).length : Int) > (1 : Int) then ((lines_0).length : Int) else (1 : Int))) fun place_579 =>
  letO (row_0 % (6 : Int)) fun kind_581 =>
  bif (decide (((lines_0).length : Int) = (0 : Int)) || decide (kind_581 = (0 : Int))) then (
  (atI odd_574 ((row_0 / (6 : Int)) % (11 : Int))).bind fun v_583 =>
  guardO (((cutL lines_0 none (some place_579))).length + ([v_583]).length ≤ sizeLine) <|
  guardO ((((cutL lines_0 none (some place_579)) ++ [v_583])).length + ((cutL lines_0 (some place_579) none)).length ≤ sizeLine) <|
  some (((cutL lines_0 none (some place_579)) ++ [v_583]) ++ (cutL lines_0 (some place_579) none)))
  else (
  bif decide (kind_581 = (1 : Int)) then (
  guardO (((cutL lines_0 none (some place_579))).length + ((cutL lines_0 (some (place_579 + (1 : Int))) none)).length ≤ sizeLine) <|
  some ((cutL lines_0 none (some place_579)) ++ (cutL lines_0 (some (place_579 + (1 : Int))) none)))
  else (
  bif decide (kind_581 = (2 : Int)) then (
  (atI lines_0 place_579).bind fun v_588 =>
  (atI lines_0 place_579).bind fun v_590 =>
  guardO (((cutL lines_0 none (some place_579))).length + ([v_588, v_590]).length ≤ sizeLine) <|
  guardO ((((cutL lines_0 none (some place_579)) ++ [v_588, v_590])).length + ((cutL lines_0 (some (place_579 + (1 : Int))) none)).length ≤ sizeLine) <|
  some (((cutL lines_0 none (some place_579)) ++ [v_588, v_590]) ++ (cutL lines_0 (some (place_579 + (1 : Int))) none)))
  else (
  bif decide (kind_581 = (3 : Int)) then (
  (atI lines_0 place_579).bind fun v_594 =>
  guardO (((cutL lines_0 (some (place_579 + (1 : Int))) none)).length + ([v_594]).length ≤ sizeLine) <|
  guardO ((((cutL lines_0 (some (place_579 + (1 : Int))) none) ++ [v_594])).length + ((cutL lines_0 none (some place_579))).length ≤ sizeLine) <|
  some (((cutL lines_0 (some (place_579 + (1 : Int))) none) ++ [v_594]) ++ (cutL lines_0 none (some place_579))))
  else (
  (atI lines_0 place_579).bind fun v_598 =>
  guardO ((v_598).length + 2 ≤ sizeLine) <|
  guardO (0 < (((Txt.split v_598 (" " : Str))).length : Int)) <|
  letO ((row_0 / (7 : Int)) % (((Txt.split v_598 (" " : Str))).length : Int)) fun at_602 =>
  bif decide (kind_581 = (4 : Int)) then (
  guardO (((cutL (Txt.split v_598 (" " : Str)) none (some at_602))).length + ([v_576]).length ≤ sizeLine) <|
  guardO ((((cutL (Txt.split v_598 (" " : Str)) none (some at_602)) ++ [v_576])).length + ((cutL (Txt.split v_598 (" " : Str)) (some (at_602 + (1 : Int))) none)).length ≤ sizeLine) <|
  guardO (((((cutL (Txt.split v_598 (" " : Str)) none (some at_602)) ++ [v_576]) ++ (cutL (Txt.split v_598 (" " : Str)) (some (at_602 + (1 : Int))) none)).map (·.length)).sum + ((((cutL (Txt.split v_598 (" " : Str)) none (some at_602)) ++ [v_576]) ++ (cutL (Txt.split v_598 (" " : Str)) (some (at_602 + (1 : Int))) none))).length * ((" " : Str)).length ≤ 16777216) <|
  guardO (((cutL lines_0 none (some place_579))).length + ([(Txt.join (" " : Str) (((cutL (Txt.split v_598 (" " : Str)) none (some at_602)) ++ [v_576]) ++ (cutL (Txt.split v_598 (" " : Str)) (some (at_602 + (1 : Int))) none)))]).length ≤ sizeLine) <|
  guardO ((((cutL lines_0 none (some place_579)) ++ [(Txt.join (" " : Str) (((cutL (Txt.split v_598 (" " : Str)) none (some at_602)) ++ [v_576]) ++ (cutL (Txt.split v_598 (" " : Str)) (some (at_602 + (1 : Int))) none)))])).length + ((cutL lines_0 (some (place_579 + (1 : Int))) none)).length ≤ sizeLine) <|
  some (((cutL lines_0 none (some place_579)) ++ [(Txt.join (" " : Str) (((cutL (Txt.split v_598 (" " : Str)) none (some at_602)) ++ [v_576]) ++ (cutL (Txt.split v_598 (" " : Str)) (some (at_602 + (1 : Int))) none)))]) ++ (cutL lines_0 (some (place_579 + (1 : Int))) none)))
  else (
  guardO (((cutL (Txt.split v_598 (" " : Str)) none (some at_602))).length + ([("" : Str)]).length ≤ sizeLine) <|
  guardO ((((cutL (Txt.split v_598 (" " : Str)) none (some at_602)) ++ [("" : Str)])).length + ((cutL (Txt.split v_598 (" " : Str)) (some at_602) none)).length ≤ sizeLine) <|
  guardO (((((cutL (Txt.split v_598 (" " : Str)) none (some at_602)) ++ [("" : Str)]) ++ (cutL (Txt.split v_598 (" " : Str)) (some at_602) none)).map (·.length)).sum + ((((cutL (Txt.split v_598 (" " : Str)) none (some at_602)) ++ [("" : Str)]) ++ (cutL (Txt.split v_598 (" " : Str)) (some at_602) none))).length * ((" " : Str)).length ≤ 16777216) <|
  guardO (((cutL lines_0 none (some place_579))).length + ([(Txt.join (" " : Str) (((cutL (Txt.split v_598 (" " : Str)) none (some at_602)) ++ [("" : Str)]) ++ (cutL (Txt.split v_598 (" " : Str)) (some at_602) none)))]).length ≤ sizeLine) <|
  guardO ((((cutL lines_0 none (some place_579)) ++ [(Txt.join (" " : Str) (((cutL (Txt.split v_598 (" " : Str)) none (some at_602)) ++ [("" : Str)]) ++ (cutL (Txt.split v_598 (" " : Str)) (some at_602) none)))])).length + ((cutL lines_0 (some (place_579 + (1 : Int))) none)).length ≤ sizeLine) <|
  some (((cutL lines_0 none (some place_579)) ++ [(Txt.join (" " : Str) (((cutL (Txt.split v_598 (" " : Str)) none (some at_602)) ++ [("" : Str)]) ++ (cutL (Txt.split v_598 (" " : Str)) (some at_602) none)))]) ++ (cutL lines_0 (some (place_579 + (1 : Int))) none)))))))

def m_law (script_0 : List Int) : Option (Bool) :=
  (m__law_rows script_0 (36 : Int)).bind fun r_614 =>
  (m__law_parts r_614 (3 : Int) (2 : Int) (5 : Int)).bind fun r_616 =>
  (okR (m_Circuit_init r_616.1 r_616.2.1 r_616.2.2.1 r_616.2.2.2)).bind fun o_618 =>
  (m_write_circuit o_618.1).bind fun r_620 =>
  guardO ((r_620).length + 2 ≤ sizeLine) <|
  letO (cutL (Txt.split r_620 ("\n" : Str)) none (some ((((Txt.split r_620 ("\n" : Str))).length : Int) - (1 : Int)))) fun lines_623 =>
  (atI r_614 (31 : Int)).bind fun v_625 =>
  guardO (-(2 ^ 62) ≤ (v_625 % (4 : Int)) ∧ (v_625 % (4 : Int)) < 2 ^ 62) <|
  flK (forF (ρ := Bool) (rangeL 0 (v_625 % (4 : Int))) (lines_623 : (List (Str))) fun k_630 lines_629 =>
  (atI r_614 ((32 : Int) + k_630)).bind fun v_631 =>
  (m__law_changed lines_629 v_631).bind fun r_633 =>
  some (.next r_633)) (fun lines_629 =>
  guardO ((lines_629).length ≤ sizeLine) <|
  (fmO lines_629 fun line_637 => (guardO ((line_637).length + (("\n" : Str)).length ≤ sizeLine) (some (some (line_637 ++ ("\n" : Str)))))).bind fun ys_635 =>
  guardO ((ys_635.map (·.length)).sum + (ys_635).length * (("" : Str)).length ≤ 16777216) <|
  letO (Txt.join ("" : Str) ys_635) fun text_641 =>
  (atI r_614 (31 : Int)).bind fun v_643 =>
  (bif decide (((v_643 / (4 : Int)) % (7 : Int)) = (3 : Int)) then (
  guardO ((text_641).length ≤ sizeLine) <|
  guardO ((text_641).length ≤ sizeLine) <|
  letO (cutS text_641 none (some (((text_641).length : Int) - (1 : Int)))) fun text_648 =>
  some text_648)
  else (
  some text_641) : Option ((Str))).bind fun text_645 =>
  (m__law_reading text_645).bind fun r_652 =>
  (m__law_told text_645).bind fun r_654 =>
  bif decide ((0 : Int) < r_652.1) then (
  (Sum.getRight? r_654).bind fun u_656 =>
  guardO (SeqAt.shaped u_656 = true) <|
  guardO (SeqAt.shaped (PyData.tuple [DE.str.enc ("text" : Str), DE.int.enc r_652.1, DE.bl.enc true, DE.bl.enc false]) = true) <|
  some (PyData.eqv u_656 (PyData.tuple [DE.str.enc ("text" : Str), DE.int.enc r_652.1, DE.bl.enc true, DE.bl.enc false])))
  else (
  (r_652.2).bind fun u_660 =>
  (m__law_made u_660).bind fun r_662 =>
  (hdS r_662).bind fun t_664 =>
  (bif decide (t_664 = ("parts" : Str)) then some true else ((hdS r_654).bind fun t_666 => some (!decide (t_666 = ("circuit" : Str))))).bind fun b_668 =>
  bif b_668 then (
  (Sum.getRight? r_654).bind fun u_670 =>
  (Sum.getRight? r_662).bind fun u_672 =>
  guardO (SeqAt.shaped u_670 = true) <|
  guardO (SeqAt.shaped u_672 = true) <|
  some (PyData.eqv u_670 u_672))
  else (
  (Sum.getLeft? r_654).bind fun u_676 =>
  (Sum.getLeft? r_662).bind fun u_678 =>
  (m_Circuit_eq u_676.2 u_678.2).bind fun q_680 =>
  (bif q_680 then ((Sum.getLeft? r_654).bind fun u_682 => (m_write_circuit u_682.2).bind fun r_684 => some (decide (r_684 = text_645))) else some false).bind fun b_686 =>
  some b_686)))
  (fun _ => none)
end K13

/-! K13W -/
namespace K13
open PySem PySem.Spec L2 Ty
open PyProof.Rows (envOfC)
def top (i : Nat) : Stmt := PySem.Challenge.pw_evergate_k13_wrong_circuit_texts.main.body.getD i (.Pass ⟨0, 0, 0, 0⟩)
abbrev s_Circuit_eq : Stmt := inClass (top 17) 1
abbrev N_Circuit_eq : List Str := ["self", "other"]
theorem sc_Circuit_eq : FnScope N_Circuit_eq ["self", "other"] (defScope s_Circuit_eq) := ⟨rfl, rfl, rfl, by decide +kernel, rfl, by decide +kernel, by decide +kernel⟩
abbrev s__law_rows : Stmt := top 32
abbrev N__law_rows : List Str := ["script", "count", "rows", "k", "cell"]
theorem sc__law_rows : FnScope N__law_rows ["script", "count"] (defScope s__law_rows) := ⟨rfl, rfl, rfl, by decide +kernel, rfl, by decide +kernel, by decide +kernel⟩
abbrev s__law_literal : Stmt := top 34
abbrev N__law_literal : List Str := ["row", "near", "count", "node"]
theorem sc__law_literal : FnScope N__law_literal ["row", "near", "count"] (defScope s__law_literal) := ⟨rfl, rfl, rfl, by decide +kernel, rfl, by decide +kernel, by decide +kernel⟩
abbrev s__law_ands : Stmt := top 35
abbrev N__law_ands : List Str := ["rows", "at", "first_and", "count", "ands", "k", "row", "size", "left", "right"]
theorem sc__law_ands : FnScope N__law_ands ["rows", "at", "first_and", "count"] (defScope s__law_ands) := ⟨rfl, rfl, rfl, by decide +kernel, rfl, by decide +kernel, by decide +kernel⟩
abbrev s__law_name : Stmt := top 33
abbrev N__law_name : List Str := ["row", "k", "signs", "rest", "name", "j", "place"]
theorem sc__law_name : FnScope N__law_name ["row", "k"] (defScope s__law_name) := ⟨rfl, rfl, rfl, by decide +kernel, rfl, by decide +kernel, by decide +kernel⟩
abbrev s__law_parts : Stmt := top 36
abbrev N__law_parts : List Str := ["rows", "most_inputs", "most_latches", "most_ands", "head", "input_count", "latch_count", "gate_count", "output_count", "names", "first_and", "size", "ands", "latches", "k", "row", "outputs"]
theorem sc__law_parts : FnScope N__law_parts ["rows", "most_inputs", "most_latches", "most_ands"] (defScope s__law_parts) := ⟨rfl, rfl, rfl, by decide +kernel, rfl, by decide +kernel, by decide +kernel⟩
abbrev s_joined_words : Stmt := top 24
abbrev N_joined_words : List Str := ["word", "numbers", "number"]
theorem sc_joined_words : FnScope N_joined_words ["word", "numbers"] (defScope s_joined_words) := ⟨rfl, rfl, rfl, by decide +kernel, rfl, by decide +kernel, by decide +kernel⟩
abbrev s_circuit_lines : Stmt := top 27
abbrev N_circuit_lines : List Str := ["circuit", "lines", "name", "start", "literal", "pair"]
theorem sc_circuit_lines : FnScope N_circuit_lines ["circuit"] (defScope s_circuit_lines) := ⟨rfl, rfl, rfl, by decide +kernel, rfl, by decide +kernel, by decide +kernel⟩
abbrev s_write_circuit : Stmt := top 28
abbrev N_write_circuit : List Str := ["circuit", "line"]
theorem sc_write_circuit : FnScope N_write_circuit ["circuit"] (defScope s_write_circuit) := ⟨rfl, rfl, rfl, by decide +kernel, rfl, by decide +kernel, by decide +kernel⟩
abbrev s__law_number : Stmt := top 37
abbrev N__law_number : List Str := ["word", "sign"]
theorem sc__law_number : FnScope N__law_number ["word"] (defScope s__law_number) := ⟨rfl, rfl, rfl, by decide +kernel, rfl, by decide +kernel, by decide +kernel⟩
abbrev s__law_reading : Stmt := top 38
abbrev N__law_reading : List Str := ["text", "lines", "words", "names", "counts", "parts", "rank", "k", "row", "known", "rest", "latches", "ands", "outputs", "j", "word"]
theorem sc__law_reading : FnScope N__law_reading ["text"] (defScope s__law_reading) := ⟨rfl, rfl, rfl, by decide +kernel, rfl, by decide +kernel, by decide +kernel⟩
abbrev s_Lines_init : Stmt := inClass (top 25) 0
abbrev N_Lines_init : List Str := ["self", "lines"]
theorem sc_Lines_init : FnScope N_Lines_init ["self", "lines"] (defScope s_Lines_init) := ⟨rfl, rfl, rfl, by decide +kernel, rfl, by decide +kernel, by decide +kernel⟩
abbrev s_Lines_more : Stmt := inClass (top 25) 1
abbrev N_Lines_more : List Str := ["self", "word"]
theorem sc_Lines_more : FnScope N_Lines_more ["self", "word"] (defScope s_Lines_more) := ⟨rfl, rfl, rfl, by decide +kernel, rfl, by decide +kernel, by decide +kernel⟩
abbrev s_Lines_take : Stmt := inClass (top 25) 2
abbrev N_Lines_take : List Str := ["self", "word"]
theorem sc_Lines_take : FnScope N_Lines_take ["self", "word"] (defScope s_Lines_take) := ⟨rfl, rfl, rfl, by decide +kernel, rfl, by decide +kernel, by decide +kernel⟩
abbrev s_is_number : Stmt := top 21
abbrev N_is_number : List Str := ["word", "sign"]
theorem sc_is_number : FnScope N_is_number ["word"] (defScope s_is_number) := ⟨rfl, rfl, rfl, by decide +kernel, rfl, by decide +kernel, by decide +kernel⟩
abbrev s_numbers_of : Stmt := top 22
abbrev N_numbers_of : List Str := ["words", "word"]
theorem sc_numbers_of : FnScope N_numbers_of ["words"] (defScope s_numbers_of) := ⟨rfl, rfl, rfl, by decide +kernel, rfl, by decide +kernel, by decide +kernel⟩
abbrev s_Lines_take_numbers : Stmt := inClass (top 25) 3
abbrev N_Lines_take_numbers : List Str := ["self", "word", "skipped", "count", "words", "numbers"]
theorem sc_Lines_take_numbers : FnScope N_Lines_take_numbers ["self", "word", "skipped", "count"] (defScope s_Lines_take_numbers) := ⟨rfl, rfl, rfl, by decide +kernel, rfl, by decide +kernel, by decide +kernel⟩
abbrev s_take_circuit : Stmt := top 29
abbrev N_take_circuit : List Str := ["lines", "inputs", "latches", "ands", "outputs", "name", "start", "literal", "left", "right"]
theorem sc_take_circuit : FnScope N_take_circuit ["lines"] (defScope s_take_circuit) := ⟨rfl, rfl, rfl, by decide +kernel, rfl, by decide +kernel, by decide +kernel⟩
abbrev s_Lines_finish : Stmt := inClass (top 25) 4
abbrev N_Lines_finish : List Str := ["self"]
theorem sc_Lines_finish : FnScope N_Lines_finish ["self"] (defScope s_Lines_finish) := ⟨rfl, rfl, rfl, by decide +kernel, rfl, by decide +kernel, by decide +kernel⟩
abbrev s_is_name : Stmt := top 13
abbrev N_is_name : List Str := ["text", "sign"]
theorem sc_is_name : FnScope N_is_name ["text"] (defScope s_is_name) := ⟨rfl, rfl, rfl, by decide +kernel, rfl, by decide +kernel, by decide +kernel⟩
abbrev s_fault_of_leaves : Stmt := top 14
abbrev N_fault_of_leaves : List Str := ["inputs", "latches", "node_count", "names", "index", "name", "start", "literal"]
theorem sc_fault_of_leaves : FnScope N_fault_of_leaves ["inputs", "latches", "node_count"] (defScope s_fault_of_leaves) := ⟨rfl, rfl, rfl, by decide +kernel, rfl, by decide +kernel, by decide +kernel⟩
abbrev s_fault_of_ands : Stmt := top 15
abbrev N_fault_of_ands : List Str := ["first_and", "ands", "index", "left", "right", "limit"]
theorem sc_fault_of_ands : FnScope N_fault_of_ands ["first_and", "ands"] (defScope s_fault_of_ands) := ⟨rfl, rfl, rfl, by decide +kernel, rfl, by decide +kernel, by decide +kernel⟩
abbrev s_fault_of_outputs : Stmt := top 16
abbrev N_fault_of_outputs : List Str := ["outputs", "node_count", "names", "index", "name", "literal"]
theorem sc_fault_of_outputs : FnScope N_fault_of_outputs ["outputs", "node_count"] (defScope s_fault_of_outputs) := ⟨rfl, rfl, rfl, by decide +kernel, rfl, by decide +kernel, by decide +kernel⟩
abbrev s_Circuit_init : Stmt := inClass (top 17) 0
abbrev N_Circuit_init : List Str := ["self", "inputs", "latches", "ands", "outputs", "first_and", "node_count", "fault"]
theorem sc_Circuit_init : FnScope N_Circuit_init ["self", "inputs", "latches", "ands", "outputs"] (defScope s_Circuit_init) := ⟨rfl, rfl, rfl, by decide +kernel, rfl, by decide +kernel, by decide +kernel⟩
abbrev s_lines_of : Stmt := top 23
abbrev N_lines_of : List Str := ["text", "lines"]
theorem sc_lines_of : FnScope N_lines_of ["text"] (defScope s_lines_of) := ⟨rfl, rfl, rfl, by decide +kernel, rfl, by decide +kernel, by decide +kernel⟩
abbrev s_read_circuit : Stmt := top 30
abbrev N_read_circuit : List Str := ["text", "lines", "inputs", "latches", "ands", "outputs"]
theorem sc_read_circuit : FnScope N_read_circuit ["text"] (defScope s_read_circuit) := ⟨rfl, rfl, rfl, by decide +kernel, rfl, by decide +kernel, by decide +kernel⟩
abbrev s__law_told : Stmt := top 40
abbrev N__law_told : List Str := ["text", "e"]
theorem sc__law_told : FnScope N__law_told ["text"] (defScope s__law_told) := ⟨rfl, rfl, rfl, by decide +kernel, rfl, by decide +kernel, by decide +kernel⟩
abbrev s__law_made : Stmt := top 41
abbrev N__law_made : List Str := ["parts", "e"]
theorem sc__law_made : FnScope N__law_made ["parts"] (defScope s__law_made) := ⟨rfl, rfl, rfl, by decide +kernel, rfl, by decide +kernel, by decide +kernel⟩
abbrev s__law_changed : Stmt := top 39
abbrev N__law_changed : List Str := ["lines", "row", "odd", "word", "place", "kind", "words", "at"]
theorem sc__law_changed : FnScope N__law_changed ["lines", "row"] (defScope s__law_changed) := ⟨rfl, rfl, rfl, by decide +kernel, rfl, by decide +kernel, by decide +kernel⟩
abbrev s_law : Stmt := top 42
abbrev N_law : List Str := ["script", "rows", "inputs", "latches", "ands", "outputs", "text", "lines", "k", "line", "parts", "told", "due"]
theorem sc_law : FnScope N_law ["script"] (defScope s_law) := ⟨rfl, rfl, rfl, by decide +kernel, rfl, by decide +kernel, by decide +kernel⟩
abbrev s_InvalidCircuit_init : Stmt := inClass (top 3) 0
theorem sc_InvalidCircuit_init : ScS ["self", "part", "index"] (defScope s_InvalidCircuit_init) := ⟨rfl, rfl, rfl, by decide +kernel, by decide +kernel, by decide +kernel, by decide +kernel, rfl, rfl⟩
abbrev s_InvalidText_init : Stmt := inClass (top 4) 0
theorem sc_InvalidText_init : ScS ["self", "line"] (defScope s_InvalidText_init) := ⟨rfl, rfl, rfl, by decide +kernel, by decide +kernel, by decide +kernel, by decide +kernel, rfl, rfl⟩
abbrev ns_Circuit : List Str := ["inputs", "latches", "ands", "outputs"]
abbrev dl_Circuit (V : S_Circuit) : List Slot := [own (oL pStr) V.inputs, own (oL (pT3 pStr pInt pInt)) V.latches, own (oL (pT2 pInt pInt)) V.ands, own (oL (pT2 pStr pInt)) V.outputs]
abbrev sl_Circuit (V : S_Circuit) : List Slot := [val (pL pStr) V.inputs, val (pL (pT3 pStr pInt pInt)) V.latches, val (pL (pT2 pInt pInt)) V.ands, val (pL (pT2 pStr pInt)) V.outputs]
abbrev ns_Lines : List Str := ["_rest", "place"]
abbrev dl_Lines (V : S_Lines) : List Slot := [own (oL pStr) V._rest, val pInt V.place]
abbrev sl_Lines (V : S_Lines) : List Slot := [val (pL pStr) V._rest, val pInt V.place]
abbrev slH_0 (V : (List (Str)) × (List ((Str) × (Int) × (Int))) × (List ((Int) × (Int))) × (List ((Str) × (Int)))) : List Slot := [val (pL pStr) V.1, val (pL (pT3 pStr pInt pInt)) V.2.1, val (pL (pT2 pInt pInt)) V.2.2.1, val (pL (pT2 pStr pInt)) V.2.2.2]
abbrev slH_1 (V : (Str) × (Int) × (Int)) : List Slot := [val pStr V.1, val pInt V.2.1, val pInt V.2.2]
abbrev slH_2 (V : (Int) × (Int)) : List Slot := [val pInt V.1, val pInt V.2]
abbrev slH_3 (V : (Str) × (Int)) : List Slot := [val pStr V.1, val pInt V.2]
structure Txt (P : Program) (K : PySem.W.Frag) (mg : Str → Option Value) where
  f_Circuit_eq : Addr
  d_Circuit_eq : FuncData
  F_Circuit_eq : Fun K "__eq__" "Circuit.__eq__" s_Circuit_eq f_Circuit_eq d_Circuit_eq
  b_Circuit_eq : Binds K d_Circuit_eq ["self", "other"] []
  f__law_rows : Addr
  d__law_rows : FuncData
  F__law_rows : Fun K "_law_rows" "_law_rows" s__law_rows f__law_rows d__law_rows
  b__law_rows : Binds K d__law_rows ["script", "count"] []
  g__law_rows : mg "_law_rows" = some (.ref f__law_rows)
  k__law_rows : PySem.W.keepIn K (.ref f__law_rows) = true
  f__law_literal : Addr
  d__law_literal : FuncData
  F__law_literal : Fun K "_law_literal" "_law_literal" s__law_literal f__law_literal d__law_literal
  b__law_literal : Binds K d__law_literal ["row", "near", "count"] []
  g__law_literal : mg "_law_literal" = some (.ref f__law_literal)
  k__law_literal : PySem.W.keepIn K (.ref f__law_literal) = true
  f__law_ands : Addr
  d__law_ands : FuncData
  F__law_ands : Fun K "_law_ands" "_law_ands" s__law_ands f__law_ands d__law_ands
  b__law_ands : Binds K d__law_ands ["rows", "at", "first_and", "count"] []
  g__law_ands : mg "_law_ands" = some (.ref f__law_ands)
  k__law_ands : PySem.W.keepIn K (.ref f__law_ands) = true
  f__law_name : Addr
  d__law_name : FuncData
  F__law_name : Fun K "_law_name" "_law_name" s__law_name f__law_name d__law_name
  b__law_name : Binds K d__law_name ["row", "k"] []
  g__law_name : mg "_law_name" = some (.ref f__law_name)
  k__law_name : PySem.W.keepIn K (.ref f__law_name) = true
  f__law_parts : Addr
  d__law_parts : FuncData
  F__law_parts : Fun K "_law_parts" "_law_parts" s__law_parts f__law_parts d__law_parts
  b__law_parts : Binds K d__law_parts ["rows", "most_inputs", "most_latches", "most_ands"] []
  g__law_parts : mg "_law_parts" = some (.ref f__law_parts)
  k__law_parts : PySem.W.keepIn K (.ref f__law_parts) = true
  f_joined_words : Addr
  d_joined_words : FuncData
  F_joined_words : Fun K "joined_words" "joined_words" s_joined_words f_joined_words d_joined_words
  b_joined_words : Binds K d_joined_words ["word", "numbers"] []
  g_joined_words : mg "joined_words" = some (.ref f_joined_words)
  k_joined_words : PySem.W.keepIn K (.ref f_joined_words) = true
  f_circuit_lines : Addr
  d_circuit_lines : FuncData
  F_circuit_lines : Fun K "circuit_lines" "circuit_lines" s_circuit_lines f_circuit_lines d_circuit_lines
  b_circuit_lines : Binds K d_circuit_lines ["circuit"] []
  g_circuit_lines : mg "circuit_lines" = some (.ref f_circuit_lines)
  k_circuit_lines : PySem.W.keepIn K (.ref f_circuit_lines) = true
  f_write_circuit : Addr
  d_write_circuit : FuncData
  F_write_circuit : Fun K "write_circuit" "write_circuit" s_write_circuit f_write_circuit d_write_circuit
  b_write_circuit : Binds K d_write_circuit ["circuit"] []
  g_write_circuit : mg "write_circuit" = some (.ref f_write_circuit)
  k_write_circuit : PySem.W.keepIn K (.ref f_write_circuit) = true
  f__law_number : Addr
  d__law_number : FuncData
  F__law_number : Fun K "_law_number" "_law_number" s__law_number f__law_number d__law_number
  b__law_number : Binds K d__law_number ["word"] []
  g__law_number : mg "_law_number" = some (.ref f__law_number)
  k__law_number : PySem.W.keepIn K (.ref f__law_number) = true
  f__law_reading : Addr
  d__law_reading : FuncData
  F__law_reading : Fun K "_law_reading" "_law_reading" s__law_reading f__law_reading d__law_reading
  b__law_reading : Binds K d__law_reading ["text"] []
  g__law_reading : mg "_law_reading" = some (.ref f__law_reading)
  k__law_reading : PySem.W.keepIn K (.ref f__law_reading) = true
  f_Lines_init : Addr
  d_Lines_init : FuncData
  F_Lines_init : Fun K "__init__" "Lines.__init__" s_Lines_init f_Lines_init d_Lines_init
  b_Lines_init : Binds K d_Lines_init ["self", "lines"] []
  f_Lines_more : Addr
  d_Lines_more : FuncData
  F_Lines_more : Fun K "more" "Lines.more" s_Lines_more f_Lines_more d_Lines_more
  b_Lines_more : Binds K d_Lines_more ["self", "word"] []
  f_Lines_take : Addr
  d_Lines_take : FuncData
  F_Lines_take : Fun K "take" "Lines.take" s_Lines_take f_Lines_take d_Lines_take
  b_Lines_take : Binds K d_Lines_take ["self", "word"] []
  f_is_number : Addr
  d_is_number : FuncData
  F_is_number : Fun K "is_number" "is_number" s_is_number f_is_number d_is_number
  b_is_number : Binds K d_is_number ["word"] []
  g_is_number : mg "is_number" = some (.ref f_is_number)
  k_is_number : PySem.W.keepIn K (.ref f_is_number) = true
  f_numbers_of : Addr
  d_numbers_of : FuncData
  F_numbers_of : Fun K "numbers_of" "numbers_of" s_numbers_of f_numbers_of d_numbers_of
  b_numbers_of : Binds K d_numbers_of ["words"] []
  g_numbers_of : mg "numbers_of" = some (.ref f_numbers_of)
  k_numbers_of : PySem.W.keepIn K (.ref f_numbers_of) = true
  f_Lines_take_numbers : Addr
  d_Lines_take_numbers : FuncData
  F_Lines_take_numbers : Fun K "take_numbers" "Lines.take_numbers" s_Lines_take_numbers f_Lines_take_numbers d_Lines_take_numbers
  b_Lines_take_numbers : Binds K d_Lines_take_numbers ["self", "word", "skipped", "count"] []
  f_take_circuit : Addr
  d_take_circuit : FuncData
  F_take_circuit : Fun K "take_circuit" "take_circuit" s_take_circuit f_take_circuit d_take_circuit
  b_take_circuit : Binds K d_take_circuit ["lines"] []
  g_take_circuit : mg "take_circuit" = some (.ref f_take_circuit)
  k_take_circuit : PySem.W.keepIn K (.ref f_take_circuit) = true
  f_Lines_finish : Addr
  d_Lines_finish : FuncData
  F_Lines_finish : Fun K "finish" "Lines.finish" s_Lines_finish f_Lines_finish d_Lines_finish
  b_Lines_finish : Binds K d_Lines_finish ["self"] []
  f_is_name : Addr
  d_is_name : FuncData
  F_is_name : Fun K "is_name" "is_name" s_is_name f_is_name d_is_name
  b_is_name : Binds K d_is_name ["text"] []
  g_is_name : mg "is_name" = some (.ref f_is_name)
  k_is_name : PySem.W.keepIn K (.ref f_is_name) = true
  f_fault_of_leaves : Addr
  d_fault_of_leaves : FuncData
  F_fault_of_leaves : Fun K "fault_of_leaves" "fault_of_leaves" s_fault_of_leaves f_fault_of_leaves d_fault_of_leaves
  b_fault_of_leaves : Binds K d_fault_of_leaves ["inputs", "latches", "node_count"] []
  g_fault_of_leaves : mg "fault_of_leaves" = some (.ref f_fault_of_leaves)
  k_fault_of_leaves : PySem.W.keepIn K (.ref f_fault_of_leaves) = true
  f_fault_of_ands : Addr
  d_fault_of_ands : FuncData
  F_fault_of_ands : Fun K "fault_of_ands" "fault_of_ands" s_fault_of_ands f_fault_of_ands d_fault_of_ands
  b_fault_of_ands : Binds K d_fault_of_ands ["first_and", "ands"] []
  g_fault_of_ands : mg "fault_of_ands" = some (.ref f_fault_of_ands)
  k_fault_of_ands : PySem.W.keepIn K (.ref f_fault_of_ands) = true
  f_fault_of_outputs : Addr
  d_fault_of_outputs : FuncData
  F_fault_of_outputs : Fun K "fault_of_outputs" "fault_of_outputs" s_fault_of_outputs f_fault_of_outputs d_fault_of_outputs
  b_fault_of_outputs : Binds K d_fault_of_outputs ["outputs", "node_count"] []
  g_fault_of_outputs : mg "fault_of_outputs" = some (.ref f_fault_of_outputs)
  k_fault_of_outputs : PySem.W.keepIn K (.ref f_fault_of_outputs) = true
  f_Circuit_init : Addr
  d_Circuit_init : FuncData
  F_Circuit_init : Fun K "__init__" "Circuit.__init__" s_Circuit_init f_Circuit_init d_Circuit_init
  b_Circuit_init : Binds K d_Circuit_init ["self", "inputs", "latches", "ands", "outputs"] []
  f_lines_of : Addr
  d_lines_of : FuncData
  F_lines_of : Fun K "lines_of" "lines_of" s_lines_of f_lines_of d_lines_of
  b_lines_of : Binds K d_lines_of ["text"] []
  g_lines_of : mg "lines_of" = some (.ref f_lines_of)
  k_lines_of : PySem.W.keepIn K (.ref f_lines_of) = true
  f_read_circuit : Addr
  d_read_circuit : FuncData
  F_read_circuit : Fun K "read_circuit" "read_circuit" s_read_circuit f_read_circuit d_read_circuit
  b_read_circuit : Binds K d_read_circuit ["text"] []
  g_read_circuit : mg "read_circuit" = some (.ref f_read_circuit)
  k_read_circuit : PySem.W.keepIn K (.ref f_read_circuit) = true
  f__law_told : Addr
  d__law_told : FuncData
  F__law_told : Fun K "_law_told" "_law_told" s__law_told f__law_told d__law_told
  b__law_told : Binds K d__law_told ["text"] []
  g__law_told : mg "_law_told" = some (.ref f__law_told)
  k__law_told : PySem.W.keepIn K (.ref f__law_told) = true
  f__law_made : Addr
  d__law_made : FuncData
  F__law_made : Fun K "_law_made" "_law_made" s__law_made f__law_made d__law_made
  b__law_made : Binds K d__law_made ["parts"] []
  g__law_made : mg "_law_made" = some (.ref f__law_made)
  k__law_made : PySem.W.keepIn K (.ref f__law_made) = true
  f__law_changed : Addr
  d__law_changed : FuncData
  F__law_changed : Fun K "_law_changed" "_law_changed" s__law_changed f__law_changed d__law_changed
  b__law_changed : Binds K d__law_changed ["lines", "row"] []
  g__law_changed : mg "_law_changed" = some (.ref f__law_changed)
  k__law_changed : PySem.W.keepIn K (.ref f__law_changed) = true
  f_law : Addr
  d_law : FuncData
  F_law : Fun K "law" "law" s_law f_law d_law
  b_law : Binds K d_law ["script"] []
  g_law : mg "law" = some (.ref f_law)
  k_law : PySem.W.keepIn K (.ref f_law) = true
  C_Circuit : Addr
  cl_Circuit : Cls K C_Circuit
  g_Circuit : mg "Circuit" = some (.ref C_Circuit)
  at_Circuit_inputs : At K C_Circuit "inputs"
  at_Circuit_latches : At K C_Circuit "latches"
  at_Circuit_ands : At K C_Circuit "ands"
  at_Circuit_outputs : At K C_Circuit "outputs"
  ne_Circuit : PySem.W.findIn K (.ref C_Circuit) "__ne__" = some (some (.builtin "object.__ne__"))
  mo_Circuit : PySem.W.mroIn K C_Circuit (.type "object") = some true
  ic_Circuit : IsC K C_Circuit
  me_Circuit_eq : Meth K C_Circuit "__eq__" f_Circuit_eq
  mk_Circuit : Mk K C_Circuit f_Circuit_init
  C_Lines : Addr
  cl_Lines : Cls K C_Lines
  g_Lines : mg "Lines" = some (.ref C_Lines)
  at_Lines__rest : At K C_Lines "_rest"
  at_Lines_place : At K C_Lines "place"
  mk_Lines : Mk K C_Lines f_Lines_init
  me_Lines_more : Meth K C_Lines "more" f_Lines_more
  me_Lines_take : Meth K C_Lines "take" f_Lines_take
  me_Lines_take_numbers : Meth K C_Lines "take_numbers" f_Lines_take_numbers
  me_Lines_finish : Meth K C_Lines "finish" f_Lines_finish
  g_enumerate : mg "enumerate" = none
  g_int : mg "int" = none
  g_isinstance : mg "isinstance" = none
  g_len : mg "len" = none
  g_list : mg "list" = none
  g_max : mg "max" = none
  g_min : mg "min" = none
  g_range : mg "range" = none
  g_str : mg "str" = none
  t_DIGITS : Tok
  g_DIGITS : mg "DIGITS" = some (.str "0123456789" t_DIGITS)
  t_FIRST_SIGNS : Tok
  g_FIRST_SIGNS : mg "FIRST_SIGNS" = some (.str "abcdefghijklmnopqrstuvwxyz" t_FIRST_SIGNS)
  t_MOST_ANDS : Tok
  g_MOST_ANDS : mg "MOST_ANDS" = some (.int 2000 t_MOST_ANDS)
  t_MOST_DIGITS : Tok
  g_MOST_DIGITS : mg "MOST_DIGITS" = some (.int 6 t_MOST_DIGITS)
  t_MOST_INPUTS : Tok
  g_MOST_INPUTS : mg "MOST_INPUTS" = some (.int 16 t_MOST_INPUTS)
  t_MOST_LATCHES : Tok
  g_MOST_LATCHES : mg "MOST_LATCHES" = some (.int 40 t_MOST_LATCHES)
  t_MOST_OUTPUTS : Tok
  g_MOST_OUTPUTS : mg "MOST_OUTPUTS" = some (.int 32 t_MOST_OUTPUTS)
  t_MOST_SIGNS : Tok
  g_MOST_SIGNS : mg "MOST_SIGNS" = some (.int 12 t_MOST_SIGNS)
  t_SIGNS : Tok
  g_SIGNS : mg "SIGNS" = some (.str "abcdefghijklmnopqrstuvwxyz0123456789_" t_SIGNS)
  C_EvergateError : Addr
  g_EvergateError : mg "EvergateError" = some (.ref C_EvergateError)
  C_InvalidCircuit : Addr
  g_InvalidCircuit : mg "InvalidCircuit" = some (.ref C_InvalidCircuit)
  C_InvalidText : Addr
  g_InvalidText : mg "InvalidText" = some (.ref C_InvalidText)
  f_InvalidCircuit_init : Addr
  d_InvalidCircuit_init : FuncData
  FS_InvalidCircuit : FunS K P "__init__" "InvalidCircuit.__init__" s_InvalidCircuit_init f_InvalidCircuit_init d_InvalidCircuit_init C_InvalidCircuit
  b_InvalidCircuit_init : Binds K d_InvalidCircuit_init ["self", "part", "index"] []
  xo_InvalidCircuit : OexC K C_InvalidCircuit
  xu_InvalidCircuit : SupC K P mg C_InvalidCircuit
  xic_InvalidCircuit : PySem.W.findIn K (.ref C_InvalidCircuit) "__init__" = some (some (.ref f_InvalidCircuit_init))
  xti_InvalidCircuit : PySem.W.typeIn K (.ref f_InvalidCircuit_init) = some (.type "function")
  xn_InvalidCircuit_part : PySem.W.findIn K (.ref C_InvalidCircuit) "part" = some none
  xn_InvalidCircuit_index : PySem.W.findIn K (.ref C_InvalidCircuit) "index" = some none
  xe_InvalidCircuit : ExcC K C_InvalidCircuit
  f_InvalidText_init : Addr
  d_InvalidText_init : FuncData
  FS_InvalidText : FunS K P "__init__" "InvalidText.__init__" s_InvalidText_init f_InvalidText_init d_InvalidText_init C_InvalidText
  b_InvalidText_init : Binds K d_InvalidText_init ["self", "line"] []
  xo_InvalidText : OexC K C_InvalidText
  xu_InvalidText : SupC K P mg C_InvalidText
  xic_InvalidText : PySem.W.findIn K (.ref C_InvalidText) "__init__" = some (some (.ref f_InvalidText_init))
  xti_InvalidText : PySem.W.typeIn K (.ref f_InvalidText_init) = some (.type "function")
  xn_InvalidText_line : PySem.W.findIn K (.ref C_InvalidText) "line" = some none
  xe_InvalidText : ExcC K C_InvalidText
  xp_InvalidCircuit_InvalidCircuit : PySem.W.exmOne K (.ref C_InvalidCircuit) (.ref C_InvalidCircuit) = some true
  xp_InvalidText_InvalidText : PySem.W.exmOne K (.ref C_InvalidText) (.ref C_InvalidText) = some true
  xp_InvalidCircuit_InvalidText : PySem.W.exmOne K (.ref C_InvalidCircuit) (.ref C_InvalidText) = some false
  xi_InvalidText_EvergateError : PySem.W.kitOne K (.ref C_InvalidText) (.ref C_EvergateError) = some true
  xi_InvalidText_InvalidCircuit : PySem.W.kitOne K (.ref C_InvalidText) (.ref C_InvalidCircuit) = some false
abbrev xns_InvalidCircuit : List Str := ["part", "index"]
abbrev xns_InvalidText : List Str := ["line"]
def exT {P : Program} {K : PySem.W.Frag} {mg : Str → Option Value} (T : Txt P K mg) : ExT := fun e cls d F => (e.1 = "InvalidCircuit" ∧ exFd T.C_InvalidCircuit xns_InvalidCircuit e cls d F) ∨ (e.1 = "InvalidText" ∧ exFd T.C_InvalidText xns_InvalidText e cls d F)
theorem exT_mk_InvalidCircuit {P : Program} {K : PySem.W.Frag} {mg : Str → Option Value} (T : Txt P K mg) {F : Hp} {l : List XF} {dd : Addr} (h : F dd = some (.xd (xfd xns_InvalidCircuit l))) : exT T ("InvalidCircuit", l) (.ref T.C_InvalidCircuit) (some dd) F := by unfold exT exFd; simp; exact h
theorem exT_is_InvalidCircuit {P : Program} {K : PySem.W.Frag} {mg : Str → Option Value} (T : Txt P K mg) {e : Exn} {cls : Value} {d : Option Addr} {F : Hp} (hz : e.1 = "InvalidCircuit") (h : exT T e cls d F) : exFd T.C_InvalidCircuit xns_InvalidCircuit e cls d F := by
  unfold exT at h
  rw [hz] at h
  simpa using h
theorem exT_mk_InvalidText {P : Program} {K : PySem.W.Frag} {mg : Str → Option Value} (T : Txt P K mg) {F : Hp} {l : List XF} {dd : Addr} (h : F dd = some (.xd (xfd xns_InvalidText l))) : exT T ("InvalidText", l) (.ref T.C_InvalidText) (some dd) F := by unfold exT exFd; simp; exact h
theorem exT_is_InvalidText {P : Program} {K : PySem.W.Frag} {mg : Str → Option Value} (T : Txt P K mg) {e : Exn} {cls : Value} {d : Option Addr} {F : Hp} (hz : e.1 = "InvalidText") (h : exT T e cls d F) : exFd T.C_InvalidText xns_InvalidText e cls d F := by
  unfold exT at h
  rw [hz] at h
  simpa using h
section
variable {P : Program} {w : World} {K : PySem.W.Frag} {mg : Str → Option Value} {base : Heap}
theorem ok_InvalidCircuit_init (T : Txt P K mg) : FnOk P w K mg base CX0 1 T.f_InvalidCircuit_init T.d_InvalidCircuit_init ["self", "part", "index"] (spE T.C_InvalidCircuit xns_InvalidCircuit) :=
  ex2_of (st := s_InvalidCircuit_init) T.FS_InvalidCircuit sc_InvalidCircuit_init T.xu_InvalidCircuit T.xo_InvalidCircuit T.xn_InvalidCircuit_part T.xn_InvalidCircuit_index rfl ⟨fun _ _ _ _ => rfl, fun _ _ _ _ => rfl, fun _ _ _ _ => ⟨_, rfl⟩, fun _ _ _ _ => rfl, fun _ _ _ _ => rfl⟩ rfl rfl (.cons (.v 0 rfl (by decide) (by decide)) (.cons (.c rfl) (.cons (.v 1 rfl (by decide) (by decide)) .nil))) rfl (fun _ _ _ _ => rfl) (fun _ _ _ _ => rfl) (by decide) (by decide) (by decide) (by decide)
theorem ok_InvalidText_init (T : Txt P K mg) : FnOk P w K mg base CX0 1 T.f_InvalidText_init T.d_InvalidText_init ["self", "line"] (spE T.C_InvalidText xns_InvalidText) :=
  ex1_of (st := s_InvalidText_init) T.FS_InvalidText sc_InvalidText_init T.xu_InvalidText T.xo_InvalidText T.xn_InvalidText_line rfl ⟨fun _ _ _ _ => rfl, fun _ _ _ _ => rfl, fun _ _ _ _ => ⟨_, rfl⟩, fun _ _ _ _ => rfl, fun _ _ _ _ => rfl⟩ rfl rfl (.cons (.c rfl) (.cons (.v 0 rfl (by decide) (by decide)) .nil)) rfl (fun _ _ _ _ => rfl) (by decide) (by decide)

theorem ok_Circuit_eq (T : Txt P K mg) : FnOk P w K mg base CX0 1 T.f_Circuit_eq T.d_Circuit_eq ["self", "other"] (spP (fun (z : (S_Circuit) × (S_Circuit)) => [val (pObj T.C_Circuit ns_Circuit sl_Circuit) z.1, val (pObj T.C_Circuit ns_Circuit sl_Circuit) z.2]) (fun z => m_Circuit_eq z.1 z.2) (fun r => val pBl r)) := by
  refine fn_pure T.F_Circuit_eq sc_Circuit_eq (fun _ => rfl) (fun cdv A outer s H E hr z r B hm => ?_)
  obtain ⟨self_0, other_0⟩ := z
  replace hm : m_Circuit_eq self_0 other_0 = some r := hm
  unfold m_Circuit_eq at hm
  show Go _ _ _ _ _ [val (pObj T.C_Circuit ns_Circuit sl_Circuit) self_0, val (pObj T.C_Circuit ns_Circuit sl_Circuit) other_0]
  refine go_if (xt_not (xt_val (x_callB (c_isi _) T.g_isinstance (by decide +kernel) (o_isiC (z := true) (TyX'.obj T.ic_Circuit) kit_self) (xa2 (x_var 1) (x_cls T.g_Circuit)))) rfl) (fun hz => absurd hz (by decide)) (fun hz => ?_)
  refine go_join ?_
  obtain ⟨h_1, hm⟩ := guardO_some hm
  obtain ⟨h_2, hm⟩ := guardO_some hm
  obtain ⟨b_9, h_10, hm⟩ := Option.bind_eq_some_iff.mp hm
  refine go_if (xw_pt (xw_orP (xt_cmp (c_neD _) (o_neD (DE.list DE.str) (by decide) Vw.val Vw.val h_1 h_2) (nomark _) (x_fld 0 (x_var 0) OV.val T.at_Circuit_inputs) (x_fld 0 (x_var 1) OV.val T.at_Circuit_inputs)) h_10 (fun z hm => by obtain ⟨h_5, hm⟩ := guardO_some hm; obtain ⟨h_6, hm⟩ := guardO_some hm; cases hm; exact (xw_or1 (xt_cmp (c_neD _) (o_neD (DE.list (DE.t3 DE.str DE.int DE.int)) (by decide) Vw.val Vw.val h_5 h_6) (nomark _) (x_fld 1 (x_var 0) OV.val T.at_Circuit_latches) (x_fld 1 (x_var 1) OV.val T.at_Circuit_latches)))))) (fun hz => ?_) (fun hz => ?_)
  · have hm := condT hz hm
    cases hm
    exact go_ret x_bl (fun v H h => h)
  · have hm := condF hz hm
    refine go_join ?_
    obtain ⟨b_15, h_16, hm⟩ := Option.bind_eq_some_iff.mp hm
    cases hm
    exact go_ret (x_andP (x_cmp (c_eqD _) (o_eqD (DE.list (DE.t2 DE.int DE.int)) (by decide) Vw.val Vw.val (fun _ _ => ⟨trivial, trivial⟩) (fun _ _ => ⟨trivial, trivial⟩)) (nomark _) (x_fld 2 (x_var 0) OV.val T.at_Circuit_ands) (x_fld 2 (x_var 1) OV.val T.at_Circuit_ands)) h_16 (fun z hm => by obtain ⟨h_11, hm⟩ := guardO_some hm; obtain ⟨h_12, hm⟩ := guardO_some hm; cases hm; exact (x_one (x_cmp (c_eqD _) (o_eqD (DE.list (DE.t2 DE.str DE.int)) (by decide) Vw.val Vw.val h_11 h_12) (nomark _) (x_fld 3 (x_var 0) OV.val T.at_Circuit_outputs) (x_fld 3 (x_var 1) OV.val T.at_Circuit_outputs))))) (fun v H h => h)

theorem ok__law_rows (T : Txt P K mg) : FnOk P w K mg base CX0 1 T.f__law_rows T.d__law_rows ["script", "count"] (spP (fun (z : (List Int) × (Int)) => [val (pScr K) z.1, val pInt z.2]) (fun z => m__law_rows z.1 z.2) (fun r => own (oL pInt) r)) := by
  refine fn_pure T.F__law_rows sc__law_rows (fun _ => rfl) (fun cdv A outer s H E hr z r B hm => ?_)
  obtain ⟨script_0, count_0⟩ := z
  replace hm : m__law_rows script_0 count_0 = some r := hm
  unfold m__law_rows at hm
  show Go _ _ _ _ _ [val (pScr K) script_0, val pInt count_0, dead, dead, dead]
  refine go_set 2 (x_lst (p := pInt) (xs := []) xa_nil (Nat.zero_le _)) ?_
  show Go _ _ _ _ _ [val (pScr K) script_0, val pInt count_0, own (oL pInt) ([] : List (Int)), dead, dead]
  obtain ⟨h_18, hm⟩ := guardO_some hm
  refine go_forK (rs := val pInt) (fun s => [val (pScr K) script_0, val pInt count_0, own (oL pInt) s, dead, dead]) (fun r => own (oL pInt) r) (xi_range1 T.g_range (x_var 1) h_18) (by repeat' (first | exact WkL.nil | exact WkS.refl | exact WkS.dead | exact WkS.list | exact WkS.dict | exact WkS.lstS (fun _ => WkS.list) | refine WkL.cons ?_ ?_)) hm ?_ ?_ ?_
  · rintro B1 k_20 rows_19 out hx hm hr1 hl1
    refine ⟨_, _, (xg_name 3), ?_⟩
    show Go _ _ _ _ _ [val (pScr K) script_0, val pInt count_0, own (oL pInt) rows_19, val pInt k_20, dead]
    refine go_set 4 x_int ?_
    show Go _ _ _ _ _ [val (pScr K) script_0, val pInt count_0, own (oL pInt) rows_19, val pInt k_20, val pInt (0 : Int)]
    obtain ⟨cell_21, hj_25, hm⟩ := Option.bind_eq_some_iff.mp hm
    refine go_ifJ [val (pScr K) script_0, val pInt count_0, own (oL pInt) rows_19, val pInt k_20, val pInt cell_21] (xt_cmp (fun _ => op_gt) o_bl (nomark _) (x_callB (c_len _) T.g_len (by decide +kernel) (o_lenL SV.scr) (xa1 (x_var 0))) x_int) (fun hz => ?_) (fun hz => ?_) ?_
    · have hm := condT hz hj_25
      obtain ⟨h_22, hm⟩ := guardO_some hm
      obtain ⟨v_23, h_24, hm⟩ := Option.bind_eq_some_iff.mp hm
      refine go_set 4 (x_callTy (fun _ => call_int1) T.g_int (by decide +kernel) o_intI (xa1 (x_ix (x_var 0) SV.scr (x_op (fun _ => op_mod) (o_intC h_22) (x_var 3) (x_callB (c_len _) T.g_len (by decide +kernel) (o_lenL SV.scr) (xa1 (x_var 0)))) h_24))) ?_
      show Go _ _ _ _ _ [val (pScr K) script_0, val pInt count_0, own (oL pInt) rows_19, val pInt k_20, val pInt v_23]
      cases hm
      exact go_nx (by repeat' (first | exact WkL.nil | exact WkS.refl | exact WkS.dead | exact WkS.list | exact WkS.dict | exact WkS.lstS (fun _ => WkS.list) | refine WkL.cons ?_ ?_))
    · have hm := condF hz hj_25
      cases hm
      exact go_nx (by repeat' (first | exact WkL.nil | exact WkS.refl | exact WkS.dead | exact WkS.list | exact WkS.dict | exact WkS.lstS (fun _ => WkS.list) | refine WkL.cons ?_ ?_))
    obtain ⟨cell_27, hj_30, hm⟩ := Option.bind_eq_some_iff.mp hm
    refine go_ifJ [val (pScr K) script_0, val pInt count_0, own (oL pInt) rows_19, val pInt k_20, val pInt cell_27] (xt_cmp (fun _ => op_lt) o_bl (nomark _) (x_var 4) x_int) (fun hz => ?_) (fun hz => ?_) ?_
    · have hm := condT hz hj_30
      obtain ⟨cell_28, h_29, hm⟩ := letO_some hm
      refine go_set 4 (XV.eqV (x_op (fun _ => op_sub) o_int x_int (x_op (fun _ => op_mul) (o_intC (.inl (by decide))) x_int (x_var 4))) h_29) ?_
      show Go _ _ _ _ _ [val (pScr K) script_0, val pInt count_0, own (oL pInt) rows_19, val pInt k_20, val pInt cell_28]
      cases hm
      exact go_nx (by repeat' (first | exact WkL.nil | exact WkS.refl | exact WkS.dead | exact WkS.list | exact WkS.dict | exact WkS.lstS (fun _ => WkS.list) | refine WkL.cons ?_ ?_))
    · have hm := condF hz hj_30
      cases hm
      exact go_nx (by repeat' (first | exact WkL.nil | exact WkS.refl | exact WkS.dead | exact WkS.list | exact WkS.dict | exact WkS.lstS (fun _ => WkS.list) | refine WkL.cons ?_ ?_))
    obtain ⟨cell_32, hj_37, hm⟩ := Option.bind_eq_some_iff.mp hm
    refine go_ifJ [val (pScr K) script_0, val pInt count_0, own (oL pInt) rows_19, val pInt k_20, val pInt cell_32] (xw_pt (xw_or (xt_cmp (fun _ => op_ge) o_bl (nomark _) (x_var 3) (x_callB (c_len _) T.g_len (by decide +kernel) (o_lenL SV.scr) (xa1 (x_var 0)))) (fun _ => (xw_or1 (xt_cmp (fun _ => op_lt) o_bl (nomark _) (x_var 4) (x_op (fun _ => op_pow) (o_intC ⟨by decide, by decide, by decide⟩) x_int x_int)))) rfl)) (fun hz => ?_) (fun hz => ?_) ?_
    · have hm := condT hz hj_37
      obtain ⟨cell_33, h_34, hm⟩ := letO_some hm
      refine go_set 4 (XV.eqV (x_op (fun _ => op_mod) (o_intC (by decide)) (x_callTy (fun _ => call_int1) T.g_int (by decide +kernel) o_intI (xa1 (x_op (fun _ => op_mul) (o_intC (.inr (by decide))) (x_op (fun _ => op_add) o_int (x_op (fun _ => op_add) o_int (x_var 4) (x_op (fun _ => op_mul) (o_intC (.inl (by decide))) x_int (x_var 3))) x_int) x_int))) x_int) h_34) ?_
      show Go _ _ _ _ _ [val (pScr K) script_0, val pInt count_0, own (oL pInt) rows_19, val pInt k_20, val pInt cell_33]
      obtain ⟨cell_35, h_36, hm⟩ := letO_some hm
      refine go_set 4 (XV.eqV (x_op (fun _ => op_mod) (o_intC (by decide)) (x_callTy (fun _ => call_int1) T.g_int (by decide +kernel) o_intI (xa1 (x_op (fun _ => op_mul) (o_intC (.inr (by decide))) (x_op (fun _ => op_add) o_int (x_op (fun _ => op_add) o_int (x_op (fun _ => op_fdiv) (o_intC ⟨by decide, by decide⟩) (x_var 4) x_int) (x_op (fun _ => op_mul) (o_intC (.inl (by decide))) x_int (x_var 3))) x_int) x_int))) x_int) h_36) ?_
      show Go _ _ _ _ _ [val (pScr K) script_0, val pInt count_0, own (oL pInt) rows_19, val pInt k_20, val pInt cell_35]
      cases hm
      exact go_nx (by repeat' (first | exact WkL.nil | exact WkS.refl | exact WkS.dead | exact WkS.list | exact WkS.dict | exact WkS.lstS (fun _ => WkS.list) | refine WkL.cons ?_ ?_))
    · have hm := condF hz hj_37
      cases hm
      exact go_nx (by repeat' (first | exact WkL.nil | exact WkS.refl | exact WkS.dead | exact WkS.list | exact WkS.dict | exact WkS.lstS (fun _ => WkS.list) | refine WkL.cons ?_ ?_))
    obtain ⟨h_39, hm⟩ := guardO_some hm
    refine go_append (pl_name 2 (by repeat' (first | exact Stb.nil | exact trivial | exact stb_map (fun _ => trivial) _ | refine Stb.cons ?_ ?_)) (hso := own_some)) (x_var 4) h_39 ?_
    show Go _ _ _ _ _ [val (pScr K) script_0, val pInt count_0, own (oL pInt) (rows_19 ++ [cell_32]), val pInt k_20, val pInt cell_32]
    cases hm
    exact go_nil (fun σ H h => ⟨_, rfl, h.wk (by repeat' (first | exact WkL.nil | exact WkS.refl | exact WkS.dead | exact WkS.list | exact WkS.dict | exact WkS.lstS (fun _ => WkS.list) | refine WkL.cons ?_ ?_))⟩)
  · rintro rows_19 hm
    show Go _ _ _ _ _ [val (pScr K) script_0, val pInt count_0, own (oL pInt) rows_19, dead, dead]
    cases hm
    exact go_retV 2 rfl own_some (fun v H h => h)
  · rintro r hm v H h
    cases hm

theorem ok__law_literal (T : Txt P K mg) : FnOk P w K mg base CX0 1 T.f__law_literal T.d__law_literal ["row", "near", "count"] (spP (fun (z : (Int) × (Int) × (Int)) => [val pInt z.1, val pInt z.2.1, val pInt z.2.2]) (fun z => m__law_literal z.1 z.2.1 z.2.2) (fun r => val pInt r)) := by
  refine fn_pure T.F__law_literal sc__law_literal (fun _ => rfl) (fun cdv A outer s H E hr z r B hm => ?_)
  obtain ⟨row_0, near_0, count_0⟩ := z
  replace hm : m__law_literal row_0 near_0 count_0 = some r := hm
  unfold m__law_literal at hm
  show Go _ _ _ _ _ [val pInt row_0, val pInt near_0, val pInt count_0, dead]
  obtain ⟨h_40, hm⟩ := guardO_some hm
  obtain ⟨node_41, h_42, hm⟩ := letO_some hm
  refine go_set 3 (XV.eqV (x_op (fun _ => op_mod) (o_intC h_40) (x_callTy (fun _ => call_int1) T.g_int (by decide +kernel) o_intI (xa1 (x_var 0))) (x_var 2)) h_42) ?_
  show Go _ _ _ _ _ [val pInt row_0, val pInt near_0, val pInt count_0, val pInt node_41]
  obtain ⟨node_43, hj_47, hm⟩ := Option.bind_eq_some_iff.mp hm
  refine go_ifJ [val pInt row_0, val pInt near_0, val pInt count_0, val pInt node_43] (xt_cmp (fun _ => op_eq) o_eqI (nomark _) (x_op (fun _ => op_mod) (o_intC (by decide)) (x_callTy (fun _ => call_int1) T.g_int (by decide +kernel) o_intI (xa1 (x_var 1))) x_int) x_int) (fun hz => ?_) (fun hz => ?_) ?_
  · have hm := condT hz hj_47
    obtain ⟨h_44, hm⟩ := guardO_some hm
    obtain ⟨node_45, h_46, hm⟩ := letO_some hm
    refine go_set 3 (XV.eqV (x_op (fun _ => op_sub) o_int (x_op (fun _ => op_sub) o_int (x_var 2) x_int) (x_op (fun _ => op_mod) (o_intC h_44) (x_var 3) (x_callB (c_min2 _) T.g_min (by decide +kernel) o_min2 (xa2 x_int (x_var 2))))) h_46) ?_
    show Go _ _ _ _ _ [val pInt row_0, val pInt near_0, val pInt count_0, val pInt node_45]
    cases hm
    exact go_nx (by repeat' (first | exact WkL.nil | exact WkS.refl | exact WkS.dead | exact WkS.list | exact WkS.dict | exact WkS.lstS (fun _ => WkS.list) | refine WkL.cons ?_ ?_))
  · have hm := condF hz hj_47
    cases hm
    exact go_nx (by repeat' (first | exact WkL.nil | exact WkS.refl | exact WkS.dead | exact WkS.list | exact WkS.dict | exact WkS.lstS (fun _ => WkS.list) | refine WkL.cons ?_ ?_))
  obtain ⟨h_49, hm⟩ := guardO_some hm
  cases hm
  exact go_ret (x_op (fun _ => op_add) o_int (x_op (fun _ => op_mul) (o_intC (.inl (by decide))) x_int (x_var 3)) (x_op (fun _ => op_mod) (o_intC (by decide)) (x_op (fun _ => op_fdiv) (o_intC h_49) (x_callTy (fun _ => call_int1) T.g_int (by decide +kernel) o_intI (xa1 (x_var 0))) (x_var 2)) x_int)) (fun v H h => h)

theorem ok__law_ands (T : Txt P K mg) : FnOk P w K mg base CX0 2 T.f__law_ands T.d__law_ands ["rows", "at", "first_and", "count"] (spP (fun (z : (List (Int)) × (Int) × (Int) × (Int)) => [val (pL pInt) z.1, val pInt z.2.1, val pInt z.2.2.1, val pInt z.2.2.2]) (fun z => m__law_ands z.1 z.2.1 z.2.2.1 z.2.2.2) (fun r => own (oL (pT2 pInt pInt)) r)) := by
  refine fn_pure T.F__law_ands sc__law_ands (fun _ => rfl) (fun cdv A outer s H E hr z r B hm => ?_)
  obtain ⟨rows_0, at_0, first_and_0, count_0⟩ := z
  replace hm : m__law_ands rows_0 at_0 first_and_0 count_0 = some r := hm
  unfold m__law_ands at hm
  show Go _ _ _ _ _ [val (pL pInt) rows_0, val pInt at_0, val pInt first_and_0, val pInt count_0, dead, dead, dead, dead, dead, dead]
  refine go_set 4 (x_lst (p := (pT2 pInt pInt)) (xs := []) xa_nil (Nat.zero_le _)) ?_
  show Go _ _ _ _ _ [val (pL pInt) rows_0, val pInt at_0, val pInt first_and_0, val pInt count_0, own (oL (pT2 pInt pInt)) ([] : List ((Int) × (Int))), dead, dead, dead, dead, dead]
  obtain ⟨h_51, hm⟩ := guardO_some hm
  refine go_forK (rs := val pInt) (fun s => [val (pL pInt) rows_0, val pInt at_0, val pInt first_and_0, val pInt count_0, own (oL (pT2 pInt pInt)) s, dead, dead, dead, dead, dead]) (fun r => own (oL (pT2 pInt pInt)) r) (xi_range1 T.g_range (x_var 3) h_51) (by repeat' (first | exact WkL.nil | exact WkS.refl | exact WkS.dead | exact WkS.list | exact WkS.dict | exact WkS.lstS (fun _ => WkS.list) | refine WkL.cons ?_ ?_)) hm ?_ ?_ ?_
  · rintro B1 k_53 ands_52 out hx hm hr1 hl1
    refine ⟨_, _, (xg_name 5), ?_⟩
    show Go _ _ _ _ _ [val (pL pInt) rows_0, val pInt at_0, val pInt first_and_0, val pInt count_0, own (oL (pT2 pInt pInt)) ands_52, val pInt k_53, dead, dead, dead, dead]
    obtain ⟨v_54, h_55, hm⟩ := Option.bind_eq_some_iff.mp hm
    obtain ⟨row_56, h_57, hm⟩ := letO_some hm
    refine go_set 6 (XV.eqV (x_op (fun _ => op_fdiv) (o_intC ⟨by decide, by decide⟩) (x_ix (x_var 0) LV.val.sv (x_op (fun _ => op_add) o_int (x_var 1) (x_var 5)) h_55) x_int) h_57) ?_
    show Go _ _ _ _ _ [val (pL pInt) rows_0, val pInt at_0, val pInt first_and_0, val pInt count_0, own (oL (pT2 pInt pInt)) ands_52, val pInt k_53, val pInt row_56, dead, dead, dead]
    obtain ⟨size_58, h_59, hm⟩ := letO_some hm
    refine go_set 7 (XV.eqV (x_op (fun _ => op_add) o_int (x_var 2) (x_var 5)) h_59) ?_
    show Go _ _ _ _ _ [val (pL pInt) rows_0, val pInt at_0, val pInt first_and_0, val pInt count_0, own (oL (pT2 pInt pInt)) ands_52, val pInt k_53, val pInt row_56, val pInt size_58, dead, dead]
    obtain ⟨v_60, h_61, hm⟩ := Option.bind_eq_some_iff.mp hm
    obtain ⟨r_62, h_63, hm⟩ := Option.bind_eq_some_iff.mp hm
    refine go_set 8 (x_call (z := (row_56, v_60, size_58)) (ok__law_literal T) (by decide) T.g__law_literal T.k__law_literal T.b__law_literal (xa_cons (x_var 6) (xa_cons (x_ix (x_var 0) LV.val.sv (x_op (fun _ => op_add) o_int (x_var 1) (x_var 5)) h_61) (xa_cons (x_var 7) xa_nil))) rfl (by repeat' (first | exact trivial | refine ⟨no_val, ?_⟩ | refine ⟨no_borL, ?_⟩ | refine ⟨no_bor, ?_⟩)) h_63) ?_
    show Go _ _ _ _ _ [val (pL pInt) rows_0, val pInt at_0, val pInt first_and_0, val pInt count_0, own (oL (pT2 pInt pInt)) ands_52, val pInt k_53, val pInt row_56, val pInt size_58, val pInt r_62, dead]
    obtain ⟨h_64, hm⟩ := guardO_some hm
    obtain ⟨v_65, h_66, hm⟩ := Option.bind_eq_some_iff.mp hm
    obtain ⟨r_67, h_68, hm⟩ := Option.bind_eq_some_iff.mp hm
    refine go_set 9 (x_call (z := ((row_56 / ((2 : Int) * size_58)), (v_65 / (2 : Int)), size_58)) (ok__law_literal T) (by decide) T.g__law_literal T.k__law_literal T.b__law_literal (xa_cons (x_op (fun _ => op_fdiv) (o_intC h_64) (x_var 6) (x_op (fun _ => op_mul) (o_intC (.inl (by decide))) x_int (x_var 7))) (xa_cons (x_op (fun _ => op_fdiv) (o_intC ⟨by decide, by decide⟩) (x_ix (x_var 0) LV.val.sv (x_op (fun _ => op_add) o_int (x_var 1) (x_var 5)) h_66) x_int) (xa_cons (x_var 7) xa_nil))) rfl (by repeat' (first | exact trivial | refine ⟨no_val, ?_⟩ | refine ⟨no_borL, ?_⟩ | refine ⟨no_bor, ?_⟩)) h_68) ?_
    show Go _ _ _ _ _ [val (pL pInt) rows_0, val pInt at_0, val pInt first_and_0, val pInt count_0, own (oL (pT2 pInt pInt)) ands_52, val pInt k_53, val pInt row_56, val pInt size_58, val pInt r_62, val pInt r_67]
    obtain ⟨h_69, hm⟩ := guardO_some hm
    refine go_append (pl_name 4 (by repeat' (first | exact Stb.nil | exact trivial | exact stb_map (fun _ => trivial) _ | refine Stb.cons ?_ ?_)) (hso := own_some)) (x_tup2 (xa_cons (x_var 8) (xa_cons (x_var 9) xa_nil))) h_69 ?_
    show Go _ _ _ _ _ [val (pL pInt) rows_0, val pInt at_0, val pInt first_and_0, val pInt count_0, own (oL (pT2 pInt pInt)) (ands_52 ++ [(r_62, r_67)]), val pInt k_53, val pInt row_56, val pInt size_58, val pInt r_62, val pInt r_67]
    cases hm
    exact go_nil (fun σ H h => ⟨_, rfl, h.wk (by repeat' (first | exact WkL.nil | exact WkS.refl | exact WkS.dead | exact WkS.list | exact WkS.dict | exact WkS.lstS (fun _ => WkS.list) | refine WkL.cons ?_ ?_))⟩)
  · rintro ands_52 hm
    show Go _ _ _ _ _ [val (pL pInt) rows_0, val pInt at_0, val pInt first_and_0, val pInt count_0, own (oL (pT2 pInt pInt)) ands_52, dead, dead, dead, dead, dead]
    cases hm
    exact go_retV 4 rfl own_some (fun v H h => h)
  · rintro r hm v H h
    cases hm

theorem ok__law_name (T : Txt P K mg) : FnOk P w K mg base CX0 1 T.f__law_name T.d__law_name ["row", "k"] (spP (fun (z : (Int) × (Int)) => [val pInt z.1, val pInt z.2]) (fun z => m__law_name z.1 z.2) (fun r => val pStr r)) := by
  refine fn_pure T.F__law_name sc__law_name (fun _ => rfl) (fun cdv A outer s H E hr z r B hm => ?_)
  obtain ⟨row_0, k_0⟩ := z
  replace hm : m__law_name row_0 k_0 = some r := hm
  unfold m__law_name at hm
  show Go _ _ _ _ _ [val pInt row_0, val pInt k_0, dead, dead, dead, dead, dead]
  obtain ⟨signs_70, h_71, hm⟩ := letO_some hm
  refine go_set 2 (XV.eqV x_str h_71) ?_
  show Go _ _ _ _ _ [val pInt row_0, val pInt k_0, val pStr signs_70, dead, dead, dead, dead]
  obtain ⟨rest_72, h_73, hm⟩ := letO_some hm
  refine go_set 3 (XV.eqV (x_op (fun _ => op_fdiv) (o_intC ⟨by decide, by decide⟩) (x_callTy (fun _ => call_int1) T.g_int (by decide +kernel) o_intI (xa1 (x_var 0))) x_int) h_73) ?_
  show Go _ _ _ _ _ [val pInt row_0, val pInt k_0, val pStr signs_70, val pInt rest_72, dead, dead, dead]
  obtain ⟨h_76, hm⟩ := guardO_some hm
  obtain ⟨c_74, h_75, hm⟩ := Option.bind_eq_some_iff.mp hm
  obtain ⟨name_77, h_78, hm⟩ := letO_some hm
  refine go_set 4 (XV.eqV (x_ixS (x_var 2) (x_op (fun _ => op_mod) (o_intC (by decide)) (x_callTy (fun _ => call_int1) T.g_int (by decide +kernel) o_intI (xa1 (x_var 0))) x_int) h_76 h_75) h_78) ?_
  show Go _ _ _ _ _ [val pInt row_0, val pInt k_0, val pStr signs_70, val pInt rest_72, val pStr name_77, dead, dead]
  obtain ⟨h_80, hm⟩ := guardO_some hm
  refine go_forK (rs := val pInt) (fun s => [val pInt row_0, val pInt k_0, val pStr signs_70, val pInt s.1, val pStr s.2, dead, dead]) (fun r => val pStr r) (xi_range1 T.g_range (x_op (fun _ => op_mod) (o_intC (by decide)) (x_op (fun _ => op_fdiv) (o_intC ⟨by decide, by decide⟩) (x_callTy (fun _ => call_int1) T.g_int (by decide +kernel) o_intI (xa1 (x_var 0))) x_int) x_int) h_80) (by repeat' (first | exact WkL.nil | exact WkS.refl | exact WkS.dead | exact WkS.list | exact WkS.dict | exact WkS.lstS (fun _ => WkS.list) | refine WkL.cons ?_ ?_)) hm ?_ ?_ ?_
  · rintro B1 j_83 s out hx hm hr1 hl1
    obtain ⟨rest_81, name_82⟩ := s
    refine ⟨_, _, (xg_name 5), ?_⟩
    show Go _ _ _ _ _ [val pInt row_0, val pInt k_0, val pStr signs_70, val pInt rest_81, val pStr name_82, val pInt j_83, dead]
    obtain ⟨h_86, hm⟩ := guardO_some hm
    obtain ⟨c_84, h_85, hm⟩ := Option.bind_eq_some_iff.mp hm
    obtain ⟨h_87, hm⟩ := guardO_some hm
    obtain ⟨name_88, h_89, hm⟩ := letO_some hm
    refine go_set 4 (XV.eqV (x_op (fun _ => op_add_str) (o_addS h_87) (x_var 4) (x_ixS (x_var 2) (x_op (fun _ => op_mod) (o_intC (by decide)) (x_var 3) x_int) h_86 h_85)) h_89) ?_
    show Go _ _ _ _ _ [val pInt row_0, val pInt k_0, val pStr signs_70, val pInt rest_81, val pStr name_88, val pInt j_83, dead]
    obtain ⟨rest_90, h_91, hm⟩ := letO_some hm
    refine go_set 3 (XV.eqV (x_op (fun _ => op_fdiv) (o_intC ⟨by decide, by decide⟩) (x_var 3) x_int) h_91) ?_
    show Go _ _ _ _ _ [val pInt row_0, val pInt k_0, val pStr signs_70, val pInt rest_90, val pStr name_88, val pInt j_83, dead]
    cases hm
    exact go_nil (fun σ H h => ⟨_, rfl, h.wk (by repeat' (first | exact WkL.nil | exact WkS.refl | exact WkS.dead | exact WkS.list | exact WkS.dict | exact WkS.lstS (fun _ => WkS.list) | refine WkL.cons ?_ ?_))⟩)
  · rintro s hm
    obtain ⟨rest_81, name_82⟩ := s
    show Go _ _ _ _ _ [val pInt row_0, val pInt k_0, val pStr signs_70, val pInt rest_81, val pStr name_82, dead, dead]
    obtain ⟨h_92, hm⟩ := guardO_some hm
    obtain ⟨h_93, hm⟩ := guardO_some hm
    obtain ⟨place_94, h_95, hm⟩ := letO_some hm
    refine go_set 6 (XV.eqV (x_op (fun _ => op_add) o_int x_int (x_op (fun _ => op_mod) (o_intC h_93) (x_var 3) (x_callB (fun _ => call_len_str) T.g_len (by decide +kernel) (o_lenS h_92) (xa1 (x_var 4))))) h_95) ?_
    show Go _ _ _ _ _ [val pInt row_0, val pInt k_0, val pStr signs_70, val pInt rest_81, val pStr name_82, dead, val pInt place_94]
    obtain ⟨h_96, hm⟩ := guardO_some hm
    obtain ⟨h_97, hm⟩ := guardO_some hm
    obtain ⟨h_98, hm⟩ := guardO_some hm
    obtain ⟨h_99, hm⟩ := guardO_some hm
    obtain ⟨h_100, hm⟩ := guardO_some hm
    obtain ⟨h_101, hm⟩ := guardO_some hm
    cases hm
    exact go_ret (x_op (fun _ => op_add_str) (o_addS h_101) (x_op (fun _ => op_add_str) (o_addS h_99) (x_op (fun _ => op_add_str) (o_addS h_97) (x_slcS (x_var 4) h_96 xo_none (xo_some (x_var 6))) x_str) (x_callTy (fun _ => call_str_int) T.g_str (by decide +kernel) (o_strI h_98) (xa1 (x_var 1)))) (x_slcS (x_var 4) h_100 (xo_some (x_var 6)) xo_none)) (fun v H h => h)
  · rintro r hm v H h
    cases hm

theorem ok__law_parts (T : Txt P K mg) : FnOk P w K mg base CX0 3 T.f__law_parts T.d__law_parts ["rows", "most_inputs", "most_latches", "most_ands"] (spP (fun (z : (List (Int)) × (Int) × (Int) × (Int)) => [val (pL pInt) z.1, val pInt z.2.1, val pInt z.2.2.1, val pInt z.2.2.2]) (fun z => m__law_parts z.1 z.2.1 z.2.2.1 z.2.2.2) (fun r => val (pHT slH_0) r)) := by
  refine fn_pure T.F__law_parts sc__law_parts (fun _ => rfl) (fun cdv A outer s H E hr z r B hm => ?_)
  obtain ⟨rows_0, most_inputs_0, most_latches_0, most_ands_0⟩ := z
  replace hm : m__law_parts rows_0 most_inputs_0 most_latches_0 most_ands_0 = some r := hm
  unfold m__law_parts at hm
  show Go _ _ _ _ _ [val (pL pInt) rows_0, val pInt most_inputs_0, val pInt most_latches_0, val pInt most_ands_0, dead, dead, dead, dead, dead, dead, dead, dead, dead, dead, dead, dead, dead]
  obtain ⟨v_102, h_103, hm⟩ := Option.bind_eq_some_iff.mp hm
  refine go_set 4 (x_callTy (fun _ => call_int1) T.g_int (by decide +kernel) o_intI (xa1 (x_ix (x_var 0) LV.val.sv x_int h_103))) ?_
  show Go _ _ _ _ _ [val (pL pInt) rows_0, val pInt most_inputs_0, val pInt most_latches_0, val pInt most_ands_0, val pInt v_102, dead, dead, dead, dead, dead, dead, dead, dead, dead, dead, dead, dead]
  obtain ⟨h_104, hm⟩ := guardO_some hm
  obtain ⟨input_count_105, h_106, hm⟩ := letO_some hm
  refine go_set 5 (XV.eqV (x_op (fun _ => op_mod) (o_intC h_104) (x_var 4) (x_op (fun _ => op_add) o_int (x_var 1) x_int)) h_106) ?_
  show Go _ _ _ _ _ [val (pL pInt) rows_0, val pInt most_inputs_0, val pInt most_latches_0, val pInt most_ands_0, val pInt v_102, val pInt input_count_105, dead, dead, dead, dead, dead, dead, dead, dead, dead, dead, dead]
  obtain ⟨h_107, hm⟩ := guardO_some hm
  obtain ⟨head_108, h_109, hm⟩ := letO_some hm
  refine go_set 4 (XV.eqV (x_op (fun _ => op_fdiv) (o_intC h_107) (x_var 4) (x_op (fun _ => op_add) o_int (x_var 1) x_int)) h_109) ?_
  show Go _ _ _ _ _ [val (pL pInt) rows_0, val pInt most_inputs_0, val pInt most_latches_0, val pInt most_ands_0, val pInt head_108, val pInt input_count_105, dead, dead, dead, dead, dead, dead, dead, dead, dead, dead, dead]
  obtain ⟨h_110, hm⟩ := guardO_some hm
  obtain ⟨latch_count_111, h_112, hm⟩ := letO_some hm
  refine go_set 6 (XV.eqV (x_op (fun _ => op_mod) (o_intC h_110) (x_var 4) (x_op (fun _ => op_add) o_int (x_var 2) x_int)) h_112) ?_
  show Go _ _ _ _ _ [val (pL pInt) rows_0, val pInt most_inputs_0, val pInt most_latches_0, val pInt most_ands_0, val pInt head_108, val pInt input_count_105, val pInt latch_count_111, dead, dead, dead, dead, dead, dead, dead, dead, dead, dead]
  obtain ⟨h_113, hm⟩ := guardO_some hm
  obtain ⟨head_114, h_115, hm⟩ := letO_some hm
  refine go_set 4 (XV.eqV (x_op (fun _ => op_fdiv) (o_intC h_113) (x_var 4) (x_op (fun _ => op_add) o_int (x_var 2) x_int)) h_115) ?_
  show Go _ _ _ _ _ [val (pL pInt) rows_0, val pInt most_inputs_0, val pInt most_latches_0, val pInt most_ands_0, val pInt head_114, val pInt input_count_105, val pInt latch_count_111, dead, dead, dead, dead, dead, dead, dead, dead, dead, dead]
  obtain ⟨h_116, hm⟩ := guardO_some hm
  obtain ⟨gate_count_117, h_118, hm⟩ := letO_some hm
  refine go_set 7 (XV.eqV (x_op (fun _ => op_mod) (o_intC h_116) (x_var 4) (x_op (fun _ => op_add) o_int (x_var 3) x_int)) h_118) ?_
  show Go _ _ _ _ _ [val (pL pInt) rows_0, val pInt most_inputs_0, val pInt most_latches_0, val pInt most_ands_0, val pInt head_114, val pInt input_count_105, val pInt latch_count_111, val pInt gate_count_117, dead, dead, dead, dead, dead, dead, dead, dead, dead]
  obtain ⟨h_119, hm⟩ := guardO_some hm
  obtain ⟨output_count_120, h_121, hm⟩ := letO_some hm
  refine go_set 8 (XV.eqV (x_op (fun _ => op_add) o_int x_int (x_op (fun _ => op_mod) (o_intC (by decide)) (x_op (fun _ => op_fdiv) (o_intC h_119) (x_var 4) (x_op (fun _ => op_add) o_int (x_var 3) x_int)) x_int)) h_121) ?_
  show Go _ _ _ _ _ [val (pL pInt) rows_0, val pInt most_inputs_0, val pInt most_latches_0, val pInt most_ands_0, val pInt head_114, val pInt input_count_105, val pInt latch_count_111, val pInt gate_count_117, val pInt output_count_120, dead, dead, dead, dead, dead, dead, dead, dead]
  obtain ⟨h_123, hm⟩ := guardO_some hm
  obtain ⟨h_131, hm⟩ := guardO_some hm
  obtain ⟨ys_124, h_125, hm⟩ := Option.bind_eq_some_iff.mp hm
  refine go_setLc 9 (rs := val pInt) (own := [("k", 14)]) (xi_range1 T.g_range (x_op (fun _ => op_add) o_int (x_var 5) (x_var 6)) h_123).ro ⟨fun _ => blkOk_by (N := N__law_parts) (sc := defScope s__law_parts) (by decide +kernel), fun _ _ => rfl⟩ h_131 h_125 ⟨rfl, trivial⟩ (fun k_126 o hx hm => by obtain ⟨v_127, h_128, hm⟩ := Option.bind_eq_some_iff.mp hm; obtain ⟨r_129, h_130, hm⟩ := Option.bind_eq_some_iff.mp hm; cases hm; exact ⟨_, _, rfl, (xg_name 14), lc_el (x_call (z := (v_127, k_126)) (ok__law_name T) (by decide) T.g__law_name T.k__law_name T.b__law_name (xa_cons (x_ix (x_var 0) LV.val.sv (x_op (fun _ => op_add) o_int x_int (x_var 14)) h_128) (xa_cons (x_var 14) xa_nil)) rfl (by repeat' (first | exact trivial | refine ⟨no_val, ?_⟩ | refine ⟨no_borL, ?_⟩ | refine ⟨no_bor, ?_⟩)) h_130)⟩) ?_ (hsw := sw_true rfl rfl rfl (by decide +kernel))
  show Go _ _ _ _ _ [val (pL pInt) rows_0, val pInt most_inputs_0, val pInt most_latches_0, val pInt most_ands_0, val pInt head_114, val pInt input_count_105, val pInt latch_count_111, val pInt gate_count_117, val pInt output_count_120, own (oL pStr) ys_124, dead, dead, dead, dead, dead, dead, dead]
  obtain ⟨first_and_132, h_133, hm⟩ := letO_some hm
  refine go_set 10 (XV.eqV (x_op (fun _ => op_add) o_int (x_op (fun _ => op_add) o_int x_int (x_var 5)) (x_var 6)) h_133) ?_
  show Go _ _ _ _ _ [val (pL pInt) rows_0, val pInt most_inputs_0, val pInt most_latches_0, val pInt most_ands_0, val pInt head_114, val pInt input_count_105, val pInt latch_count_111, val pInt gate_count_117, val pInt output_count_120, own (oL pStr) ys_124, val pInt first_and_132, dead, dead, dead, dead, dead, dead]
  obtain ⟨size_134, h_135, hm⟩ := letO_some hm
  refine go_set 11 (XV.eqV (x_op (fun _ => op_add) o_int (x_var 10) (x_var 7)) h_135) ?_
  show Go _ _ _ _ _ [val (pL pInt) rows_0, val pInt most_inputs_0, val pInt most_latches_0, val pInt most_ands_0, val pInt head_114, val pInt input_count_105, val pInt latch_count_111, val pInt gate_count_117, val pInt output_count_120, own (oL pStr) ys_124, val pInt first_and_132, val pInt size_134, dead, dead, dead, dead, dead]
  obtain ⟨r_136, h_137, hm⟩ := Option.bind_eq_some_iff.mp hm
  refine go_set 12 (x_call (z := (rows_0, (9 : Int), first_and_132, gate_count_117)) (ok__law_ands T) (by decide) T.g__law_ands T.k__law_ands T.b__law_ands (xa_cons (x_var 0) (xa_cons x_int (xa_cons (x_var 10) (xa_cons (x_var 7) xa_nil)))) rfl (by repeat' (first | exact trivial | refine ⟨no_val, ?_⟩ | refine ⟨no_borL, ?_⟩ | refine ⟨no_bor, ?_⟩)) h_137) ?_
  show Go _ _ _ _ _ [val (pL pInt) rows_0, val pInt most_inputs_0, val pInt most_latches_0, val pInt most_ands_0, val pInt head_114, val pInt input_count_105, val pInt latch_count_111, val pInt gate_count_117, val pInt output_count_120, own (oL pStr) ys_124, val pInt first_and_132, val pInt size_134, own (oL (pT2 pInt pInt)) r_136, dead, dead, dead, dead]
  refine go_set 13 (x_lst (p := (pT3 pStr pInt pInt)) (xs := []) xa_nil (Nat.zero_le _)) ?_
  show Go _ _ _ _ _ [val (pL pInt) rows_0, val pInt most_inputs_0, val pInt most_latches_0, val pInt most_ands_0, val pInt head_114, val pInt input_count_105, val pInt latch_count_111, val pInt gate_count_117, val pInt output_count_120, own (oL pStr) ys_124, val pInt first_and_132, val pInt size_134, own (oL (pT2 pInt pInt)) r_136, own (oL (pT3 pStr pInt pInt)) ([] : List ((Str) × (Int) × (Int))), dead, dead, dead]
  obtain ⟨h_139, hm⟩ := guardO_some hm
  refine go_forK (rs := val pInt) (fun s => [val (pL pInt) rows_0, val pInt most_inputs_0, val pInt most_latches_0, val pInt most_ands_0, val pInt head_114, val pInt input_count_105, val pInt latch_count_111, val pInt gate_count_117, val pInt output_count_120, own (oL pStr) ys_124, val pInt first_and_132, val pInt size_134, own (oL (pT2 pInt pInt)) r_136, own (oL (pT3 pStr pInt pInt)) s, dead, dead, dead]) (fun r => val (pHT slH_0) r) (xi_range1 T.g_range (x_var 6) h_139) (by repeat' (first | exact WkL.nil | exact WkS.refl | exact WkS.dead | exact WkS.list | exact WkS.dict | exact WkS.lstS (fun _ => WkS.list) | refine WkL.cons ?_ ?_)) hm ?_ ?_ ?_
  · rintro B1 k_141 latches_140 out hx hm hr1 hl1
    refine ⟨_, _, (xg_name 14), ?_⟩
    show Go _ _ _ _ _ [val (pL pInt) rows_0, val pInt most_inputs_0, val pInt most_latches_0, val pInt most_ands_0, val pInt head_114, val pInt input_count_105, val pInt latch_count_111, val pInt gate_count_117, val pInt output_count_120, own (oL pStr) ys_124, val pInt first_and_132, val pInt size_134, own (oL (pT2 pInt pInt)) r_136, own (oL (pT3 pStr pInt pInt)) latches_140, val pInt k_141, dead, dead]
    obtain ⟨v_142, h_143, hm⟩ := Option.bind_eq_some_iff.mp hm
    refine go_set 15 (x_ix (x_var 0) LV.val.sv (x_op (fun _ => op_add) o_int x_int (x_var 14)) h_143) ?_
    show Go _ _ _ _ _ [val (pL pInt) rows_0, val pInt most_inputs_0, val pInt most_latches_0, val pInt most_ands_0, val pInt head_114, val pInt input_count_105, val pInt latch_count_111, val pInt gate_count_117, val pInt output_count_120, own (oL pStr) ys_124, val pInt first_and_132, val pInt size_134, own (oL (pT2 pInt pInt)) r_136, own (oL (pT3 pStr pInt pInt)) latches_140, val pInt k_141, val pInt v_142, dead]
    obtain ⟨v_144, h_145, hm⟩ := Option.bind_eq_some_iff.mp hm
    obtain ⟨r_146, h_147, hm⟩ := Option.bind_eq_some_iff.mp hm
    obtain ⟨h_148, hm⟩ := guardO_some hm
    refine go_append (pl_name 13 (by repeat' (first | exact Stb.nil | exact trivial | exact stb_map (fun _ => trivial) _ | refine Stb.cons ?_ ?_)) (hso := own_some)) (x_tup3 (xa_cons (x_ix (x_varL 9) LV.bor.sv (x_op (fun _ => op_add) o_int (x_var 5) (x_var 14)) h_145) (xa_cons (x_op (fun _ => op_mod) (o_intC (by decide)) (x_callTy (fun _ => call_int1) T.g_int (by decide +kernel) o_intI (xa1 (x_var 15))) x_int) (xa_cons (x_call (z := ((v_142 / (4 : Int)), (v_142 / (2 : Int)), size_134)) (ok__law_literal T) (by decide) T.g__law_literal T.k__law_literal T.b__law_literal (xa_cons (x_op (fun _ => op_fdiv) (o_intC ⟨by decide, by decide⟩) (x_var 15) x_int) (xa_cons (x_op (fun _ => op_fdiv) (o_intC ⟨by decide, by decide⟩) (x_var 15) x_int) (xa_cons (x_var 11) xa_nil))) rfl (by repeat' (first | exact trivial | refine ⟨no_val, ?_⟩ | refine ⟨no_borL, ?_⟩ | refine ⟨no_bor, ?_⟩)) h_147) xa_nil)))) h_148 ?_
    show Go _ _ _ _ _ [val (pL pInt) rows_0, val pInt most_inputs_0, val pInt most_latches_0, val pInt most_ands_0, val pInt head_114, val pInt input_count_105, val pInt latch_count_111, val pInt gate_count_117, val pInt output_count_120, own (oL pStr) ys_124, val pInt first_and_132, val pInt size_134, own (oL (pT2 pInt pInt)) r_136, own (oL (pT3 pStr pInt pInt)) (latches_140 ++ [(v_144, (v_142 % (2 : Int)), r_146)]), val pInt k_141, val pInt v_142, dead]
    cases hm
    exact go_nil (fun σ H h => ⟨_, rfl, h.wk (by repeat' (first | exact WkL.nil | exact WkS.refl | exact WkS.dead | exact WkS.list | exact WkS.dict | exact WkS.lstS (fun _ => WkS.list) | refine WkL.cons ?_ ?_))⟩)
  · rintro latches_140 hm
    show Go _ _ _ _ _ [val (pL pInt) rows_0, val pInt most_inputs_0, val pInt most_latches_0, val pInt most_ands_0, val pInt head_114, val pInt input_count_105, val pInt latch_count_111, val pInt gate_count_117, val pInt output_count_120, own (oL pStr) ys_124, val pInt first_and_132, val pInt size_134, own (oL (pT2 pInt pInt)) r_136, own (oL (pT3 pStr pInt pInt)) latches_140, dead, dead, dead]
    refine go_set 16 (x_lst (p := (pT2 pStr pInt)) (xs := []) xa_nil (Nat.zero_le _)) ?_
    show Go _ _ _ _ _ [val (pL pInt) rows_0, val pInt most_inputs_0, val pInt most_latches_0, val pInt most_ands_0, val pInt head_114, val pInt input_count_105, val pInt latch_count_111, val pInt gate_count_117, val pInt output_count_120, own (oL pStr) ys_124, val pInt first_and_132, val pInt size_134, own (oL (pT2 pInt pInt)) r_136, own (oL (pT3 pStr pInt pInt)) latches_140, dead, dead, own (oL (pT2 pStr pInt)) ([] : List ((Str) × (Int)))]
    obtain ⟨h_150, hm⟩ := guardO_some hm
    refine go_forK (rs := val pInt) (fun s => [val (pL pInt) rows_0, val pInt most_inputs_0, val pInt most_latches_0, val pInt most_ands_0, val pInt head_114, val pInt input_count_105, val pInt latch_count_111, val pInt gate_count_117, val pInt output_count_120, own (oL pStr) ys_124, val pInt first_and_132, val pInt size_134, own (oL (pT2 pInt pInt)) r_136, own (oL (pT3 pStr pInt pInt)) latches_140, dead, dead, own (oL (pT2 pStr pInt)) s]) (fun r => val (pHT slH_0) r) (xi_range1 T.g_range (x_var 8) h_150) (by repeat' (first | exact WkL.nil | exact WkS.refl | exact WkS.dead | exact WkS.list | exact WkS.dict | exact WkS.lstS (fun _ => WkS.list) | refine WkL.cons ?_ ?_)) hm ?_ ?_ ?_
    · rintro B1 k_152 outputs_151 out hx hm hr1 hl1
      refine ⟨_, _, (xg_name 14), ?_⟩
      show Go _ _ _ _ _ [val (pL pInt) rows_0, val pInt most_inputs_0, val pInt most_latches_0, val pInt most_ands_0, val pInt head_114, val pInt input_count_105, val pInt latch_count_111, val pInt gate_count_117, val pInt output_count_120, own (oL pStr) ys_124, val pInt first_and_132, val pInt size_134, own (oL (pT2 pInt pInt)) r_136, own (oL (pT3 pStr pInt pInt)) latches_140, val pInt k_152, dead, own (oL (pT2 pStr pInt)) outputs_151]
      obtain ⟨v_153, h_154, hm⟩ := Option.bind_eq_some_iff.mp hm
      refine go_set 15 (x_ix (x_var 0) LV.val.sv (x_op (fun _ => op_add) o_int x_int (x_var 14)) h_154) ?_
      show Go _ _ _ _ _ [val (pL pInt) rows_0, val pInt most_inputs_0, val pInt most_latches_0, val pInt most_ands_0, val pInt head_114, val pInt input_count_105, val pInt latch_count_111, val pInt gate_count_117, val pInt output_count_120, own (oL pStr) ys_124, val pInt first_and_132, val pInt size_134, own (oL (pT2 pInt pInt)) r_136, own (oL (pT3 pStr pInt pInt)) latches_140, val pInt k_152, val pInt v_153, own (oL (pT2 pStr pInt)) outputs_151]
      obtain ⟨r_155, h_156, hm⟩ := Option.bind_eq_some_iff.mp hm
      obtain ⟨r_157, h_158, hm⟩ := Option.bind_eq_some_iff.mp hm
      obtain ⟨h_159, hm⟩ := guardO_some hm
      refine go_append (pl_name 16 (by repeat' (first | exact Stb.nil | exact trivial | exact stb_map (fun _ => trivial) _ | refine Stb.cons ?_ ?_)) (hso := own_some)) (x_tup2 (xa_cons (x_call (z := ((v_153 / (7 : Int)), k_152)) (ok__law_name T) (by decide) T.g__law_name T.k__law_name T.b__law_name (xa_cons (x_op (fun _ => op_fdiv) (o_intC ⟨by decide, by decide⟩) (x_var 15) x_int) (xa_cons (x_var 14) xa_nil)) rfl (by repeat' (first | exact trivial | refine ⟨no_val, ?_⟩ | refine ⟨no_borL, ?_⟩ | refine ⟨no_bor, ?_⟩)) h_156) (xa_cons (x_call (z := ((v_153 / (2 : Int)), v_153, size_134)) (ok__law_literal T) (by decide) T.g__law_literal T.k__law_literal T.b__law_literal (xa_cons (x_op (fun _ => op_fdiv) (o_intC ⟨by decide, by decide⟩) (x_var 15) x_int) (xa_cons (x_var 15) (xa_cons (x_var 11) xa_nil))) rfl (by repeat' (first | exact trivial | refine ⟨no_val, ?_⟩ | refine ⟨no_borL, ?_⟩ | refine ⟨no_bor, ?_⟩)) h_158) xa_nil))) h_159 ?_
      show Go _ _ _ _ _ [val (pL pInt) rows_0, val pInt most_inputs_0, val pInt most_latches_0, val pInt most_ands_0, val pInt head_114, val pInt input_count_105, val pInt latch_count_111, val pInt gate_count_117, val pInt output_count_120, own (oL pStr) ys_124, val pInt first_and_132, val pInt size_134, own (oL (pT2 pInt pInt)) r_136, own (oL (pT3 pStr pInt pInt)) latches_140, val pInt k_152, val pInt v_153, own (oL (pT2 pStr pInt)) (outputs_151 ++ [(r_155, r_157)])]
      cases hm
      exact go_nil (fun σ H h => ⟨_, rfl, h.wk (by repeat' (first | exact WkL.nil | exact WkS.refl | exact WkS.dead | exact WkS.list | exact WkS.dict | exact WkS.lstS (fun _ => WkS.list) | refine WkL.cons ?_ ?_))⟩)
    · rintro outputs_151 hm
      show Go _ _ _ _ _ [val (pL pInt) rows_0, val pInt most_inputs_0, val pInt most_latches_0, val pInt most_ands_0, val pInt head_114, val pInt input_count_105, val pInt latch_count_111, val pInt gate_count_117, val pInt output_count_120, own (oL pStr) ys_124, val pInt first_and_132, val pInt size_134, own (oL (pT2 pInt pInt)) r_136, own (oL (pT3 pStr pInt pInt)) latches_140, dead, dead, own (oL (pT2 pStr pInt)) outputs_151]
      refine go_wk (Γ' := [val (pL pInt) rows_0, val pInt most_inputs_0, val pInt most_latches_0, val pInt most_ands_0, val pInt head_114, val pInt input_count_105, val pInt latch_count_111, val pInt gate_count_117, val pInt output_count_120, own (oL pStr) ys_124, val pInt first_and_132, val pInt size_134, own (oL (pT2 pInt pInt)) r_136, val (pL (pT3 pStr pInt pInt)) latches_140, dead, dead, own (oL (pT2 pStr pInt)) outputs_151]) ?_ (WkL.at (j := 13) WkS.list rfl)
      refine go_wk (Γ' := [val (pL pInt) rows_0, val pInt most_inputs_0, val pInt most_latches_0, val pInt most_ands_0, val pInt head_114, val pInt input_count_105, val pInt latch_count_111, val pInt gate_count_117, val pInt output_count_120, own (oL pStr) ys_124, val pInt first_and_132, val pInt size_134, val (pL (pT2 pInt pInt)) r_136, val (pL (pT3 pStr pInt pInt)) latches_140, dead, dead, own (oL (pT2 pStr pInt)) outputs_151]) ?_ (WkL.at (j := 12) WkS.list rfl)
      refine go_wk (Γ' := [val (pL pInt) rows_0, val pInt most_inputs_0, val pInt most_latches_0, val pInt most_ands_0, val pInt head_114, val pInt input_count_105, val pInt latch_count_111, val pInt gate_count_117, val pInt output_count_120, own (oL pStr) ys_124, val pInt first_and_132, val pInt size_134, val (pL (pT2 pInt pInt)) r_136, val (pL (pT3 pStr pInt pInt)) latches_140, dead, dead, val (pL (pT2 pStr pInt)) outputs_151]) ?_ (WkL.at (j := 16) WkS.list rfl)
      cases hm
      exact go_ret (x_tupH (sl := slH_0) (z := ((cutL ys_124 none (some input_count_105)), latches_140, r_136, outputs_151)) (xa_cons (XV.frz (x_slc (x_varL 9) LV.bor.sv xo_none (xo_some (x_var 5)))) (xa_cons (x_var 13) (xa_cons (x_var 12) (xa_cons (x_var 16) xa_nil)))) (by repeat' (first | exact trivial | refine ⟨⟨_, _, _, rfl⟩, ?_⟩)) (le_line rfl)) (fun v H h => h)
    · rintro r hm v H h
      cases hm
  · rintro r hm v H h
    cases hm

theorem ok_joined_words (T : Txt P K mg) : FnOk P w K mg base CX0 1 T.f_joined_words T.d_joined_words ["word", "numbers"] (spP (fun (z : (Str) × ((Int) × (Int))) => [val pStr z.1, val (pT2 pInt pInt) z.2]) (fun z => m_joined_words z.1 z.2) (fun r => val pStr r)) := by
  refine fn_pure T.F_joined_words sc_joined_words (fun _ => rfl) (fun cdv A outer s H E hr z r B hm => ?_)
  obtain ⟨word_0, numbers_0⟩ := z
  replace hm : m_joined_words word_0 numbers_0 = some r := hm
  unfold m_joined_words at hm
  show Go _ _ _ _ _ [val pStr word_0, val (pT2 pInt pInt) numbers_0, dead]
  obtain ⟨h_164, hm⟩ := guardO_some hm
  obtain ⟨ys_160, h_161, hm⟩ := Option.bind_eq_some_iff.mp hm
  obtain ⟨h_165, hm⟩ := guardO_some hm
  obtain ⟨h_166, hm⟩ := guardO_some hm
  cases hm
  exact go_ret (x_join x_str (x_op (fun _ => op_cat) (o_cat LV.own LV.own h_165) (x_lst (xs := [word_0]) (xa_cons (x_var 0) xa_nil) (le_line rfl)) (x_lc (rs := val pInt) (own := [("number", 2)]) (xi_t2 (x_var (z := numbers_0) 1)).ro ⟨fun _ => blkOk_by (N := N_joined_words) (sc := defScope s_joined_words) (by decide +kernel), fun _ _ => rfl⟩ h_164 h_161 ⟨rfl, trivial⟩ (fun number_162 o hx hm => by obtain ⟨h_163, hm⟩ := guardO_some hm; cases hm; exact ⟨_, _, rfl, (xg_name 2), lc_el (x_callTy (fun _ => call_str_int) T.g_str (by decide +kernel) (o_strI h_163) (xa1 (x_var 2)))⟩))) LV.own.sv h_166) (fun v H h => h)

theorem ok_circuit_lines (T : Txt P K mg) : FnOk P w K mg base CX0 2 T.f_circuit_lines T.d_circuit_lines ["circuit"] (spP (fun (z : (S_Circuit)) => [val (pObj T.C_Circuit ns_Circuit sl_Circuit) z]) (fun z => m_circuit_lines z) (fun r => own (oL pStr) r)) := by
  refine fn_pure T.F_circuit_lines sc_circuit_lines (fun _ => rfl) (fun cdv A outer s H E hr circuit_0 r B hm => ?_)
  replace hm : m_circuit_lines circuit_0 = some r := hm
  unfold m_circuit_lines at hm
  show Go _ _ _ _ _ [val (pObj T.C_Circuit ns_Circuit sl_Circuit) circuit_0, dead, dead, dead, dead, dead]
  refine go_set 1 (x_lst (xs := [("circuit" : Str)]) (xa_cons x_str xa_nil) (le_line rfl)) ?_
  show Go _ _ _ _ _ [val (pObj T.C_Circuit ns_Circuit sl_Circuit) circuit_0, own (oL pStr) ([("circuit" : Str)]), dead, dead, dead, dead]
  obtain ⟨h_172, hm⟩ := guardO_some hm
  obtain ⟨ys_167, h_168, hm⟩ := Option.bind_eq_some_iff.mp hm
  obtain ⟨h_173, hm⟩ := guardO_some hm
  refine go_extend (pl_name 1 (by repeat' (first | exact Stb.nil | exact trivial | exact stb_map (fun _ => trivial) _ | refine Stb.cons ?_ ?_)) (hso := own_some)) (x_lc (rs := val pStr) (own := [("name", 2)]) (xi_list (x_fld 0 (x_var 0) OV.val T.at_Circuit_inputs)).ro ⟨fun _ => blkOk_by (N := N_circuit_lines) (sc := defScope s_circuit_lines) (by decide +kernel), fun _ _ => rfl⟩ h_172 h_168 ⟨rfl, trivial⟩ (fun name_169 o hx hm => by obtain ⟨h_170, hm⟩ := guardO_some hm; obtain ⟨h_171, hm⟩ := guardO_some hm; cases hm; exact ⟨_, _, rfl, (xg_name 2), lc_el (x_joined (xj_c x_str (by simp only [PySem.Str.length_append, slen0]; omega) (xj_c (x_fmtS (x_var 2) h_170) (by simp only [PySem.Str.length_append, slen0]; omega) xj_nil)))⟩)) LV.own h_173 ?_
  show Go _ _ _ _ _ [val (pObj T.C_Circuit ns_Circuit sl_Circuit) circuit_0, own (oL pStr) ([("circuit" : Str)] ++ ys_167), dead, dead, dead, dead]
  obtain ⟨h_181, hm⟩ := guardO_some hm
  obtain ⟨ys_174, h_175, hm⟩ := Option.bind_eq_some_iff.mp hm
  obtain ⟨h_182, hm⟩ := guardO_some hm
  refine go_extend (pl_name 1 (by repeat' (first | exact Stb.nil | exact trivial | exact stb_map (fun _ => trivial) _ | refine Stb.cons ?_ ?_)) (hso := own_some)) (x_lc (rs := val (pT3 pStr pInt pInt)) (own := [("name", 2), ("start", 3), ("literal", 4)]) (xi_list (x_fld 1 (x_var 0) OV.val T.at_Circuit_latches)).ro ⟨fun _ => blkOk_by (N := N_circuit_lines) (sc := defScope s_circuit_lines) (by decide +kernel), fun _ _ => rfl⟩ h_181 h_175 ⟨rfl, rfl, rfl, trivial⟩ (fun p_176 o hx hm => by obtain ⟨h_177, hm⟩ := guardO_some hm; obtain ⟨h_178, hm⟩ := guardO_some hm; obtain ⟨h_179, hm⟩ := guardO_some hm; obtain ⟨h_180, hm⟩ := guardO_some hm; cases hm; exact ⟨_, _, rfl, (xg_tup3 (xgs_cons (xg_name 2) (xgs_cons (xg_name 3) (xgs_cons (xg_name 4) xgs_nil)))), lc_el (x_joined (xj_c x_str (by simp only [PySem.Str.length_append, slen0]; omega) (xj_c (x_fmtS (x_var 2) h_177) (by simp only [PySem.Str.length_append, slen0]; omega) (xj_c x_str (by simp only [PySem.Str.length_append, slen0]; omega) (xj_c (x_fmtI (x_var 3) h_178) (by simp only [PySem.Str.length_append, slen0]; omega) (xj_c x_str (by simp only [PySem.Str.length_append, slen0]; omega) (xj_c (x_fmtI (x_var 4) h_179) (by simp only [PySem.Str.length_append, slen0]; omega) xj_nil)))))))⟩)) LV.own h_182 ?_
  show Go _ _ _ _ _ [val (pObj T.C_Circuit ns_Circuit sl_Circuit) circuit_0, own (oL pStr) (([("circuit" : Str)] ++ ys_167) ++ ys_174), dead, dead, dead, dead]
  obtain ⟨h_188, hm⟩ := guardO_some hm
  obtain ⟨ys_183, h_184, hm⟩ := Option.bind_eq_some_iff.mp hm
  obtain ⟨h_189, hm⟩ := guardO_some hm
  refine go_extend (pl_name 1 (by repeat' (first | exact Stb.nil | exact trivial | exact stb_map (fun _ => trivial) _ | refine Stb.cons ?_ ?_)) (hso := own_some)) (x_lc (rs := val (pT2 pInt pInt)) (own := [("pair", 5)]) (xi_list (x_fld 2 (x_var 0) OV.val T.at_Circuit_ands)).ro ⟨fun _ => blkOk_by (N := N_circuit_lines) (sc := defScope s_circuit_lines) (by decide +kernel), fun _ _ => rfl⟩ h_188 h_184 ⟨rfl, trivial⟩ (fun pair_185 o hx hm => by obtain ⟨r_186, h_187, hm⟩ := Option.bind_eq_some_iff.mp hm; cases hm; exact ⟨_, _, rfl, (xg_name 5), lc_el (x_call (z := (("and" : Str), pair_185)) (ok_joined_words T) (by decide) T.g_joined_words T.k_joined_words T.b_joined_words (xa_cons x_str (xa_cons (x_var (z := pair_185) 5) xa_nil)) rfl (by repeat' (first | exact trivial | refine ⟨no_val, ?_⟩ | refine ⟨no_borL, ?_⟩ | refine ⟨no_bor, ?_⟩)) h_187)⟩)) LV.own h_189 ?_
  show Go _ _ _ _ _ [val (pObj T.C_Circuit ns_Circuit sl_Circuit) circuit_0, own (oL pStr) ((([("circuit" : Str)] ++ ys_167) ++ ys_174) ++ ys_183), dead, dead, dead, dead]
  obtain ⟨h_196, hm⟩ := guardO_some hm
  obtain ⟨ys_190, h_191, hm⟩ := Option.bind_eq_some_iff.mp hm
  obtain ⟨h_197, hm⟩ := guardO_some hm
  refine go_extend (pl_name 1 (by repeat' (first | exact Stb.nil | exact trivial | exact stb_map (fun _ => trivial) _ | refine Stb.cons ?_ ?_)) (hso := own_some)) (x_lc (rs := val (pT2 pStr pInt)) (own := [("name", 2), ("literal", 4)]) (xi_list (x_fld 3 (x_var 0) OV.val T.at_Circuit_outputs)).ro ⟨fun _ => blkOk_by (N := N_circuit_lines) (sc := defScope s_circuit_lines) (by decide +kernel), fun _ _ => rfl⟩ h_196 h_191 ⟨rfl, rfl, trivial⟩ (fun p_192 o hx hm => by obtain ⟨h_193, hm⟩ := guardO_some hm; obtain ⟨h_194, hm⟩ := guardO_some hm; obtain ⟨h_195, hm⟩ := guardO_some hm; cases hm; exact ⟨_, _, rfl, (xg_tup2 (xgs_cons (xg_name 2) (xgs_cons (xg_name 4) xgs_nil))), lc_el (x_joined (xj_c x_str (by simp only [PySem.Str.length_append, slen0]; omega) (xj_c (x_fmtS (x_var 2) h_193) (by simp only [PySem.Str.length_append, slen0]; omega) (xj_c x_str (by simp only [PySem.Str.length_append, slen0]; omega) (xj_c (x_fmtI (x_var 4) h_194) (by simp only [PySem.Str.length_append, slen0]; omega) xj_nil)))))⟩)) LV.own h_197 ?_
  show Go _ _ _ _ _ [val (pObj T.C_Circuit ns_Circuit sl_Circuit) circuit_0, own (oL pStr) (((([("circuit" : Str)] ++ ys_167) ++ ys_174) ++ ys_183) ++ ys_190), dead, dead, dead, dead]
  cases hm
  exact go_retV 1 rfl own_some (fun v H h => h)

theorem ok_write_circuit (T : Txt P K mg) : FnOk P w K mg base CX0 3 T.f_write_circuit T.d_write_circuit ["circuit"] (spP (fun (z : (S_Circuit)) => [val (pObj T.C_Circuit ns_Circuit sl_Circuit) z]) (fun z => m_write_circuit z) (fun r => val pStr r)) := by
  refine fn_pure T.F_write_circuit sc_write_circuit (fun _ => rfl) (fun cdv A outer s H E hr circuit_0 r B hm => ?_)
  replace hm : m_write_circuit circuit_0 = some r := hm
  unfold m_write_circuit at hm
  show Go _ _ _ _ _ [val (pObj T.C_Circuit ns_Circuit sl_Circuit) circuit_0, dead]
  obtain ⟨r_198, h_199, hm⟩ := Option.bind_eq_some_iff.mp hm
  obtain ⟨h_204, hm⟩ := guardO_some hm
  obtain ⟨ys_200, h_201, hm⟩ := Option.bind_eq_some_iff.mp hm
  obtain ⟨h_205, hm⟩ := guardO_some hm
  cases hm
  exact go_ret (x_join x_str (x_lc (rs := val pStr) (own := [("line", 1)]) (xi_list (XV.frz (x_call (z := circuit_0) (ok_circuit_lines T) (by decide) T.g_circuit_lines T.k_circuit_lines T.b_circuit_lines (xa_cons (x_var 0) xa_nil) rfl (by repeat' (first | exact trivial | refine ⟨no_val, ?_⟩ | refine ⟨no_borL, ?_⟩ | refine ⟨no_bor, ?_⟩)) h_199))).ro ⟨fun _ => blkOk_by (N := N_write_circuit) (sc := defScope s_write_circuit) (by decide +kernel), fun _ _ => rfl⟩ h_204 h_201 ⟨rfl, trivial⟩ (fun line_202 o hx hm => by obtain ⟨h_203, hm⟩ := guardO_some hm; cases hm; exact ⟨_, _, rfl, (xg_name 1), lc_el (x_op (fun _ => op_add_str) (o_addS h_203) (x_var 1) x_str)⟩)) LV.own.sv h_205) (fun v H h => h)

theorem ok__law_number (T : Txt P K mg) : FnOk P w K mg base CX0 1 T.f__law_number T.d__law_number ["word"] (spP (fun (z : (Str)) => [val pStr z]) (fun z => m__law_number z) (fun r => val pBl r)) := by
  refine fn_pure T.F__law_number sc__law_number (fun _ => rfl) (fun cdv A outer s H E hr word_0 r B hm => ?_)
  replace hm : m__law_number word_0 = some r := hm
  unfold m__law_number at hm
  show Go _ _ _ _ _ [val pStr word_0, dead]
  obtain ⟨h_206, hm⟩ := guardO_some hm
  obtain ⟨b_218, h_219, hm⟩ := Option.bind_eq_some_iff.mp hm
  refine go_if (xw_pt (xw_orP (xt_cmp (fun _ => op_lt) o_bl (nomark _) (x_callB (fun _ => call_len_str) T.g_len (by decide +kernel) (o_lenS h_206) (xa1 (x_var 0))) x_int) h_219 (fun z hm => by obtain ⟨h_207, hm⟩ := guardO_some hm; obtain ⟨b_216, h_217, hm⟩ := Option.bind_eq_some_iff.mp hm; cases hm; exact (xw_orP (xt_cmp (fun _ => op_gt) o_bl (nomark _) (x_callB (fun _ => call_len_str) T.g_len (by decide +kernel) (o_lenS h_207) (xa1 (x_var 0))) x_int) h_217 (fun z hm => by obtain ⟨h_211, hm⟩ := guardO_some hm; obtain ⟨ys_208, h_209, hm⟩ := Option.bind_eq_some_iff.mp hm; obtain ⟨h_212, hm⟩ := guardO_some hm; obtain ⟨h_213, hm⟩ := guardO_some hm; cases hm; exact (xw_or1 (xt_cmp (c_neD _) (o_neD (DE.list DE.str) (by decide) (LV.vw LV.own) (LV.vw LV.own) h_212 h_213) (nomark _) (x_lc (rs := fun c => vStr ⟨#[c]⟩) (own := [("sign", 1)]) (xi_str (x_var 0)).ro ⟨fun _ => blkOk_by (N := N__law_number) (sc := defScope s__law_number) (by decide +kernel), fun _ _ => rfl⟩ h_211 h_209 ⟨rfl, trivial⟩ (fun sign_210 o hx hm => by skip; refine ⟨_, _, rfl, (xg_name 1), lc_if (q := pStr) (xt_cmp (fun _ => op_notin_str) o_ninS (by with_unfolding_all rfl) (x_var 1) x_str) hm (fun hm => ?_)⟩; skip; cases hm; exact ⟨_, rfl, (x_var 1)⟩)) (x_lst (xs := []) xa_nil (Nat.zero_le _))))))))) (fun hz => ?_) (fun hz => ?_)
  · have hm := condT hz hm
    cases hm
    exact go_ret x_bl (fun v H h => h)
  · have hm := condF hz hm
    refine go_join ?_
    obtain ⟨h_222, hm⟩ := guardO_some hm
    obtain ⟨c_220, h_221, hm⟩ := Option.bind_eq_some_iff.mp hm
    obtain ⟨b_224, h_225, hm⟩ := Option.bind_eq_some_iff.mp hm
    cases hm
    exact go_ret (x_orP (x_cmp (fun _ => op_ne) o_neS (nomark _) (x_ixS (x_var 0) x_int h_222 h_221) x_str) h_225 (fun z hm => by obtain ⟨h_223, hm⟩ := guardO_some hm; cases hm; exact (x_one (x_cmp (fun _ => op_eq) o_eqI (nomark _) (x_callB (fun _ => call_len_str) T.g_len (by decide +kernel) (o_lenS h_223) (xa1 (x_var 0))) x_int)))) (fun v H h => h)

theorem ok__law_reading (T : Txt P K mg) : FnOk P w K mg base CX0 2 T.f__law_reading T.d__law_reading ["text"] (spP (fun (z : (Str)) => [val pStr z]) (fun z => m__law_reading z) (fun r => val (pT2 pInt (pOpt (pH slH_0))) r)) := by
  refine fn_pure T.F__law_reading sc__law_reading (fun _ => rfl) (fun cdv A outer s H E hr text_0 r B hm => ?_)
  replace hm : m__law_reading text_0 = some r := hm
  unfold m__law_reading at hm
  show Go _ _ _ _ _ [val pStr text_0, dead, dead, dead, dead, dead, dead, dead, dead, dead, dead, dead, dead, dead, dead, dead]
  obtain ⟨h_226, hm⟩ := guardO_some hm
  refine go_set 1 (x_split (x_var 0) x_str (by decide +kernel) h_226) ?_
  show Go _ _ _ _ _ [val pStr text_0, own (oL pStr) (Txt.split text_0 ("\n" : Str)), dead, dead, dead, dead, dead, dead, dead, dead, dead, dead, dead, dead, dead, dead]
  obtain ⟨v_227, h_228, hm⟩ := Option.bind_eq_some_iff.mp hm
  refine go_if (xt_cmp (fun _ => op_ne) o_neS (nomark _) (x_ix (x_varL 1) LV.bor.sv (x_op (fun _ => op_sub) o_int (x_callB (c_len _) T.g_len (by decide +kernel) (o_lenL LV.bor.sv) (xa1 (x_varL 1))) x_int) h_228) x_str) (fun hz => ?_) (fun hz => ?_)
  · have hm := condT hz hm
    cases hm
    exact go_ret (x_tup2 (xa_cons (x_callB (c_len _) T.g_len (by decide +kernel) (o_lenL LV.bor.sv) (xa1 (x_varL 1))) (xa_cons (XV.wk x_non WkS.optN) xa_nil))) (fun v H h => h)
  · have hm := condF hz hm
    refine go_join ?_
    obtain ⟨lines_229, h_230, hm⟩ := letO_some hm
    refine go_set 1 (XV.eqO (x_slc (x_varL 1) LV.bor.sv xo_none (xo_some (x_op (fun _ => op_sub) o_int (x_callB (c_len _) T.g_len (by decide +kernel) (o_lenL LV.bor.sv) (xa1 (x_varL 1))) x_int))) h_230) ?_
    show Go _ _ _ _ _ [val pStr text_0, own (oL pStr) lines_229, dead, dead, dead, dead, dead, dead, dead, dead, dead, dead, dead, dead, dead, dead]
    obtain ⟨words_231, h_232, hm⟩ := letO_some hm
    refine go_set 2 (XV.eqO (x_lst (xs := [("circuit" : Str), ("input" : Str), ("latch" : Str), ("and" : Str), ("output" : Str)]) (xa_cons x_str (xa_cons x_str (xa_cons x_str (xa_cons x_str (xa_cons x_str xa_nil))))) (le_line rfl)) h_232) ?_
    show Go _ _ _ _ _ [val pStr text_0, own (oL pStr) lines_229, own (oL pStr) words_231, dead, dead, dead, dead, dead, dead, dead, dead, dead, dead, dead, dead, dead]
    obtain ⟨names_233, h_234, hm⟩ := letO_some hm
    refine go_set 3 (XV.eqO (x_lst (xs := [(0 : Int), (1 : Int), (1 : Int), (0 : Int), (1 : Int)]) (xa_cons x_int (xa_cons x_int (xa_cons x_int (xa_cons x_int (xa_cons x_int xa_nil))))) (le_line rfl)) h_234) ?_
    show Go _ _ _ _ _ [val pStr text_0, own (oL pStr) lines_229, own (oL pStr) words_231, own (oL pInt) names_233, dead, dead, dead, dead, dead, dead, dead, dead, dead, dead, dead, dead]
    obtain ⟨counts_235, h_236, hm⟩ := letO_some hm
    refine go_set 4 (XV.eqO (x_lst (xs := [(0 : Int), (0 : Int), (2 : Int), (2 : Int), (1 : Int)]) (xa_cons x_int (xa_cons x_int (xa_cons x_int (xa_cons x_int (xa_cons x_int xa_nil))))) (le_line rfl)) h_236) ?_
    show Go _ _ _ _ _ [val pStr text_0, own (oL pStr) lines_229, own (oL pStr) words_231, own (oL pInt) names_233, own (oL pInt) counts_235, dead, dead, dead, dead, dead, dead, dead, dead, dead, dead, dead]
    refine go_set 5 (x_lstA (xa_cons (x_emptyL (p := (pL (pDa K)))) (xa_cons (x_emptyL (p := (pL (pDa K)))) (xa_cons (x_emptyL (p := (pL (pDa K)))) (xa_cons (x_emptyL (p := (pL (pDa K)))) (xa_cons (x_emptyL (p := (pL (pDa K)))) xa_nil))))) (le_line rfl)) ?_
    show Go _ _ _ _ _ [val pStr text_0, own (oL pStr) lines_229, own (oL pStr) words_231, own (oL pInt) names_233, own (oL pInt) counts_235, lstS (([[], [], [], [], []] : List (List (List (PyData)))).map fun x => own (oL (pL (pDa K))) x), dead, dead, dead, dead, dead, dead, dead, dead, dead, dead]
    refine go_set 6 x_int ?_
    show Go _ _ _ _ _ [val pStr text_0, own (oL pStr) lines_229, own (oL pStr) words_231, own (oL pInt) names_233, own (oL pInt) counts_235, lstS (([[], [], [], [], []] : List (List (List (PyData)))).map fun x => own (oL (pL (pDa K))) x), val pInt (0 : Int), dead, dead, dead, dead, dead, dead, dead, dead, dead]
    obtain ⟨h_238, hm⟩ := guardO_some hm
    refine go_forK (rs := val pInt) (fun s => [val pStr text_0, own (oL pStr) lines_229, own (oL pStr) words_231, own (oL pInt) names_233, own (oL pInt) counts_235, lstS (s.1.map fun x => own (oL (pL (pDa K))) x), val pInt s.2, dead, dead, dead, dead, dead, dead, dead, dead, dead]) (fun r => val (pT2 pInt (pOpt (pH slH_0))) r) (xi_range1 T.g_range (x_callB (c_len _) T.g_len (by decide +kernel) (o_lenL LV.bor.sv) (xa1 (x_varL 1))) h_238) (by repeat' (first | exact WkL.nil | exact WkS.refl | exact WkS.dead | exact WkS.list | exact WkS.dict | exact WkS.lstS (fun _ => WkS.list) | refine WkL.cons ?_ ?_)) hm ?_ ?_ ?_
    · rintro B1 k_241 s out hx hm hr1 hl1
      obtain ⟨parts_239, rank_240⟩ := s
      refine ⟨_, _, (xg_name 7), ?_⟩
      show Go _ _ _ _ _ [val pStr text_0, own (oL pStr) lines_229, own (oL pStr) words_231, own (oL pInt) names_233, own (oL pInt) counts_235, lstS (parts_239.map fun x => own (oL (pL (pDa K))) x), val pInt rank_240, val pInt k_241, dead, dead, dead, dead, dead, dead, dead, dead]
      obtain ⟨v_242, h_243, hm⟩ := Option.bind_eq_some_iff.mp hm
      obtain ⟨h_244, hm⟩ := guardO_some hm
      refine go_set 8 (x_split (x_ix (x_varL 1) LV.bor.sv (x_var 7) h_243) x_str (by decide +kernel) h_244) ?_
      show Go _ _ _ _ _ [val pStr text_0, own (oL pStr) lines_229, own (oL pStr) words_231, own (oL pInt) names_233, own (oL pInt) counts_235, lstS (parts_239.map fun x => own (oL (pL (pDa K))) x), val pInt rank_240, val pInt k_241, own (oL pStr) (Txt.split v_242 (" " : Str)), dead, dead, dead, dead, dead, dead, dead]
      obtain ⟨h_246, hm⟩ := guardO_some hm
      obtain ⟨h_254, hm⟩ := guardO_some hm
      obtain ⟨ys_247, h_248, hm⟩ := Option.bind_eq_some_iff.mp hm
      refine go_setLc 9 (rs := val pInt) (own := [("j", 14)]) (xi_range1 T.g_range x_int h_246).ro ⟨fun _ => blkOk_by (N := N__law_reading) (sc := defScope s__law_reading) (by decide +kernel), fun _ _ => rfl⟩ h_254 h_248 ⟨rfl, trivial⟩ (fun j_249 o hx hm => by obtain ⟨v_250, h_251, hm⟩ := Option.bind_eq_some_iff.mp hm; obtain ⟨v_252, h_253, hm⟩ := Option.bind_eq_some_iff.mp hm; refine ⟨_, _, rfl, (xg_name 14), lc_if (q := pInt) (xt_cmp (fun _ => op_eq) o_eqS (nomark _) (x_ix (x_varL 2) LV.bor.sv (x_var 14) h_251) (x_ix (x_varL 8) LV.bor.sv x_int h_253)) hm (fun hm => ?_)⟩; skip; cases hm; exact ⟨_, rfl, (x_var 14)⟩) ?_ (hsw := sw_true rfl rfl rfl (by decide +kernel))
      show Go _ _ _ _ _ [val pStr text_0, own (oL pStr) lines_229, own (oL pStr) words_231, own (oL pInt) names_233, own (oL pInt) counts_235, lstS (parts_239.map fun x => own (oL (pL (pDa K))) x), val pInt rank_240, val pInt k_241, own (oL pStr) (Txt.split v_242 (" " : Str)), own (oL pInt) ys_247, dead, dead, dead, dead, dead, dead]
      obtain ⟨b_261, h_262, hm⟩ := Option.bind_eq_some_iff.mp hm
      refine go_if (xw_pt (xw_orP (xt_cmp (c_eqD _) (o_eqD (DE.list DE.int) (by decide) (LV.vw LV.bor) (LV.vw LV.own) (fun _ _ => trivial) (fun _ _ => trivial)) (nomark _) (x_varL 9) (x_lst (xs := []) xa_nil (Nat.zero_le _))) h_262 (fun z hm => by obtain ⟨v_255, h_256, hm⟩ := Option.bind_eq_some_iff.mp hm; obtain ⟨b_259, h_260, hm⟩ := Option.bind_eq_some_iff.mp hm; cases hm; exact (xw_orP (xt_cmp (c_neD _) (o_neD DE.bl (by decide) Vw.val Vw.val trivial trivial) (nomark _) (x_cmp (fun _ => op_eq) o_eqI (nomark _) (x_var 7) x_int) (x_cmp (fun _ => op_eq) o_eqI (nomark _) (x_ix (x_varL 9) LV.bor.sv x_int h_256) x_int)) h_260 (fun z hm => by obtain ⟨v_257, h_258, hm⟩ := Option.bind_eq_some_iff.mp hm; cases hm; exact (xw_or1 (xt_cmp (fun _ => op_lt) o_bl (nomark _) (x_ix (x_varL 9) LV.bor.sv x_int h_258) (x_var 6)))))))) (fun hz => ?_) (fun hz => ?_)
      · have hm := condT hz hm
        cases hm
        exact go_ret (x_tup2 (xa_cons (x_op (fun _ => op_add) o_int (x_var 7) x_int) (xa_cons (XV.wk x_non WkS.optN) xa_nil))) (fun v H h => ⟨_, rfl, h⟩)
      · have hm := condF hz hm
        refine go_join ?_
        obtain ⟨v_263, h_264, hm⟩ := Option.bind_eq_some_iff.mp hm
        refine go_set 6 (x_ix (x_varL 9) LV.bor.sv x_int h_264) ?_
        show Go _ _ _ _ _ [val pStr text_0, own (oL pStr) lines_229, own (oL pStr) words_231, own (oL pInt) names_233, own (oL pInt) counts_235, lstS (parts_239.map fun x => own (oL (pL (pDa K))) x), val pInt v_263, val pInt k_241, own (oL pStr) (Txt.split v_242 (" " : Str)), own (oL pInt) ys_247, dead, dead, dead, dead, dead, dead]
        obtain ⟨v_265, h_266, hm⟩ := Option.bind_eq_some_iff.mp hm
        obtain ⟨rest_267, h_268, hm⟩ := letO_some hm
        refine go_set 10 (XV.eqO (x_slc (x_varL 8) LV.bor.sv (xo_some (x_op (fun _ => op_add) o_int x_int (x_ix (x_varL 3) LV.bor.sv (x_var 6) h_266))) xo_none) h_268) ?_
        show Go _ _ _ _ _ [val pStr text_0, own (oL pStr) lines_229, own (oL pStr) words_231, own (oL pInt) names_233, own (oL pInt) counts_235, lstS (parts_239.map fun x => own (oL (pL (pDa K))) x), val pInt v_263, val pInt k_241, own (oL pStr) (Txt.split v_242 (" " : Str)), own (oL pInt) ys_247, own (oL pStr) rest_267, dead, dead, dead, dead, dead]
        obtain ⟨v_269, h_270, hm⟩ := Option.bind_eq_some_iff.mp hm
        obtain ⟨v_271, h_272, hm⟩ := Option.bind_eq_some_iff.mp hm
        obtain ⟨b_283, h_284, hm⟩ := Option.bind_eq_some_iff.mp hm
        refine go_if (xw_pt (xw_orP (xt_cmp (fun _ => op_ne) o_neI (nomark _) (x_callB (c_len _) T.g_len (by decide +kernel) (o_lenL LV.bor.sv) (xa1 (x_varL 8))) (x_op (fun _ => op_add) o_int (x_op (fun _ => op_add) o_int x_int (x_ix (x_varL 3) LV.bor.sv (x_var 6) h_270)) (x_ix (x_varL 4) LV.bor.sv (x_var 6) h_272))) h_284 (fun z hm => by obtain ⟨h_278, hm⟩ := guardO_some hm; obtain ⟨ys_273, h_274, hm⟩ := Option.bind_eq_some_iff.mp hm; obtain ⟨h_279, hm⟩ := guardO_some hm; obtain ⟨h_280, hm⟩ := guardO_some hm; cases hm; exact (xw_or1 (xt_cmp (c_neD _) (o_neD (DE.list DE.str) (by decide) (LV.vw LV.own) (LV.vw LV.own) h_279 h_280) (nomark _) (x_lc (rs := val pStr) (own := [("word", 15)]) (xi_bor (x_varL 10)) ⟨fun _ => blkOk_by (N := N__law_reading) (sc := defScope s__law_reading) (by decide +kernel), fun _ _ => rfl⟩ h_278 h_274 ⟨rfl, trivial⟩ (fun word_275 o hx hm => by obtain ⟨r_276, h_277, hm⟩ := Option.bind_eq_some_iff.mp hm; refine ⟨_, _, rfl, (xg_name 15), lc_if (q := pStr) (xt_not (xt_val (x_call (z := word_275) (ok__law_number T) (by decide) T.g__law_number T.k__law_number T.b__law_number (xa_cons (x_var 15) xa_nil) rfl (by repeat' (first | exact trivial | refine ⟨no_val, ?_⟩ | refine ⟨no_borL, ?_⟩ | refine ⟨no_bor, ?_⟩)) h_277)) rfl) hm (fun hm => ?_)⟩; skip; cases hm; exact ⟨_, rfl, (x_var 15)⟩)) (x_lst (xs := []) xa_nil (Nat.zero_le _))))))) (fun hz => ?_) (fun hz => ?_)
        · have hm := condT hz hm
          cases hm
          exact go_ret (x_tup2 (xa_cons (x_op (fun _ => op_add) o_int (x_var 7) x_int) (xa_cons (XV.wk x_non WkS.optN) xa_nil))) (fun v H h => ⟨_, rfl, h⟩)
        · have hm := condF hz hm
          refine go_join ?_
          obtain ⟨j_287, h_286, hm⟩ := Option.bind_eq_some_iff.mp hm
          obtain ⟨row_285, h_288, hm⟩ := Option.bind_eq_some_iff.mp hm
          obtain ⟨v_289, h_290, hm⟩ := Option.bind_eq_some_iff.mp hm
          obtain ⟨h_297, hm⟩ := guardO_some hm
          obtain ⟨ys_291, h_292, hm⟩ := Option.bind_eq_some_iff.mp hm
          obtain ⟨h_298, hm⟩ := guardO_some hm
          obtain ⟨h_299, hm⟩ := guardO_some hm
          refine go_append (pl_ix (s := own (oL (pL (pDa K))) row_285) (j := j_287) (pl_name 5 (by repeat' (first | exact Stb.nil | exact trivial | exact stb_map (fun _ => trivial) _ | refine Stb.cons ?_ ?_)) (hso := lstS_some)) (xs_var 6) (by rw [List.length_map]; exact h_286) (by repeat' (first | exact Stb.nil | exact trivial | exact stb_map (fun _ => trivial) _ | refine Stb.cons ?_ ?_)) (by rw [List.getElem?_map, h_288]; rfl) own_some) (XV.frz (x_op (fun _ => op_cat) (o_cat LV.own LV.own h_298) (XV.oLdata DE.str (x_slc (x_varL 8) LV.bor.sv (xo_some x_int) (xo_some (x_op (fun _ => op_add) o_int x_int (x_ix (x_varL 3) LV.bor.sv (x_var 6) h_290))))) (XV.oLdata DE.int (x_lc (rs := val pStr) (own := [("word", 15)]) (xi_bor (x_varL 10)) ⟨fun _ => blkOk_by (N := N__law_reading) (sc := defScope s__law_reading) (by decide +kernel), fun _ _ => rfl⟩ h_297 h_292 ⟨rfl, trivial⟩ (fun word_293 o hx hm => by obtain ⟨h_296, hm⟩ := guardO_some hm; obtain ⟨n_294, h_295, hm⟩ := Option.bind_eq_some_iff.mp hm; cases hm; exact ⟨_, _, rfl, (xg_name 15), lc_el (x_callTy (fun _ => call_int_str) T.g_int (by decide +kernel) (o_intS h_295 h_296) (xa1 (x_var 15)))⟩))))) h_299 ?_
          rw [← List.map_set (f := fun x => own (oL (pL (pDa K))) x)]
          show Go _ _ _ _ _ [val pStr text_0, own (oL pStr) lines_229, own (oL pStr) words_231, own (oL pInt) names_233, own (oL pInt) counts_235, lstS (((parts_239).set j_287 (row_285 ++ [(((cutL (Txt.split v_242 (" " : Str)) (some (1 : Int)) (some ((1 : Int) + v_289))).map DE.str.enc) ++ (ys_291.map DE.int.enc))])).map fun x => own (oL (pL (pDa K))) x), val pInt v_263, val pInt k_241, own (oL pStr) (Txt.split v_242 (" " : Str)), own (oL pInt) ys_247, own (oL pStr) rest_267, dead, dead, dead, dead, dead]
          cases hm
          exact go_nil (fun σ H h => ⟨_, rfl, h.wk (by repeat' (first | exact WkL.nil | exact WkS.refl | exact WkS.dead | exact WkS.list | exact WkS.dict | exact WkS.lstS (fun _ => WkS.list) | refine WkL.cons ?_ ?_))⟩)
    · rintro s hm
      obtain ⟨parts_239, rank_240⟩ := s
      show Go _ _ _ _ _ [val pStr text_0, own (oL pStr) lines_229, own (oL pStr) words_231, own (oL pInt) names_233, own (oL pInt) counts_235, lstS (parts_239.map fun x => own (oL (pL (pDa K))) x), val pInt rank_240, dead, dead, dead, dead, dead, dead, dead, dead, dead]
      refine go_if (xt_cmp (fun _ => op_eq) o_eqI (nomark _) (x_callB (c_len _) T.g_len (by decide +kernel) (o_lenL LV.bor.sv) (xa1 (x_varL 1))) x_int) (fun hz => ?_) (fun hz => ?_)
      · have hm := condT hz hm
        cases hm
        exact go_ret (x_tup2 (xa_cons x_int (xa_cons (XV.wk x_non WkS.optN) xa_nil))) (fun v H h => h)
      · have hm := condF hz hm
        refine go_join ?_
        refine go_wk (Γ' := [val pStr text_0, own (oL pStr) lines_229, own (oL pStr) words_231, own (oL pInt) names_233, own (oL pInt) counts_235, val (pL (pL (pL (pDa K)))) parts_239, val pInt rank_240, dead, dead, dead, dead, dead, dead, dead, dead, dead]) ?_ (WkL.at (j := 5) (WkS.lstS fun _ => WkS.list) rfl)
        obtain ⟨v_300, h_301, hm⟩ := Option.bind_eq_some_iff.mp hm
        obtain ⟨h_317, hm⟩ := guardO_some hm
        obtain ⟨ys_302, h_303, hm⟩ := Option.bind_eq_some_iff.mp hm
        refine go_setLc 11 (rs := val (pL (pDa K))) (own := [("row", 8)]) (xi_list (x_ix (x_var 5) LV.val.sv x_int h_301)).ro ⟨fun _ => blkOk_by (N := N__law_reading) (sc := defScope s__law_reading) (by decide +kernel), fun _ _ => rfl⟩ h_317 h_303 ⟨rfl, trivial⟩ (fun row_304 o hx hm => by obtain ⟨v_305, h_306, hm⟩ := Option.bind_eq_some_iff.mp hm; obtain ⟨t_307, h_308, hm⟩ := Option.bind_eq_some_iff.mp hm; obtain ⟨v_309, h_310, hm⟩ := Option.bind_eq_some_iff.mp hm; obtain ⟨i_311, h_312, hm⟩ := Option.bind_eq_some_iff.mp hm; obtain ⟨v_313, h_314, hm⟩ := Option.bind_eq_some_iff.mp hm; obtain ⟨i_315, h_316, hm⟩ := Option.bind_eq_some_iff.mp hm; cases hm; exact ⟨_, _, rfl, (xg_name 8), lc_el (x_tup3 (xa_cons (XV.pds h_308 (x_ix (x_var 8) LV.val.sv x_int h_306)) (xa_cons (XV.pdi h_312 (x_ix (x_var 8) LV.val.sv x_int h_310)) (xa_cons (XV.pdi h_316 (x_ix (x_var 8) LV.val.sv x_int h_314)) xa_nil))))⟩) ?_ (hsw := sw_true rfl rfl rfl (by decide +kernel))
        show Go _ _ _ _ _ [val pStr text_0, own (oL pStr) lines_229, own (oL pStr) words_231, own (oL pInt) names_233, own (oL pInt) counts_235, val (pL (pL (pL (pDa K)))) parts_239, val pInt rank_240, dead, dead, dead, dead, own (oL (pT3 pStr pInt pInt)) ys_302, dead, dead, dead, dead]
        obtain ⟨v_318, h_319, hm⟩ := Option.bind_eq_some_iff.mp hm
        obtain ⟨h_331, hm⟩ := guardO_some hm
        obtain ⟨ys_320, h_321, hm⟩ := Option.bind_eq_some_iff.mp hm
        refine go_setLc 12 (rs := val (pL (pDa K))) (own := [("row", 8)]) (xi_list (x_ix (x_var 5) LV.val.sv x_int h_319)).ro ⟨fun _ => blkOk_by (N := N__law_reading) (sc := defScope s__law_reading) (by decide +kernel), fun _ _ => rfl⟩ h_331 h_321 ⟨rfl, trivial⟩ (fun row_322 o hx hm => by obtain ⟨v_323, h_324, hm⟩ := Option.bind_eq_some_iff.mp hm; obtain ⟨i_325, h_326, hm⟩ := Option.bind_eq_some_iff.mp hm; obtain ⟨v_327, h_328, hm⟩ := Option.bind_eq_some_iff.mp hm; obtain ⟨i_329, h_330, hm⟩ := Option.bind_eq_some_iff.mp hm; cases hm; exact ⟨_, _, rfl, (xg_name 8), lc_el (x_tup2 (xa_cons (XV.pdi h_326 (x_ix (x_var 8) LV.val.sv x_int h_324)) (xa_cons (XV.pdi h_330 (x_ix (x_var 8) LV.val.sv x_int h_328)) xa_nil)))⟩) ?_ (hsw := sw_true rfl rfl rfl (by decide +kernel))
        show Go _ _ _ _ _ [val pStr text_0, own (oL pStr) lines_229, own (oL pStr) words_231, own (oL pInt) names_233, own (oL pInt) counts_235, val (pL (pL (pL (pDa K)))) parts_239, val pInt rank_240, dead, dead, dead, dead, own (oL (pT3 pStr pInt pInt)) ys_302, own (oL (pT2 pInt pInt)) ys_320, dead, dead, dead]
        obtain ⟨v_332, h_333, hm⟩ := Option.bind_eq_some_iff.mp hm
        obtain ⟨h_345, hm⟩ := guardO_some hm
        obtain ⟨ys_334, h_335, hm⟩ := Option.bind_eq_some_iff.mp hm
        refine go_setLc 13 (rs := val (pL (pDa K))) (own := [("row", 8)]) (xi_list (x_ix (x_var 5) LV.val.sv x_int h_333)).ro ⟨fun _ => blkOk_by (N := N__law_reading) (sc := defScope s__law_reading) (by decide +kernel), fun _ _ => rfl⟩ h_345 h_335 ⟨rfl, trivial⟩ (fun row_336 o hx hm => by obtain ⟨v_337, h_338, hm⟩ := Option.bind_eq_some_iff.mp hm; obtain ⟨t_339, h_340, hm⟩ := Option.bind_eq_some_iff.mp hm; obtain ⟨v_341, h_342, hm⟩ := Option.bind_eq_some_iff.mp hm; obtain ⟨i_343, h_344, hm⟩ := Option.bind_eq_some_iff.mp hm; cases hm; exact ⟨_, _, rfl, (xg_name 8), lc_el (x_tup2 (xa_cons (XV.pds h_340 (x_ix (x_var 8) LV.val.sv x_int h_338)) (xa_cons (XV.pdi h_344 (x_ix (x_var 8) LV.val.sv x_int h_342)) xa_nil)))⟩) ?_ (hsw := sw_true rfl rfl rfl (by decide +kernel))
        show Go _ _ _ _ _ [val pStr text_0, own (oL pStr) lines_229, own (oL pStr) words_231, own (oL pInt) names_233, own (oL pInt) counts_235, val (pL (pL (pL (pDa K)))) parts_239, val pInt rank_240, dead, dead, dead, dead, own (oL (pT3 pStr pInt pInt)) ys_302, own (oL (pT2 pInt pInt)) ys_320, own (oL (pT2 pStr pInt)) ys_334, dead, dead]
        refine go_wk (Γ' := [val pStr text_0, own (oL pStr) lines_229, own (oL pStr) words_231, own (oL pInt) names_233, own (oL pInt) counts_235, val (pL (pL (pL (pDa K)))) parts_239, val pInt rank_240, dead, dead, dead, dead, val (pL (pT3 pStr pInt pInt)) ys_302, own (oL (pT2 pInt pInt)) ys_320, own (oL (pT2 pStr pInt)) ys_334, dead, dead]) ?_ (WkL.at (j := 11) WkS.list rfl)
        refine go_wk (Γ' := [val pStr text_0, own (oL pStr) lines_229, own (oL pStr) words_231, own (oL pInt) names_233, own (oL pInt) counts_235, val (pL (pL (pL (pDa K)))) parts_239, val pInt rank_240, dead, dead, dead, dead, val (pL (pT3 pStr pInt pInt)) ys_302, val (pL (pT2 pInt pInt)) ys_320, own (oL (pT2 pStr pInt)) ys_334, dead, dead]) ?_ (WkL.at (j := 12) WkS.list rfl)
        refine go_wk (Γ' := [val pStr text_0, own (oL pStr) lines_229, own (oL pStr) words_231, own (oL pInt) names_233, own (oL pInt) counts_235, val (pL (pL (pL (pDa K)))) parts_239, val pInt rank_240, dead, dead, dead, dead, val (pL (pT3 pStr pInt pInt)) ys_302, val (pL (pT2 pInt pInt)) ys_320, val (pL (pT2 pStr pInt)) ys_334, dead, dead]) ?_ (WkL.at (j := 13) WkS.list rfl)
        obtain ⟨v_376, h_377, hm⟩ := Option.bind_eq_some_iff.mp hm
        obtain ⟨h_385, hm⟩ := guardO_some hm
        obtain ⟨ys_378, h_379, hm⟩ := Option.bind_eq_some_iff.mp hm
        cases hm
        exact go_ret (x_tup2 (xa_cons x_int (xa_cons (XV.wk (XV.wk (x_lstA (xa_cons (XV.frz (x_lc (rs := val (pL (pDa K))) (own := [("row", 8)]) (xi_list (x_ix (x_var 5) LV.val.sv x_int h_377)).ro ⟨fun _ => blkOk_by (N := N__law_reading) (sc := defScope s__law_reading) (by decide +kernel), fun _ _ => rfl⟩ h_385 h_379 ⟨rfl, trivial⟩ (fun row_380 o hx hm => by obtain ⟨v_381, h_382, hm⟩ := Option.bind_eq_some_iff.mp hm; obtain ⟨t_383, h_384, hm⟩ := Option.bind_eq_some_iff.mp hm; cases hm; exact ⟨_, _, rfl, (xg_name 8), lc_el (XV.pds h_384 (x_ix (x_var 8) LV.val.sv x_int h_382))⟩))) (xa_cons (x_var 11) (xa_cons (x_var 12) (xa_cons (x_var 13) xa_nil)))) (le_line rfl)) (WkS.lstH (sl := slH_0) (z := (ys_378, ys_302, ys_320, ys_334)) (by repeat' (first | exact WkL.nil | exact WkS.refl | exact WkS.dead | exact WkS.list | exact WkS.dict | exact WkS.lstS (fun _ => WkS.list) | refine WkL.cons ?_ ?_)) (by repeat' (first | exact trivial | refine ⟨⟨_, _, _, rfl⟩, ?_⟩)))) (WkS.opt (fun F v h e => by obtain ⟨l, vs, q, _⟩ := h; rw [e] at q; cases q))) xa_nil))) (fun v H h => h)
    · rintro r hm v H h
      cases hm
      first | exact h | exact ⟨_, rfl, h⟩ | exact (no_noS h).elim

theorem ok_Lines_init (T : Txt P K mg) : FnOk P w K mg base CX0 1 T.f_Lines_init T.d_Lines_init ["self", "lines"] (spM (fun _ => obj T.C_Lines [] []) (fun (z : (List (Str))) => [val (pL pStr) z]) (fun z => m_Lines_init z) (fun r => obj T.C_Lines ns_Lines (dl_Lines r)) (fun (_ : Unit) => vNon)) := by
  refine fn_mut T.F_Lines_init sc_Lines_init (fun _ => rfl) (fun cdv A outer s H E hr lines_0 r v0 B hm => ?_)
  replace hm : m_Lines_init lines_0 = some r := hm
  unfold m_Lines_init at hm
  show Go _ _ _ _ _ [hold (obj T.C_Lines [] []) v0, val (pL pStr) lines_0]
  refine go_newfld (pl_hold 0 (by repeat' (first | exact Stb.nil | exact trivial | exact stb_map (fun _ => trivial) _ | refine Stb.cons ?_ ?_))) (x_callTy (c_list _) T.g_list (by decide +kernel) (o_listL LV.val.sv) (xa1 (x_var 1))) T.at_Lines__rest (by repeat' (first | exact Stb.nil | exact trivial | exact stb_map (fun _ => trivial) _ | refine Stb.cons ?_ ?_)) trivial ?_
  show Go _ _ _ _ _ [hold (obj T.C_Lines ["_rest"] [own (oL pStr) lines_0]) v0, val (pL pStr) lines_0]
  refine go_newfld (pl_hold 0 (by repeat' (first | exact Stb.nil | exact trivial | exact stb_map (fun _ => trivial) _ | refine Stb.cons ?_ ?_))) x_int T.at_Lines_place (by repeat' (first | exact Stb.nil | exact trivial | exact stb_map (fun _ => trivial) _ | refine Stb.cons ?_ ?_)) trivial ?_
  show Go _ _ _ _ _ [hold (obj T.C_Lines ["_rest", "place"] [own (oL pStr) lines_0, val pInt (0 : Int)]) v0, val (pL pStr) lines_0]
  cases hm
  exact go_nilM 0

theorem ok_Lines_more (T : Txt P K mg) : FnOk P w K mg base CX0 1 T.f_Lines_more T.d_Lines_more ["self", "word"] (spP (fun (z : (S_Lines) × (Str)) => [val (pObj T.C_Lines ns_Lines sl_Lines) z.1, val pStr z.2]) (fun z => m_Lines_more z.1 z.2) (fun r => val pBl r)) := by
  refine fn_pure T.F_Lines_more sc_Lines_more (fun _ => rfl) (fun cdv A outer s H E hr z r B hm => ?_)
  obtain ⟨self_0, word_0⟩ := z
  replace hm : m_Lines_more self_0 word_0 = some r := hm
  unfold m_Lines_more at hm
  show Go _ _ _ _ _ [val (pObj T.C_Lines ns_Lines sl_Lines) self_0, val pStr word_0]
  obtain ⟨b_391, h_392, hm⟩ := Option.bind_eq_some_iff.mp hm
  cases hm
  exact go_ret (x_andP (x_cmp (fun _ => op_lt) o_bl (nomark _) (x_fld 1 (x_var 0) OV.val T.at_Lines_place) (x_callB (c_len _) T.g_len (by decide +kernel) (o_lenL LV.val.sv) (xa1 (x_fld 0 (x_var 0) OV.val T.at_Lines__rest)))) h_392 (fun z hm => by obtain ⟨v_386, h_387, hm⟩ := Option.bind_eq_some_iff.mp hm; obtain ⟨h_388, hm⟩ := guardO_some hm; obtain ⟨v_389, h_390, hm⟩ := Option.bind_eq_some_iff.mp hm; cases hm; exact (x_one (x_cmp (fun _ => op_eq) o_eqS (nomark _) (x_ix (x_split (x_ix (x_fld 0 (x_var 0) OV.val T.at_Lines__rest) LV.val.sv (x_fld 1 (x_var 0) OV.val T.at_Lines_place) h_387) x_str (by decide +kernel) h_388) LV.own.sv x_int h_390) (x_var 1))))) (fun v H h => h)

theorem ok_Lines_take (T : Txt P K mg) : FnOk P w K mg base (L2.CX P w) 3 T.f_Lines_take T.d_Lines_take ["self", "word"] (spMR (fun z => obj T.C_Lines ns_Lines (dl_Lines z.1)) (fun (z : (S_Lines) × (Str)) => [val pStr z.2]) (fun z => m_Lines_take z.1 z.2) (fun r => obj T.C_Lines ns_Lines (dl_Lines r)) (fun r => own (oL pStr) r) (exT T)) := by
  refine fn_mutR T.F_Lines_take sc_Lines_take (fun _ => rfl) (fun cdv A outer s H E hr z r v0 B hm hW => ?_)
  obtain ⟨self_0, word_0⟩ := z
  replace hm : m_Lines_take self_0 word_0 = some r := hm
  unfold m_Lines_take at hm
  show Go _ _ _ _ _ [hold (obj T.C_Lines ["_rest", "place"] [own (oL pStr) self_0._rest, val pInt self_0.place]) v0, val pStr word_0]
  obtain ⟨r_393, h_394, hm⟩ := Option.bind_eq_some_iff.mp hm
  refine go_if (xt_not (xt_val (x_lendF 0 rfl (WkS.hold (WkS.obj (sl := sl_Lines) (by repeat' (first | exact WkL.nil | exact WkS.refl | exact WkS.dead | exact WkS.list | exact WkS.dict | exact WkS.lstS (fun _ => WkS.list) | refine WkL.cons ?_ ?_)) (by repeat' (first | exact trivial | refine ⟨⟨_, _, _, rfl⟩, ?_⟩)))) Flat.bl (x_meth (z := ((⟨self_0._rest, self_0.place⟩ : S_Lines), word_0)) (ok_Lines_more T) (by decide) T.cl_Lines T.me_Lines_more T.b_Lines_more (x_var 0) (xa_cons (x_var 1) xa_nil) rfl (by repeat' (first | exact trivial | refine ⟨no_val, ?_⟩ | refine ⟨no_borL, ?_⟩ | refine ⟨no_bor, ?_⟩)) h_394))) rfl) (fun hz => ?_) (fun hz => ?_)
  · have hm := condT hz hm
    obtain ⟨h_395, hm⟩ := guardO_some hm
    cases hm
    exact go_raise (EX := exT T) (xm_init (fs := [.i (self_0.place + (1 : Int))]) T.xo_InvalidText T.xic_InvalidText T.xti_InvalidText (ok_InvalidText_init T) (by decide) T.b_InvalidText_init T.g_InvalidText (xa_cons (x_op (fun _ => op_add) o_int (x_fld 1 (x_varH 0) OV.bobj T.at_Lines_place) x_int) xa_nil) rfl rfl (ok1 h_395) (fun dd F h => exT_mk_InvalidText T h)) (hW _ rfl _)
  · have hm := condF hz hm
    refine go_join ?_
    refine go_augfld 1 (pl_hold 0 (by repeat' (first | exact Stb.nil | exact trivial | exact stb_map (fun _ => trivial) _ | refine Stb.cons ?_ ?_))) x_int (fun _ => in_add) T.at_Lines_place (by repeat' (first | exact Stb.nil | exact trivial | exact stb_map (fun _ => trivial) _ | refine Stb.cons ?_ ?_)) ?_
    show Go _ _ _ _ _ [hold (obj T.C_Lines ["_rest", "place"] [own (oL pStr) self_0._rest, val pInt (self_0.place + (1 : Int))]) v0, val pStr word_0]
    obtain ⟨v_396, h_397, hm⟩ := Option.bind_eq_some_iff.mp hm
    obtain ⟨h_398, hm⟩ := guardO_some hm
    cases hm
    exact go_retS (q := ((⟨self_0._rest, (self_0.place + (1 : Int))⟩ : S_Lines), ((cutL (Txt.split v_396 (" " : Str)) (some (1 : Int)) none) : List (Str)))) (s1 := fun r => obj T.C_Lines ns_Lines (dl_Lines r)) (Sr := fun r => own (oL pStr) r) 0 (x_slc (x_split (x_ix (x_fldL 0 (x_varH 0) OV.bobj T.at_Lines__rest) LV.bor.sv (x_op (fun _ => op_sub) o_int (x_fld 1 (x_varH 0) OV.bobj T.at_Lines_place) x_int) h_397) x_str (by decide +kernel) h_398) LV.own.sv (xo_some x_int) xo_none) (fun v H h => ⟨_, rfl, mS_rt h⟩)

theorem ok_is_number (T : Txt P K mg) : FnOk P w K mg base CX0 1 T.f_is_number T.d_is_number ["word"] (spP (fun (z : (Str)) => [val pStr z]) (fun z => m_is_number z) (fun r => val pBl r)) := by
  refine fn_pure T.F_is_number sc_is_number (fun _ => rfl) (fun cdv A outer s H E hr word_0 r B hm => ?_)
  replace hm : m_is_number word_0 = some r := hm
  unfold m_is_number at hm
  show Go _ _ _ _ _ [val pStr word_0, dead]
  obtain ⟨h_399, hm⟩ := guardO_some hm
  obtain ⟨b_406, h_407, hm⟩ := Option.bind_eq_some_iff.mp hm
  refine go_if (xw_pt (xw_orP (xt_not (xt_chain (fun _ => op_le) (fun _ => op_le) o_bl (fun _ => o_bl) rfl x_int (x_callB (fun _ => call_len_str) T.g_len (by decide +kernel) (o_lenS h_399) (xa1 (x_var 0))) (fun _ => (x_glob (v := .int 6) T.g_MOST_DIGITS ⟨_, rfl⟩ (fun _ => rfl)))) rfl) h_407 (fun z hm => by obtain ⟨h_402, hm⟩ := guardO_some hm; obtain ⟨c_400, h_401, hm⟩ := Option.bind_eq_some_iff.mp hm; obtain ⟨b_404, h_405, hm⟩ := Option.bind_eq_some_iff.mp hm; cases hm; exact (xw_or1 (xw_pt (xw_andP (xt_cmp (fun _ => op_eq) o_eqS (nomark _) (x_ixS (x_var 0) x_int h_402 h_401) x_str) h_405 (fun z hm => by obtain ⟨h_403, hm⟩ := guardO_some hm; cases hm; exact (xw_and1 (xt_cmp (fun _ => op_gt) o_bl (nomark _) (x_callB (fun _ => call_len_str) T.g_len (by decide +kernel) (o_lenS h_403) (xa1 (x_var 0))) x_int))))))))) (fun hz => ?_) (fun hz => ?_)
  · have hm := condT hz hm
    cases hm
    exact go_ret x_bl (fun v H h => h)
  · have hm := condF hz hm
    refine go_join ?_
    refine go_forK (rs := fun c => vStr ⟨#[c]⟩) (fun s => [val pStr word_0, dead]) (fun r => val pBl r) (xi_str (x_var 0)) (by repeat' (first | exact WkL.nil | exact WkS.refl | exact WkS.dead | exact WkS.list | exact WkS.dict | exact WkS.lstS (fun _ => WkS.list) | refine WkL.cons ?_ ?_)) hm ?_ ?_ ?_
    · rintro B1 sign_408 s out hx hm hr1 hl1
      refine ⟨_, _, (xg_name 1), ?_⟩
      show Go _ _ _ _ _ [val pStr word_0, val pStr (⟨#[sign_408]⟩ : Str)]
      refine go_if (xt_cmp (fun _ => op_notin_str) o_ninS (by with_unfolding_all rfl) (x_var 1) (x_glob (p := pStr) (v := .str "0123456789") T.g_DIGITS ⟨_, rfl⟩ (fun _ => rfl))) (fun hz => ?_) (fun hz => ?_)
      · have hm := condT hz hm
        cases hm
        exact go_ret x_bl (fun v H h => ⟨_, rfl, h⟩)
      · have hm := condF hz hm
        refine go_join ?_
        cases hm
        exact go_nil (fun σ H h => ⟨_, rfl, h.wk (by repeat' (first | exact WkL.nil | exact WkS.refl | exact WkS.dead | exact WkS.list | exact WkS.dict | exact WkS.lstS (fun _ => WkS.list) | refine WkL.cons ?_ ?_))⟩)
    · rintro s hm
      show Go _ _ _ _ _ [val pStr word_0, dead]
      cases hm
      exact go_ret x_bl (fun v H h => h)
    · rintro r hm v H h
      cases hm
      first | exact h | exact ⟨_, rfl, h⟩ | exact (no_noS h).elim

theorem ok_numbers_of (T : Txt P K mg) : FnOk P w K mg base CX0 2 T.f_numbers_of T.d_numbers_of ["words"] (spP (fun (z : (List (Str))) => [val (pL pStr) z]) (fun z => m_numbers_of z) (fun r => val (pOpt (pL pInt)) r)) := by
  refine fn_pure T.F_numbers_of sc_numbers_of (fun _ => rfl) (fun cdv A outer s H E hr words_0 r B hm => ?_)
  replace hm : m_numbers_of words_0 = some r := hm
  unfold m_numbers_of at hm
  show Go _ _ _ _ _ [val (pL pStr) words_0, dead]
  obtain ⟨h_414, hm⟩ := guardO_some hm
  obtain ⟨ys_409, h_410, hm⟩ := Option.bind_eq_some_iff.mp hm
  obtain ⟨h_415, hm⟩ := guardO_some hm
  obtain ⟨h_416, hm⟩ := guardO_some hm
  refine go_if (xt_cmp (c_neD _) (o_neD (DE.list DE.str) (by decide) (LV.vw LV.own) (LV.vw LV.own) h_415 h_416) (nomark _) (x_lc (rs := val pStr) (own := [("word", 1)]) (xi_list (x_var 0)).ro ⟨fun _ => blkOk_by (N := N_numbers_of) (sc := defScope s_numbers_of) (by decide +kernel), fun _ _ => rfl⟩ h_414 h_410 ⟨rfl, trivial⟩ (fun word_411 o hx hm => by obtain ⟨r_412, h_413, hm⟩ := Option.bind_eq_some_iff.mp hm; refine ⟨_, _, rfl, (xg_name 1), lc_if (q := pStr) (xt_not (xt_val (x_call (z := word_411) (ok_is_number T) (by decide) T.g_is_number T.k_is_number T.b_is_number (xa_cons (x_var 1) xa_nil) rfl (by repeat' (first | exact trivial | refine ⟨no_val, ?_⟩ | refine ⟨no_borL, ?_⟩ | refine ⟨no_bor, ?_⟩)) h_413)) rfl) hm (fun hm => ?_)⟩; skip; cases hm; exact ⟨_, rfl, (x_var 1)⟩)) (x_lst (xs := []) xa_nil (Nat.zero_le _))) (fun hz => ?_) (fun hz => ?_)
  · have hm := condT hz hm
    cases hm
    exact go_ret (XV.wk x_non WkS.optN) (fun v H h => h)
  · have hm := condF hz hm
    refine go_join ?_
    obtain ⟨h_425, hm⟩ := guardO_some hm
    obtain ⟨ys_419, h_420, hm⟩ := Option.bind_eq_some_iff.mp hm
    cases hm
    exact go_ret (XV.wk (XV.frz (x_lc (rs := val pStr) (own := [("word", 1)]) (xi_list (x_var 0)).ro ⟨fun _ => blkOk_by (N := N_numbers_of) (sc := defScope s_numbers_of) (by decide +kernel), fun _ _ => rfl⟩ h_425 h_420 ⟨rfl, trivial⟩ (fun word_421 o hx hm => by obtain ⟨h_424, hm⟩ := guardO_some hm; obtain ⟨n_422, h_423, hm⟩ := Option.bind_eq_some_iff.mp hm; cases hm; exact ⟨_, _, rfl, (xg_name 1), lc_el (x_callTy (fun _ => call_int_str) T.g_int (by decide +kernel) (o_intS h_423 h_424) (xa1 (x_var 1)))⟩))) (WkS.opt (fun F v h e => by obtain ⟨l, vs, q, _⟩ := h; rw [e] at q; cases q))) (fun v H h => h)

theorem ok_Lines_take_numbers (T : Txt P K mg) : FnOk P w K mg base (L2.CX P w) 4 T.f_Lines_take_numbers T.d_Lines_take_numbers ["self", "word", "skipped", "count"] (spMR (fun z => obj T.C_Lines ns_Lines (dl_Lines z.1)) (fun (z : (S_Lines) × (Str) × (Int) × (Int)) => [val pStr z.2.1, val pInt z.2.2.1, val pInt z.2.2.2]) (fun z => m_Lines_take_numbers z.1 z.2.1 z.2.2.1 z.2.2.2) (fun r => obj T.C_Lines ns_Lines (dl_Lines r)) (fun r => own (oL (pDa K)) r) (exT T)) := by
  refine fn_mutR T.F_Lines_take_numbers sc_Lines_take_numbers (fun _ => rfl) (fun cdv A outer s H E hr z r v0 B hm hW => ?_)
  obtain ⟨self_0, word_0, skipped_0, count_0⟩ := z
  replace hm : m_Lines_take_numbers self_0 word_0 skipped_0 count_0 = some r := hm
  unfold m_Lines_take_numbers at hm
  show Go _ _ _ _ _ [hold (obj T.C_Lines ["_rest", "place"] [own (oL pStr) self_0._rest, val pInt self_0.place]) v0, val pStr word_0, val pInt skipped_0, val pInt count_0, dead, dead]
  rcases exK_some hm with ⟨e_428, h_427, hm⟩ | ⟨o_426, h_427, hm⟩
  · cases hm
    exact go_setXm (j := 4) (xxm_methR (EX := exT T) (z := ((⟨self_0._rest, self_0.place⟩ : S_Lines), word_0)) (ok_Lines_take T) (by decide) T.cl_Lines T.me_Lines_take T.b_Lines_take (pl_hold 0 (by repeat' (first | exact Stb.nil | exact trivial | exact stb_map (fun _ => trivial) _ | refine Stb.cons ?_ ?_))) rfl (xa_cons (x_var 1) xa_nil) rfl (by repeat' (first | exact trivial | refine ⟨no_val, ?_⟩ | refine ⟨no_borL, ?_⟩ | refine ⟨no_bor, ?_⟩)) h_427) (hW _ rfl _)
  · refine go_setM 4 (xm_methR (z := ((⟨self_0._rest, self_0.place⟩ : S_Lines), word_0)) (ok_Lines_take T) (by decide) T.cl_Lines T.me_Lines_take T.b_Lines_take (pl_hold 0 (by repeat' (first | exact Stb.nil | exact trivial | exact stb_map (fun _ => trivial) _ | refine Stb.cons ?_ ?_))) rfl (xa_cons (x_var 1) xa_nil) rfl (by repeat' (first | exact trivial | refine ⟨no_val, ?_⟩ | refine ⟨no_borL, ?_⟩ | refine ⟨no_bor, ?_⟩)) h_427) ?_
    show Go _ _ _ _ _ [hold (obj T.C_Lines ["_rest", "place"] [own (oL pStr) o_426.1._rest, val pInt o_426.1.place]) v0, val pStr word_0, val pInt skipped_0, val pInt count_0, own (oL pStr) o_426.2, dead]
    obtain ⟨r_429, h_430, hm⟩ := Option.bind_eq_some_iff.mp hm
    refine go_set 5 (x_call (z := (cutL o_426.2 (some skipped_0) none)) (ok_numbers_of T) (by decide) T.g_numbers_of T.k_numbers_of T.b_numbers_of (xa_cons (XV.frz (x_slc (x_varL 4) LV.bor.sv (xo_some (x_var 2)) xo_none)) xa_nil) rfl (by repeat' (first | exact trivial | refine ⟨no_val, ?_⟩ | refine ⟨no_borL, ?_⟩ | refine ⟨no_bor, ?_⟩)) h_430) ?_
    show Go _ _ _ _ _ [hold (obj T.C_Lines ["_rest", "place"] [own (oL pStr) o_426.1._rest, val pInt o_426.1.place]) v0, val pStr word_0, val pInt skipped_0, val pInt count_0, own (oL pStr) o_426.2, val (pOpt (pL pInt)) r_429]
    obtain ⟨b_437, h_438, hm⟩ := Option.bind_eq_some_iff.mp hm
    refine go_if (xw_pt (xw_orP (xt_cmp (fun _ => op_lt) o_bl (nomark _) (x_callB (c_len _) T.g_len (by decide +kernel) (o_lenL LV.bor.sv) (xa1 (x_varL 4))) (x_var 2)) h_438 (fun z hm => by obtain ⟨b_435, h_436, hm⟩ := Option.bind_eq_some_iff.mp hm; cases hm; exact (xw_orP (xt_cmp (fun _ => op_isN) (o_isN opt_isN) (nomark _) (x_var 5) x_non) h_436 (fun z hm => by obtain ⟨b_433, h_434, hm⟩ := Option.bind_eq_some_iff.mp hm; cases hm; exact (xw_or1 (xw_pt (xw_andP (xt_cmp (fun _ => op_notN) (o_notN int_notN) (nomark _) (x_var 3) x_non) h_434 (fun z hm => by obtain ⟨u_431, h_432, hm⟩ := Option.bind_eq_some_iff.mp hm; cases hm; exact (xw_and1 (xt_cmp (fun _ => op_ne) o_neI (nomark _) (x_callB (c_len _) T.g_len (by decide +kernel) (o_lenL LV.val.sv) (xa1 (opt_get h_432 (x_var 5)))) (x_var 3)))))))))))) (fun hz => ?_) (fun hz => ?_)
    · have hm := condT hz hm
      obtain ⟨h_439, hm⟩ := guardO_some hm
      cases hm
      exact go_raise (EX := exT T) (xm_init (fs := [.i o_426.1.place]) T.xo_InvalidText T.xic_InvalidText T.xti_InvalidText (ok_InvalidText_init T) (by decide) T.b_InvalidText_init T.g_InvalidText (xa_cons (x_fld 1 (x_varH 0) OV.bobj T.at_Lines_place) xa_nil) rfl rfl (ok1 h_439) (fun dd F h => exT_mk_InvalidText T h)) (hW _ rfl _)
    · have hm := condF hz hm
      refine go_join ?_
      obtain ⟨u_440, h_441, hm⟩ := Option.bind_eq_some_iff.mp hm
      obtain ⟨h_442, hm⟩ := guardO_some hm
      cases hm
      exact go_retS (q := ((⟨o_426.1._rest, o_426.1.place⟩ : S_Lines), ((((cutL o_426.2 none (some skipped_0)).map DE.str.enc) ++ (u_440.map DE.int.enc)) : List (PyData)))) (s1 := fun r => obj T.C_Lines ns_Lines (dl_Lines r)) (Sr := fun r => own (oL (pDa K)) r) 0 (x_op (fun _ => op_cat) (o_cat LV.own LV.val h_442) (XV.oLdata DE.str (x_slc (x_varL 4) LV.bor.sv xo_none (xo_some (x_var 2)))) (XV.vLdata DE.int (opt_get h_441 (x_var 5)))) (fun v H h => ⟨_, rfl, mS_rt h⟩)

theorem ok_take_circuit (T : Txt P K mg) : FnOk P w K mg base (L2.CX P w) 5 T.f_take_circuit T.d_take_circuit ["lines"] (spMR (fun z => obj T.C_Lines ns_Lines (dl_Lines z)) (fun (z : (S_Lines)) => []) (fun z => m_take_circuit z) (fun r => obj T.C_Lines ns_Lines (dl_Lines r)) (fun r => tupS [own (oL pStr) r.1, own (oL (pT3 pStr pInt pInt)) r.2.1, own (oL (pT2 pInt pInt)) r.2.2.1, own (oL (pT2 pStr pInt)) r.2.2.2]) (exT T)) := by
  refine fn_mutR T.F_take_circuit sc_take_circuit (fun _ => rfl) (fun cdv A outer s H E hr lines_0 r v0 B hm hW => ?_)
  replace hm : m_take_circuit lines_0 = some r := hm
  unfold m_take_circuit at hm
  show Go _ _ _ _ _ [hold (obj T.C_Lines ["_rest", "place"] [own (oL pStr) lines_0._rest, val pInt lines_0.place]) v0, dead, dead, dead, dead, dead, dead, dead, dead, dead]
  rcases exK_some hm with ⟨e_445, h_444, hm⟩ | ⟨o_443, h_444, hm⟩
  · cases hm
    exact go_exprXm (xxm_methR (EX := exT T) (z := ((⟨lines_0._rest, lines_0.place⟩ : S_Lines), ("circuit" : Str), (0 : Int), (0 : Int))) (ok_Lines_take_numbers T) (by decide) T.cl_Lines T.me_Lines_take_numbers T.b_Lines_take_numbers (pl_hold 0 (by repeat' (first | exact Stb.nil | exact trivial | exact stb_map (fun _ => trivial) _ | refine Stb.cons ?_ ?_))) rfl (xa_cons x_str (xa_cons x_int (xa_cons x_int xa_nil))) rfl (by repeat' (first | exact trivial | refine ⟨no_val, ?_⟩ | refine ⟨no_borL, ?_⟩ | refine ⟨no_bor, ?_⟩)) h_444) (hW _ rfl _)
  · refine go_exprM (xm_methR (z := ((⟨lines_0._rest, lines_0.place⟩ : S_Lines), ("circuit" : Str), (0 : Int), (0 : Int))) (ok_Lines_take_numbers T) (by decide) T.cl_Lines T.me_Lines_take_numbers T.b_Lines_take_numbers (pl_hold 0 (by repeat' (first | exact Stb.nil | exact trivial | exact stb_map (fun _ => trivial) _ | refine Stb.cons ?_ ?_))) rfl (xa_cons x_str (xa_cons x_int (xa_cons x_int xa_nil))) rfl (by repeat' (first | exact trivial | refine ⟨no_val, ?_⟩ | refine ⟨no_borL, ?_⟩ | refine ⟨no_bor, ?_⟩)) h_444) ?_
    show Go _ _ _ _ _ [hold (obj T.C_Lines ["_rest", "place"] [own (oL pStr) o_443.1._rest, val pInt o_443.1.place]) v0, dead, dead, dead, dead, dead, dead, dead, dead, dead]
    refine go_asgM (Γ1 := [hold (obj T.C_Lines ["_rest", "place"] [own (oL pStr) o_443.1._rest, val pInt o_443.1.place]) v0, dead, dead, dead, dead, dead, dead, dead, dead, dead]) (XN.m (xn_tup (xna_cons (XN.of (x_emptyL (p := pStr))) (xna_cons (XN.of (x_emptyL (p := (pT3 pStr pInt pInt)))) (xna_cons (XN.of (x_emptyL (p := (pT2 pInt pInt)))) (xna_cons (XN.of (x_emptyL (p := (pT2 pStr pInt)))) xna_nil)))) (le_line rfl))) (xg_tupO (xgs_cons (xg_name 1) (xgs_cons (xg_name 2) (xgs_cons (xg_name 3) (xgs_cons (xg_name 4) xgs_nil))))) ?_
    show Go _ _ _ _ _ [hold (obj T.C_Lines ["_rest", "place"] [own (oL pStr) o_443.1._rest, val pInt o_443.1.place]) v0, own (oL pStr) ([] : List (Str)), own (oL (pT3 pStr pInt pInt)) ([] : List ((Str) × (Int) × (Int))), own (oL (pT2 pInt pInt)) ([] : List ((Int) × (Int))), own (oL (pT2 pStr pInt)) ([] : List ((Str) × (Int))), dead, dead, dead, dead, dead]
    refine go_whileK (fun s => [hold (obj T.C_Lines ["_rest", "place"] [own (oL pStr) s.1._rest, val pInt s.1.place]) v0, own (oL pStr) s.2, own (oL (pT3 pStr pInt pInt)) ([] : List ((Str) × (Int) × (Int))), own (oL (pT2 pInt pInt)) ([] : List ((Int) × (Int))), own (oL (pT2 pStr pInt)) ([] : List ((Str) × (Int))), dead, dead, dead, dead, dead]) (fun r => (slRx (mS v0 (fun r => obj T.C_Lines ns_Lines (dl_Lines r)) (fun r => tupS [own (oL pStr) r.1, own (oL (pT3 pStr pInt pInt)) r.2.1, own (oL (pT2 pInt pInt)) r.2.2.1, own (oL (pT2 pStr pInt)) r.2.2.2])) r)) (by repeat' (first | exact WkL.nil | exact WkS.refl | exact WkS.dead | exact WkS.list | exact WkS.dict | exact WkS.lstS (fun _ => WkS.list) | refine WkL.cons ?_ ?_)) hm ?_ ?_ ?_
    · rintro B1 s out hm hr1 hl1
      obtain ⟨lines_446, inputs_447⟩ := s
      obtain ⟨r_448, h_449, hm⟩ := Option.bind_eq_some_iff.mp hm
      refine ⟨_, (xt_val (x_lendF 0 rfl (WkS.hold (WkS.obj (sl := sl_Lines) (by repeat' (first | exact WkL.nil | exact WkS.refl | exact WkS.dead | exact WkS.list | exact WkS.dict | exact WkS.lstS (fun _ => WkS.list) | refine WkL.cons ?_ ?_)) (by repeat' (first | exact trivial | refine ⟨⟨_, _, _, rfl⟩, ?_⟩)))) Flat.bl (x_meth (z := ((⟨lines_446._rest, lines_446.place⟩ : S_Lines), ("input" : Str))) (ok_Lines_more T) (by decide) T.cl_Lines T.me_Lines_more T.b_Lines_more (x_var 0) (xa_cons x_str xa_nil) rfl (by repeat' (first | exact trivial | refine ⟨no_val, ?_⟩ | refine ⟨no_borL, ?_⟩ | refine ⟨no_bor, ?_⟩)) h_449))), fun hz => ?_, fun hz => ?_⟩
      · have hm := condT hz hm
        show Go _ _ _ _ _ [hold (obj T.C_Lines ["_rest", "place"] [own (oL pStr) lines_446._rest, val pInt lines_446.place]) v0, own (oL pStr) inputs_447, own (oL (pT3 pStr pInt pInt)) ([] : List ((Str) × (Int) × (Int))), own (oL (pT2 pInt pInt)) ([] : List ((Int) × (Int))), own (oL (pT2 pStr pInt)) ([] : List ((Str) × (Int))), dead, dead, dead, dead, dead]
        rcases exK_some hm with ⟨e_452, h_451, hm⟩ | ⟨o_450, h_451, hm⟩
        · cases hm
          exact go_exprXm (xxm_app 1 (xxm_ix1 (xxm_methR (EX := exT T) (z := ((⟨lines_446._rest, lines_446.place⟩ : S_Lines), ("input" : Str), (1 : Int), (0 : Int))) (ok_Lines_take_numbers T) (by decide) T.cl_Lines T.me_Lines_take_numbers T.b_Lines_take_numbers (pl_hold 0 (by repeat' (first | exact Stb.nil | exact trivial | exact stb_map (fun _ => trivial) _ | refine Stb.cons ?_ ?_))) rfl (xa_cons x_str (xa_cons x_int (xa_cons x_int xa_nil))) rfl (by repeat' (first | exact trivial | refine ⟨no_val, ?_⟩ | refine ⟨no_borL, ?_⟩ | refine ⟨no_bor, ?_⟩)) h_451))) (Wish.lift (hW _ (Option.some.inj (hr1 _ rfl)).symm _) hl1)
        · obtain ⟨t_453, h_454, hm⟩ := Option.bind_eq_some_iff.mp hm
          obtain ⟨h_455, hm⟩ := guardO_some hm
          refine go_appM (Γ1 := [hold (obj T.C_Lines ["_rest", "place"] [own (oL pStr) o_450.1._rest, val pInt o_450.1.place]) v0, own (oL pStr) inputs_447, own (oL (pT3 pStr pInt pInt)) ([] : List ((Str) × (Int) × (Int))), own (oL (pT2 pInt pInt)) ([] : List ((Int) × (Int))), own (oL (pT2 pStr pInt)) ([] : List ((Str) × (Int))), dead, dead, dead, dead, dead]) 1 (xm_ixS0 (xm_methR (z := ((⟨lines_446._rest, lines_446.place⟩ : S_Lines), ("input" : Str), (1 : Int), (0 : Int))) (ok_Lines_take_numbers T) (by decide) T.cl_Lines T.me_Lines_take_numbers T.b_Lines_take_numbers (pl_hold 0 (by repeat' (first | exact Stb.nil | exact trivial | exact stb_map (fun _ => trivial) _ | refine Stb.cons ?_ ?_))) rfl (xa_cons x_str (xa_cons x_int (xa_cons x_int xa_nil))) rfl (by repeat' (first | exact trivial | refine ⟨no_val, ?_⟩ | refine ⟨no_borL, ?_⟩ | refine ⟨no_bor, ?_⟩)) h_451) (hdStr_ix h_454)) rfl rfl h_455 (by repeat' (first | exact Stb.nil | exact trivial | exact stb_map (fun _ => trivial) _ | refine Stb.cons ?_ ?_)) ?_
          show Go _ _ _ _ _ [hold (obj T.C_Lines ["_rest", "place"] [own (oL pStr) o_450.1._rest, val pInt o_450.1.place]) v0, own (oL pStr) (inputs_447 ++ [t_453]), own (oL (pT3 pStr pInt pInt)) ([] : List ((Str) × (Int) × (Int))), own (oL (pT2 pInt pInt)) ([] : List ((Int) × (Int))), own (oL (pT2 pStr pInt)) ([] : List ((Str) × (Int))), dead, dead, dead, dead, dead]
          cases hm
          exact go_nil (fun σ H h => ⟨_, rfl, h.wk (by repeat' (first | exact WkL.nil | exact WkS.refl | exact WkS.dead | exact WkS.list | exact WkS.dict | exact WkS.lstS (fun _ => WkS.list) | refine WkL.cons ?_ ?_))⟩)
      · have hm := condF hz hm
        cases hm
        rfl
    · rintro s hm
      obtain ⟨lines_446, inputs_447⟩ := s
      show Go _ _ _ _ _ [hold (obj T.C_Lines ["_rest", "place"] [own (oL pStr) lines_446._rest, val pInt lines_446.place]) v0, own (oL pStr) inputs_447, own (oL (pT3 pStr pInt pInt)) ([] : List ((Str) × (Int) × (Int))), own (oL (pT2 pInt pInt)) ([] : List ((Int) × (Int))), own (oL (pT2 pStr pInt)) ([] : List ((Str) × (Int))), dead, dead, dead, dead, dead]
      refine go_whileK (fun s => [hold (obj T.C_Lines ["_rest", "place"] [own (oL pStr) s.1._rest, val pInt s.1.place]) v0, own (oL pStr) inputs_447, own (oL (pT3 pStr pInt pInt)) s.2, own (oL (pT2 pInt pInt)) ([] : List ((Int) × (Int))), own (oL (pT2 pStr pInt)) ([] : List ((Str) × (Int))), dead, dead, dead, dead, dead]) (fun r => (slRx (mS v0 (fun r => obj T.C_Lines ns_Lines (dl_Lines r)) (fun r => tupS [own (oL pStr) r.1, own (oL (pT3 pStr pInt pInt)) r.2.1, own (oL (pT2 pInt pInt)) r.2.2.1, own (oL (pT2 pStr pInt)) r.2.2.2])) r)) (by repeat' (first | exact WkL.nil | exact WkS.refl | exact WkS.dead | exact WkS.list | exact WkS.dict | exact WkS.lstS (fun _ => WkS.list) | refine WkL.cons ?_ ?_)) hm ?_ ?_ ?_
      · rintro B1 s out hm hr1 hl1
        obtain ⟨lines_456, latches_457⟩ := s
        obtain ⟨r_458, h_459, hm⟩ := Option.bind_eq_some_iff.mp hm
        refine ⟨_, (xt_val (x_lendF 0 rfl (WkS.hold (WkS.obj (sl := sl_Lines) (by repeat' (first | exact WkL.nil | exact WkS.refl | exact WkS.dead | exact WkS.list | exact WkS.dict | exact WkS.lstS (fun _ => WkS.list) | refine WkL.cons ?_ ?_)) (by repeat' (first | exact trivial | refine ⟨⟨_, _, _, rfl⟩, ?_⟩)))) Flat.bl (x_meth (z := ((⟨lines_456._rest, lines_456.place⟩ : S_Lines), ("latch" : Str))) (ok_Lines_more T) (by decide) T.cl_Lines T.me_Lines_more T.b_Lines_more (x_var 0) (xa_cons x_str xa_nil) rfl (by repeat' (first | exact trivial | refine ⟨no_val, ?_⟩ | refine ⟨no_borL, ?_⟩ | refine ⟨no_bor, ?_⟩)) h_459))), fun hz => ?_, fun hz => ?_⟩
        · have hm := condT hz hm
          show Go _ _ _ _ _ [hold (obj T.C_Lines ["_rest", "place"] [own (oL pStr) lines_456._rest, val pInt lines_456.place]) v0, own (oL pStr) inputs_447, own (oL (pT3 pStr pInt pInt)) latches_457, own (oL (pT2 pInt pInt)) ([] : List ((Int) × (Int))), own (oL (pT2 pStr pInt)) ([] : List ((Str) × (Int))), dead, dead, dead, dead, dead]
          rcases exK_some hm with ⟨e_462, h_461, hm⟩ | ⟨o_460, h_461, hm⟩
          · cases hm
            exact go_asgXm (xxm_methR (EX := exT T) (z := ((⟨lines_456._rest, lines_456.place⟩ : S_Lines), ("latch" : Str), (1 : Int), (2 : Int))) (ok_Lines_take_numbers T) (by decide) T.cl_Lines T.me_Lines_take_numbers T.b_Lines_take_numbers (pl_hold 0 (by repeat' (first | exact Stb.nil | exact trivial | exact stb_map (fun _ => trivial) _ | refine Stb.cons ?_ ?_))) rfl (xa_cons x_str (xa_cons x_int (xa_cons x_int xa_nil))) rfl (by repeat' (first | exact trivial | refine ⟨no_val, ?_⟩ | refine ⟨no_borL, ?_⟩ | refine ⟨no_bor, ?_⟩)) h_461) (Wish.lift (hW _ (Option.some.inj (hr1 _ rfl)).symm _) hl1)
          · obtain ⟨q_463, h_464, hm⟩ := Option.bind_eq_some_iff.mp hm
            refine go_asgM (Γ1 := [hold (obj T.C_Lines ["_rest", "place"] [own (oL pStr) o_460.1._rest, val pInt o_460.1.place]) v0, own (oL pStr) inputs_447, own (oL (pT3 pStr pInt pInt)) latches_457, own (oL (pT2 pInt pInt)) ([] : List ((Int) × (Int))), own (oL (pT2 pStr pInt)) ([] : List ((Str) × (Int))), dead, dead, dead, dead, dead]) (XM.wk (xm_methR (z := ((⟨lines_456._rest, lines_456.place⟩ : S_Lines), ("latch" : Str), (1 : Int), (2 : Int))) (ok_Lines_take_numbers T) (by decide) T.cl_Lines T.me_Lines_take_numbers T.b_Lines_take_numbers (pl_hold 0 (by repeat' (first | exact Stb.nil | exact trivial | exact stb_map (fun _ => trivial) _ | refine Stb.cons ?_ ?_))) rfl (xa_cons x_str (xa_cons x_int (xa_cons x_int xa_nil))) rfl (by repeat' (first | exact trivial | refine ⟨no_val, ?_⟩ | refine ⟨no_borL, ?_⟩ | refine ⟨no_bor, ?_⟩)) h_461) (WkS.dataH (sl := slH_1) (z := q_463) (pdSII_to h_464))) (xg_lstH (sl := slH_1) (z := q_463) (xgs_cons (xg_name 5) (xgs_cons (xg_name 6) (xgs_cons (xg_name 7) xgs_nil)))) ?_
            show Go _ _ _ _ _ [hold (obj T.C_Lines ["_rest", "place"] [own (oL pStr) o_460.1._rest, val pInt o_460.1.place]) v0, own (oL pStr) inputs_447, own (oL (pT3 pStr pInt pInt)) latches_457, own (oL (pT2 pInt pInt)) ([] : List ((Int) × (Int))), own (oL (pT2 pStr pInt)) ([] : List ((Str) × (Int))), val pStr q_463.1, val pInt q_463.2.1, val pInt q_463.2.2, dead, dead]
            obtain ⟨h_465, hm⟩ := guardO_some hm
            refine go_append (pl_name 2 (by repeat' (first | exact Stb.nil | exact trivial | exact stb_map (fun _ => trivial) _ | refine Stb.cons ?_ ?_)) (hso := own_some)) (x_tup3 (xa_cons (x_var 5) (xa_cons (x_var 6) (xa_cons (x_var 7) xa_nil)))) h_465 ?_
            show Go _ _ _ _ _ [hold (obj T.C_Lines ["_rest", "place"] [own (oL pStr) o_460.1._rest, val pInt o_460.1.place]) v0, own (oL pStr) inputs_447, own (oL (pT3 pStr pInt pInt)) (latches_457 ++ [(q_463.1, q_463.2.1, q_463.2.2)]), own (oL (pT2 pInt pInt)) ([] : List ((Int) × (Int))), own (oL (pT2 pStr pInt)) ([] : List ((Str) × (Int))), val pStr q_463.1, val pInt q_463.2.1, val pInt q_463.2.2, dead, dead]
            cases hm
            exact go_nil (fun σ H h => ⟨_, rfl, h.wk (by repeat' (first | exact WkL.nil | exact WkS.refl | exact WkS.dead | exact WkS.list | exact WkS.dict | exact WkS.lstS (fun _ => WkS.list) | refine WkL.cons ?_ ?_))⟩)
        · have hm := condF hz hm
          cases hm
          rfl
      · rintro s hm
        obtain ⟨lines_456, latches_457⟩ := s
        show Go _ _ _ _ _ [hold (obj T.C_Lines ["_rest", "place"] [own (oL pStr) lines_456._rest, val pInt lines_456.place]) v0, own (oL pStr) inputs_447, own (oL (pT3 pStr pInt pInt)) latches_457, own (oL (pT2 pInt pInt)) ([] : List ((Int) × (Int))), own (oL (pT2 pStr pInt)) ([] : List ((Str) × (Int))), dead, dead, dead, dead, dead]
        refine go_whileK (fun s => [hold (obj T.C_Lines ["_rest", "place"] [own (oL pStr) s.1._rest, val pInt s.1.place]) v0, own (oL pStr) inputs_447, own (oL (pT3 pStr pInt pInt)) latches_457, own (oL (pT2 pInt pInt)) s.2, own (oL (pT2 pStr pInt)) ([] : List ((Str) × (Int))), dead, dead, dead, dead, dead]) (fun r => (slRx (mS v0 (fun r => obj T.C_Lines ns_Lines (dl_Lines r)) (fun r => tupS [own (oL pStr) r.1, own (oL (pT3 pStr pInt pInt)) r.2.1, own (oL (pT2 pInt pInt)) r.2.2.1, own (oL (pT2 pStr pInt)) r.2.2.2])) r)) (by repeat' (first | exact WkL.nil | exact WkS.refl | exact WkS.dead | exact WkS.list | exact WkS.dict | exact WkS.lstS (fun _ => WkS.list) | refine WkL.cons ?_ ?_)) hm ?_ ?_ ?_
        · rintro B1 s out hm hr1 hl1
          obtain ⟨lines_466, ands_467⟩ := s
          obtain ⟨r_468, h_469, hm⟩ := Option.bind_eq_some_iff.mp hm
          refine ⟨_, (xt_val (x_lendF 0 rfl (WkS.hold (WkS.obj (sl := sl_Lines) (by repeat' (first | exact WkL.nil | exact WkS.refl | exact WkS.dead | exact WkS.list | exact WkS.dict | exact WkS.lstS (fun _ => WkS.list) | refine WkL.cons ?_ ?_)) (by repeat' (first | exact trivial | refine ⟨⟨_, _, _, rfl⟩, ?_⟩)))) Flat.bl (x_meth (z := ((⟨lines_466._rest, lines_466.place⟩ : S_Lines), ("and" : Str))) (ok_Lines_more T) (by decide) T.cl_Lines T.me_Lines_more T.b_Lines_more (x_var 0) (xa_cons x_str xa_nil) rfl (by repeat' (first | exact trivial | refine ⟨no_val, ?_⟩ | refine ⟨no_borL, ?_⟩ | refine ⟨no_bor, ?_⟩)) h_469))), fun hz => ?_, fun hz => ?_⟩
          · have hm := condT hz hm
            show Go _ _ _ _ _ [hold (obj T.C_Lines ["_rest", "place"] [own (oL pStr) lines_466._rest, val pInt lines_466.place]) v0, own (oL pStr) inputs_447, own (oL (pT3 pStr pInt pInt)) latches_457, own (oL (pT2 pInt pInt)) ands_467, own (oL (pT2 pStr pInt)) ([] : List ((Str) × (Int))), dead, dead, dead, dead, dead]
            rcases exK_some hm with ⟨e_472, h_471, hm⟩ | ⟨o_470, h_471, hm⟩
            · cases hm
              exact go_asgXm (xxm_methR (EX := exT T) (z := ((⟨lines_466._rest, lines_466.place⟩ : S_Lines), ("and" : Str), (0 : Int), (2 : Int))) (ok_Lines_take_numbers T) (by decide) T.cl_Lines T.me_Lines_take_numbers T.b_Lines_take_numbers (pl_hold 0 (by repeat' (first | exact Stb.nil | exact trivial | exact stb_map (fun _ => trivial) _ | refine Stb.cons ?_ ?_))) rfl (xa_cons x_str (xa_cons x_int (xa_cons x_int xa_nil))) rfl (by repeat' (first | exact trivial | refine ⟨no_val, ?_⟩ | refine ⟨no_borL, ?_⟩ | refine ⟨no_bor, ?_⟩)) h_471) (Wish.lift (hW _ (Option.some.inj (hr1 _ rfl)).symm _) hl1)
            · obtain ⟨q_473, h_474, hm⟩ := Option.bind_eq_some_iff.mp hm
              refine go_asgM (Γ1 := [hold (obj T.C_Lines ["_rest", "place"] [own (oL pStr) o_470.1._rest, val pInt o_470.1.place]) v0, own (oL pStr) inputs_447, own (oL (pT3 pStr pInt pInt)) latches_457, own (oL (pT2 pInt pInt)) ands_467, own (oL (pT2 pStr pInt)) ([] : List ((Str) × (Int))), dead, dead, dead, dead, dead]) (XM.wk (xm_methR (z := ((⟨lines_466._rest, lines_466.place⟩ : S_Lines), ("and" : Str), (0 : Int), (2 : Int))) (ok_Lines_take_numbers T) (by decide) T.cl_Lines T.me_Lines_take_numbers T.b_Lines_take_numbers (pl_hold 0 (by repeat' (first | exact Stb.nil | exact trivial | exact stb_map (fun _ => trivial) _ | refine Stb.cons ?_ ?_))) rfl (xa_cons x_str (xa_cons x_int (xa_cons x_int xa_nil))) rfl (by repeat' (first | exact trivial | refine ⟨no_val, ?_⟩ | refine ⟨no_borL, ?_⟩ | refine ⟨no_bor, ?_⟩)) h_471) (WkS.dataH (sl := slH_2) (z := q_473) (pdII_to h_474))) (xg_lstH (sl := slH_2) (z := q_473) (xgs_cons (xg_name 8) (xgs_cons (xg_name 9) xgs_nil))) ?_
              show Go _ _ _ _ _ [hold (obj T.C_Lines ["_rest", "place"] [own (oL pStr) o_470.1._rest, val pInt o_470.1.place]) v0, own (oL pStr) inputs_447, own (oL (pT3 pStr pInt pInt)) latches_457, own (oL (pT2 pInt pInt)) ands_467, own (oL (pT2 pStr pInt)) ([] : List ((Str) × (Int))), dead, dead, dead, val pInt q_473.1, val pInt q_473.2]
              obtain ⟨h_475, hm⟩ := guardO_some hm
              refine go_append (pl_name 3 (by repeat' (first | exact Stb.nil | exact trivial | exact stb_map (fun _ => trivial) _ | refine Stb.cons ?_ ?_)) (hso := own_some)) (x_tup2 (xa_cons (x_var 8) (xa_cons (x_var 9) xa_nil))) h_475 ?_
              show Go _ _ _ _ _ [hold (obj T.C_Lines ["_rest", "place"] [own (oL pStr) o_470.1._rest, val pInt o_470.1.place]) v0, own (oL pStr) inputs_447, own (oL (pT3 pStr pInt pInt)) latches_457, own (oL (pT2 pInt pInt)) (ands_467 ++ [(q_473.1, q_473.2)]), own (oL (pT2 pStr pInt)) ([] : List ((Str) × (Int))), dead, dead, dead, val pInt q_473.1, val pInt q_473.2]
              cases hm
              exact go_nil (fun σ H h => ⟨_, rfl, h.wk (by repeat' (first | exact WkL.nil | exact WkS.refl | exact WkS.dead | exact WkS.list | exact WkS.dict | exact WkS.lstS (fun _ => WkS.list) | refine WkL.cons ?_ ?_))⟩)
          · have hm := condF hz hm
            cases hm
            rfl
        · rintro s hm
          obtain ⟨lines_466, ands_467⟩ := s
          show Go _ _ _ _ _ [hold (obj T.C_Lines ["_rest", "place"] [own (oL pStr) lines_466._rest, val pInt lines_466.place]) v0, own (oL pStr) inputs_447, own (oL (pT3 pStr pInt pInt)) latches_457, own (oL (pT2 pInt pInt)) ands_467, own (oL (pT2 pStr pInt)) ([] : List ((Str) × (Int))), dead, dead, dead, dead, dead]
          refine go_whileK (fun s => [hold (obj T.C_Lines ["_rest", "place"] [own (oL pStr) s.1._rest, val pInt s.1.place]) v0, own (oL pStr) inputs_447, own (oL (pT3 pStr pInt pInt)) latches_457, own (oL (pT2 pInt pInt)) ands_467, own (oL (pT2 pStr pInt)) s.2, dead, dead, dead, dead, dead]) (fun r => (slRx (mS v0 (fun r => obj T.C_Lines ns_Lines (dl_Lines r)) (fun r => tupS [own (oL pStr) r.1, own (oL (pT3 pStr pInt pInt)) r.2.1, own (oL (pT2 pInt pInt)) r.2.2.1, own (oL (pT2 pStr pInt)) r.2.2.2])) r)) (by repeat' (first | exact WkL.nil | exact WkS.refl | exact WkS.dead | exact WkS.list | exact WkS.dict | exact WkS.lstS (fun _ => WkS.list) | refine WkL.cons ?_ ?_)) hm ?_ ?_ ?_
          · rintro B1 s out hm hr1 hl1
            obtain ⟨lines_476, outputs_477⟩ := s
            obtain ⟨r_478, h_479, hm⟩ := Option.bind_eq_some_iff.mp hm
            refine ⟨_, (xt_val (x_lendF 0 rfl (WkS.hold (WkS.obj (sl := sl_Lines) (by repeat' (first | exact WkL.nil | exact WkS.refl | exact WkS.dead | exact WkS.list | exact WkS.dict | exact WkS.lstS (fun _ => WkS.list) | refine WkL.cons ?_ ?_)) (by repeat' (first | exact trivial | refine ⟨⟨_, _, _, rfl⟩, ?_⟩)))) Flat.bl (x_meth (z := ((⟨lines_476._rest, lines_476.place⟩ : S_Lines), ("output" : Str))) (ok_Lines_more T) (by decide) T.cl_Lines T.me_Lines_more T.b_Lines_more (x_var 0) (xa_cons x_str xa_nil) rfl (by repeat' (first | exact trivial | refine ⟨no_val, ?_⟩ | refine ⟨no_borL, ?_⟩ | refine ⟨no_bor, ?_⟩)) h_479))), fun hz => ?_, fun hz => ?_⟩
            · have hm := condT hz hm
              show Go _ _ _ _ _ [hold (obj T.C_Lines ["_rest", "place"] [own (oL pStr) lines_476._rest, val pInt lines_476.place]) v0, own (oL pStr) inputs_447, own (oL (pT3 pStr pInt pInt)) latches_457, own (oL (pT2 pInt pInt)) ands_467, own (oL (pT2 pStr pInt)) outputs_477, dead, dead, dead, dead, dead]
              rcases exK_some hm with ⟨e_482, h_481, hm⟩ | ⟨o_480, h_481, hm⟩
              · cases hm
                exact go_asgXm (xxm_methR (EX := exT T) (z := ((⟨lines_476._rest, lines_476.place⟩ : S_Lines), ("output" : Str), (1 : Int), (1 : Int))) (ok_Lines_take_numbers T) (by decide) T.cl_Lines T.me_Lines_take_numbers T.b_Lines_take_numbers (pl_hold 0 (by repeat' (first | exact Stb.nil | exact trivial | exact stb_map (fun _ => trivial) _ | refine Stb.cons ?_ ?_))) rfl (xa_cons x_str (xa_cons x_int (xa_cons x_int xa_nil))) rfl (by repeat' (first | exact trivial | refine ⟨no_val, ?_⟩ | refine ⟨no_borL, ?_⟩ | refine ⟨no_bor, ?_⟩)) h_481) (Wish.lift (hW _ (Option.some.inj (hr1 _ rfl)).symm _) hl1)
              · obtain ⟨q_483, h_484, hm⟩ := Option.bind_eq_some_iff.mp hm
                refine go_asgM (Γ1 := [hold (obj T.C_Lines ["_rest", "place"] [own (oL pStr) o_480.1._rest, val pInt o_480.1.place]) v0, own (oL pStr) inputs_447, own (oL (pT3 pStr pInt pInt)) latches_457, own (oL (pT2 pInt pInt)) ands_467, own (oL (pT2 pStr pInt)) outputs_477, dead, dead, dead, dead, dead]) (XM.wk (xm_methR (z := ((⟨lines_476._rest, lines_476.place⟩ : S_Lines), ("output" : Str), (1 : Int), (1 : Int))) (ok_Lines_take_numbers T) (by decide) T.cl_Lines T.me_Lines_take_numbers T.b_Lines_take_numbers (pl_hold 0 (by repeat' (first | exact Stb.nil | exact trivial | exact stb_map (fun _ => trivial) _ | refine Stb.cons ?_ ?_))) rfl (xa_cons x_str (xa_cons x_int (xa_cons x_int xa_nil))) rfl (by repeat' (first | exact trivial | refine ⟨no_val, ?_⟩ | refine ⟨no_borL, ?_⟩ | refine ⟨no_bor, ?_⟩)) h_481) (WkS.dataH (sl := slH_3) (z := q_483) (pdSI_to h_484))) (xg_lstH (sl := slH_3) (z := q_483) (xgs_cons (xg_name 5) (xgs_cons (xg_name 7) xgs_nil))) ?_
                show Go _ _ _ _ _ [hold (obj T.C_Lines ["_rest", "place"] [own (oL pStr) o_480.1._rest, val pInt o_480.1.place]) v0, own (oL pStr) inputs_447, own (oL (pT3 pStr pInt pInt)) latches_457, own (oL (pT2 pInt pInt)) ands_467, own (oL (pT2 pStr pInt)) outputs_477, val pStr q_483.1, dead, val pInt q_483.2, dead, dead]
                obtain ⟨h_485, hm⟩ := guardO_some hm
                refine go_append (pl_name 4 (by repeat' (first | exact Stb.nil | exact trivial | exact stb_map (fun _ => trivial) _ | refine Stb.cons ?_ ?_)) (hso := own_some)) (x_tup2 (xa_cons (x_var 5) (xa_cons (x_var 7) xa_nil))) h_485 ?_
                show Go _ _ _ _ _ [hold (obj T.C_Lines ["_rest", "place"] [own (oL pStr) o_480.1._rest, val pInt o_480.1.place]) v0, own (oL pStr) inputs_447, own (oL (pT3 pStr pInt pInt)) latches_457, own (oL (pT2 pInt pInt)) ands_467, own (oL (pT2 pStr pInt)) (outputs_477 ++ [(q_483.1, q_483.2)]), val pStr q_483.1, dead, val pInt q_483.2, dead, dead]
                cases hm
                exact go_nil (fun σ H h => ⟨_, rfl, h.wk (by repeat' (first | exact WkL.nil | exact WkS.refl | exact WkS.dead | exact WkS.list | exact WkS.dict | exact WkS.lstS (fun _ => WkS.list) | refine WkL.cons ?_ ?_))⟩)
            · have hm := condF hz hm
              cases hm
              rfl
          · rintro s hm
            obtain ⟨lines_476, outputs_477⟩ := s
            show Go _ _ _ _ _ [hold (obj T.C_Lines ["_rest", "place"] [own (oL pStr) lines_476._rest, val pInt lines_476.place]) v0, own (oL pStr) inputs_447, own (oL (pT3 pStr pInt pInt)) latches_457, own (oL (pT2 pInt pInt)) ands_467, own (oL (pT2 pStr pInt)) outputs_477, dead, dead, dead, dead, dead]
            cases hm
            exact go_retXS (q := ((⟨lines_476._rest, lines_476.place⟩ : S_Lines), ((inputs_447, latches_457, ands_467, outputs_477) : (List (Str)) × (List ((Str) × (Int) × (Int))) × (List ((Int) × (Int))) × (List ((Str) × (Int)))))) (s1 := fun r => obj T.C_Lines ns_Lines (dl_Lines r)) (Sr := fun r => tupS [own (oL pStr) r.1, own (oL (pT3 pStr pInt pInt)) r.2.1, own (oL (pT2 pInt pInt)) r.2.2.1, own (oL (pT2 pStr pInt)) r.2.2.2]) 0 (XN.m (xn_tup (xna_cons (xn_move 1 rfl own_some) (xna_cons (xn_move 2 rfl own_some) (xna_cons (xn_move 3 rfl own_some) (xna_cons (xn_move 4 rfl own_some) xna_nil)))) (le_line rfl))) (fun v H h => ⟨_, rfl, mS_rt h⟩)
          · rintro r hm v H h
            cases hm
            first | exact h | exact ⟨_, rfl, h⟩ | exact (no_noS h).elim | exact mSX_rt h | exact ⟨_, rfl, mSX_rt h⟩
        · rintro r hm v H h
          cases hm
          first | exact h | exact ⟨_, rfl, h⟩ | exact (no_noS h).elim | exact mSX_rt h | exact ⟨_, rfl, mSX_rt h⟩
      · rintro r hm v H h
        cases hm
        first | exact h | exact ⟨_, rfl, h⟩ | exact (no_noS h).elim | exact mSX_rt h | exact ⟨_, rfl, mSX_rt h⟩
    · rintro r hm v H h
      cases hm
      first | exact h | exact ⟨_, rfl, h⟩ | exact (no_noS h).elim | exact mSX_rt h | exact ⟨_, rfl, mSX_rt h⟩

theorem ok_Lines_finish (T : Txt P K mg) : FnOk P w K mg base (L2.CX P w) 3 T.f_Lines_finish T.d_Lines_finish ["self"] (spMR (fun z => obj T.C_Lines ns_Lines (dl_Lines z)) (fun (z : (S_Lines)) => []) (fun z => m_Lines_finish z) (fun r => obj T.C_Lines ns_Lines (dl_Lines r)) (fun r => val pNon r) (exT T)) := by
  refine fn_mutR T.F_Lines_finish sc_Lines_finish (fun _ => rfl) (fun cdv A outer s H E hr self_0 r v0 B hm hW => ?_)
  replace hm : m_Lines_finish self_0 = some r := hm
  unfold m_Lines_finish at hm
  show Go _ _ _ _ _ [hold (obj T.C_Lines ["_rest", "place"] [own (oL pStr) self_0._rest, val pInt self_0.place]) v0]
  refine go_if (xt_cmp (fun _ => op_lt) o_bl (nomark _) (x_fld 1 (x_varH 0) OV.bobj T.at_Lines_place) (x_callB (c_len _) T.g_len (by decide +kernel) (o_lenL LV.bor.sv) (xa1 (x_fldL 0 (x_varH 0) OV.bobj T.at_Lines__rest)))) (fun hz => ?_) (fun hz => ?_)
  · have hm := condT hz hm
    obtain ⟨h_486, hm⟩ := guardO_some hm
    cases hm
    exact go_raise (EX := exT T) (xm_init (fs := [.i (self_0.place + (1 : Int))]) T.xo_InvalidText T.xic_InvalidText T.xti_InvalidText (ok_InvalidText_init T) (by decide) T.b_InvalidText_init T.g_InvalidText (xa_cons (x_op (fun _ => op_add) o_int (x_fld 1 (x_varH 0) OV.bobj T.at_Lines_place) x_int) xa_nil) rfl rfl (ok1 h_486) (fun dd F h => exT_mk_InvalidText T h)) (hW _ rfl _)
  · have hm := condF hz hm
    refine go_join ?_
    cases hm
    exact go_nilMR 0

theorem ok_is_name (T : Txt P K mg) : FnOk P w K mg base CX0 1 T.f_is_name T.d_is_name ["text"] (spP (fun (z : (Str)) => [val pStr z]) (fun z => m_is_name z) (fun r => val pBl r)) := by
  refine fn_pure T.F_is_name sc_is_name (fun _ => rfl) (fun cdv A outer s H E hr text_0 r B hm => ?_)
  replace hm : m_is_name text_0 = some r := hm
  unfold m_is_name at hm
  show Go _ _ _ _ _ [val pStr text_0, dead]
  obtain ⟨h_487, hm⟩ := guardO_some hm
  obtain ⟨b_491, h_492, hm⟩ := Option.bind_eq_some_iff.mp hm
  refine go_if (xw_pt (xw_orP (xt_not (xt_chain (fun _ => op_le) (fun _ => op_le) o_bl (fun _ => o_bl) rfl x_int (x_callB (fun _ => call_len_str) T.g_len (by decide +kernel) (o_lenS h_487) (xa1 (x_var 0))) (fun _ => (x_glob (v := .int 12) T.g_MOST_SIGNS ⟨_, rfl⟩ (fun _ => rfl)))) rfl) h_492 (fun z hm => by obtain ⟨h_490, hm⟩ := guardO_some hm; obtain ⟨c_488, h_489, hm⟩ := Option.bind_eq_some_iff.mp hm; cases hm; exact (xw_or1 (xt_cmp (fun _ => op_notin_str) o_ninS (by with_unfolding_all rfl) (x_ixS (x_var 0) x_int h_490 h_489) (x_glob (p := pStr) (v := .str "abcdefghijklmnopqrstuvwxyz") T.g_FIRST_SIGNS ⟨_, rfl⟩ (fun _ => rfl))))))) (fun hz => ?_) (fun hz => ?_)
  · have hm := condT hz hm
    cases hm
    exact go_ret x_bl (fun v H h => h)
  · have hm := condF hz hm
    refine go_join ?_
    refine go_forK (rs := fun c => vStr ⟨#[c]⟩) (fun s => [val pStr text_0, dead]) (fun r => val pBl r) (xi_str (x_var 0)) (by repeat' (first | exact WkL.nil | exact WkS.refl | exact WkS.dead | exact WkS.list | exact WkS.dict | exact WkS.lstS (fun _ => WkS.list) | refine WkL.cons ?_ ?_)) hm ?_ ?_ ?_
    · rintro B1 sign_493 s out hx hm hr1 hl1
      refine ⟨_, _, (xg_name 1), ?_⟩
      show Go _ _ _ _ _ [val pStr text_0, val pStr (⟨#[sign_493]⟩ : Str)]
      refine go_if (xt_cmp (fun _ => op_notin_str) o_ninS (by with_unfolding_all rfl) (x_var 1) (x_glob (p := pStr) (v := .str "abcdefghijklmnopqrstuvwxyz0123456789_") T.g_SIGNS ⟨_, rfl⟩ (fun _ => rfl))) (fun hz => ?_) (fun hz => ?_)
      · have hm := condT hz hm
        cases hm
        exact go_ret x_bl (fun v H h => ⟨_, rfl, h⟩)
      · have hm := condF hz hm
        refine go_join ?_
        cases hm
        exact go_nil (fun σ H h => ⟨_, rfl, h.wk (by repeat' (first | exact WkL.nil | exact WkS.refl | exact WkS.dead | exact WkS.list | exact WkS.dict | exact WkS.lstS (fun _ => WkS.list) | refine WkL.cons ?_ ?_))⟩)
    · rintro s hm
      show Go _ _ _ _ _ [val pStr text_0, dead]
      cases hm
      exact go_ret x_bl (fun v H h => h)
    · rintro r hm v H h
      cases hm
      first | exact h | exact ⟨_, rfl, h⟩ | exact (no_noS h).elim

theorem ok_fault_of_leaves (T : Txt P K mg) : FnOk P w K mg base CX0 2 T.f_fault_of_leaves T.d_fault_of_leaves ["inputs", "latches", "node_count"] (spP (fun (z : (List (Str)) × (List ((Str) × (Int) × (Int))) × (Int)) => [val (pL pStr) z.1, val (pL (pT3 pStr pInt pInt)) z.2.1, val pInt z.2.2]) (fun z => m_fault_of_leaves z.1 z.2.1 z.2.2) (fun r => val (pOpt (pT2 pStr pInt)) r)) := by
  refine fn_pure T.F_fault_of_leaves sc_fault_of_leaves (fun _ => rfl) (fun cdv A outer s H E hr z r B hm => ?_)
  obtain ⟨inputs_0, latches_0, node_count_0⟩ := z
  replace hm : m_fault_of_leaves inputs_0 latches_0 node_count_0 = some r := hm
  unfold m_fault_of_leaves at hm
  show Go _ _ _ _ _ [val (pL pStr) inputs_0, val (pL (pT3 pStr pInt pInt)) latches_0, val pInt node_count_0, dead, dead, dead, dead, dead]
  refine go_set 3 (x_dnewK (q := dStr) (p := pBl) rfl) ?_
  show Go _ _ _ _ _ [val (pL pStr) inputs_0, val (pL (pT3 pStr pInt pInt)) latches_0, val pInt node_count_0, own (oD dStr pBl) ([] : List ((Str) × (Bool))), dead, dead, dead, dead]
  refine go_forK (rs := val (pT2 pInt pStr)) (fun s => [val (pL pStr) inputs_0, val (pL (pT3 pStr pInt pInt)) latches_0, val pInt node_count_0, own (oD dStr pBl) s, dead, dead, dead, dead]) (fun r => val (pOpt (pT2 pStr pInt)) r) (xi_enum' T.g_enumerate (x_var 0)) (by repeat' (first | exact WkL.nil | exact WkS.refl | exact WkS.dead | exact WkS.list | exact WkS.dict | exact WkS.lstS (fun _ => WkS.list) | refine WkL.cons ?_ ?_)) hm ?_ ?_ ?_
  · rintro B1 p_495 names_494 out hx hm hr1 hl1
    refine ⟨_, _, (xg_tup2 (xgs_cons (xg_name 4) (xgs_cons (xg_name 5) xgs_nil))), ?_⟩
    show Go _ _ _ _ _ [val (pL pStr) inputs_0, val (pL (pT3 pStr pInt pInt)) latches_0, val pInt node_count_0, own (oD dStr pBl) names_494, val pInt p_495.1, val pStr p_495.2, dead, dead]
    obtain ⟨b_498, h_499, hm⟩ := Option.bind_eq_some_iff.mp hm
    refine go_if (xw_pt (xw_orP (xt_cmp (fun _ => op_eq) o_eqI (nomark _) (x_var 4) (x_glob (v := .int 16) T.g_MOST_INPUTS ⟨_, rfl⟩ (fun _ => rfl))) h_499 (fun z hm => by obtain ⟨r_496, h_497, hm⟩ := Option.bind_eq_some_iff.mp hm; cases hm; exact (xw_or (xt_not (xt_val (x_call (z := p_495.2) (ok_is_name T) (by decide) T.g_is_name T.k_is_name T.b_is_name (xa_cons (x_var 5) xa_nil) rfl (by repeat' (first | exact trivial | refine ⟨no_val, ?_⟩ | refine ⟨no_borL, ?_⟩ | refine ⟨no_bor, ?_⟩)) h_497)) rfl) (fun _ => (xw_or1 (xt_din (q := dStr) (x_var 5) (x_varD 3) DV.bor rfl))) rfl)))) (fun hz => ?_) (fun hz => ?_)
    · have hm := condT hz hm
      cases hm
      exact go_ret (XV.wk (x_tup2 (xa_cons x_str (xa_cons (x_var 4) xa_nil))) (WkS.opt (fun F v h e => by obtain ⟨l, a, b, q, _⟩ := h; rw [e] at q; cases q))) (fun v H h => ⟨_, rfl, h⟩)
    · have hm := condF hz hm
      refine go_join ?_
      obtain ⟨h_500, hm⟩ := guardO_some hm
      refine go_dput (q := dStr) (pl_name 3 (by repeat' (first | exact Stb.nil | exact trivial | exact stb_map (fun _ => trivial) _ | refine Stb.cons ?_ ?_)) (hso := own_some)) (x_var 5) x_bl h_500 ?_
      show Go _ _ _ _ _ [val (pL pStr) inputs_0, val (pL (pT3 pStr pInt pInt)) latches_0, val pInt node_count_0, own (oD dStr pBl) (dput names_494 p_495.2 true), val pInt p_495.1, val pStr p_495.2, dead, dead]
      cases hm
      exact go_nil (fun σ H h => ⟨_, rfl, h.wk (by repeat' (first | exact WkL.nil | exact WkS.refl | exact WkS.dead | exact WkS.list | exact WkS.dict | exact WkS.lstS (fun _ => WkS.list) | refine WkL.cons ?_ ?_))⟩)
  · rintro names_494 hm
    show Go _ _ _ _ _ [val (pL pStr) inputs_0, val (pL (pT3 pStr pInt pInt)) latches_0, val pInt node_count_0, own (oD dStr pBl) names_494, dead, dead, dead, dead]
    refine go_forK (rs := val (pT2 pInt (pT3 pStr pInt pInt))) (fun s => [val (pL pStr) inputs_0, val (pL (pT3 pStr pInt pInt)) latches_0, val pInt node_count_0, own (oD dStr pBl) s, dead, dead, dead, dead]) (fun r => val (pOpt (pT2 pStr pInt)) r) (xi_enum' T.g_enumerate (x_var 1)) (by repeat' (first | exact WkL.nil | exact WkS.refl | exact WkS.dead | exact WkS.list | exact WkS.dict | exact WkS.lstS (fun _ => WkS.list) | refine WkL.cons ?_ ?_)) hm ?_ ?_ ?_
    · rintro B1 p_502 names_501 out hx hm hr1 hl1
      refine ⟨_, _, (xg_tup2 (xgs_cons (xg_name 4) (xgs_cons (xg_tup3 (xgs_cons (xg_name 5) (xgs_cons (xg_name 6) (xgs_cons (xg_name 7) xgs_nil)))) xgs_nil))), ?_⟩
      show Go _ _ _ _ _ [val (pL pStr) inputs_0, val (pL (pT3 pStr pInt pInt)) latches_0, val pInt node_count_0, own (oD dStr pBl) names_501, val pInt p_502.1, val pStr p_502.2.1, val pInt p_502.2.2.1, val pInt p_502.2.2.2]
      obtain ⟨b_505, h_506, hm⟩ := Option.bind_eq_some_iff.mp hm
      refine go_if (xw_pt (xw_orP (xt_cmp (fun _ => op_eq) o_eqI (nomark _) (x_var 4) (x_glob (v := .int 40) T.g_MOST_LATCHES ⟨_, rfl⟩ (fun _ => rfl))) h_506 (fun z hm => by obtain ⟨r_503, h_504, hm⟩ := Option.bind_eq_some_iff.mp hm; cases hm; exact (xw_or (xt_not (xt_val (x_call (z := p_502.2.1) (ok_is_name T) (by decide) T.g_is_name T.k_is_name T.b_is_name (xa_cons (x_var 5) xa_nil) rfl (by repeat' (first | exact trivial | refine ⟨no_val, ?_⟩ | refine ⟨no_borL, ?_⟩ | refine ⟨no_bor, ?_⟩)) h_504)) rfl) (fun _ => (xw_or1 (xt_din (q := dStr) (x_var 5) (x_varD 3) DV.bor rfl))) rfl)))) (fun hz => ?_) (fun hz => ?_)
      · have hm := condT hz hm
        cases hm
        exact go_ret (XV.wk (x_tup2 (xa_cons x_str (xa_cons (x_var 4) xa_nil))) (WkS.opt (fun F v h e => by obtain ⟨l, a, b, q, _⟩ := h; rw [e] at q; cases q))) (fun v H h => ⟨_, rfl, h⟩)
      · have hm := condF hz hm
        refine go_join ?_
        refine go_if (xw_pt (xw_or (xt_not (xt_chain (fun _ => op_le) (fun _ => op_le) o_bl (fun _ => o_bl) rfl x_int (x_var 6) (fun _ => x_int)) rfl) (fun _ => (xw_or1 (xt_not (xt_chain (fun _ => op_le) (fun _ => op_lt) o_bl (fun _ => o_bl) rfl x_int (x_var 7) (fun _ => (x_op (fun _ => op_mul) (o_intC (.inl (by decide))) x_int (x_var 2)))) rfl))) rfl)) (fun hz => ?_) (fun hz => ?_)
        · have hm := condT hz hm
          cases hm
          exact go_ret (XV.wk (x_tup2 (xa_cons x_str (xa_cons (x_var 4) xa_nil))) (WkS.opt (fun F v h e => by obtain ⟨l, a, b, q, _⟩ := h; rw [e] at q; cases q))) (fun v H h => ⟨_, rfl, h⟩)
        · have hm := condF hz hm
          refine go_join ?_
          obtain ⟨h_507, hm⟩ := guardO_some hm
          refine go_dput (q := dStr) (pl_name 3 (by repeat' (first | exact Stb.nil | exact trivial | exact stb_map (fun _ => trivial) _ | refine Stb.cons ?_ ?_)) (hso := own_some)) (x_var 5) x_bl h_507 ?_
          show Go _ _ _ _ _ [val (pL pStr) inputs_0, val (pL (pT3 pStr pInt pInt)) latches_0, val pInt node_count_0, own (oD dStr pBl) (dput names_501 p_502.2.1 true), val pInt p_502.1, val pStr p_502.2.1, val pInt p_502.2.2.1, val pInt p_502.2.2.2]
          cases hm
          exact go_nil (fun σ H h => ⟨_, rfl, h.wk (by repeat' (first | exact WkL.nil | exact WkS.refl | exact WkS.dead | exact WkS.list | exact WkS.dict | exact WkS.lstS (fun _ => WkS.list) | refine WkL.cons ?_ ?_))⟩)
    · rintro names_501 hm
      show Go _ _ _ _ _ [val (pL pStr) inputs_0, val (pL (pT3 pStr pInt pInt)) latches_0, val pInt node_count_0, own (oD dStr pBl) names_501, dead, dead, dead, dead]
      cases hm
      exact go_ret (XV.wk x_non WkS.optN) (fun v H h => h)
    · rintro r hm v H h
      cases hm
      first | exact h | exact ⟨_, rfl, h⟩ | exact (no_noS h).elim
  · rintro r hm v H h
    cases hm
    first | exact h | exact ⟨_, rfl, h⟩ | exact (no_noS h).elim

theorem ok_fault_of_ands (T : Txt P K mg) : FnOk P w K mg base CX0 1 T.f_fault_of_ands T.d_fault_of_ands ["first_and", "ands"] (spP (fun (z : (Int) × (List ((Int) × (Int)))) => [val pInt z.1, val (pL (pT2 pInt pInt)) z.2]) (fun z => m_fault_of_ands z.1 z.2) (fun r => val (pOpt (pT2 pStr pInt)) r)) := by
  refine fn_pure T.F_fault_of_ands sc_fault_of_ands (fun _ => rfl) (fun cdv A outer s H E hr z r B hm => ?_)
  obtain ⟨first_and_0, ands_0⟩ := z
  replace hm : m_fault_of_ands first_and_0 ands_0 = some r := hm
  unfold m_fault_of_ands at hm
  show Go _ _ _ _ _ [val pInt first_and_0, val (pL (pT2 pInt pInt)) ands_0, dead, dead, dead, dead]
  refine go_forK (rs := val (pT2 pInt (pT2 pInt pInt))) (fun s => [val pInt first_and_0, val (pL (pT2 pInt pInt)) ands_0, dead, dead, dead, dead]) (fun r => val (pOpt (pT2 pStr pInt)) r) (xi_enum' T.g_enumerate (x_var 1)) (by repeat' (first | exact WkL.nil | exact WkS.refl | exact WkS.dead | exact WkS.list | exact WkS.dict | exact WkS.lstS (fun _ => WkS.list) | refine WkL.cons ?_ ?_)) hm ?_ ?_ ?_
  · rintro B1 p_508 s out hx hm hr1 hl1
    refine ⟨_, _, (xg_tup2 (xgs_cons (xg_name 2) (xgs_cons (xg_tup2 (xgs_cons (xg_name 3) (xgs_cons (xg_name 4) xgs_nil))) xgs_nil))), ?_⟩
    show Go _ _ _ _ _ [val pInt first_and_0, val (pL (pT2 pInt pInt)) ands_0, val pInt p_508.1, val pInt p_508.2.1, val pInt p_508.2.2, dead]
    obtain ⟨limit_509, h_510, hm⟩ := letO_some hm
    refine go_set 5 (XV.eqV (x_op (fun _ => op_mul) (o_intC (.inl (by decide))) x_int (x_op (fun _ => op_add) o_int (x_var 0) (x_var 2))) h_510) ?_
    show Go _ _ _ _ _ [val pInt first_and_0, val (pL (pT2 pInt pInt)) ands_0, val pInt p_508.1, val pInt p_508.2.1, val pInt p_508.2.2, val pInt limit_509]
    refine go_if (xw_pt (xw_or (xt_cmp (fun _ => op_eq) o_eqI (nomark _) (x_var 2) (x_glob (v := .int 2000) T.g_MOST_ANDS ⟨_, rfl⟩ (fun _ => rfl))) (fun _ => (xw_or (xt_not (xt_chain (fun _ => op_le) (fun _ => op_lt) o_bl (fun _ => o_bl) rfl x_int (x_var 3) (fun _ => (x_var 5))) rfl) (fun _ => (xw_or1 (xt_not (xt_chain (fun _ => op_le) (fun _ => op_lt) o_bl (fun _ => o_bl) rfl x_int (x_var 4) (fun _ => (x_var 5))) rfl))) rfl)) rfl)) (fun hz => ?_) (fun hz => ?_)
    · have hm := condT hz hm
      cases hm
      exact go_ret (XV.wk (x_tup2 (xa_cons x_str (xa_cons (x_var 2) xa_nil))) (WkS.opt (fun F v h e => by obtain ⟨l, a, b, q, _⟩ := h; rw [e] at q; cases q))) (fun v H h => ⟨_, rfl, h⟩)
    · have hm := condF hz hm
      refine go_join ?_
      cases hm
      exact go_nil (fun σ H h => ⟨_, rfl, h.wk (by repeat' (first | exact WkL.nil | exact WkS.refl | exact WkS.dead | exact WkS.list | exact WkS.dict | exact WkS.lstS (fun _ => WkS.list) | refine WkL.cons ?_ ?_))⟩)
  · rintro s hm
    show Go _ _ _ _ _ [val pInt first_and_0, val (pL (pT2 pInt pInt)) ands_0, dead, dead, dead, dead]
    cases hm
    exact go_ret (XV.wk x_non WkS.optN) (fun v H h => h)
  · rintro r hm v H h
    cases hm
    first | exact h | exact ⟨_, rfl, h⟩ | exact (no_noS h).elim

theorem ok_fault_of_outputs (T : Txt P K mg) : FnOk P w K mg base CX0 2 T.f_fault_of_outputs T.d_fault_of_outputs ["outputs", "node_count"] (spP (fun (z : (List ((Str) × (Int))) × (Int)) => [val (pL (pT2 pStr pInt)) z.1, val pInt z.2]) (fun z => m_fault_of_outputs z.1 z.2) (fun r => val (pOpt (pT2 pStr pInt)) r)) := by
  refine fn_pure T.F_fault_of_outputs sc_fault_of_outputs (fun _ => rfl) (fun cdv A outer s H E hr z r B hm => ?_)
  obtain ⟨outputs_0, node_count_0⟩ := z
  replace hm : m_fault_of_outputs outputs_0 node_count_0 = some r := hm
  unfold m_fault_of_outputs at hm
  show Go _ _ _ _ _ [val (pL (pT2 pStr pInt)) outputs_0, val pInt node_count_0, dead, dead, dead, dead]
  refine go_set 2 (x_dnewK (q := dStr) (p := pBl) rfl) ?_
  show Go _ _ _ _ _ [val (pL (pT2 pStr pInt)) outputs_0, val pInt node_count_0, own (oD dStr pBl) ([] : List ((Str) × (Bool))), dead, dead, dead]
  refine go_forK (rs := val (pT2 pInt (pT2 pStr pInt))) (fun s => [val (pL (pT2 pStr pInt)) outputs_0, val pInt node_count_0, own (oD dStr pBl) s, dead, dead, dead]) (fun r => val (pOpt (pT2 pStr pInt)) r) (xi_enum' T.g_enumerate (x_var 0)) (by repeat' (first | exact WkL.nil | exact WkS.refl | exact WkS.dead | exact WkS.list | exact WkS.dict | exact WkS.lstS (fun _ => WkS.list) | refine WkL.cons ?_ ?_)) hm ?_ ?_ ?_
  · rintro B1 p_512 names_511 out hx hm hr1 hl1
    refine ⟨_, _, (xg_tup2 (xgs_cons (xg_name 3) (xgs_cons (xg_tup2 (xgs_cons (xg_name 4) (xgs_cons (xg_name 5) xgs_nil))) xgs_nil))), ?_⟩
    show Go _ _ _ _ _ [val (pL (pT2 pStr pInt)) outputs_0, val pInt node_count_0, own (oD dStr pBl) names_511, val pInt p_512.1, val pStr p_512.2.1, val pInt p_512.2.2]
    obtain ⟨b_515, h_516, hm⟩ := Option.bind_eq_some_iff.mp hm
    refine go_if (xw_pt (xw_orP (xt_cmp (fun _ => op_eq) o_eqI (nomark _) (x_var 3) (x_glob (v := .int 32) T.g_MOST_OUTPUTS ⟨_, rfl⟩ (fun _ => rfl))) h_516 (fun z hm => by obtain ⟨r_513, h_514, hm⟩ := Option.bind_eq_some_iff.mp hm; cases hm; exact (xw_or (xt_not (xt_val (x_call (z := p_512.2.1) (ok_is_name T) (by decide) T.g_is_name T.k_is_name T.b_is_name (xa_cons (x_var 4) xa_nil) rfl (by repeat' (first | exact trivial | refine ⟨no_val, ?_⟩ | refine ⟨no_borL, ?_⟩ | refine ⟨no_bor, ?_⟩)) h_514)) rfl) (fun _ => (xw_or1 (xt_din (q := dStr) (x_var 4) (x_varD 2) DV.bor rfl))) rfl)))) (fun hz => ?_) (fun hz => ?_)
    · have hm := condT hz hm
      cases hm
      exact go_ret (XV.wk (x_tup2 (xa_cons x_str (xa_cons (x_var 3) xa_nil))) (WkS.opt (fun F v h e => by obtain ⟨l, a, b, q, _⟩ := h; rw [e] at q; cases q))) (fun v H h => ⟨_, rfl, h⟩)
    · have hm := condF hz hm
      refine go_join ?_
      refine go_if (xt_not (xt_chain (fun _ => op_le) (fun _ => op_lt) o_bl (fun _ => o_bl) rfl x_int (x_var 5) (fun _ => (x_op (fun _ => op_mul) (o_intC (.inl (by decide))) x_int (x_var 1)))) rfl) (fun hz => ?_) (fun hz => ?_)
      · have hm := condT hz hm
        cases hm
        exact go_ret (XV.wk (x_tup2 (xa_cons x_str (xa_cons (x_var 3) xa_nil))) (WkS.opt (fun F v h e => by obtain ⟨l, a, b, q, _⟩ := h; rw [e] at q; cases q))) (fun v H h => ⟨_, rfl, h⟩)
      · have hm := condF hz hm
        refine go_join ?_
        obtain ⟨h_517, hm⟩ := guardO_some hm
        refine go_dput (q := dStr) (pl_name 2 (by repeat' (first | exact Stb.nil | exact trivial | exact stb_map (fun _ => trivial) _ | refine Stb.cons ?_ ?_)) (hso := own_some)) (x_var 4) x_bl h_517 ?_
        show Go _ _ _ _ _ [val (pL (pT2 pStr pInt)) outputs_0, val pInt node_count_0, own (oD dStr pBl) (dput names_511 p_512.2.1 true), val pInt p_512.1, val pStr p_512.2.1, val pInt p_512.2.2]
        cases hm
        exact go_nil (fun σ H h => ⟨_, rfl, h.wk (by repeat' (first | exact WkL.nil | exact WkS.refl | exact WkS.dead | exact WkS.list | exact WkS.dict | exact WkS.lstS (fun _ => WkS.list) | refine WkL.cons ?_ ?_))⟩)
  · rintro names_511 hm
    show Go _ _ _ _ _ [val (pL (pT2 pStr pInt)) outputs_0, val pInt node_count_0, own (oD dStr pBl) names_511, dead, dead, dead]
    cases hm
    exact go_ret (XV.wk x_non WkS.optN) (fun v H h => h)
  · rintro r hm v H h
    cases hm
    first | exact h | exact ⟨_, rfl, h⟩ | exact (no_noS h).elim

theorem ok_Circuit_init (T : Txt P K mg) : FnOk P w K mg base (L2.CX P w) 3 T.f_Circuit_init T.d_Circuit_init ["self", "inputs", "latches", "ands", "outputs"] (spMX T.C_Circuit (fun (z : (List (Str)) × (List ((Str) × (Int) × (Int))) × (List ((Int) × (Int))) × (List ((Str) × (Int)))) => [val (pL pStr) z.1, val (pL (pT3 pStr pInt pInt)) z.2.1, val (pL (pT2 pInt pInt)) z.2.2.1, val (pL (pT2 pStr pInt)) z.2.2.2]) (fun z => m_Circuit_init z.1 z.2.1 z.2.2.1 z.2.2.2) (fun r => obj T.C_Circuit ns_Circuit (dl_Circuit r)) (exT T)) := by
  refine fn_mutX T.F_Circuit_init sc_Circuit_init (fun _ => rfl) (fun cdv A outer s H E hr z r v0 B hm hW => ?_)
  obtain ⟨inputs_0, latches_0, ands_0, outputs_0⟩ := z
  replace hm : m_Circuit_init inputs_0 latches_0 ands_0 outputs_0 = some r := hm
  unfold m_Circuit_init at hm
  show Go _ _ _ _ _ [hold (obj T.C_Circuit [] []) v0, val (pL pStr) inputs_0, val (pL (pT3 pStr pInt pInt)) latches_0, val (pL (pT2 pInt pInt)) ands_0, val (pL (pT2 pStr pInt)) outputs_0, dead, dead, dead]
  obtain ⟨first_and_518, h_519, hm⟩ := letO_some hm
  refine go_set 5 (XV.eqV (x_op (fun _ => op_add) o_int (x_op (fun _ => op_add) o_int x_int (x_callB (c_len _) T.g_len (by decide +kernel) (o_lenL LV.val.sv) (xa1 (x_var 1)))) (x_callB (c_len _) T.g_len (by decide +kernel) (o_lenL LV.val.sv) (xa1 (x_var 2)))) h_519) ?_
  show Go _ _ _ _ _ [hold (obj T.C_Circuit [] []) v0, val (pL pStr) inputs_0, val (pL (pT3 pStr pInt pInt)) latches_0, val (pL (pT2 pInt pInt)) ands_0, val (pL (pT2 pStr pInt)) outputs_0, val pInt first_and_518, dead, dead]
  obtain ⟨node_count_520, h_521, hm⟩ := letO_some hm
  refine go_set 6 (XV.eqV (x_op (fun _ => op_add) o_int (x_var 5) (x_callB (c_len _) T.g_len (by decide +kernel) (o_lenL LV.val.sv) (xa1 (x_var 3)))) h_521) ?_
  show Go _ _ _ _ _ [hold (obj T.C_Circuit [] []) v0, val (pL pStr) inputs_0, val (pL (pT3 pStr pInt pInt)) latches_0, val (pL (pT2 pInt pInt)) ands_0, val (pL (pT2 pStr pInt)) outputs_0, val pInt first_and_518, val pInt node_count_520, dead]
  obtain ⟨r_522, h_523, hm⟩ := Option.bind_eq_some_iff.mp hm
  refine go_set 7 (x_call (z := (inputs_0, latches_0, node_count_520)) (ok_fault_of_leaves T) (by decide) T.g_fault_of_leaves T.k_fault_of_leaves T.b_fault_of_leaves (xa_cons (x_var 1) (xa_cons (x_var 2) (xa_cons (x_var 6) xa_nil))) rfl (by repeat' (first | exact trivial | refine ⟨no_val, ?_⟩ | refine ⟨no_borL, ?_⟩ | refine ⟨no_bor, ?_⟩)) h_523) ?_
  show Go _ _ _ _ _ [hold (obj T.C_Circuit [] []) v0, val (pL pStr) inputs_0, val (pL (pT3 pStr pInt pInt)) latches_0, val (pL (pT2 pInt pInt)) ands_0, val (pL (pT2 pStr pInt)) outputs_0, val pInt first_and_518, val pInt node_count_520, val (pOpt (pT2 pStr pInt)) r_522]
  obtain ⟨fault_524, hj_527, hm⟩ := Option.bind_eq_some_iff.mp hm
  refine go_ifJ [hold (obj T.C_Circuit [] []) v0, val (pL pStr) inputs_0, val (pL (pT3 pStr pInt pInt)) latches_0, val (pL (pT2 pInt pInt)) ands_0, val (pL (pT2 pStr pInt)) outputs_0, val pInt first_and_518, val pInt node_count_520, val (pOpt (pT2 pStr pInt)) fault_524] (xt_cmp (fun _ => op_isN) (o_isN opt_isN) (nomark _) (x_var 7) x_non) (fun hz => ?_) (fun hz => ?_) ?_
  · have hm := condT hz hj_527
    obtain ⟨r_525, h_526, hm⟩ := Option.bind_eq_some_iff.mp hm
    refine go_set 7 (x_call (z := (first_and_518, ands_0)) (ok_fault_of_ands T) (by decide) T.g_fault_of_ands T.k_fault_of_ands T.b_fault_of_ands (xa_cons (x_var 5) (xa_cons (x_var 3) xa_nil)) rfl (by repeat' (first | exact trivial | refine ⟨no_val, ?_⟩ | refine ⟨no_borL, ?_⟩ | refine ⟨no_bor, ?_⟩)) h_526) ?_
    show Go _ _ _ _ _ [hold (obj T.C_Circuit [] []) v0, val (pL pStr) inputs_0, val (pL (pT3 pStr pInt pInt)) latches_0, val (pL (pT2 pInt pInt)) ands_0, val (pL (pT2 pStr pInt)) outputs_0, val pInt first_and_518, val pInt node_count_520, val (pOpt (pT2 pStr pInt)) r_525]
    cases hm
    exact go_nx (by repeat' (first | exact WkL.nil | exact WkS.refl | exact WkS.dead | exact WkS.list | exact WkS.dict | exact WkS.lstS (fun _ => WkS.list) | refine WkL.cons ?_ ?_))
  · have hm := condF hz hj_527
    cases hm
    exact go_nx (by repeat' (first | exact WkL.nil | exact WkS.refl | exact WkS.dead | exact WkS.list | exact WkS.dict | exact WkS.lstS (fun _ => WkS.list) | refine WkL.cons ?_ ?_))
  obtain ⟨fault_529, hj_532, hm⟩ := Option.bind_eq_some_iff.mp hm
  refine go_ifJ [hold (obj T.C_Circuit [] []) v0, val (pL pStr) inputs_0, val (pL (pT3 pStr pInt pInt)) latches_0, val (pL (pT2 pInt pInt)) ands_0, val (pL (pT2 pStr pInt)) outputs_0, val pInt first_and_518, val pInt node_count_520, val (pOpt (pT2 pStr pInt)) fault_529] (xt_cmp (fun _ => op_isN) (o_isN opt_isN) (nomark _) (x_var 7) x_non) (fun hz => ?_) (fun hz => ?_) ?_
  · have hm := condT hz hj_532
    obtain ⟨r_530, h_531, hm⟩ := Option.bind_eq_some_iff.mp hm
    refine go_set 7 (x_call (z := (outputs_0, node_count_520)) (ok_fault_of_outputs T) (by decide) T.g_fault_of_outputs T.k_fault_of_outputs T.b_fault_of_outputs (xa_cons (x_var 4) (xa_cons (x_var 6) xa_nil)) rfl (by repeat' (first | exact trivial | refine ⟨no_val, ?_⟩ | refine ⟨no_borL, ?_⟩ | refine ⟨no_bor, ?_⟩)) h_531) ?_
    show Go _ _ _ _ _ [hold (obj T.C_Circuit [] []) v0, val (pL pStr) inputs_0, val (pL (pT3 pStr pInt pInt)) latches_0, val (pL (pT2 pInt pInt)) ands_0, val (pL (pT2 pStr pInt)) outputs_0, val pInt first_and_518, val pInt node_count_520, val (pOpt (pT2 pStr pInt)) r_530]
    cases hm
    exact go_nx (by repeat' (first | exact WkL.nil | exact WkS.refl | exact WkS.dead | exact WkS.list | exact WkS.dict | exact WkS.lstS (fun _ => WkS.list) | refine WkL.cons ?_ ?_))
  · have hm := condF hz hj_532
    cases hm
    exact go_nx (by repeat' (first | exact WkL.nil | exact WkS.refl | exact WkS.dead | exact WkS.list | exact WkS.dict | exact WkS.lstS (fun _ => WkS.list) | refine WkL.cons ?_ ?_))
  refine go_if (xt_cmp (fun _ => op_notN) (o_notN opt_notN) (nomark _) (x_var 7) x_non) (fun hz => ?_) (fun hz => ?_)
  · have hm := condT hz hm
    obtain ⟨u_534, h_535, hm⟩ := Option.bind_eq_some_iff.mp hm
    obtain ⟨u_536, h_537, hm⟩ := Option.bind_eq_some_iff.mp hm
    obtain ⟨h_538, hm⟩ := guardO_some hm
    obtain ⟨h_539, hm⟩ := guardO_some hm
    cases hm
    exact go_raise (EX := exT T) (xm_init (fs := [.s u_534.1, .i u_536.2]) T.xo_InvalidCircuit T.xic_InvalidCircuit T.xti_InvalidCircuit (ok_InvalidCircuit_init T) (by decide) T.b_InvalidCircuit_init T.g_InvalidCircuit (xa_cons (x_fst (opt_get h_535 (x_var 7)) x_int) (xa_cons (x_snd (opt_get h_537 (x_var 7)) x_int) xa_nil)) rfl rfl (ok2 h_538 h_539) (fun dd F h => exT_mk_InvalidCircuit T h)) (hW _ rfl _)
  · have hm := condF hz hm
    refine go_join ?_
    refine go_newfld (pl_hold 0 (by repeat' (first | exact Stb.nil | exact trivial | exact stb_map (fun _ => trivial) _ | refine Stb.cons ?_ ?_))) (x_callTy (c_list _) T.g_list (by decide +kernel) (o_listL LV.val.sv) (xa1 (x_var 1))) T.at_Circuit_inputs (by repeat' (first | exact Stb.nil | exact trivial | exact stb_map (fun _ => trivial) _ | refine Stb.cons ?_ ?_)) trivial ?_
    show Go _ _ _ _ _ [hold (obj T.C_Circuit ["inputs"] [own (oL pStr) inputs_0]) v0, val (pL pStr) inputs_0, val (pL (pT3 pStr pInt pInt)) latches_0, val (pL (pT2 pInt pInt)) ands_0, val (pL (pT2 pStr pInt)) outputs_0, val pInt first_and_518, val pInt node_count_520, val (pOpt (pT2 pStr pInt)) fault_529]
    refine go_newfld (pl_hold 0 (by repeat' (first | exact Stb.nil | exact trivial | exact stb_map (fun _ => trivial) _ | refine Stb.cons ?_ ?_))) (x_callTy (c_list _) T.g_list (by decide +kernel) (o_listL LV.val.sv) (xa1 (x_var 2))) T.at_Circuit_latches (by repeat' (first | exact Stb.nil | exact trivial | exact stb_map (fun _ => trivial) _ | refine Stb.cons ?_ ?_)) trivial ?_
    show Go _ _ _ _ _ [hold (obj T.C_Circuit ["inputs", "latches"] [own (oL pStr) inputs_0, own (oL (pT3 pStr pInt pInt)) latches_0]) v0, val (pL pStr) inputs_0, val (pL (pT3 pStr pInt pInt)) latches_0, val (pL (pT2 pInt pInt)) ands_0, val (pL (pT2 pStr pInt)) outputs_0, val pInt first_and_518, val pInt node_count_520, val (pOpt (pT2 pStr pInt)) fault_529]
    refine go_newfld (pl_hold 0 (by repeat' (first | exact Stb.nil | exact trivial | exact stb_map (fun _ => trivial) _ | refine Stb.cons ?_ ?_))) (x_callTy (c_list _) T.g_list (by decide +kernel) (o_listL LV.val.sv) (xa1 (x_var 3))) T.at_Circuit_ands (by repeat' (first | exact Stb.nil | exact trivial | exact stb_map (fun _ => trivial) _ | refine Stb.cons ?_ ?_)) trivial ?_
    show Go _ _ _ _ _ [hold (obj T.C_Circuit ["inputs", "latches", "ands"] [own (oL pStr) inputs_0, own (oL (pT3 pStr pInt pInt)) latches_0, own (oL (pT2 pInt pInt)) ands_0]) v0, val (pL pStr) inputs_0, val (pL (pT3 pStr pInt pInt)) latches_0, val (pL (pT2 pInt pInt)) ands_0, val (pL (pT2 pStr pInt)) outputs_0, val pInt first_and_518, val pInt node_count_520, val (pOpt (pT2 pStr pInt)) fault_529]
    refine go_newfld (pl_hold 0 (by repeat' (first | exact Stb.nil | exact trivial | exact stb_map (fun _ => trivial) _ | refine Stb.cons ?_ ?_))) (x_callTy (c_list _) T.g_list (by decide +kernel) (o_listL LV.val.sv) (xa1 (x_var 4))) T.at_Circuit_outputs (by repeat' (first | exact Stb.nil | exact trivial | exact stb_map (fun _ => trivial) _ | refine Stb.cons ?_ ?_)) trivial ?_
    show Go _ _ _ _ _ [hold (obj T.C_Circuit ["inputs", "latches", "ands", "outputs"] [own (oL pStr) inputs_0, own (oL (pT3 pStr pInt pInt)) latches_0, own (oL (pT2 pInt pInt)) ands_0, own (oL (pT2 pStr pInt)) outputs_0]) v0, val (pL pStr) inputs_0, val (pL (pT3 pStr pInt pInt)) latches_0, val (pL (pT2 pInt pInt)) ands_0, val (pL (pT2 pStr pInt)) outputs_0, val pInt first_and_518, val pInt node_count_520, val (pOpt (pT2 pStr pInt)) fault_529]
    cases hm
    exact go_nilMX

theorem ok_lines_of (T : Txt P K mg) : FnOk P w K mg base (L2.CX P w) 3 T.f_lines_of T.d_lines_of ["text"] (spX (fun (z : (Str)) => [val pStr z]) (fun z => m_lines_of z) (fun r => own (oL pStr) r) (exT T)) := by
  refine fn_pureX T.F_lines_of sc_lines_of (fun _ => rfl) (fun cdv A outer s H E hr text_0 r B hm hW => ?_)
  replace hm : m_lines_of text_0 = some r := hm
  unfold m_lines_of at hm
  show Go _ _ _ _ _ [val pStr text_0, dead]
  obtain ⟨h_540, hm⟩ := guardO_some hm
  refine go_set 1 (x_split (x_var 0) x_str (by decide +kernel) h_540) ?_
  show Go _ _ _ _ _ [val pStr text_0, own (oL pStr) (Txt.split text_0 ("\n" : Str))]
  obtain ⟨v_541, h_542, hm⟩ := Option.bind_eq_some_iff.mp hm
  refine go_if (xt_cmp (fun _ => op_ne) o_neS (nomark _) (x_ix (x_varL 1) LV.bor.sv (x_neg x_int) h_542) x_str) (fun hz => ?_) (fun hz => ?_)
  · have hm := condT hz hm
    obtain ⟨h_543, hm⟩ := guardO_some hm
    cases hm
    exact go_raise (EX := exT T) (xm_init (fs := [.i (((Txt.split text_0 ("\n" : Str))).length : Int)]) T.xo_InvalidText T.xic_InvalidText T.xti_InvalidText (ok_InvalidText_init T) (by decide) T.b_InvalidText_init T.g_InvalidText (xa_cons (x_callB (c_len _) T.g_len (by decide +kernel) (o_lenL LV.bor.sv) (xa1 (x_varL 1))) xa_nil) rfl rfl (ok1 h_543) (fun dd F h => exT_mk_InvalidText T h)) (hW _ rfl _)
  · have hm := condF hz hm
    refine go_join ?_
    cases hm
    exact go_ret (x_slc (x_varL 1) LV.bor.sv xo_none (xo_some (x_neg x_int))) (fun v H h => h)

theorem ok_read_circuit (T : Txt P K mg) : FnOk P w K mg base (L2.CX P w) 6 T.f_read_circuit T.d_read_circuit ["text"] (spX (fun (z : (Str)) => [val pStr z]) (fun z => m_read_circuit z) (fun r => obj T.C_Circuit ns_Circuit (dl_Circuit r)) (exT T)) := by
  refine fn_pureX T.F_read_circuit sc_read_circuit (fun _ => rfl) (fun cdv A outer s H E hr text_0 r B hm hW => ?_)
  replace hm : m_read_circuit text_0 = some r := hm
  unfold m_read_circuit at hm
  show Go _ _ _ _ _ [val pStr text_0, dead, dead, dead, dead, dead]
  rcases exK_some hm with ⟨e_546, h_545, hm⟩ | ⟨r_544, h_545, hm⟩
  · cases hm
    exact go_setE (j := 1) (xx_makeA (ok_Lines_init T) (by decide) T.mk_Lines T.g_Lines T.b_Lines_init (xae_here (xx_call (EX := exT T) (z := text_0) (ok_lines_of T) (by decide) T.g_lines_of T.k_lines_of T.b_lines_of (xa_cons (x_var 0) xa_nil) rfl (by repeat' (first | exact trivial | refine ⟨no_val, ?_⟩ | refine ⟨no_borL, ?_⟩ | refine ⟨no_bor, ?_⟩)) h_545))) (hW _ rfl _)
  · obtain ⟨o_547, h_548, hm⟩ := Option.bind_eq_some_iff.mp hm
    refine go_set 1 (x_make (z := r_544) (ok_Lines_init T) (by decide) T.mk_Lines T.g_Lines T.b_Lines_init (xa_cons (XV.frz (x_callX (z := text_0) (ok_lines_of T) (by decide) T.g_lines_of T.k_lines_of T.b_lines_of (xa_cons (x_var 0) xa_nil) rfl (by repeat' (first | exact trivial | refine ⟨no_val, ?_⟩ | refine ⟨no_borL, ?_⟩ | refine ⟨no_bor, ?_⟩)) h_545)) xa_nil) rfl (by repeat' (first | exact trivial | refine ⟨no_val, ?_⟩ | refine ⟨no_borL, ?_⟩ | refine ⟨no_bor, ?_⟩)) rfl h_548 rfl) ?_
    show Go _ _ _ _ _ [val pStr text_0, obj T.C_Lines ns_Lines (dl_Lines o_547.1), dead, dead, dead, dead]
    rcases exK_some hm with ⟨e_551, h_550, hm⟩ | ⟨o_549, h_550, hm⟩
    · cases hm
      exact go_asgXm (xxm_callR (EX := exT T) (z := o_547.1) (ok_take_circuit T) (by decide) T.g_take_circuit T.k_take_circuit T.b_take_circuit (pl_name 1 (by repeat' (first | exact Stb.nil | exact trivial | exact stb_map (fun _ => trivial) _ | refine Stb.cons ?_ ?_)) (hso := obj_some)) rfl rfl h_550) (hW _ rfl _)
    · refine go_asgM (Γ1 := [val pStr text_0, obj T.C_Lines ns_Lines (dl_Lines o_549.1), dead, dead, dead, dead]) (xm_callR (z := o_547.1) (ok_take_circuit T) (by decide) T.g_take_circuit T.k_take_circuit T.b_take_circuit (pl_name 1 (by repeat' (first | exact Stb.nil | exact trivial | exact stb_map (fun _ => trivial) _ | refine Stb.cons ?_ ?_)) (hso := obj_some)) rfl rfl h_550) (xg_tupO (xgs_cons (xg_name 2) (xgs_cons (xg_name 3) (xgs_cons (xg_name 4) (xgs_cons (xg_name 5) xgs_nil))))) ?_
      show Go _ _ _ _ _ [val pStr text_0, obj T.C_Lines ns_Lines (dl_Lines o_549.1), own (oL pStr) o_549.2.1, own (oL (pT3 pStr pInt pInt)) o_549.2.2.1, own (oL (pT2 pInt pInt)) o_549.2.2.2.1, own (oL (pT2 pStr pInt)) o_549.2.2.2.2]
      rcases exK_some hm with ⟨e_554, h_553, hm⟩ | ⟨o_552, h_553, hm⟩
      · cases hm
        exact go_exprXm (xxm_meth0R (EX := exT T) (z := o_549.1) (ok_Lines_finish T) (by decide) T.cl_Lines T.me_Lines_finish T.b_Lines_finish (pl_name 1 (by repeat' (first | exact Stb.nil | exact trivial | exact stb_map (fun _ => trivial) _ | refine Stb.cons ?_ ?_)) (hso := obj_some)) rfl rfl h_553) (hW _ rfl _)
      · refine go_exprM (xm_meth0R (z := o_549.1) (ok_Lines_finish T) (by decide) T.cl_Lines T.me_Lines_finish T.b_Lines_finish (pl_name 1 (by repeat' (first | exact Stb.nil | exact trivial | exact stb_map (fun _ => trivial) _ | refine Stb.cons ?_ ?_)) (hso := obj_some)) rfl rfl h_553) ?_
        show Go _ _ _ _ _ [val pStr text_0, obj T.C_Lines ns_Lines (dl_Lines o_552.1), own (oL pStr) o_549.2.1, own (oL (pT3 pStr pInt pInt)) o_549.2.2.1, own (oL (pT2 pInt pInt)) o_549.2.2.2.1, own (oL (pT2 pStr pInt)) o_549.2.2.2.2]
        refine go_wk (Γ' := [val pStr text_0, obj T.C_Lines ns_Lines (dl_Lines o_552.1), val (pL pStr) o_549.2.1, own (oL (pT3 pStr pInt pInt)) o_549.2.2.1, own (oL (pT2 pInt pInt)) o_549.2.2.2.1, own (oL (pT2 pStr pInt)) o_549.2.2.2.2]) ?_ (WkL.at (j := 2) WkS.list rfl)
        refine go_wk (Γ' := [val pStr text_0, obj T.C_Lines ns_Lines (dl_Lines o_552.1), val (pL pStr) o_549.2.1, val (pL (pT3 pStr pInt pInt)) o_549.2.2.1, own (oL (pT2 pInt pInt)) o_549.2.2.2.1, own (oL (pT2 pStr pInt)) o_549.2.2.2.2]) ?_ (WkL.at (j := 3) WkS.list rfl)
        refine go_wk (Γ' := [val pStr text_0, obj T.C_Lines ns_Lines (dl_Lines o_552.1), val (pL pStr) o_549.2.1, val (pL (pT3 pStr pInt pInt)) o_549.2.2.1, val (pL (pT2 pInt pInt)) o_549.2.2.2.1, own (oL (pT2 pStr pInt)) o_549.2.2.2.2]) ?_ (WkL.at (j := 4) WkS.list rfl)
        refine go_wk (Γ' := [val pStr text_0, obj T.C_Lines ns_Lines (dl_Lines o_552.1), val (pL pStr) o_549.2.1, val (pL (pT3 pStr pInt pInt)) o_549.2.2.1, val (pL (pT2 pInt pInt)) o_549.2.2.2.1, val (pL (pT2 pStr pInt)) o_549.2.2.2.2]) ?_ (WkL.at (j := 5) WkS.list rfl)
        rcases exK_some hm with ⟨e_557, h_556, hm⟩ | ⟨r_555, h_556, hm⟩
        · cases hm
          exact go_retE (xx_make (EX := exT T) (z := (o_549.2.1, o_549.2.2.1, o_549.2.2.2.1, o_549.2.2.2.2)) (ok_Circuit_init T) (by decide) T.mk_Circuit T.g_Circuit T.b_Circuit_init (xa_cons (x_var 2) (xa_cons (x_var 3) (xa_cons (x_var 4) (xa_cons (x_var 5) xa_nil)))) rfl (by repeat' (first | exact trivial | refine ⟨no_val, ?_⟩ | refine ⟨no_borL, ?_⟩ | refine ⟨no_bor, ?_⟩)) h_556) (hW _ rfl _)
        · cases hm
          exact go_ret (x_makeX (z := (o_549.2.1, o_549.2.2.1, o_549.2.2.2.1, o_549.2.2.2.2)) (ok_Circuit_init T) (by decide) T.mk_Circuit T.g_Circuit T.b_Circuit_init (xa_cons (x_var 2) (xa_cons (x_var 3) (xa_cons (x_var 4) (xa_cons (x_var 5) xa_nil)))) rfl (by repeat' (first | exact trivial | refine ⟨no_val, ?_⟩ | refine ⟨no_borL, ?_⟩ | refine ⟨no_bor, ?_⟩)) h_556) (fun v H h => h)

theorem ok__law_told (T : Txt P K mg) : FnOk P w K mg base CX0 7 T.f__law_told T.d__law_told ["text"] (spP (fun (z : (Str)) => [val pStr z]) (fun z => m__law_told z) (fun r => val (pSum (pT2 pStr (pObj T.C_Circuit ns_Circuit sl_Circuit)) (pDa K)) r)) := by
  refine fn_pure T.F__law_told sc__law_told (fun _ => rfl) (fun cdv A outer s H E hr text_0 r B hm => ?_)
  replace hm : m__law_told text_0 = some r := hm
  unfold m__law_told at hm
  show Go _ _ _ _ _ [val pStr text_0, dead]
  refine go_try_as2 (c1 := .ref T.C_InvalidText) (c2 := .ref T.C_InvalidCircuit) 1 1 ⟨rfl, by decide, .inl T.g_InvalidText⟩ ⟨rfl, by decide, .inl T.g_InvalidCircuit⟩ (fun j hj => ?_)
  show Go _ _ _ _ _ [val pStr text_0, dead]
  rcases exK_some hm with ⟨e_560, h_559, hm⟩ | ⟨r_558, h_559, hm⟩
  · cases hz : decide (e_560.1 = "InvalidText") with
    | true =>
      have hm := condT hz hm
      refine go_retE (xx_tup (xae_next x_str (xae_here (xx_call (EX := exT T) (z := text_0) (ok_read_circuit T) (by decide) T.g_read_circuit T.k_read_circuit T.b_read_circuit (xa_cons (x_var 0) xa_nil) rfl (by repeat' (first | exact trivial | refine ⟨no_val, ?_⟩ | refine ⟨no_borL, ?_⟩ | refine ⟨no_bor, ?_⟩)) h_559)))) (wish_as (Γd := [val pStr text_0, dead]) (fun cls d F hx => by rw [(exT_is_InvalidText T (of_decide_eq_true hz) hx).1]; exact T.xp_InvalidText_InvalidText) (by repeat' (first | exact WkL.nil | exact WkS.refl | exact WkS.dead | exact WkS.list | exact WkS.dict | exact WkS.lstS (fun _ => WkS.list) | refine WkL.cons ?_ ?_)) rfl (fun ae_560 cls d F hx => ?_))
      obtain ⟨rfl, dde_560, rfl, hdde_560⟩ := exT_is_InvalidText T (of_decide_eq_true hz) hx
      refine ⟨pExc ae_560 dde_560 (xfd xns_InvalidText e_560.2), ⟨rfl, hdde_560⟩, fun j hj => ?_⟩
      show Go _ _ _ _ _ [val pStr text_0, val (pExc ae_560 dde_560 (xfd xns_InvalidText e_560.2)) ()]
      obtain ⟨v_561, h_562, hm⟩ := Option.bind_eq_some_iff.mp hm
      cases hm
      exact go_ret (XV.inr (x_tupD (ds := [DE.str.enc ("text" : Str), DE.int.enc v_561, DE.bl.enc true, DE.bl.enc false]) (xa_cons (XV.data DE.str x_str) (xa_cons (XV.data DE.int (x_efld (p := pInt) (xfC T.xe_InvalidText) T.xn_InvalidText_line (x_var 1) (xfd_I h_562 rfl) (fun _ => rfl))) (xa_cons (XV.data DE.bl (x_isED T.g_isinstance T.xe_InvalidText T.xi_InvalidText_EvergateError (x_var 1) (x_cls T.g_EvergateError) pRef_is)) (xa_cons (XV.data DE.bl (x_isED T.g_isinstance T.xe_InvalidText T.xi_InvalidText_InvalidCircuit (x_var 1) (x_cls T.g_InvalidCircuit) pRef_is)) xa_nil)))) (le_line rfl))) (fun v H h => h)
    | false =>
      have hm := condF hz hm
      cases hz : decide (e_560.1 = "InvalidCircuit") with
      | true =>
        have hm := condT hz hm
        refine go_retE (xx_tup (xae_next x_str (xae_here (xx_call (EX := exT T) (z := text_0) (ok_read_circuit T) (by decide) T.g_read_circuit T.k_read_circuit T.b_read_circuit (xa_cons (x_var 0) xa_nil) rfl (by repeat' (first | exact trivial | refine ⟨no_val, ?_⟩ | refine ⟨no_borL, ?_⟩ | refine ⟨no_bor, ?_⟩)) h_559)))) (wish_as_no (fun cls d F hx => by rw [(exT_is_InvalidCircuit T (of_decide_eq_true hz) hx).1]; exact T.xp_InvalidCircuit_InvalidText) (wish_as (Γd := [val pStr text_0, dead]) (fun cls d F hx => by rw [(exT_is_InvalidCircuit T (of_decide_eq_true hz) hx).1]; exact T.xp_InvalidCircuit_InvalidCircuit) (by repeat' (first | exact WkL.nil | exact WkS.refl | exact WkS.dead | exact WkS.list | exact WkS.dict | exact WkS.lstS (fun _ => WkS.list) | refine WkL.cons ?_ ?_)) rfl (fun ae_560 cls d F hx => ?_)))
        obtain ⟨rfl, dde_560, rfl, hdde_560⟩ := exT_is_InvalidCircuit T (of_decide_eq_true hz) hx
        refine ⟨pExc ae_560 dde_560 (xfd xns_InvalidCircuit e_560.2), ⟨rfl, hdde_560⟩, fun j hj => ?_⟩
        show Go _ _ _ _ _ [val pStr text_0, val (pExc ae_560 dde_560 (xfd xns_InvalidCircuit e_560.2)) ()]
        obtain ⟨v_563, h_564, hm⟩ := Option.bind_eq_some_iff.mp hm
        obtain ⟨v_565, h_566, hm⟩ := Option.bind_eq_some_iff.mp hm
        cases hm
        exact go_ret (XV.inr (x_tupD (ds := [DE.str.enc ("parts" : Str), DE.str.enc v_563, DE.int.enc v_565]) (xa_cons (XV.data DE.str x_str) (xa_cons (XV.data DE.str (x_efld (p := pStr) (xfC T.xe_InvalidCircuit) T.xn_InvalidCircuit_part (x_var 1) (xfd_S h_564 rfl) (fun _ => rfl))) (xa_cons (XV.data DE.int (x_efld (p := pInt) (xfC T.xe_InvalidCircuit) T.xn_InvalidCircuit_index (x_var 1) (xfd_I h_566 rfl) (fun _ => rfl))) xa_nil))) (le_line rfl))) (fun v H h => h)
      | false =>
        have hm := condF hz hm
        cases hm
  · cases hm
    exact go_ret (XV.inl (x_tup2 (xa_cons x_str (xa_cons (XV.wk (x_callX (z := text_0) (ok_read_circuit T) (by decide) T.g_read_circuit T.k_read_circuit T.b_read_circuit (xa_cons (x_var 0) xa_nil) rfl (by repeat' (first | exact trivial | refine ⟨no_val, ?_⟩ | refine ⟨no_borL, ?_⟩ | refine ⟨no_bor, ?_⟩)) h_559) (WkS.obj (sl := sl_Circuit) (by repeat' (first | exact WkL.nil | exact WkS.refl | exact WkS.dead | exact WkS.list | exact WkS.dict | exact WkS.lstS (fun _ => WkS.list) | refine WkL.cons ?_ ?_)) (by repeat' (first | exact trivial | refine ⟨⟨_, _, _, rfl⟩, ?_⟩)))) xa_nil)))) (fun v H h => h)

theorem ok__law_made (T : Txt P K mg) : FnOk P w K mg base CX0 5 T.f__law_made T.d__law_made ["parts"] (spP (fun (z : ((List (Str)) × (List ((Str) × (Int) × (Int))) × (List ((Int) × (Int))) × (List ((Str) × (Int))))) => [val (pH slH_0) z]) (fun z => m__law_made z) (fun r => val (pSum (pT2 pStr (pObj T.C_Circuit ns_Circuit sl_Circuit)) (pDa K)) r)) := by
  refine fn_pure T.F__law_made sc__law_made (fun _ => rfl) (fun cdv A outer s H E hr parts_0 r B hm => ?_)
  replace hm : m__law_made parts_0 = some r := hm
  unfold m__law_made at hm
  show Go _ _ _ _ _ [val (pH slH_0) parts_0, dead]
  refine go_try_as (cv := .ref T.C_InvalidCircuit) 1 ⟨rfl, by decide, .inl T.g_InvalidCircuit⟩ (fun j hj => ?_)
  show Go _ _ _ _ _ [val (pH slH_0) parts_0, dead]
  rcases exK_some hm with ⟨e_569, h_568, hm⟩ | ⟨r_567, h_568, hm⟩
  · cases hz : decide (e_569.1 = "InvalidCircuit") with
    | true =>
      have hm := condT hz hm
      refine go_retE (xx_tup (xae_next x_str (xae_here (xx_make (EX := exT T) (z := (parts_0.1, parts_0.2.1, parts_0.2.2.1, parts_0.2.2.2)) (ok_Circuit_init T) (by decide) T.mk_Circuit T.g_Circuit T.b_Circuit_init (xa_cons (x_ixH 0 (x_var 0) x_int rfl) (xa_cons (x_ixH 1 (x_var 0) x_int rfl) (xa_cons (x_ixH 2 (x_var 0) x_int rfl) (xa_cons (x_ixH 3 (x_var 0) x_int rfl) xa_nil)))) rfl (by repeat' (first | exact trivial | refine ⟨no_val, ?_⟩ | refine ⟨no_borL, ?_⟩ | refine ⟨no_bor, ?_⟩)) h_568)))) (wish_as (Γd := [val (pH slH_0) parts_0, dead]) (fun cls d F hx => by rw [(exT_is_InvalidCircuit T (of_decide_eq_true hz) hx).1]; exact T.xp_InvalidCircuit_InvalidCircuit) (by repeat' (first | exact WkL.nil | exact WkS.refl | exact WkS.dead | exact WkS.list | exact WkS.dict | exact WkS.lstS (fun _ => WkS.list) | refine WkL.cons ?_ ?_)) rfl (fun ae_569 cls d F hx => ?_))
      obtain ⟨rfl, dde_569, rfl, hdde_569⟩ := exT_is_InvalidCircuit T (of_decide_eq_true hz) hx
      refine ⟨pExc ae_569 dde_569 (xfd xns_InvalidCircuit e_569.2), ⟨rfl, hdde_569⟩, fun j hj => ?_⟩
      show Go _ _ _ _ _ [val (pH slH_0) parts_0, val (pExc ae_569 dde_569 (xfd xns_InvalidCircuit e_569.2)) ()]
      obtain ⟨v_570, h_571, hm⟩ := Option.bind_eq_some_iff.mp hm
      obtain ⟨v_572, h_573, hm⟩ := Option.bind_eq_some_iff.mp hm
      cases hm
      exact go_ret (XV.inr (x_tupD (ds := [DE.str.enc ("parts" : Str), DE.str.enc v_570, DE.int.enc v_572]) (xa_cons (XV.data DE.str x_str) (xa_cons (XV.data DE.str (x_efld (p := pStr) (xfC T.xe_InvalidCircuit) T.xn_InvalidCircuit_part (x_var 1) (xfd_S h_571 rfl) (fun _ => rfl))) (xa_cons (XV.data DE.int (x_efld (p := pInt) (xfC T.xe_InvalidCircuit) T.xn_InvalidCircuit_index (x_var 1) (xfd_I h_573 rfl) (fun _ => rfl))) xa_nil))) (le_line rfl))) (fun v H h => h)
    | false =>
      have hm := condF hz hm
      cases hm
  · cases hm
    exact go_ret (XV.inl (x_tup2 (xa_cons x_str (xa_cons (XV.wk (x_makeX (z := (parts_0.1, parts_0.2.1, parts_0.2.2.1, parts_0.2.2.2)) (ok_Circuit_init T) (by decide) T.mk_Circuit T.g_Circuit T.b_Circuit_init (xa_cons (x_ixH 0 (x_var 0) x_int rfl) (xa_cons (x_ixH 1 (x_var 0) x_int rfl) (xa_cons (x_ixH 2 (x_var 0) x_int rfl) (xa_cons (x_ixH 3 (x_var 0) x_int rfl) xa_nil)))) rfl (by repeat' (first | exact trivial | refine ⟨no_val, ?_⟩ | refine ⟨no_borL, ?_⟩ | refine ⟨no_bor, ?_⟩)) h_568) (WkS.obj (sl := sl_Circuit) (by repeat' (first | exact WkL.nil | exact WkS.refl | exact WkS.dead | exact WkS.list | exact WkS.dict | exact WkS.lstS (fun _ => WkS.list) | refine WkL.cons ?_ ?_)) (by repeat' (first | exact trivial | refine ⟨⟨_, _, _, rfl⟩, ?_⟩)))) xa_nil)))) (fun v H h => h)

theorem ok__law_changed (T : Txt P K mg) : FnOk P w K mg base CX0 1 T.f__law_changed T.d__law_changed ["lines", "row"] (spP (fun (z : (List (Str)) × (Int)) => [val (pL pStr) z.1, val pInt z.2]) (fun z => m__law_changed z.1 z.2) (fun r => own (oL pStr) r)) := by
  refine fn_pure T.F__law_changed sc__law_changed (fun _ => rfl) (fun cdv A outer s H E hr z r B hm => ?_)
  obtain ⟨lines_0, row_0⟩ := z
  replace hm : m__law_changed lines_0 row_0 = some r := hm
  unfold m__law_changed at hm
  show Go _ _ _ _ _ [val (pL pStr) lines_0, val pInt row_0, dead, dead, dead, dead, dead, dead]
  obtain ⟨odd_574, h_575, hm⟩ := letO_some hm
  refine go_set (r := own (oL pStr) odd_574) 2 ?_ ?_ ?_ ?_ ?_ ?_ ?_
  rotate_left 2
  · rfl
  · rfl
  · exact Or.inl rfl
  · rfl
  · exact Or.inr rfl
  · exact (XV.eqO (x_lst (xs := [("" : Str), (" " : Str), ("circuit" : Str), ("and 0 1 2" : Str), ("and 0" : Str), ("input" : Str), ("input a b" : Str), ("latch x 0" : Str), ("Output y 1" : Str), ("output  1" : Str), ("next 3" : Str)]) (xa_cons x_str (xa_cons x_str (xa_cons x_str (xa_cons x_str (xa_cons x_str (xa_cons x_str (xa_cons x_str (xa_cons x_str (xa_cons x_str (xa_cons x_str (xa_cons x_str xa_nil))))))))))) (le_line rfl)) h_575)
  show Go _ _ _ _ _ [val (pL pStr) lines_0, val pInt row_0, own (oL pStr) odd_574, dead, dead, dead, dead, dead]
  obtain ⟨v_576, h_577, hm⟩ := Option.bind_eq_some_iff.mp hm
  refine go_set 3 (x_ix (x_lst (xs := [("" : Str), ("00" : Str), ("07" : Str), ("1234567" : Str), ("-1" : Str), ("+1" : Str), ("x" : Str), ("1." : Str), ("999999" : Str), ("1_0" : Str)]) (xa_cons x_str (xa_cons x_str (xa_cons x_str (xa_cons x_str (xa_cons x_str (xa_cons x_str (xa_cons x_str (xa_cons x_str (xa_cons x_str (xa_cons x_str xa_nil)))))))))) (le_line rfl)) LV.own.sv (x_op (fun _ => op_mod) (o_intC (by decide)) (x_op (fun _ => op_fdiv) (o_intC ⟨by decide, by decide⟩) (x_callTy (fun _ => call_int1) T.g_int (by decide +kernel) o_intI (xa1 (x_var 1))) x_int) x_int) h_577) ?_
  show Go _ _ _ _ _ [val (pL pStr) lines_0, val pInt row_0, own (oL pStr) odd_574, val pStr v_576, dead, dead, dead, dead]
  obtain ⟨h_578, hm⟩ := guardO_some hm
  obtain ⟨place_579, h_580, hm⟩ := letO_some hm
  refine go_set 4 (XV.eqV (x_op (fun _ => op_mod) (o_intC h_578) (x_op (fun _ => op_fdiv) (o_intC ⟨by decide, by decide⟩) (x_callTy (fun _ => call_int1) T.g_int (by decide +kernel) o_intI (xa1 (x_var 1))) x_int) (x_callB (c_max2 _) T.g_max (by decide +kernel) o_max2 (xa2 x_int (x_callB (c_len _) T.g_len (by decide +kernel) (o_lenL LV.val.sv) (xa1 (x_var 0)))))) h_580) ?_
  show Go _ _ _ _ _ [val (pL pStr) lines_0, val pInt row_0, own (oL pStr) odd_574, val pStr v_576, val pInt place_579, dead, dead, dead]
  obtain ⟨kind_581, h_582, hm⟩ := letO_some hm
  refine go_set 5 (XV.eqV (x_op (fun _ => op_mod) (o_intC (by decide)) (x_callTy (fun _ => call_int1) T.g_int (by decide +kernel) o_intI (xa1 (x_var 1))) x_int) h_582) ?_
  show Go _ _ _ _ _ [val (pL pStr) lines_0, val pInt row_0, own (oL pStr) odd_574, val pStr v_576, val pInt place_579, val pInt kind_581, dead, dead]
  refine go_if (xw_pt (xw_or (xt_cmp (fun _ => op_eq) o_eqI (nomark _) (x_callB (c_len _) T.g_len (by decide +kernel) (o_lenL LV.val.sv) (xa1 (x_var 0))) x_int) (fun _ => (xw_or1 (xt_cmp (fun _ => op_eq) o_eqI (nomark _) (x_var 5) x_int))) rfl)) (fun hz => ?_) (fun hz => ?_)
  · have hm := condT hz hm
    obtain ⟨v_583, h_584, hm⟩ := Option.bind_eq_some_iff.mp hm
    obtain ⟨h_585, hm⟩ := guardO_some hm
    obtain ⟨h_586, hm⟩ := guardO_some hm
    cases hm
    exact go_ret (x_op (fun _ => op_cat) (o_cat LV.own LV.own h_586) (x_op (fun _ => op_cat) (o_cat LV.own LV.own h_585) (x_slc (x_var 0) LV.val.sv xo_none (xo_some (x_var 4))) (x_lst (xs := [v_583]) (xa_cons (x_ix (x_varL 2) LV.bor.sv (x_op (fun _ => op_mod) (o_intC (by decide)) (x_op (fun _ => op_fdiv) (o_intC ⟨by decide, by decide⟩) (x_callTy (fun _ => call_int1) T.g_int (by decide +kernel) o_intI (xa1 (x_var 1))) x_int) x_int) h_584) xa_nil) (le_line rfl))) (x_slc (x_var 0) LV.val.sv (xo_some (x_var 4)) xo_none)) (fun v H h => h)
  · have hm := condF hz hm
    refine go_join ?_
    refine go_if (xt_cmp (fun _ => op_eq) o_eqI (nomark _) (x_var 5) x_int) (fun hz => ?_) (fun hz => ?_)
    · have hm := condT hz hm
      obtain ⟨h_587, hm⟩ := guardO_some hm
      cases hm
      exact go_ret (x_op (fun _ => op_cat) (o_cat LV.own LV.own h_587) (x_slc (x_var 0) LV.val.sv xo_none (xo_some (x_var 4))) (x_slc (x_var 0) LV.val.sv (xo_some (x_op (fun _ => op_add) o_int (x_var 4) x_int)) xo_none)) (fun v H h => h)
    · have hm := condF hz hm
      refine go_join ?_
      refine go_if (xt_cmp (fun _ => op_eq) o_eqI (nomark _) (x_var 5) x_int) (fun hz => ?_) (fun hz => ?_)
      · have hm := condT hz hm
        obtain ⟨v_588, h_589, hm⟩ := Option.bind_eq_some_iff.mp hm
        obtain ⟨v_590, h_591, hm⟩ := Option.bind_eq_some_iff.mp hm
        obtain ⟨h_592, hm⟩ := guardO_some hm
        obtain ⟨h_593, hm⟩ := guardO_some hm
        cases hm
        exact go_ret (x_op (fun _ => op_cat) (o_cat LV.own LV.own h_593) (x_op (fun _ => op_cat) (o_cat LV.own LV.own h_592) (x_slc (x_var 0) LV.val.sv xo_none (xo_some (x_var 4))) (x_lst (xs := [v_588, v_590]) (xa_cons (x_ix (x_var 0) LV.val.sv (x_var 4) h_589) (xa_cons (x_ix (x_var 0) LV.val.sv (x_var 4) h_591) xa_nil)) (le_line rfl))) (x_slc (x_var 0) LV.val.sv (xo_some (x_op (fun _ => op_add) o_int (x_var 4) x_int)) xo_none)) (fun v H h => h)
      · have hm := condF hz hm
        refine go_join ?_
        refine go_if (xt_cmp (fun _ => op_eq) o_eqI (nomark _) (x_var 5) x_int) (fun hz => ?_) (fun hz => ?_)
        · have hm := condT hz hm
          obtain ⟨v_594, h_595, hm⟩ := Option.bind_eq_some_iff.mp hm
          obtain ⟨h_596, hm⟩ := guardO_some hm
          obtain ⟨h_597, hm⟩ := guardO_some hm
          cases hm
          exact go_ret (x_op (fun _ => op_cat) (o_cat LV.own LV.own h_597) (x_op (fun _ => op_cat) (o_cat LV.own LV.own h_596) (x_slc (x_var 0) LV.val.sv (xo_some (x_op (fun _ => op_add) o_int (x_var 4) x_int)) xo_none) (x_lst (xs := [v_594]) (xa_cons (x_ix (x_var 0) LV.val.sv (x_var 4) h_595) xa_nil) (le_line rfl))) (x_slc (x_var 0) LV.val.sv xo_none (xo_some (x_var 4)))) (fun v H h => h)
        · have hm := condF hz hm
          refine go_join ?_
          obtain ⟨v_598, h_599, hm⟩ := Option.bind_eq_some_iff.mp hm
          obtain ⟨h_600, hm⟩ := guardO_some hm
          refine go_set 6 (x_split (x_ix (x_var 0) LV.val.sv (x_var 4) h_599) x_str (by decide +kernel) h_600) ?_
          show Go _ _ _ _ _ [val (pL pStr) lines_0, val pInt row_0, own (oL pStr) odd_574, val pStr v_576, val pInt place_579, val pInt kind_581, own (oL pStr) (Txt.split v_598 (" " : Str)), dead]
          obtain ⟨h_601, hm⟩ := guardO_some hm
          obtain ⟨at_602, h_603, hm⟩ := letO_some hm
          refine go_set 7 (XV.eqV (x_op (fun _ => op_mod) (o_intC h_601) (x_op (fun _ => op_fdiv) (o_intC ⟨by decide, by decide⟩) (x_callTy (fun _ => call_int1) T.g_int (by decide +kernel) o_intI (xa1 (x_var 1))) x_int) (x_callB (c_len _) T.g_len (by decide +kernel) (o_lenL LV.bor.sv) (xa1 (x_varL 6)))) h_603) ?_
          show Go _ _ _ _ _ [val (pL pStr) lines_0, val pInt row_0, own (oL pStr) odd_574, val pStr v_576, val pInt place_579, val pInt kind_581, own (oL pStr) (Txt.split v_598 (" " : Str)), val pInt at_602]
          refine go_if (xt_cmp (fun _ => op_eq) o_eqI (nomark _) (x_var 5) x_int) (fun hz => ?_) (fun hz => ?_)
          · have hm := condT hz hm
            obtain ⟨h_604, hm⟩ := guardO_some hm
            obtain ⟨h_605, hm⟩ := guardO_some hm
            obtain ⟨h_606, hm⟩ := guardO_some hm
            obtain ⟨h_607, hm⟩ := guardO_some hm
            obtain ⟨h_608, hm⟩ := guardO_some hm
            cases hm
            exact go_ret (x_op (fun _ => op_cat) (o_cat LV.own LV.own h_608) (x_op (fun _ => op_cat) (o_cat LV.own LV.own h_607) (x_slc (x_var 0) LV.val.sv xo_none (xo_some (x_var 4))) (x_lst (xs := [(Txt.join (" " : Str) (((cutL (Txt.split v_598 (" " : Str)) none (some at_602)) ++ [v_576]) ++ (cutL (Txt.split v_598 (" " : Str)) (some (at_602 + (1 : Int))) none)))]) (xa_cons (x_join x_str (x_op (fun _ => op_cat) (o_cat LV.own LV.own h_605) (x_op (fun _ => op_cat) (o_cat LV.own LV.own h_604) (x_slc (x_varL 6) LV.bor.sv xo_none (xo_some (x_var 7))) (x_lst (xs := [v_576]) (xa_cons (x_var 3) xa_nil) (le_line rfl))) (x_slc (x_varL 6) LV.bor.sv (xo_some (x_op (fun _ => op_add) o_int (x_var 7) x_int)) xo_none)) LV.own.sv h_606) xa_nil) (le_line rfl))) (x_slc (x_var 0) LV.val.sv (xo_some (x_op (fun _ => op_add) o_int (x_var 4) x_int)) xo_none)) (fun v H h => h)
          · have hm := condF hz hm
            refine go_join ?_
            obtain ⟨h_609, hm⟩ := guardO_some hm
            obtain ⟨h_610, hm⟩ := guardO_some hm
            obtain ⟨h_611, hm⟩ := guardO_some hm
            obtain ⟨h_612, hm⟩ := guardO_some hm
            obtain ⟨h_613, hm⟩ := guardO_some hm
            cases hm
            exact go_ret (x_op (fun _ => op_cat) (o_cat LV.own LV.own h_613) (x_op (fun _ => op_cat) (o_cat LV.own LV.own h_612) (x_slc (x_var 0) LV.val.sv xo_none (xo_some (x_var 4))) (x_lst (xs := [(Txt.join (" " : Str) (((cutL (Txt.split v_598 (" " : Str)) none (some at_602)) ++ [("" : Str)]) ++ (cutL (Txt.split v_598 (" " : Str)) (some at_602) none)))]) (xa_cons (x_join x_str (x_op (fun _ => op_cat) (o_cat LV.own LV.own h_610) (x_op (fun _ => op_cat) (o_cat LV.own LV.own h_609) (x_slc (x_varL 6) LV.bor.sv xo_none (xo_some (x_var 7))) (x_lst (xs := [("" : Str)]) (xa_cons x_str xa_nil) (le_line rfl))) (x_slc (x_varL 6) LV.bor.sv (xo_some (x_var 7)) xo_none)) LV.own.sv h_611) xa_nil) (le_line rfl))) (x_slc (x_var 0) LV.val.sv (xo_some (x_op (fun _ => op_add) o_int (x_var 4) x_int)) xo_none)) (fun v H h => h)

theorem ok_law (T : Txt P K mg) : FnOk P w K mg base CX0 8 T.f_law T.d_law ["script"] (spP (fun (z : (List Int)) => [val (pScr K) z]) (fun z => m_law z) (fun r => val pBl r)) := by
  refine fn_pure T.F_law sc_law (fun _ => rfl) (fun cdv A outer s H E hr script_0 r B hm => ?_)
  replace hm : m_law script_0 = some r := hm
  unfold m_law at hm
  show Go _ _ _ _ _ [val (pScr K) script_0, dead, dead, dead, dead, dead, dead, dead, dead, dead, dead, dead, dead]
  obtain ⟨r_614, h_615, hm⟩ := Option.bind_eq_some_iff.mp hm
  refine go_set 1 (x_call (z := (script_0, (36 : Int))) (ok__law_rows T) (by decide) T.g__law_rows T.k__law_rows T.b__law_rows (xa_cons (x_var 0) (xa_cons x_int xa_nil)) rfl (by repeat' (first | exact trivial | refine ⟨no_val, ?_⟩ | refine ⟨no_borL, ?_⟩ | refine ⟨no_bor, ?_⟩)) h_615) ?_
  show Go _ _ _ _ _ [val (pScr K) script_0, own (oL pInt) r_614, dead, dead, dead, dead, dead, dead, dead, dead, dead, dead, dead]
  refine go_wk (Γ' := [val (pScr K) script_0, val (pL pInt) r_614, dead, dead, dead, dead, dead, dead, dead, dead, dead, dead, dead]) ?_ (WkL.at (j := 1) WkS.list rfl)
  obtain ⟨r_616, h_617, hm⟩ := Option.bind_eq_some_iff.mp hm
  refine go_asg (x_call (z := (r_614, (3 : Int), (2 : Int), (5 : Int))) (ok__law_parts T) (by decide) T.g__law_parts T.k__law_parts T.b__law_parts (xa_cons (x_var 1) (xa_cons x_int (xa_cons x_int (xa_cons x_int xa_nil)))) rfl (by repeat' (first | exact trivial | refine ⟨no_val, ?_⟩ | refine ⟨no_borL, ?_⟩ | refine ⟨no_bor, ?_⟩)) h_617) (xg_tupH (sl := slH_0) (z := r_616) (xgs_cons (xg_name 2) (xgs_cons (xg_name 3) (xgs_cons (xg_name 4) (xgs_cons (xg_name 5) xgs_nil))))) ?_
  show Go _ _ _ _ _ [val (pScr K) script_0, val (pL pInt) r_614, val (pL pStr) r_616.1, val (pL (pT3 pStr pInt pInt)) r_616.2.1, val (pL (pT2 pInt pInt)) r_616.2.2.1, val (pL (pT2 pStr pInt)) r_616.2.2.2, dead, dead, dead, dead, dead, dead, dead]
  obtain ⟨o_618, h_619, hm⟩ := Option.bind_eq_some_iff.mp hm
  obtain ⟨r_620, h_621, hm⟩ := Option.bind_eq_some_iff.mp hm
  refine go_set 6 (x_call (z := o_618.1) (ok_write_circuit T) (by decide) T.g_write_circuit T.k_write_circuit T.b_write_circuit (xa_cons (XV.wk (x_makeX (z := (r_616.1, r_616.2.1, r_616.2.2.1, r_616.2.2.2)) (ok_Circuit_init T) (by decide) T.mk_Circuit T.g_Circuit T.b_Circuit_init (xa_cons (x_var 2) (xa_cons (x_var 3) (xa_cons (x_var 4) (xa_cons (x_var 5) xa_nil)))) rfl (by repeat' (first | exact trivial | refine ⟨no_val, ?_⟩ | refine ⟨no_borL, ?_⟩ | refine ⟨no_bor, ?_⟩)) (okR_some h_619)) (WkS.obj (sl := sl_Circuit) (by repeat' (first | exact WkL.nil | exact WkS.refl | exact WkS.dead | exact WkS.list | exact WkS.dict | exact WkS.lstS (fun _ => WkS.list) | refine WkL.cons ?_ ?_)) (by repeat' (first | exact trivial | refine ⟨⟨_, _, _, rfl⟩, ?_⟩)))) xa_nil) rfl (by repeat' (first | exact trivial | refine ⟨no_val, ?_⟩ | refine ⟨no_borL, ?_⟩ | refine ⟨no_bor, ?_⟩)) h_621) ?_
  show Go _ _ _ _ _ [val (pScr K) script_0, val (pL pInt) r_614, val (pL pStr) r_616.1, val (pL (pT3 pStr pInt pInt)) r_616.2.1, val (pL (pT2 pInt pInt)) r_616.2.2.1, val (pL (pT2 pStr pInt)) r_616.2.2.2, val pStr r_620, dead, dead, dead, dead, dead, dead]
  obtain ⟨h_622, hm⟩ := guardO_some hm
  refine go_set 7 (x_split (x_var 6) x_str (by decide +kernel) h_622) ?_
  show Go _ _ _ _ _ [val (pScr K) script_0, val (pL pInt) r_614, val (pL pStr) r_616.1, val (pL (pT3 pStr pInt pInt)) r_616.2.1, val (pL (pT2 pInt pInt)) r_616.2.2.1, val (pL (pT2 pStr pInt)) r_616.2.2.2, val pStr r_620, own (oL pStr) (Txt.split r_620 ("\n" : Str)), dead, dead, dead, dead, dead]
  obtain ⟨lines_623, h_624, hm⟩ := letO_some hm
  refine go_set 7 (XV.eqO (x_slc (x_varL 7) LV.bor.sv xo_none (xo_some (x_op (fun _ => op_sub) o_int (x_callB (c_len _) T.g_len (by decide +kernel) (o_lenL LV.bor.sv) (xa1 (x_varL 7))) x_int))) h_624) ?_
  show Go _ _ _ _ _ [val (pScr K) script_0, val (pL pInt) r_614, val (pL pStr) r_616.1, val (pL (pT3 pStr pInt pInt)) r_616.2.1, val (pL (pT2 pInt pInt)) r_616.2.2.1, val (pL (pT2 pStr pInt)) r_616.2.2.2, val pStr r_620, own (oL pStr) lines_623, dead, dead, dead, dead, dead]
  obtain ⟨v_625, h_626, hm⟩ := Option.bind_eq_some_iff.mp hm
  obtain ⟨h_628, hm⟩ := guardO_some hm
  refine go_forK (rs := val pInt) (fun s => [val (pScr K) script_0, val (pL pInt) r_614, val (pL pStr) r_616.1, val (pL (pT3 pStr pInt pInt)) r_616.2.1, val (pL (pT2 pInt pInt)) r_616.2.2.1, val (pL (pT2 pStr pInt)) r_616.2.2.2, val pStr r_620, own (oL pStr) s, dead, dead, dead, dead, dead]) (fun r => val pBl r) (xi_range1 T.g_range (x_op (fun _ => op_mod) (o_intC (by decide)) (x_callTy (fun _ => call_int1) T.g_int (by decide +kernel) o_intI (xa1 (x_ix (x_var 1) LV.val.sv x_int h_626))) x_int) h_628) (by repeat' (first | exact WkL.nil | exact WkS.refl | exact WkS.dead | exact WkS.list | exact WkS.dict | exact WkS.lstS (fun _ => WkS.list) | refine WkL.cons ?_ ?_)) hm ?_ ?_ ?_
  · rintro B1 k_630 lines_629 out hx hm hr1 hl1
    refine ⟨_, _, (xg_name 8), ?_⟩
    show Go _ _ _ _ _ [val (pScr K) script_0, val (pL pInt) r_614, val (pL pStr) r_616.1, val (pL (pT3 pStr pInt pInt)) r_616.2.1, val (pL (pT2 pInt pInt)) r_616.2.2.1, val (pL (pT2 pStr pInt)) r_616.2.2.2, val pStr r_620, own (oL pStr) lines_629, val pInt k_630, dead, dead, dead, dead]
    obtain ⟨v_631, h_632, hm⟩ := Option.bind_eq_some_iff.mp hm
    obtain ⟨r_633, h_634, hm⟩ := Option.bind_eq_some_iff.mp hm
    refine go_set 7 (x_lend 7 rfl WkS.list OnlyL.oL (NLs.oL NLp.str) (x_call (z := (lines_629, v_631)) (ok__law_changed T) (by decide) T.g__law_changed T.k__law_changed T.b__law_changed (xa_cons (x_var 7) (xa_cons (x_ix (x_var 1) LV.val.sv (x_op (fun _ => op_add) o_int x_int (x_var 8)) h_632) xa_nil)) rfl (by repeat' (first | exact trivial | refine ⟨no_val, ?_⟩ | refine ⟨no_borL, ?_⟩ | refine ⟨no_bor, ?_⟩)) h_634)) ?_
    show Go _ _ _ _ _ [val (pScr K) script_0, val (pL pInt) r_614, val (pL pStr) r_616.1, val (pL (pT3 pStr pInt pInt)) r_616.2.1, val (pL (pT2 pInt pInt)) r_616.2.2.1, val (pL (pT2 pStr pInt)) r_616.2.2.2, val pStr r_620, own (oL pStr) r_633, val pInt k_630, dead, dead, dead, dead]
    cases hm
    exact go_nil (fun σ H h => ⟨_, rfl, h.wk (by repeat' (first | exact WkL.nil | exact WkS.refl | exact WkS.dead | exact WkS.list | exact WkS.dict | exact WkS.lstS (fun _ => WkS.list) | refine WkL.cons ?_ ?_))⟩)
  · rintro lines_629 hm
    show Go _ _ _ _ _ [val (pScr K) script_0, val (pL pInt) r_614, val (pL pStr) r_616.1, val (pL (pT3 pStr pInt pInt)) r_616.2.1, val (pL (pT2 pInt pInt)) r_616.2.2.1, val (pL (pT2 pStr pInt)) r_616.2.2.2, val pStr r_620, own (oL pStr) lines_629, dead, dead, dead, dead, dead]
    obtain ⟨h_639, hm⟩ := guardO_some hm
    obtain ⟨ys_635, h_636, hm⟩ := Option.bind_eq_some_iff.mp hm
    obtain ⟨h_640, hm⟩ := guardO_some hm
    obtain ⟨text_641, h_642, hm⟩ := letO_some hm
    refine go_set 6 (XV.eqV (x_join x_str (x_lc (rs := val pStr) (own := [("line", 9)]) (xi_bor (x_varL 7)) ⟨fun _ => blkOk_by (N := N_law) (sc := defScope s_law) (by decide +kernel), fun _ _ => rfl⟩ h_639 h_636 ⟨rfl, trivial⟩ (fun line_637 o hx hm => by obtain ⟨h_638, hm⟩ := guardO_some hm; cases hm; exact ⟨_, _, rfl, (xg_name 9), lc_el (x_op (fun _ => op_add_str) (o_addS h_638) (x_var 9) x_str)⟩)) LV.own.sv h_640) h_642) ?_
    show Go _ _ _ _ _ [val (pScr K) script_0, val (pL pInt) r_614, val (pL pStr) r_616.1, val (pL (pT3 pStr pInt pInt)) r_616.2.1, val (pL (pT2 pInt pInt)) r_616.2.2.1, val (pL (pT2 pStr pInt)) r_616.2.2.2, val pStr text_641, own (oL pStr) lines_629, dead, dead, dead, dead, dead]
    obtain ⟨v_643, h_644, hm⟩ := Option.bind_eq_some_iff.mp hm
    obtain ⟨text_645, hj_650, hm⟩ := Option.bind_eq_some_iff.mp hm
    refine go_ifJ [val (pScr K) script_0, val (pL pInt) r_614, val (pL pStr) r_616.1, val (pL (pT3 pStr pInt pInt)) r_616.2.1, val (pL (pT2 pInt pInt)) r_616.2.2.1, val (pL (pT2 pStr pInt)) r_616.2.2.2, val pStr text_645, own (oL pStr) lines_629, dead, dead, dead, dead, dead] (xt_cmp (fun _ => op_eq) o_eqI (nomark _) (x_op (fun _ => op_mod) (o_intC (by decide)) (x_op (fun _ => op_fdiv) (o_intC ⟨by decide, by decide⟩) (x_callTy (fun _ => call_int1) T.g_int (by decide +kernel) o_intI (xa1 (x_ix (x_var 1) LV.val.sv x_int h_644))) x_int) x_int) x_int) (fun hz => ?_) (fun hz => ?_) ?_
    · have hm := condT hz hj_650
      obtain ⟨h_646, hm⟩ := guardO_some hm
      obtain ⟨h_647, hm⟩ := guardO_some hm
      obtain ⟨text_648, h_649, hm⟩ := letO_some hm
      refine go_set 6 (XV.eqV (x_slcS (x_var 6) h_647 xo_none (xo_some (x_op (fun _ => op_sub) o_int (x_callB (fun _ => call_len_str) T.g_len (by decide +kernel) (o_lenS h_646) (xa1 (x_var 6))) x_int))) h_649) ?_
      show Go _ _ _ _ _ [val (pScr K) script_0, val (pL pInt) r_614, val (pL pStr) r_616.1, val (pL (pT3 pStr pInt pInt)) r_616.2.1, val (pL (pT2 pInt pInt)) r_616.2.2.1, val (pL (pT2 pStr pInt)) r_616.2.2.2, val pStr text_648, own (oL pStr) lines_629, dead, dead, dead, dead, dead]
      cases hm
      exact go_nx (by repeat' (first | exact WkL.nil | exact WkS.refl | exact WkS.dead | exact WkS.list | exact WkS.dict | exact WkS.lstS (fun _ => WkS.list) | refine WkL.cons ?_ ?_))
    · have hm := condF hz hj_650
      cases hm
      exact go_nx (by repeat' (first | exact WkL.nil | exact WkS.refl | exact WkS.dead | exact WkS.list | exact WkS.dict | exact WkS.lstS (fun _ => WkS.list) | refine WkL.cons ?_ ?_))
    obtain ⟨r_652, h_653, hm⟩ := Option.bind_eq_some_iff.mp hm
    refine go_asg (x_call (z := text_645) (ok__law_reading T) (by decide) T.g__law_reading T.k__law_reading T.b__law_reading (xa_cons (x_var 6) xa_nil) rfl (by repeat' (first | exact trivial | refine ⟨no_val, ?_⟩ | refine ⟨no_borL, ?_⟩ | refine ⟨no_bor, ?_⟩)) h_653) (xg_tup2 (xgs_cons (xg_name 9) (xgs_cons (xg_name 10) xgs_nil))) ?_
    show Go _ _ _ _ _ [val (pScr K) script_0, val (pL pInt) r_614, val (pL pStr) r_616.1, val (pL (pT3 pStr pInt pInt)) r_616.2.1, val (pL (pT2 pInt pInt)) r_616.2.2.1, val (pL (pT2 pStr pInt)) r_616.2.2.2, val pStr text_645, own (oL pStr) lines_629, dead, val pInt r_652.1, val (pOpt (pH slH_0)) r_652.2, dead, dead]
    obtain ⟨r_654, h_655, hm⟩ := Option.bind_eq_some_iff.mp hm
    refine go_set 11 (x_call (z := text_645) (ok__law_told T) (by decide) T.g__law_told T.k__law_told T.b__law_told (xa_cons (x_var 6) xa_nil) rfl (by repeat' (first | exact trivial | refine ⟨no_val, ?_⟩ | refine ⟨no_borL, ?_⟩ | refine ⟨no_bor, ?_⟩)) h_655) ?_
    show Go _ _ _ _ _ [val (pScr K) script_0, val (pL pInt) r_614, val (pL pStr) r_616.1, val (pL (pT3 pStr pInt pInt)) r_616.2.1, val (pL (pT2 pInt pInt)) r_616.2.2.1, val (pL (pT2 pStr pInt)) r_616.2.2.2, val pStr text_645, own (oL pStr) lines_629, dead, val pInt r_652.1, val (pOpt (pH slH_0)) r_652.2, val (pSum (pT2 pStr (pObj T.C_Circuit ns_Circuit sl_Circuit)) (pDa K)) r_654, dead]
    refine go_if (xt_cmp (fun _ => op_gt) o_bl (nomark _) (x_var 9) x_int) (fun hz => ?_) (fun hz => ?_)
    · have hm := condT hz hm
      obtain ⟨u_656, h_657, hm⟩ := Option.bind_eq_some_iff.mp hm
      obtain ⟨h_658, hm⟩ := guardO_some hm
      obtain ⟨h_659, hm⟩ := guardO_some hm
      cases hm
      exact go_ret (x_cmp (c_eqD _) (o_eqP Vw.val Vw.val h_658 h_659) (nomark _) (XV.unr h_657 (x_var 11)) (x_tupD (ds := [DE.str.enc ("text" : Str), DE.int.enc r_652.1, DE.bl.enc true, DE.bl.enc false]) (xa_cons (XV.data DE.str x_str) (xa_cons (XV.data DE.int (x_var 9)) (xa_cons (XV.data DE.bl x_bl) (xa_cons (XV.data DE.bl x_bl) xa_nil)))) (le_line rfl))) (fun v H h => h)
    · have hm := condF hz hm
      refine go_join ?_
      obtain ⟨u_660, h_661, hm⟩ := Option.bind_eq_some_iff.mp hm
      obtain ⟨r_662, h_663, hm⟩ := Option.bind_eq_some_iff.mp hm
      refine go_set 12 (x_call (z := u_660) (ok__law_made T) (by decide) T.g__law_made T.k__law_made T.b__law_made (xa_cons (opt_get h_661 (x_var 10)) xa_nil) rfl (by repeat' (first | exact trivial | refine ⟨no_val, ?_⟩ | refine ⟨no_borL, ?_⟩ | refine ⟨no_bor, ?_⟩)) h_663) ?_
      show Go _ _ _ _ _ [val (pScr K) script_0, val (pL pInt) r_614, val (pL pStr) r_616.1, val (pL (pT3 pStr pInt pInt)) r_616.2.1, val (pL (pT2 pInt pInt)) r_616.2.2.1, val (pL (pT2 pStr pInt)) r_616.2.2.2, val pStr text_645, own (oL pStr) lines_629, dead, val pInt r_652.1, val (pOpt (pH slH_0)) r_652.2, val (pSum (pT2 pStr (pObj T.C_Circuit ns_Circuit sl_Circuit)) (pDa K)) r_654, val (pSum (pT2 pStr (pObj T.C_Circuit ns_Circuit sl_Circuit)) (pDa K)) r_662]
      obtain ⟨t_664, h_665, hm⟩ := Option.bind_eq_some_iff.mp hm
      obtain ⟨b_668, h_669, hm⟩ := Option.bind_eq_some_iff.mp hm
      refine go_if (xw_pt (xw_orP (xt_cmp (fun _ => op_eq) o_eqS (nomark _) (x_hdS (x_var 12) x_int h_665) x_str) h_669 (fun z hm => by obtain ⟨t_666, h_667, hm⟩ := Option.bind_eq_some_iff.mp hm; cases hm; exact (xw_or1 (xt_cmp (fun _ => op_ne) o_neS (nomark _) (x_hdS (x_var 11) x_int h_667) x_str))))) (fun hz => ?_) (fun hz => ?_)
      · have hm := condT hz hm
        obtain ⟨u_670, h_671, hm⟩ := Option.bind_eq_some_iff.mp hm
        obtain ⟨u_672, h_673, hm⟩ := Option.bind_eq_some_iff.mp hm
        obtain ⟨h_674, hm⟩ := guardO_some hm
        obtain ⟨h_675, hm⟩ := guardO_some hm
        cases hm
        exact go_ret (x_cmp (c_eqD _) (o_eqP Vw.val Vw.val h_674 h_675) (nomark _) (XV.unr h_671 (x_var 11)) (XV.unr h_673 (x_var 12))) (fun v H h => h)
      · have hm := condF hz hm
        refine go_join ?_
        obtain ⟨u_676, h_677, hm⟩ := Option.bind_eq_some_iff.mp hm
        obtain ⟨u_678, h_679, hm⟩ := Option.bind_eq_some_iff.mp hm
        obtain ⟨q_680, h_681, hm⟩ := Option.bind_eq_some_iff.mp hm
        obtain ⟨b_686, h_687, hm⟩ := Option.bind_eq_some_iff.mp hm
        cases hm
        exact go_ret (x_andP (x_cmp (c_ownEq (ok_Circuit_eq T) (by decide) T.me_Circuit_eq.at_ T.me_Circuit_eq.fn T.b_Circuit_eq) (o_ownE (z := (u_676.2, u_678.2)) rfl Vw.val Vw.val OthV.obj h_681) (nomark _) (x_snd (u := u_676) (XV.unl h_677 (x_var 11)) x_int) (x_snd (u := u_678) (XV.unl h_679 (x_var 12)) x_int)) h_687 (fun z hm => by obtain ⟨u_682, h_683, hm⟩ := Option.bind_eq_some_iff.mp hm; obtain ⟨r_684, h_685, hm⟩ := Option.bind_eq_some_iff.mp hm; cases hm; exact (x_one (x_cmp (fun _ => op_eq) o_eqS (nomark _) (x_call (z := u_682.2) (ok_write_circuit T) (by decide) T.g_write_circuit T.k_write_circuit T.b_write_circuit (xa_cons (x_snd (u := u_682) (XV.unl h_683 (x_var 11)) x_int) xa_nil) rfl (by repeat' (first | exact trivial | refine ⟨no_val, ?_⟩ | refine ⟨no_borL, ?_⟩ | refine ⟨no_bor, ?_⟩)) h_685) (x_var 6))))) (fun v H h => h)
  · rintro r hm v H h
    cases hm
end
end K13

/-! Pl1 -/
namespace Ty
open PySem PySem.Spec L2
theorem rangeL_len (n : Int) : (rangeL 0 n).length = n.toNat := by simp [rangeL]
theorem mem_rangeL {x lo hi : Int} (h : x ∈ rangeL lo hi) : lo ≤ x ∧ x < hi := by
  unfold rangeL at h
  obtain ⟨k, hk, rfl⟩ := List.mem_map.mp h
  have := List.mem_range.mp hk
  omega
theorem fmO_all {α β : Type} {f : α → Option (Option β)} {g : α → β} : ∀ {xs : List α}, (∀ x ∈ xs, f x = some (some (g x))) → fmO xs f = some (xs.map g)
  | [], _ => rfl
  | x :: xs, h => by
    unfold fmO
    rw [h x List.mem_cons_self, Option.bind_some, fmO_all fun y hy => h y (List.mem_cons_of_mem _ hy)]; rfl
theorem mem_of_atI {α : Type} {xs : List α} {i : Int} {v : α} (h : atI xs i = some v) : v ∈ xs := by
  unfold atI at h
  obtain ⟨j, _, h⟩ := Option.bind_eq_some_iff.mp h
  exact List.mem_of_getElem? h
theorem line_le {n : Nat} (h : n ≤ 16777216) : n ≤ sizeLine := by rw [sizeLine_eq]; exact h
theorem line_lt {n : Nat} (h : n < 16777216) : n < sizeLine := by rw [sizeLine_eq]; exact h
/-! ### tables -/
section
variable {κ β : Type} [DecidableEq κ]
theorem dget_nil (k : κ) : dget ([] : List (κ × β)) k = none := rfl
theorem dget_cons (a : κ × β) (r : List (κ × β)) (k : κ) : dget (a :: r) k = if a.1 = k then some a.2 else dget r k := by
  by_cases h : a.1 = k <;> simp [dget, List.find?_cons, h]
theorem dget_none_any {kvs : List (κ × β)} {k : κ} (h : dget kvs k = none) : (kvs.any fun kv => decide (kv.1 = k)) = false := by
  induction kvs with
  | nil => rfl
  | cons a r ih =>
    rw [dget_cons] at h
    by_cases e : a.1 = k
    · simp [e] at h
    · rw [if_neg e] at h
      simp only [List.any_cons, e, decide_false, Bool.false_or]; exact ih h
theorem dput_new {kvs : List (κ × β)} {k : κ} {v : β} (h : dget kvs k = none) : dput kvs k v = kvs ++ [(k, v)] := by
  unfold dput
  rw [dget_none_any h]; rfl
theorem dget_snoc {kvs : List (κ × β)} {k q : κ} {v : β} (h : dget kvs k = none) : dget (kvs ++ [(k, v)]) q = if q = k then some v else dget kvs q := by
  induction kvs with
  | nil => rw [List.nil_append, dget_cons]; by_cases e : k = q <;> simp [e, dget_nil, eq_comm]
  | cons a r ih =>
    rw [dget_cons] at h
    by_cases e : a.1 = k
    · simp [e] at h
    · rw [if_neg e] at h
      rw [List.cons_append, dget_cons, dget_cons, ih h]
      by_cases e2 : a.1 = q
      · have : ¬ q = k := fun z => e (by rw [e2, z])
        simp [e2, this]
      · simp [e2]
end
/-! ### how many different items -/
def pairsL (n m : Nat) : List (Int × Int) := (List.range n).flatMap fun (a : Nat) => (List.range m).map fun (b : Nat) => ((a : Int), (b : Int))
end Ty

/-! Pl2 -/
namespace Ty
open PySem PySem.Spec L2
/-! ### running mirrors forward -/
theorem gI {α : Type} {c : Prop} [Decidable c] {x z : Option α} (h : c) (k : x = z) : guardO c x = z := (if_pos h).trans k
theorem bI {α β : Type} {o : Option α} {a : α} {f : α → Option β} {z : Option β} (h : o = some a) (k : f a = z) : o.bind f = z := by rw [h]; exact k
theorem lI {α β : Type} {a : α} {f : α → Option β} {z : Option β} (k : f a = z) : letO a f = z := k
theorem cT {α : Type} {c : Bool} {a b z : α} (h : c = true) (k : a = z) : (bif c then a else b) = z := by rw [h]; exact k
theorem cF {α : Type} {c : Bool} {a b z : α} (h : c = false) (k : b = z) : (bif c then a else b) = z := by rw [h]; exact k
theorem cS {α : Type} {c : Bool} {a b z : α} (h1 : c = true → a = z) (h2 : c = false → b = z) : (bif c then a else b) = z := by cases c with
  | true => exact h1 rfl
  | false => exact h2 rfl
theorem exI_ok {α β : Type} {o : Option (Rx α)} {ke : Exn → Option β} {kk : α → Option β} {a : α} {z : Option β} (h : o = some (.ok a)) (k : kk a = z) : exK o ke kk = z := by rw [h]; exact k
theorem exI_ex {α β : Type} {o : Option (Rx α)} {ke : Exn → Option β} {kk : α → Option β} {e : Exn} {z : Option β} (h : o = some (.ex e)) (k : ke e = z) : exK o ke kk = z := by rw [h]; exact k
theorem dT {p : Prop} [Decidable p] (h : p) : decide p = true := decide_eq_true h
theorem dF {p : Prop} [Decidable p] (h : ¬ p) : decide p = false := decide_eq_false h
/-! ### loops by places -/
theorem rangeL_len2 (a b : Int) : (rangeL a b).length = (b - a).toNat := by simp [rangeL]
theorem rangeL_at {a b : Int} {j : Nat} {x : Int} (h : (rangeL a b)[j]? = some x) : x = a + j ∧ (j : Int) < b - a := by
  unfold rangeL at h
  rw [List.getElem?_map] at h
  obtain ⟨m, h1, h2⟩ := Option.map_eq_some_iff.mp h
  obtain ⟨h3, h4⟩ := List.getElem?_eq_some_iff.mp h1
  simp at h3 h4
  subst h4
  exact ⟨h2.symm, by omega⟩
/-! ### lists -/
theorem ixN_of {n : Nat} {i : Int} (h0 : 0 ≤ i) (h1 : i < n) : ixN n i = some i.toNat := by unfold ixN; rw [if_pos h0, if_pos h1]
theorem atI_pos {α : Type} {xs : List α} {i : Int} (h0 : 0 ≤ i) : atI xs i = xs[i.toNat]? := by
  unfold atI
  by_cases h : i < xs.length
  · rw [ixN_of h0 h]; rfl
  · unfold ixN
    rw [if_pos h0, if_neg h, List.getElem?_eq_none (by omega)]; rfl
theorem atI_ex {α : Type} {xs : List α} {i : Int} (h0 : 0 ≤ i) (h1 : i < xs.length) : ∃ v, atI xs i = some v := by
  rw [atI_pos h0]
  exact ⟨_, List.getElem?_eq_getElem (by omega)⟩
theorem atI_set {α : Type} {xs : List α} {i j : Int} {u : α} (h0 : 0 ≤ i) (h1 : i < xs.length) (hj : 0 ≤ j) : atI (xs.set i.toNat u) j = if j = i then some u else atI xs j := by
  rw [atI_pos hj, atI_pos hj]
  by_cases h : j = i
  · subst h
    rw [if_pos rfl, List.getElem?_set_self (by omega)]
  · rw [if_neg h, List.getElem?_set_ne (by omega)]
/-! ### tables -/
section
variable {κ β : Type} [DecidableEq κ]
theorem dget_map (kvs : List (κ × β)) (k q : κ) (v : β) : dget (kvs.map fun kv => if kv.1 = k then (kv.1, v) else kv) q = if q = k then (dget kvs k).map (fun _ => v) else dget kvs q := by
  induction kvs with
  | nil => by_cases e : q = k <;> simp [e, dget_nil]
  | cons a r ih =>
    rw [List.map_cons, dget_cons, ih, dget_cons, dget_cons]
    by_cases e1 : a.1 = k
    · rw [if_pos e1]
      by_cases e : q = k
      · subst e
        rw [if_pos e1, if_pos rfl, if_pos e1]; rfl
      · have hne : ¬ a.1 = q := fun z => e (by rw [← z]; exact e1)
        simp only [if_neg e, if_neg hne]
    · rw [if_neg e1]
      by_cases e : q = k
      · subst e
        rw [if_neg e1, if_pos rfl, if_pos rfl, if_neg e1]
      · rw [if_neg e, if_neg e]
theorem dget_put (kvs : List (κ × β)) (k q : κ) (v : β) : dget (dput kvs k v) q = if q = k then some v else dget kvs q := by
  cases h : dget kvs k with
  | none => rw [dput_new h, dget_snoc h]
  | some u =>
    have hany : (kvs.any fun kv => decide (kv.1 = k)) = true := by
      cases hb : (kvs.any fun kv => decide (kv.1 = k)) with
      | true => rfl
      | false =>
        exfalso
        have : dget kvs k = none := by
          clear h
          induction kvs with
          | nil => rfl
          | cons a r ih =>
            simp only [List.any_cons, Bool.or_eq_false_iff] at hb
            rw [dget_cons, if_neg (of_decide_eq_false hb.1)]
            exact ih hb.2
        rw [this] at h; cases h
    unfold dput
    rw [if_pos hany]
    rw [dget_map, h]
    by_cases e : q = k
    · rw [if_pos e, if_pos e]; rfl
    · rw [if_neg e, if_neg e]
theorem dput_len (kvs : List (κ × β)) (k : κ) (v : β) : (dput kvs k v).length ≤ kvs.length + 1 := by
  unfold dput
  split <;> simp
end
end Ty

/-! Pl3 -/
namespace Ty
open PySem PySem.Spec L2
/-! ### mirrors: they end, with what -/
def Tot {α : Type} (o : Option α) (Q : α → Prop) : Prop := ∃ v, o = some v ∧ Q v
section
variable {α β S ρ : Type} {Q : β → Prop} {R : α → Prop} {x y : Option β} {z : Option β}
theorem tG {c : Prop} [Decidable c] (h : c) (k : Tot x Q) : Tot (guardO c x) Q := by unfold guardO; rw [if_pos h]; exact k
theorem tB {o : Option α} {f : α → Option β} (h : Tot o R) (k : ∀ a, R a → Tot (f a) Q) : Tot (o.bind f) Q := by
  obtain ⟨a, e, r⟩ := h
  rw [e]; exact k a r
theorem tE {o : Option α} {f : α → Option β} {a : α} (h : o = some a) (k : Tot (f a) Q) : Tot (o.bind f) Q := by rw [h]; exact k
theorem tL {a : α} {f : α → Option β} (k : Tot (f a) Q) : Tot (letO a f) Q := k
theorem tC {c : Bool} (h1 : c = true → Tot x Q) (h2 : c = false → Tot y Q) : Tot (bif c then x else y) Q := by cases c with
  | true => exact h1 rfl
  | false => exact h2 rfl
theorem tD {p : Prop} [Decidable p] (h1 : p → Tot x Q) (h2 : ¬ p → Tot y Q) : Tot (bif decide p then x else y) Q := tC (fun h => h1 (of_decide_eq_true h)) (fun h => h2 (of_decide_eq_false h))
theorem tR {v : β} (h : Q v) : Tot (some v) Q := ⟨v, rfl, h⟩
theorem Tot.imp {Q' : β → Prop} (h : Tot x Q) (k : ∀ v, Q v → Q' v) : Tot x Q' := let ⟨v, e, q⟩ := h; ⟨v, e, k v q⟩
theorem Tot.eq {v : β} (h : Tot x fun r => r = v) : x = some v := let ⟨_, e, q⟩ := h; by rw [e, q]
theorem Tot.of {v : β} (h : x = some v) (k : Q v) : Tot x Q := ⟨v, h, k⟩
theorem tX {γ : Type} {o : Option (Rx γ)} {ke : Exn → Option β} {kk : γ → Option β} (h : Tot o fun r => match r with | .ok a => Tot (kk a) Q | .ex e => Tot (ke e) Q) : Tot (exK o ke kk) Q := by
  obtain ⟨r, e, q⟩ := h
  unfold exK
  rw [e]
  cases r with
  | ok a => exact q
  | ex e => exact q
/-- where a loop's turn leads -/
def LQ (P : S → Prop) (kn : S → Option β) (kr : ρ → Option β) (Q : β → Prop) : Fl ρ S → Prop
  | .next s => P s
  | .brk s => Tot (kn s) Q
  | .ret r => Tot (kr r) Q
variable {kn : S → Option β} {kr : ρ → Option β}
theorem tForX_aux {f : α → S → Option (Fl ρ S)} (P : Nat → S → Prop) : ∀ (xs : List α) (n : Nat) (s0 : S), P n s0 → (∀ j x s, xs[j]? = some x → P (n + j) s → Tot (f x s) (LQ (P (n + j + 1)) kn kr Q)) → (∀ s, P (n + xs.length) s → Tot (kn s) Q) → Tot (flK (forF xs s0 f) kn kr) Q
  | [], n, s0, h, _, k => k s0 h
  | x :: xs, n, s0, h, hs, k => by
    obtain ⟨fl, h1, h2⟩ := hs 0 x s0 rfl h
    unfold forF
    rw [h1, Option.bind_some]
    cases fl with
    | next s =>
      refine tForX_aux P xs (n + 1) s h2 (fun j y s e hp => ?_) (fun s hp => k s ?_)
      · have := hs (j + 1) y s (by simpa using e) (by rw [show n + (j + 1) = n + 1 + j by omega]; exact hp)
        rw [show n + (j + 1) + 1 = n + 1 + j + 1 by omega] at this
        exact this
      · rw [List.length_cons, show n + (xs.length + 1) = n + 1 + xs.length by omega]; exact hp
    | brk s => exact h2
    | ret r => exact h2
/-- for x in xs: by places -/
theorem tForX {f : α → S → Option (Fl ρ S)} (P : Nat → S → Prop) {xs : List α} {s0 : S} (h : P 0 s0) (hs : ∀ j x s, xs[j]? = some x → P j s → Tot (f x s) (LQ (P (j + 1)) kn kr Q)) (k : ∀ s, P xs.length s → Tot (kn s) Q) : Tot (flK (forF xs s0 f) kn kr) Q :=
  tForX_aux P xs 0 s0 h (fun j x s e hp => by rw [Nat.zero_add] at hp ⊢; exact hs j x s e hp) (fun s hp => by rw [Nat.zero_add] at hp; exact k s hp)
theorem tForR {f : Int → S → Option (Fl ρ S)} {a b : Int} (P : Int → S → Prop) {s0 : S} (hab : a ≤ b) (h : P a s0) (hs : ∀ x s, a ≤ x → x < b → P x s → Tot (f x s) (LQ (P (x + 1)) kn kr Q)) (k : ∀ s, P b s → Tot (kn s) Q) : Tot (flK (forF (rangeL a b) s0 f) kn kr) Q := by
  refine tForX (fun j s => P (a + j) s) (by simpa using h) (fun j x s e hp => ?_) (fun s hp => ?_)
  · obtain ⟨rfl, h3⟩ := rangeL_at e
    have := hs (a + j) s (by omega) (by omega) hp
    rw [show a + (j : Int) + 1 = a + ((j + 1 : Nat) : Int) by omega] at this
    exact this
  · rw [rangeL_len2, show a + (((b - a).toNat : Nat) : Int) = b by omega] at hp
    exact k s hp
theorem tWhile {f : S → Option (Fl ρ S)} (P : S → Prop) (μ : S → Nat) : ∀ (n : Nat) {s0 : S}, μ s0 < n → P s0 → (∀ s, P s → Tot (f s) (LQ (fun s' => P s' ∧ μ s' < μ s) kn kr Q)) → Tot (flK (whileF n s0 f) kn kr) Q
  | 0, _, hn, _, _ => absurd hn (Nat.not_lt_zero _)
  | n + 1, s0, hn, h, hs => by
    obtain ⟨fl, h1, h2⟩ := hs s0 h
    unfold whileF
    rw [h1, Option.bind_some]
    cases fl with
    | next s => exact tWhile P μ n (by have := h2.2; omega) h2.1 hs
    | brk s => exact h2
    | ret r => exact h2
theorem tAt {γ : Type} {xs : List γ} {i : Int} {k : γ → Option β} (h0 : 0 ≤ i) (h1 : i < xs.length) (hk : ∀ v, atI xs i = some v → Tot (k v) Q) : Tot ((atI xs i).bind k) Q := by
  obtain ⟨v, e⟩ := atI_ex h0 h1
  exact tE e (hk v e)
end
theorem tLe {α β : Type} {Q : β → Prop} {a : α} {f : α → Option β} (k : ∀ x, x = a → Tot (f x) Q) : Tot (letO a f) Q := k a rfl
/-- a list that is filled from its start -/
structure Fill {V : Type} (N : Int) (F : Int → V) (z : V) (x : Int) (c : List V) : Prop where
  len : (c.length : Int) = N
  done : ∀ y, 0 ≤ y → y < x → atI c y = some (F y)
  rest : ∀ y, x ≤ y → y < N → atI c y = some z
theorem Fill.set {V : Type} {N x : Int} {F : Int → V} {z v : V} {c : List V} (h : Fill N F z x c) (h0 : 0 ≤ x) (h1 : x < N) (hv : v = F x) : Fill N F z (x + 1) (c.set x.toNat v) := by
  have hl := h.len
  refine ⟨by rw [List.length_set]; exact hl, fun y a b => ?_, fun y a b => ?_⟩
  · rw [atI_set h0 (by omega) a]
    by_cases e : y = x
    · rw [if_pos e, e, hv]
    · rw [if_neg e]; exact h.done y a (by omega)
  · rw [atI_set h0 (by omega) (by omega), if_neg (by omega)]
    exact h.rest y (by omega) b
theorem Fill.skip {V : Type} {N x : Int} {F : Int → V} {z : V} {c : List V} (h : Fill N F z x c) (h1 : x < N) (hv : F x = z) : Fill N F z (x + 1) c := by
  refine ⟨h.len, fun y a b => ?_, fun y a b => h.rest y (by omega) b⟩
  by_cases e : y = x
  · rw [e, hv]; exact h.rest x (Int.le_refl _) h1
  · exact h.done y a (by omega)
end Ty

/-! Pl4 -/
namespace Ty
open PySem PySem.Spec L2
/-! ### bits of whole numbers -/
/-- a bit as a number -/
def bi (b : Bool) : Int := if b then 1 else 0
/-- the mark of a literal -/
def odd (x : Int) : Bool := decide (x % 2 = 1)
/-- the table of f over n places -/
def tbl : Nat → (Nat → Bool) → Nat
  | 0, _ => 0
  | n + 1, f => tbl n f + (f n).toNat * 2 ^ n
/-! ### a net: what is worked out by and -/
def Wf (ands : List (Int × Int)) (fa : Int) : Prop := 1 ≤ fa ∧ ∀ (k : Nat) p, ands[k]? = some p → (0 ≤ p.1 ∧ p.1 < 2 * (fa + k)) ∧ (0 ≤ p.2 ∧ p.2 < 2 * (fa + k))
theorem Wf.at {ands : List (Int × Int)} {fa x : Int} {p : Int × Int} (w : Wf ands fa) (h1 : fa ≤ x) (h : atI ands (x - fa) = some p) : (0 ≤ p.1 ∧ 0 ≤ p.1 / 2 ∧ p.1 / 2 < x) ∧ (0 ≤ p.2 ∧ 0 ≤ p.2 / 2 ∧ p.2 / 2 < x) := by
  rw [atI_pos (by omega)] at h
  have := w.2 _ _ h
  have e : ((x - fa).toNat : Int) = x - fa := by omega
  rw [e] at this
  omega
section
variable {V : Type} (ands : List (Int × Int)) (fa : Int) (base : Int → Option V) (comb : Int × Int → V → V → V) (d : V)
def solN : Nat → Int → V
  | 0, _ => d
  | k + 1, y => match base y with
    | some v => v
    | none => match atI ands (y - fa) with
      | none => d
      | some p => comb p (solN k (p.1 / 2)) (solN k (p.2 / 2))
def sol (y : Int) : V := solN ands fa base comb d (y.toNat + 1) y
end
end Ty

/-! Pl5 -/
/-! names and circuits; the first of a list that fails -/
namespace Ty
open PySem PySem.Spec L2
/-! ### texts by sign -/
theorem len_tl' (x : Str) : x.length = x.cps.toList.length := by unfold Str.length; simp
theorem tl_cat (a b : Str) : (a ++ b).cps.toList = a.cps.toList ++ b.cps.toList := TL.tl_append a b
theorem tl_ext {a b : Str} (h : a.cps.toList = b.cps.toList) : a = b := TL.ext_tl h
theorem tl_numI {n : Int} (h : 0 ≤ n) : (Str.ofString (toString n)).cps.toList = TL.numL n.toNat := by
  have := TL.tl_num n.toNat
  rw [Int.toNat_of_nonneg h] at this
  exact this
def sgn (c : Nat) : Prop := (97 ≤ c ∧ c ≤ 122) ∨ (48 ≤ c ∧ c ≤ 57) ∨ c = 95
theorem mem_low {c : Nat} : c ∈ ("abcdefghijklmnopqrstuvwxyz" : Str).cps.toList ↔ (97 ≤ c ∧ c ≤ 122) := by
  have e : ("abcdefghijklmnopqrstuvwxyz" : Str).cps.toList = [97, 98, 99, 100, 101, 102, 103, 104, 105, 106, 107, 108, 109, 110, 111, 112, 113, 114, 115, 116, 117, 118, 119, 120, 121, 122] := by decide +kernel
  rw [e]
  simp only [List.mem_cons, List.not_mem_nil, or_false]
  omega
theorem mem_sgn {c : Nat} : c ∈ ("abcdefghijklmnopqrstuvwxyz0123456789_" : Str).cps.toList ↔ sgn c := by
  have e : ("abcdefghijklmnopqrstuvwxyz0123456789_" : Str).cps.toList = [97, 98, 99, 100, 101, 102, 103, 104, 105, 106, 107, 108, 109, 110, 111, 112, 113, 114, 115, 116, 117, 118, 119, 120, 121, 122, 48, 49, 50, 51, 52, 53, 54, 55, 56, 57, 95] := by decide +kernel
  rw [e]
  simp only [List.mem_cons, List.not_mem_nil, or_false]
  unfold sgn
  omega
/-- a sign of the row of letters and figures -/
theorem al_at {i : Int} (h0 : 0 ≤ i) (h1 : i < 36) : ∃ c, atI ("abcdefghijklmnopqrstuvwxyz0123456789" : Str).cps.toList i = some c ∧ ((97 ≤ c ∧ c ≤ 122) ∨ (48 ≤ c ∧ c ≤ 57)) ∧ (i < 26 → 97 ≤ c ∧ c ≤ 122) := by
  have e : ("abcdefghijklmnopqrstuvwxyz0123456789" : Str).cps.toList = [97, 98, 99, 100, 101, 102, 103, 104, 105, 106, 107, 108, 109, 110, 111, 112, 113, 114, 115, 116, 117, 118, 119, 120, 121, 122, 48, 49, 50, 51, 52, 53, 54, 55, 56, 57] := by decide +kernel
  rw [e, atI_pos h0]
  have h : ∀ n : Nat, n < 36 → ∃ c, ([97, 98, 99, 100, 101, 102, 103, 104, 105, 106, 107, 108, 109, 110, 111, 112, 113, 114, 115, 116, 117, 118, 119, 120, 121, 122, 48, 49, 50, 51, 52, 53, 54, 55, 56, 57] : List Nat)[n]? = some c ∧ ((97 ≤ c ∧ c ≤ 122) ∨ (48 ≤ c ∧ c ≤ 57)) ∧ (n < 26 → 97 ≤ c ∧ c ≤ 122) := by
    intro n hn
    by_cases h26 : n < 26
    · have : ∀ n : Fin 26, ([97, 98, 99, 100, 101, 102, 103, 104, 105, 106, 107, 108, 109, 110, 111, 112, 113, 114, 115, 116, 117, 118, 119, 120, 121, 122, 48, 49, 50, 51, 52, 53, 54, 55, 56, 57] : List Nat)[n.val]? = some (97 + n.val) := by decide +kernel
      exact ⟨97 + n, this ⟨n, h26⟩, by omega, by omega⟩
    · have : ∀ n : Fin 10, ([97, 98, 99, 100, 101, 102, 103, 104, 105, 106, 107, 108, 109, 110, 111, 112, 113, 114, 115, 116, 117, 118, 119, 120, 121, 122, 48, 49, 50, 51, 52, 53, 54, 55, 56, 57] : List Nat)[26 + n.val]? = some (48 + n.val) := by decide +kernel
      have z := this ⟨n - 26, by omega⟩
      rw [show 26 + (n - 26) = n by omega] at z
      exact ⟨_, z, by omega, by omega⟩
  obtain ⟨c, h2, h3, h4⟩ := h i.toNat (by omega)
  exact ⟨c, h2, h3, fun h => h4 (by omega)⟩
/-- a name -/
structure Nm (s : Str) : Prop where
  l1 : 1 ≤ s.cps.toList.length
  l2 : s.cps.toList.length ≤ 12
  hd : ∀ c, s.cps.toList[0]? = some c → 97 ≤ c ∧ c ≤ 122
  al : ∀ c ∈ s.cps.toList, sgn c
/-- the names of one family, by their number -/
def NameC (k : Nat) (s : Str) : Prop := (∃ j, j < 4 ∧ s.cps.toList = 114 :: TL.numL (4 * k + j)) ∨ (∃ c t, (97 ≤ c ∧ c ≤ 122) ∧ s.cps.toList = c :: (TL.numL k ++ 95 :: t) ∧ t.length ≤ 5 ∧ ∀ x ∈ t, (97 ≤ x ∧ x ≤ 122) ∨ (48 ≤ x ∧ x ≤ 57))
theorem num_sgn {n c : Nat} (h : c ∈ TL.numL n) : sgn c := .inr (.inl (TL.numL_digits n c h))
theorem NameC.nm {k : Nat} {s : Str} (h : NameC k s) (hk : k < 1000) : Nm s := by
  rcases h with ⟨j, hj, e⟩ | ⟨c, t, hc, e, ht, hx⟩
  · have hl := TL.numL_len (n := 4 * k + j) (k := 4) (by decide) (by omega)
    refine ⟨?_, ?_, ?_, ?_⟩ <;> rw [e]
    · simp
    · simp; omega
    · intro c h; simp at h; omega
    · intro c h
      rcases List.mem_cons.mp h with h | h
      · exact .inl (by omega)
      · exact num_sgn h
  · have hl := TL.numL_len (n := k) (k := 3) (by decide) (by omega)
    refine ⟨?_, ?_, ?_, ?_⟩ <;> rw [e]
    · simp
    · simp; omega
    · intro c h; simp at h; omega
    · intro x h
      rcases List.mem_cons.mp h with h | h
      · exact .inl (by omega)
      · rcases List.mem_append.mp h with h | h
        · exact num_sgn h
        · rcases List.mem_cons.mp h with h | h
          · exact .inr (.inr h)
          · rcases hx x h with z | z
            · exact .inl z
            · exact .inr (.inl z)
theorem cut95 : ∀ {a b c d : List Nat}, 95 ∉ a → 95 ∉ c → a ++ 95 :: b = c ++ 95 :: d → a = c
  | [], _, [], _, _, _, _ => rfl
  | [], b, y :: c, d, _, h, e => by
    simp at e
    exact absurd (by rw [e.1]; simp) h
  | x :: a, b, [], d, h, _, e => by
    simp at e
    exact absurd (by rw [e.1]; simp) h
  | x :: a, b, y :: c, d, h1, h2, e => by
    simp at e
    rw [e.1, cut95 (fun z => h1 (List.mem_cons_of_mem _ z)) (fun z => h2 (List.mem_cons_of_mem _ z)) e.2]
theorem NameC.inj {k k' : Nat} {s : Str} (h : NameC k s) (h' : NameC k' s) : k = k' := by
  rcases h with ⟨j, hj, e⟩ | ⟨c, t, hc, e, _⟩ <;> rcases h' with ⟨j', hj', e'⟩ | ⟨c', t', hc', e', _⟩ <;> rw [e] at e'
  · injection e' with _ z
    have := TL.numL_inj z
    omega
  · injection e' with _ z
    have : 95 ∈ TL.numL (4 * k + j) := by rw [z]; simp
    exact absurd this (TL.numL_free (by omega))
  · injection e' with _ z
    have : 95 ∈ TL.numL (4 * k' + j') := by rw [← z]; simp
    exact absurd this (TL.numL_free (by omega))
  · injection e' with _ z
    exact TL.numL_inj (cut95 (TL.numL_free (by omega)) (TL.numL_free (by omega)) z)
/-! ### circuits -/
structure CircOk (ins : List Str) (lts : List (Str × Int × Int)) (ands : List (Int × Int)) (outs : List (Str × Int)) : Prop where
  i1 : ins.length ≤ 16
  l1 : lts.length ≤ 40
  a1 : ands.length ≤ 2000
  o1 : outs.length ≤ 32
  iN : ∀ s ∈ ins, Nm s
  lN : ∀ p ∈ lts, Nm p.1
  oN : ∀ p ∈ outs, Nm p.1
  nd : (ins ++ lts.map (·.1)).Nodup
  on : (outs.map (·.1)).Nodup
  lv : ∀ p ∈ lts, (0 ≤ p.2.1 ∧ p.2.1 ≤ 1) ∧ 0 ≤ p.2.2 ∧ p.2.2 < 2 * (1 + ins.length + lts.length + ands.length : Int)
  wf : Wf ands (1 + ins.length + lts.length : Int)
  ov : ∀ p ∈ outs, 0 ≤ p.2 ∧ p.2 < 2 * (1 + ins.length + lts.length + ands.length : Int)
theorem enum_at {α : Type} {xs : List α} {j : Nat} {y : Int × α} (h : (xs.zipIdx.map fun x => ((x.2 : Int), x.1))[j]? = some y) : ∃ x, xs[j]? = some x ∧ y = ((j : Int), x) := by
  rw [List.getElem?_map] at h
  obtain ⟨z, h1, h2⟩ := Option.map_eq_some_iff.mp h
  rw [List.getElem?_zipIdx] at h1
  obtain ⟨x, h3, h4⟩ := Option.map_eq_some_iff.mp h1
  refine ⟨x, h3, ?_⟩
  rw [← h2, ← h4]
  simp
theorem enum_len {α : Type} (xs : List α) : (xs.zipIdx.map fun x => ((x.2 : Int), x.1)).length = xs.length := by simp
/-! ### the first that is so -/
theorem forFind {α ρ : Type} {p : α → Bool} {f : α → Unit → Option (Fl ρ Unit)} {g : α → ρ} : ∀ {xs : List α}, (∀ x ∈ xs, f x () = if p x then some (.ret (g x)) else some (.next ())) →
    forF xs () f = some (match xs.find? p with | some x => .ret (g x) | none => .next ())
  | [], _ => rfl
  | x :: xs, h => by
    unfold forF
    rw [h x List.mem_cons_self]
    by_cases hp : p x = true
    · rw [if_pos hp, List.find?_cons_of_pos hp]; rfl
    · rw [if_neg hp, List.find?_cons_of_neg hp]
      exact forFind fun y hy => h y (List.mem_cons_of_mem _ hy)
theorem Wf.set {ands : List (Int × Int)} {fa : Int} (w : Wf ands fa) {n : Nat} {u : Int × Int} (h : (0 ≤ u.1 ∧ u.1 < 2) ∧ (0 ≤ u.2 ∧ u.2 < 2)) : Wf (ands.set n u) fa := by
  refine ⟨w.1, fun k p hp => ?_⟩
  have h1 := w.1
  rw [List.getElem?_set] at hp
  split at hp
  · split at hp
    · cases hp; omega
    · cases hp
  · exact w.2 k p hp
theorem cutL_pre {α : Type} {xs : List α} {n : Int} (h0 : 0 ≤ n) (h1 : n ≤ xs.length) : cutL xs none (some n) = xs.take n.toNat := by
  unfold cutL
  have e0 : HT.sIx xs.length 0 none = 0 := rfl
  have e1 : HT.sIx xs.length xs.length (some n) = n.toNat := by
    show (if n < 0 then (n + (xs.length : Int)).toNat else min n.toNat xs.length) = _
    rw [if_neg (by omega)]
    omega
  rw [e0, e1, List.drop_zero, Nat.sub_zero]
end Ty
namespace Ty
open PySem PySem.Spec L2
theorem fmX {α β : Type} {f : α → Option (Option β)} : ∀ {xs : List α} {R : Nat → β → Prop}, (∀ j x, xs[j]? = some x → ∃ v, f x = some (some v) ∧ R j v) → ∃ ys, fmO xs f = some ys ∧ ys.length = xs.length ∧ ∀ j v, ys[j]? = some v → R j v
  | [], R, _ => ⟨[], rfl, rfl, fun j v h => by simp at h⟩
  | x :: xs, R, h => by
    obtain ⟨v, h1, h2⟩ := h 0 x rfl
    obtain ⟨ys, h3, h4, h5⟩ := fmX (xs := xs) (R := fun j v => R (j + 1) v) fun j y hy => h (j + 1) y (by simpa using hy)
    refine ⟨v :: ys, ?_, by simp [h4], fun j u hu => ?_⟩
    · unfold fmO
      rw [h1, Option.bind_some, h3]
      rfl
    · cases j with
      | zero => simp at hu; rw [← hu]; exact h2
      | succ j => exact h5 j u (by simpa using hu)
theorem tFmX {α γ β : Type} {Q : β → Prop} {f : α → Option (Option γ)} {xs : List α} {k : List γ → Option β} (R : Nat → γ → Prop) (h : ∀ j x, xs[j]? = some x → ∃ v, f x = some (some v) ∧ R j v) (hk : ∀ ys, ys.length = xs.length → (∀ j v, ys[j]? = some v → R j v) → Tot (k ys) Q) : Tot ((fmO xs f).bind k) Q := by
  obtain ⟨ys, e, h1, h2⟩ := fmX h
  exact tE e (hk ys h1 h2)
theorem nodup_by {α : Type} {R : Nat → α → Prop} {ys : List α} (h : ∀ j v, ys[j]? = some v → R j v) (hi : ∀ j k v, R j v → R k v → j = k) : ys.Nodup := by
  rw [List.Nodup, List.pairwise_iff_getElem]
  intro i j h1 h2 h3 e
  have a := h i _ (List.getElem?_eq_getElem h1)
  have b := h j _ (List.getElem?_eq_getElem h2)
  rw [e] at a
  have := hi _ _ _ a b
  omega
theorem snoc_at {α : Type} {xs : List α} {u p : α} {m : Nat} (h : (xs ++ [u])[m]? = some p) : (m < xs.length ∧ xs[m]? = some p) ∨ (m = xs.length ∧ p = u) := by
  by_cases hm : m < xs.length
  · rw [List.getElem?_append_left hm] at h; exact .inl ⟨hm, h⟩
  · rw [List.getElem?_append_right (by omega)] at h
    have := (List.getElem?_eq_some_iff.mp h).1
    simp at this
    have e : m - xs.length = 0 := by omega
    rw [e] at h
    simp at h
    exact .inr ⟨by omega, h.symm⟩
end Ty
namespace Ty
end Ty
namespace Ty
theorem flK_find {α ρ β : Type} {o : Option α} {g : α → ρ} {kn : Unit → Option β} {kr : ρ → Option β} : flK (some (match o with | some x => Fl.ret (g x) | none => Fl.next ())) kn kr = match o with | some x => kr (g x) | none => kn () := by cases o <;> rfl
end Ty

/-! Pl6 -/
/-! another family of names; cuts -/
namespace Ty
open PySem PySem.Spec L2
/-! ### names -/
def aln (x : Nat) : Prop := (97 ≤ x ∧ x ≤ 122) ∨ (48 ≤ x ∧ x ≤ 57)
def NameB (k : Nat) (s : Str) : Prop := ∃ c a b, (97 ≤ c ∧ c ≤ 122) ∧ s.cps.toList = c :: (a ++ 95 :: (48 + k) :: b) ∧ a.length + b.length ≤ 7 ∧ (∀ x ∈ a, aln x) ∧ ∀ x ∈ b, aln x
theorem aln_sgn {x : Nat} (h : aln x) : sgn x := by
  rcases h with h | h
  · exact .inl h
  · exact .inr (.inl h)
theorem NameB.nm {k : Nat} {s : Str} (h : NameB k s) (hk : k < 10) : Nm s := by
  obtain ⟨c, a, b, hc, e, hl, ha, hb⟩ := h
  refine ⟨?_, ?_, ?_, ?_⟩ <;> rw [e]
  · simp
  · simp; omega
  · intro c h; simp at h; omega
  · intro x h
    rcases List.mem_cons.mp h with h | h
    · exact .inl (by omega)
    · rcases List.mem_append.mp h with h | h
      · exact aln_sgn (ha x h)
      · rcases List.mem_cons.mp h with h | h
        · exact .inr (.inr h)
        · rcases List.mem_cons.mp h with h | h
          · exact .inr (.inl (by omega))
          · exact aln_sgn (hb x h)
theorem no95 {a : List Nat} (h : ∀ x ∈ a, aln x) : 95 ∉ a := fun hm => by
  rcases h 95 hm with z | z <;> omega
theorem cut95' : ∀ {a b c d : List Nat}, 95 ∉ a → 95 ∉ c → a ++ 95 :: b = c ++ 95 :: d → b = d := fun {a b c d} h1 h2 e => by
  have := cut95 h1 h2 e
  subst this
  simpa using e
theorem NameB.inj {k k' : Nat} {s : Str} (h : NameB k s) (h' : NameB k' s) : k = k' := by
  obtain ⟨c, a, b, hc, e, hl, ha, hb⟩ := h
  obtain ⟨c', a', b', hc', e', hl', ha', hb'⟩ := h'
  rw [e] at e'
  injection e' with _ z
  have := cut95' (no95 ha) (no95 ha') z
  injection this with z _
  omega
theorem NameB.has {k : Nat} {s : Str} (h : NameB k s) : 95 ∈ s.cps.toList := by
  obtain ⟨c, a, b, hc, e, _⟩ := h
  rw [e]; simp
theorem zz9 : NameB 9 ("zz_9" : Str) := by
  refine ⟨122, [122], [], by decide, by decide +kernel, by decide, fun x hx => ?_, fun x hx => nomatch hx⟩
  rw [List.mem_singleton.mp hx]; exact .inl (by decide)
theorem sIx_some {n d : Nat} {v : Int} (h0 : 0 ≤ v) (h1 : v ≤ n) : HT.sIx n d (some v) = v.toNat := by
  show (if v < 0 then (v + (n : Int)).toNat else min v.toNat n) = _
  rw [if_neg (by omega)]
  omega
theorem cutS_pre {s : Str} {n : Int} (h0 : 0 ≤ n) (h1 : n ≤ s.cps.toList.length) : (cutS s none (some n)).cps.toList = s.cps.toList.take n.toNat := by
  have e : s.length = s.cps.toList.length := len_tl' s
  unfold cutS
  rw [sIx_some h0 (by omega)]
  show (List.take (n.toNat - 0) (List.drop 0 s.cps.toList)) = _
  rw [List.drop_zero, Nat.sub_zero]
theorem cutS_suf {s : Str} {n : Int} (h0 : 0 ≤ n) (h1 : n ≤ s.cps.toList.length) : (cutS s (some n) none).cps.toList = s.cps.toList.drop n.toNat := by
  have e : s.length = s.cps.toList.length := len_tl' s
  unfold cutS
  rw [sIx_some h0 (by omega)]
  show (List.take (s.length - n.toNat) (List.drop n.toNat s.cps.toList)) = _
  rw [List.take_of_length_le]
  rw [List.length_drop]
  omega
theorem cutL_suf {α : Type} {xs : List α} {n : Int} (h0 : 0 ≤ n) (h1 : n ≤ xs.length) : cutL xs (some n) none = xs.drop n.toNat := by
  unfold cutL
  rw [sIx_some h0 h1]
  show (List.take (xs.length - n.toNat) (List.drop n.toNat xs)) = _
  rw [List.take_of_length_le]
  rw [List.length_drop]
  omega
theorem cutL_all {α : Type} {xs : List α} {n : Int} (h0 : 0 ≤ n) : cutL xs none (some n) = xs.take n.toNat := by
  by_cases h : n ≤ xs.length
  · exact cutL_pre h0 h
  · unfold cutL
    have : HT.sIx xs.length xs.length (some n) = xs.length := by
      show (if n < 0 then (n + (xs.length : Int)).toNat else min n.toNat xs.length) = _
      rw [if_neg (by omega)]
      omega
    rw [this]
    show List.take (xs.length - 0) (List.drop 0 xs) = _
    rw [List.drop_zero, List.take_of_length_le (by omega), List.take_of_length_le (by omega)]
/-- a text without strange signs -/
theorem ok_of {s : Str} (h : ∀ c ∈ s.cps.toList, c < 1114112) : PyData.strOk s = true := by
  unfold PyData.strOk
  rw [← Array.all_toList, List.all_eq_true]
  intro c hc
  exact decide_eq_true (h c hc)
theorem Nm.ok {s : Str} (h : Nm s) : PyData.strOk s = true := ok_of fun c hc => by
  rcases h.al c hc with z | z | z <;> omega
end Ty

/-! Pl9 -/
/-! data that is short when shown -/
namespace Ty
open PySem PySem.Spec L2
structure Sml (w k : Nat) (d : PyData) : Prop where
  ok : d.canLay0 = true
  sh : d.leavesShort 30 = true
  sw : d.showable = true
  we : d.weight ≤ w
  de : d.depth ≤ k
theorem Sml.mono {w w' k k' : Nat} {d : PyData} (h : Sml w k d) (h1 : w ≤ w') (h2 : k ≤ k') : Sml w' k' d := ⟨h.ok, h.sh, h.sw, Nat.le_trans h.we h1, Nat.le_trans h.de h2⟩
theorem Sml.int {i : Int} (h : i.natAbs < 2 ^ 70) : Sml 71 0 (.int i) := by
  have hl : i.natAbs.log2 < 70 := by
    by_cases h0 : i.natAbs = 0
    · rw [h0]; decide
    · exact (Nat.log2_lt h0).mpr h
  refine ⟨by rw [PyData.canLay0], ?_, ?_, ?_, by rw [PyData.depth]; exact Nat.le_refl _⟩
  · have e := int_text_length_le10 (a := i) (k := 22) (by decide) (Nat.lt_of_lt_of_le h (by decide))
    rw [PyData.leavesShort, decide_eq_true_eq]
    show (Str.ofString (toString i)).length ≤ 30
    rw [ofString_length]
    omega
  · rw [PyData.showable, decide_eq_true_eq]; omega
  · rw [PyData.weight]
    split
    · omega
    · omega
theorem Sml.bool (b : Bool) : Sml 0 0 (.bool b) := ⟨by rw [PyData.canLay0], by rw [PyData.leavesShort], by rw [PyData.showable], by rw [PyData.weight]; exact Nat.le_refl _, by rw [PyData.depth]; exact Nat.le_refl _⟩
theorem Sml.str {s : Str} {n : Nat} (h : PyData.strOk s = true) (hl : s.length ≤ n) : Sml n 0 (.str s) := by
  refine ⟨by rw [PyData.canLay0]; exact h, ?_, by rw [PyData.showable], by rw [PyData.weight]; exact hl, by rw [PyData.depth]; exact Nat.le_refl _⟩
  have h0 : s.cps.all (· < 0x110000) = true := by simpa only [PyData.strOk] using h
  simp only [PyData.leavesShort, List.all_eq_true, decide_eq_true_eq]
  intro c hcm
  have h2 := (Array.all_eq_true_iff_forall_mem.mp h0) c (Array.mem_toList_iff.mp hcm)
  have h3 : c < 0x110000 := by simpa using h2
  have e : (16 : Nat) ^ 8 = 4294967296 := by decide
  omega
structure SmlA (w k n : Nat) (ds : List PyData) : Prop where
  ok : PyData.canLayAll0 ds = true
  sh : PyData.leavesShortAll 30 ds = true
  sw : PyData.showableAll ds = true
  we : PyData.weightAll ds ≤ ds.length * (w + 1)
  de : PyData.depthAll ds ≤ k
theorem SmlA.of {w k : Nat} : ∀ {ds : List PyData}, (∀ d ∈ ds, Sml w k d) → SmlA w k 0 ds
  | [], _ => ⟨by rw [PyData.canLayAll0], by rw [PyData.leavesShortAll], by rw [PyData.showableAll], by rw [PyData.weightAll]; omega, by rw [PyData.depthAll]; omega⟩
  | d :: ds, h => by
    have h1 := h d List.mem_cons_self
    have h2 := SmlA.of fun x hx => h x (List.mem_cons_of_mem _ hx)
    refine ⟨by rw [PyData.canLayAll0, h1.ok, h2.ok]; rfl, by rw [PyData.leavesShortAll, h1.sh, h2.sh]; rfl, by rw [PyData.showableAll, h1.sw, h2.sw]; rfl, ?_, ?_⟩
    · rw [PyData.weightAll, List.length_cons, Nat.succ_mul]
      have := h1.we
      have := h2.we
      omega
    · rw [PyData.depthAll]
      exact Nat.max_le.mpr ⟨h1.de, h2.de⟩
theorem Sml.list {w k n : Nat} {ds : List PyData} (h : ∀ d ∈ ds, Sml w k d) (hl : ds.length ≤ n) : Sml (n * (w + 1)) (k + 1) (.list ds) := by
  have a := SmlA.of h
  refine ⟨by rw [PyData.canLay0]; exact a.ok, by rw [PyData.leavesShort]; exact a.sh, by rw [PyData.showable]; exact a.sw, ?_, by rw [PyData.depth]; exact Nat.succ_le_succ a.de⟩
  rw [PyData.weight]
  exact Nat.le_trans a.we (Nat.mul_le_mul_right _ hl)
theorem Sml.tuple {w k n : Nat} {ds : List PyData} (h : ∀ d ∈ ds, Sml w k d) (hl : ds.length ≤ n) : Sml (n * (w + 1)) (k + 1) (.tuple ds) := by
  have a := SmlA.of h
  refine ⟨by rw [PyData.canLay0]; exact a.ok, by rw [PyData.leavesShort]; exact a.sh, by rw [PyData.showable]; exact a.sw, ?_, by rw [PyData.depth]; exact Nat.succ_le_succ a.de⟩
  rw [PyData.weight]
  exact Nat.le_trans a.we (Nat.mul_le_mul_right _ hl)
theorem Sml.t2 {w k : Nat} {a b : PyData} (h1 : Sml w k a) (h2 : Sml w k b) : Sml (2 * (w + 1)) (k + 1) (.tuple [a, b]) :=
  Sml.tuple (fun d hd => by
    rcases List.mem_cons.mp hd with rfl | hd
    · exact h1
    · rw [List.mem_singleton.mp hd]; exact h2) (Nat.le_refl _)
theorem Sml.t3 {w k : Nat} {a b c : PyData} (h1 : Sml w k a) (h2 : Sml w k b) (h3 : Sml w k c) : Sml (3 * (w + 1)) (k + 1) (.tuple [a, b, c]) :=
  Sml.tuple (fun d hd => by
    rcases List.mem_cons.mp hd with rfl | hd
    · exact h1
    · rcases List.mem_cons.mp hd with rfl | hd
      · exact h2
      · rw [List.mem_singleton.mp hd]; exact h3) (Nat.le_refl _)
theorem Sml.shaped {w k : Nat} {d : PyData} (h : Sml w k d) (hk : k ≤ 64) : SeqAt.shaped d = true := by
  unfold SeqAt.shaped
  rw [h.ok]
  have := h.de
  simp only [Bool.true_and, decide_eq_true_eq]
  omega
theorem Sml.eqv {w k : Nat} {d : PyData} (h : Sml w k d) : PyData.eqv d d = true := SeqAt.eqv_refl d h.ok
theorem Sml.repr {w k : Nat} {d : PyData} (h : Sml w k d) (hr : pdIsR d = true) (hw : w ≤ 400000) (hk : k ≤ 40) : ReprOk d := by
  refine ⟨⟨hr, h.sw⟩, PyData.hasDict_of_canLay d h.ok, Nat.le_trans h.de hk, ?_⟩
  have h1 := PyData.shown_le 30 (by decide) d h.sh
  have h2 := h.we
  rw [sizeLine_eq]
  omega
end Ty

/-! Pl12 -/
/-! texts cut at one sign; written numbers -/
namespace Ty
open PySem PySem.Spec L2
open SX (S)
def cutAt (c : Nat) : List Nat → List (List Nat)
  | [] => [[]]
  | x :: l => if x = c then [] :: cutAt c l else match cutAt c l with
    | [] => [[x]]
    | h :: t => (x :: h) :: t
theorem cutAt_ne (c : Nat) : ∀ l, cutAt c l ≠ []
  | [] => by simp [cutAt]
  | x :: l => by
    unfold cutAt
    split
    · simp
    · split <;> simp
theorem spl_cutAt {c : Nat} : ∀ (l acc : List Nat) {h : List Nat} {t : List (List Nat)}, cutAt c l = h :: t → TL.spl [c] 0 acc l = (acc ++ h) :: t
  | [], acc, h, t, e => by
    rw [TL.spl_nil]
    simp only [cutAt, List.cons.injEq] at e
    rw [← e.1, ← e.2, List.append_nil]
  | x :: l, acc, h, t, e => by
    by_cases hx : x = c
    · have hp : TL.pre [c] (x :: l) = true := by simp [TL.pre, hx]
      rw [TL.spl_hit hp]
      unfold cutAt at e
      rw [if_pos hx] at e
      injection e with e1 e2
      rw [← e1, List.append_nil, ← e2]
      show acc :: TL.spl [c] 0 [] l = _
      obtain ⟨h', t', e'⟩ := List.exists_cons_of_ne_nil (cutAt_ne c l)
      rw [spl_cutAt l [] e', e', List.nil_append]
    · have hp : TL.pre [c] (x :: l) = false := by simp [TL.pre, hx]
      rw [TL.spl_miss hp]
      unfold cutAt at e
      rw [if_neg hx] at e
      obtain ⟨h', t', e'⟩ := List.exists_cons_of_ne_nil (cutAt_ne c l)
      rw [e'] at e
      dsimp only at e
      injection e with e1 e2
      rw [spl_cutAt l _ e', ← e1, ← e2, List.append_assoc]
      rfl
theorem spl_cut (c : Nat) (l : List Nat) : TL.spl [c] 0 [] l = cutAt c l := by
  obtain ⟨h, t, e⟩ := List.exists_cons_of_ne_nil (cutAt_ne c l)
  rw [spl_cutAt l [] e, e, List.nil_append]
theorem cutAt_free {c : Nat} : ∀ {l : List Nat} {p : List Nat}, p ∈ cutAt c l → c ∉ p
  | [], p, h => by
    simp only [cutAt, List.mem_singleton] at h
    rw [h]; exact List.not_mem_nil
  | x :: l, p, h => by
    unfold cutAt at h
    by_cases hx : x = c
    · rw [if_pos hx] at h
      rcases List.mem_cons.mp h with h | h
      · rw [h]; exact List.not_mem_nil
      · exact cutAt_free h
    · rw [if_neg hx] at h
      obtain ⟨h', t', e'⟩ := List.exists_cons_of_ne_nil (cutAt_ne c l)
      rw [e'] at h
      dsimp only at h
      rcases List.mem_cons.mp h with h | h
      · have := cutAt_free (c := c) (l := l) (p := h') (by rw [e']; exact List.mem_cons_self)
        rw [h]
        intro hm
        rcases List.mem_cons.mp hm with hm | hm
        · exact hx hm.symm
        · exact this hm
      · exact cutAt_free (l := l) (by rw [e']; exact List.mem_cons_of_mem _ h)
theorem joinL_cons (sp p : List Nat) : ∀ (t : List (List Nat)), t ≠ [] → TL.joinL sp (p :: t) = p ++ (sp ++ TL.joinL sp t)
  | [], h => absurd rfl h
  | _ :: _, _ => rfl
theorem joinL_head (sp : List Nat) (x : Nat) (p : List Nat) : ∀ (t : List (List Nat)), TL.joinL sp ((x :: p) :: t) = x :: TL.joinL sp (p :: t)
  | [] => rfl
  | _ :: _ => rfl
theorem join_cutAt (c : Nat) : ∀ l, TL.joinL [c] (cutAt c l) = l
  | [] => rfl
  | x :: l => by
    unfold cutAt
    by_cases hx : x = c
    · rw [if_pos hx, joinL_cons _ _ _ (cutAt_ne c l), join_cutAt c l, hx]; rfl
    · rw [if_neg hx]
      obtain ⟨h', t', e'⟩ := List.exists_cons_of_ne_nil (cutAt_ne c l)
      have := join_cutAt c l
      rw [e'] at this ⊢
      dsimp only
      rw [joinL_head, this]
theorem cutAt_len {c : Nat} : ∀ (l : List Nat), (cutAt c l).length ≤ l.length + 1
  | [] => by simp [cutAt]
  | x :: l => by
    have := cutAt_len (c := c) l
    unfold cutAt
    split
    · simp; omega
    · obtain ⟨h', t', e'⟩ := List.exists_cons_of_ne_nil (cutAt_ne c l)
      rw [e'] at this ⊢
      simp at this ⊢
      omega
theorem cutAt_sum {c : Nat} : ∀ (l : List Nat), ((cutAt c l).map (·.length)).sum ≤ l.length
  | [] => by simp [cutAt]
  | x :: l => by
    have := cutAt_sum (c := c) l
    unfold cutAt
    split
    · simp; omega
    · obtain ⟨h', t', e'⟩ := List.exists_cons_of_ne_nil (cutAt_ne c l)
      rw [e'] at this ⊢
      simp at this ⊢
      omega
theorem cutAt_sub {c : Nat} : ∀ {l p : List Nat}, p ∈ cutAt c l → p.length ≤ l.length ∧ ∀ x ∈ p, x ∈ l
  | [], p, h => by
    simp only [cutAt, List.mem_singleton] at h
    rw [h]; exact ⟨Nat.le_refl _, fun x hx => hx⟩
  | x :: l, p, h => by
    unfold cutAt at h
    by_cases hx : x = c
    · rw [if_pos hx] at h
      rcases List.mem_cons.mp h with h | h
      · rw [h]; exact ⟨Nat.zero_le _, fun x hx => absurd hx List.not_mem_nil⟩
      · have := cutAt_sub h
        exact ⟨by rw [List.length_cons]; omega, fun y hy => List.mem_cons_of_mem _ (this.2 y hy)⟩
    · rw [if_neg hx] at h
      obtain ⟨h', t', e'⟩ := List.exists_cons_of_ne_nil (cutAt_ne c l)
      rw [e'] at h
      dsimp only at h
      rcases List.mem_cons.mp h with h | h
      · have := cutAt_sub (c := c) (l := l) (p := h') (by rw [e']; exact List.mem_cons_self)
        rw [h]
        refine ⟨by simp; exact this.1, fun y hy => ?_⟩
        rcases List.mem_cons.mp hy with hy | hy
        · rw [hy]; exact List.mem_cons_self
        · exact List.mem_cons_of_mem _ (this.2 y hy)
      · have := cutAt_sub (l := l) (by rw [e']; exact List.mem_cons_of_mem _ h)
        exact ⟨by rw [List.length_cons]; omega, fun y hy => List.mem_cons_of_mem _ (this.2 y hy)⟩
/-! ### texts -/
def wds (c : Nat) (s : Str) : List Str := (cutAt c s.cps.toList).map S
theorem split_wds {s sep : Str} {c : Nat} (hs : sep.cps.toList = [c]) (hc : c < 256) : Txt.split s sep = wds c s := by
  have e1 : sep = S [c] := tl_ext (by rw [hs])
  have e2 : s = S s.cps.toList := (SX.S_tl s).symm
  rw [e1, e2, SX.split_S (by simp) (by simp [hc]), spl_cut]
  rfl
theorem wds_ne (c : Nat) (s : Str) : wds c s ≠ [] := by
  unfold wds
  intro h
  exact cutAt_ne c _ (List.map_eq_nil_iff.mp h)
theorem wds_len (c : Nat) (s : Str) : (wds c s).length ≤ s.length + 1 := by
  unfold wds
  rw [List.length_map, len_tl']
  exact cutAt_len _
theorem wds_sub {c : Nat} {s w : Str} (h : w ∈ wds c s) : w.length ≤ s.length ∧ (∀ x ∈ w.cps.toList, x ∈ s.cps.toList) ∧ c ∉ w.cps.toList := by
  unfold wds at h
  obtain ⟨p, hp, rfl⟩ := List.mem_map.mp h
  have := cutAt_sub hp
  rw [SX.S_len, len_tl']
  exact ⟨this.1, this.2, cutAt_free hp⟩
theorem wds_sum (c : Nat) (s : Str) : ((wds c s).map (·.length)).sum ≤ s.length := by
  unfold wds
  rw [SX.lens, len_tl']
  exact cutAt_sum _
theorem join_wds {s sep : Str} {c : Nat} (hs : sep.cps.toList = [c]) : Txt.join sep (wds c s) = s := by
  have e1 : sep = S [c] := tl_ext (by rw [hs])
  unfold wds
  rw [e1, SX.join_S, join_cutAt]
/-- the signs of joined texts -/
theorem tl_joinE : ∀ (ys : List Str), (Txt.join ("" : Str) ys).cps.toList = (ys.map fun y => y.cps.toList).flatten := by
  intro ys
  have e : (Txt.join ("" : Str) ys) = Str.join ("" : Str) ys := TL.join_eq _ _
  rw [e]
  have := TL.tl_join ("" : Str) ys
  have e0 : TL.tl ("" : Str) = [] := by decide +kernel
  rw [e0] at this
  refine this.trans ?_
  clear this e
  induction ys with
  | nil => rfl
  | cons y r ih =>
    cases r with
    | nil => simp [TL.joinL, TL.tl]
    | cons z r =>
      rw [List.map_cons, joinL_cons _ _ _ (by simp), ih]
      rfl
theorem joinL_sum (sp : List Nat) : ∀ (ps : List (List Nat)), (TL.joinL sp ps).length ≤ (ps.map (·.length)).sum + ps.length * sp.length
  | [] => by simp [TL.joinL]
  | [p] => by simp [TL.joinL]
  | p :: q :: r => by
    have := joinL_sum sp (q :: r)
    rw [joinL_cons _ _ _ (by simp)]
    simp only [List.length_append, List.map_cons, List.sum_cons, List.length_cons, Nat.add_mul, Nat.one_mul] at this ⊢
    omega
theorem join_len (sep : Str) (ys : List Str) : (Txt.join sep ys).length ≤ (ys.map (·.length)).sum + ys.length * sep.length := by
  have e : Txt.join sep ys = Str.join sep ys := TL.join_eq _ _
  rw [e, len_tl' (Str.join sep ys), len_tl' sep]
  have h : (Str.join sep ys).cps.toList = TL.joinL sep.cps.toList (ys.map fun y => y.cps.toList) := TL.tl_join sep ys
  rw [h]
  refine Nat.le_trans (joinL_sum _ _) ?_
  rw [List.map_map, List.length_map]
  have : (ys.map ((fun x : List Nat => x.length) ∘ fun y : Str => y.cps.toList)) = ys.map (·.length) := List.map_congr_left fun y _ => (len_tl' y).symm
  rw [this]
  exact Nat.le_refl _
theorem joinL_mem (sp : List Nat) : ∀ {ps : List (List Nat)} {x : Nat}, x ∈ TL.joinL sp ps → x ∈ sp ∨ ∃ p ∈ ps, x ∈ p
  | [], x, h => by simp [TL.joinL] at h
  | [p], x, h => .inr ⟨p, List.mem_singleton.mpr rfl, h⟩
  | p :: q :: r, x, h => by
    rw [joinL_cons _ _ _ (by simp)] at h
    rcases List.mem_append.mp h with h | h
    · exact .inr ⟨p, List.mem_cons_self, h⟩
    · rcases List.mem_append.mp h with h | h
      · exact .inl h
      · rcases joinL_mem sp h with h | ⟨p', h1, h2⟩
        · exact .inl h
        · exact .inr ⟨p', List.mem_cons_of_mem _ h1, h2⟩
theorem join_mem {sep : Str} {ys : List Str} {x : Nat} (h : x ∈ (Txt.join sep ys).cps.toList) : x ∈ sep.cps.toList ∨ ∃ y ∈ ys, x ∈ y.cps.toList := by
  have e : Txt.join sep ys = Str.join sep ys := TL.join_eq _ _
  rw [e] at h
  have e2 : (Str.join sep ys).cps.toList = TL.joinL sep.cps.toList (ys.map fun y => y.cps.toList) := TL.tl_join sep ys
  rw [e2] at h
  rcases joinL_mem _ h with h | ⟨p, h1, h2⟩
  · exact .inl h
  · obtain ⟨y, hy, rfl⟩ := List.mem_map.mp h1
    exact .inr ⟨y, hy, h2⟩
/-- lines, each of which ends with the sign -/
theorem joinL_last (c : Nat) : ∀ (ps : List (List Nat)), TL.joinL [c] (ps ++ [[]]) = (ps.map fun p => p ++ [c]).flatten
  | [] => rfl
  | p :: r => by
    rw [List.cons_append, joinL_cons _ _ _ (by simp), joinL_last c r]
    simp
/-! ### numbers -/
theorem numL_back : ∀ (n : Nat) (a : List Nat), a.length ≤ n → a ≠ [] → (∀ c ∈ a, 48 ≤ c ∧ c ≤ 57) → (a.head? = some 48 → a.length = 1) → TL.numL (NumText.digitsVal a) = a
  | 0, a, h, hne, _, _ => absurd (List.length_eq_zero_iff.mp (by omega)) hne
  | n + 1, a, h, hne, hd, hz => by
    obtain ⟨b, d, rfl⟩ : ∃ b d, a = b ++ [d] := ⟨a.dropLast, a.getLast hne, (List.dropLast_concat_getLast hne).symm⟩
    have hdd := hd d (by simp)
    have ev : NumText.digitsVal (b ++ [d]) = NumText.digitsVal b * 10 + (d - 48) := by
      unfold NumText.digitsVal
      rw [List.foldl_append]; rfl
    cases b with
    | nil =>
      rw [ev]
      have e0 : NumText.digitsVal [] = 0 := rfl
      rw [e0, TL.numL_lt (by omega)]
      simp
      omega
    | cons x r =>
      have hb := numL_back n (x :: r) (by simp at h ⊢; omega) (by simp) (fun c hc => hd c (List.mem_append_left _ hc)) (fun e => by
        simp at e
        have := hz (by simp [e])
        simp at this)
      have hx0 : x ≠ 48 := fun e => by
        have := hz (by simp [e])
        simp at this
      have hx := hd x (by simp)
      have hpos : 1 ≤ NumText.digitsVal (x :: r) := by
        refine Nat.pos_of_ne_zero fun e => ?_
        rw [e] at hb
        have e0 : TL.numL 0 = [48] := TL.numL_lt (by decide)
        rw [e0] at hb
        injection hb with h1 _
        exact hx0 h1.symm
      rw [ev, TL.numL_step (by omega)]
      have e1 : (NumText.digitsVal (x :: r) * 10 + (d - 48)) / 10 = NumText.digitsVal (x :: r) := by omega
      have e2 : (NumText.digitsVal (x :: r) * 10 + (d - 48)) % 10 = d - 48 := by omega
      rw [e1, e2, hb]
      simp
      omega
theorem digits_lt : ∀ (a : List Nat), (∀ c ∈ a, 48 ≤ c ∧ c ≤ 57) → NumText.digitsVal a < 10 ^ a.length := by
  intro a
  suffices h : ∀ (n : Nat) (a : List Nat), a.length ≤ n → (∀ c ∈ a, 48 ≤ c ∧ c ≤ 57) → NumText.digitsVal a < 10 ^ a.length from h _ a (Nat.le_refl _)
  intro n
  induction n with
  | zero => intro a h _; rw [List.length_eq_zero_iff.mp (by omega : a.length = 0)]; decide
  | succ n ih =>
    intro a h hd
    by_cases hne : a = []
    · rw [hne]; decide
    · obtain ⟨b, d, rfl⟩ : ∃ b d, a = b ++ [d] := ⟨a.dropLast, a.getLast hne, (List.dropLast_concat_getLast hne).symm⟩
      have hdd := hd d (by simp)
      have ev : NumText.digitsVal (b ++ [d]) = NumText.digitsVal b * 10 + (d - 48) := by
        unfold NumText.digitsVal
        rw [List.foldl_append]; rfl
      have := ih b (by simp at h; omega) fun c hc => hd c (List.mem_append_left _ hc)
      rw [ev, List.length_append, List.length_singleton, Nat.pow_succ]
      omega
/-- a word that writes a number -/
def numB (w : Str) : Bool := decide (1 ≤ w.cps.toList.length) && (decide (w.cps.toList.length ≤ 6) && ((w.cps.toList.all fun c => decide (48 ≤ c) && decide (c ≤ 57)) && (decide (w.cps.toList.head? ≠ some 48) || decide (w.cps.toList.length = 1))))
def numV (w : Str) : Int := ((NumText.digitsVal w.cps.toList : Nat) : Int)
theorem numB_val {w : Str} (h : numB w = true) : intText? w = some (numV w) ∧ 0 ≤ numV w ∧ numV w < 1000000 ∧ Str.ofString (toString (numV w)) = w ∧ w.length ≤ 6 := by
  unfold numB at h
  simp only [Bool.and_eq_true, Bool.or_eq_true, decide_eq_true_eq] at h
  obtain ⟨h1, h2, h3, h4⟩ := h
  have hd : ∀ c ∈ w.cps.toList, 48 ≤ c ∧ c ≤ 57 := fun c hc => by
    have := List.all_eq_true.mp h3 c hc
    simpa using this
  have hne : w.cps.toList ≠ [] := fun e => by rw [e] at h1; simp at h1
  have hi := SX.int_S (a := w.cps.toList) h3 hne (by omega)
  rw [SX.S_tl] at hi
  have hl := digits_lt _ hd
  have hp : 10 ^ w.cps.toList.length ≤ 10 ^ 6 := Nat.pow_le_pow_right (by decide) h2
  refine ⟨hi, by unfold numV; omega, by unfold numV; omega, ?_, by rw [len_tl']; exact h2⟩
  refine tl_ext ?_
  unfold numV
  have := TL.tl_num (NumText.digitsVal w.cps.toList)
  refine Eq.trans this (numL_back _ _ (Nat.le_refl _) hne hd fun e => ?_)
  rcases h4 with h4 | h4
  · exact absurd e h4
  · exact h4
end Ty

/-! K13N -/
namespace K13
open PySem PySem.Spec L2 Ty
/-! ### the first place that is so -/
def fst1 (p : Nat → Bool) (n : Nat) : Option Nat := (List.range n).find? p
theorem fst1_some {p : Nat → Bool} {n j : Nat} (h : j < n) (hp : p j = true) (hb : ∀ i, i < j → p i = false) : fst1 p n = some j := by
  unfold fst1
  rw [List.find?_range_eq_some]
  exact ⟨hp, List.mem_range.mpr h, fun i hi => by rw [hb i hi]; rfl⟩
theorem fst1_none {p : Nat → Bool} {n : Nat} : fst1 p n = none ↔ ∀ i, i < n → p i = false := by
  unfold fst1
  rw [List.find?_range_eq_none]
  exact ⟨fun h i hi => by have := h i hi; simpa using this, fun h i hi => by rw [h i hi]; rfl⟩
theorem fst1_lt {p : Nat → Bool} {n j : Nat} (h : fst1 p n = some j) : j < n ∧ p j = true := by
  unfold fst1 at h
  rw [List.find?_range_eq_some] at h
  exact ⟨List.mem_range.mp h.2.1, h.1⟩
theorem forFst_aux {α S ρ : Type} {f : α → S → Option (Fl ρ S)} (p : Nat → Bool) (g : Nat → ρ) (Inv : Nat → S → Prop) : ∀ (xs : List α) (n : Nat) (s0 : S), Inv n s0 → (∀ i, i < n → p i = false) →
    (∀ j x s, xs[j]? = some x → (∀ i, i < n + j → p i = false) → Inv (n + j) s → (p (n + j) = true → f x s = some (.ret (g (n + j)))) ∧ (p (n + j) = false → ∃ s', f x s = some (.next s') ∧ Inv (n + j + 1) s')) →
    (∃ j, j < xs.length ∧ p (n + j) = true ∧ (∀ i, i < n + j → p i = false) ∧ forF xs s0 f = some (.ret (g (n + j)))) ∨ ((∀ i, i < n + xs.length → p i = false) ∧ ∃ s', forF xs s0 f = some (.next s') ∧ Inv (n + xs.length) s')
  | [], n, s0, h, hb, _ => .inr ⟨hb, s0, rfl, h⟩
  | x :: xs, n, s0, h, hb, hs => by
    obtain ⟨h1, h2⟩ := hs 0 x s0 rfl hb h
    rw [Nat.add_zero] at h1 h2
    unfold forF
    cases hp : p n with
    | true =>
      refine .inl ⟨0, by simp, by rw [Nat.add_zero]; exact hp, hb, ?_⟩
      rw [h1 hp]; rfl
    | false =>
      obtain ⟨s1, e1, i1⟩ := h2 hp
      rw [e1]
      have hb1 : ∀ i, i < n + 1 → p i = false := fun i hi => by
        by_cases e : i = n
        · rw [e]; exact hp
        · exact hb i (by omega)
      rcases forFst_aux p g Inv xs (n + 1) s1 i1 hb1 fun j y s e hpp hi => by
        have := hs (j + 1) y s (by simpa using e) (by rw [show n + (j + 1) = n + 1 + j by omega]; exact hpp) (by rw [show n + (j + 1) = n + 1 + j by omega]; exact hi)
        rw [show n + (j + 1) = n + 1 + j by omega] at this
        exact this with ⟨j, a, b, c, d⟩ | ⟨a, b⟩
      · refine .inl ⟨j + 1, by rw [List.length_cons]; omega, by rw [show n + (j + 1) = n + 1 + j by omega]; exact b, by rw [show n + (j + 1) = n + 1 + j by omega]; exact c, ?_⟩
        rw [show n + (j + 1) = n + 1 + j by omega]
        exact d
      · rw [List.length_cons, show n + (xs.length + 1) = n + 1 + xs.length by omega]
        exact .inr ⟨a, b⟩
theorem flKF {α S ρ β : Type} {f : α → S → Option (Fl ρ S)} {xs : List α} {s0 : S} {kn : S → Option β} {kr : ρ → Option β} {Z : Option β} (p : Nat → Bool) (g : Nat → ρ) (Inv : Nat → S → Prop) (h : Inv 0 s0)
    (hs : ∀ j x s, xs[j]? = some x → (∀ i, i < j → p i = false) → Inv j s → (p j = true → f x s = some (.ret (g j))) ∧ (p j = false → ∃ s', f x s = some (.next s') ∧ Inv (j + 1) s'))
    (hr : ∀ j, fst1 p xs.length = some j → kr (g j) = Z) (hn : ∀ s', fst1 p xs.length = none → Inv xs.length s' → kn s' = Z) : flK (forF xs s0 f) kn kr = Z := by
  rcases forFst_aux (f := f) p g Inv xs 0 s0 h (fun i hi => absurd hi (Nat.not_lt_zero _)) (fun j x s e hp hi => by rw [Nat.zero_add] at hp hi ⊢; exact hs j x s e hp hi) with ⟨j, a, b, c, d⟩ | ⟨a, s', b, c⟩
  · rw [Nat.zero_add] at b c d
    rw [d]
    exact hr j (fst1_some a b c)
  · rw [Nat.zero_add] at a c
    rw [b]
    exact hn s' (fst1_none.mpr a) c
theorem fmO_fm {α β : Type} {f : α → Option (Option β)} {p : α → Bool} {g : α → β} : ∀ {xs : List α}, (∀ x ∈ xs, f x = if p x then some (some (g x)) else some none) → fmO xs f = some ((xs.filter p).map g)
  | [], _ => rfl
  | x :: xs, h => by
    unfold fmO
    rw [h x List.mem_cons_self, fmO_fm fun y hy => h y (List.mem_cons_of_mem _ hy), List.filter_cons]
    cases p x <;> rfl
/-! ### names -/
abbrev lowS : Str := "abcdefghijklmnopqrstuvwxyz"
abbrev sgnS : Str := "abcdefghijklmnopqrstuvwxyz0123456789_"
def nameB (s : Str) : Bool := (decide ((1 : Int) ≤ (s.length : Int)) && decide ((s.length : Int) ≤ (12 : Int))) && ((match s.cps.toList[0]? with | some c => decide (c ∈ lowS.cps.toList) | none => false) && s.cps.toList.all fun c => decide (c ∈ sgnS.cps.toList))
theorem hd_of {s : Str} (h : (decide ((1 : Int) ≤ (s.length : Int)) && decide ((s.length : Int) ≤ (12 : Int))) = true) : ∃ c, s.cps.toList[0]? = some c := by
  simp only [Bool.and_eq_true, decide_eq_true_eq] at h
  rw [len_tl'] at h
  exact ⟨_, List.getElem?_eq_getElem (by omega)⟩
theorem find_all {α : Type} {p : α → Bool} : ∀ {xs : List α}, (xs.find? fun x => !p x) = none ↔ xs.all p = true
  | [] => by simp
  | x :: xs => by
    rw [List.find?_cons, List.all_cons]
    cases h : p x with
    | true => simpa using find_all (p := p) (xs := xs)
    | false => simp
theorem is_name_eq {s : Str} (h : s.length ≤ 10000000) : m_is_name s = some (nameB s) := by
  unfold m_is_name
  refine gI (line_le (by omega)) ?_
  cases h1 : (decide ((1 : Int) ≤ (s.length : Int)) && decide ((s.length : Int) ≤ (12 : Int))) with
  | false =>
    refine bI (a := true) rfl ?_
    unfold nameB
    rw [h1]; rfl
  | true =>
    obtain ⟨c, hc⟩ := hd_of h1
    have hc1 : atI s.cps.toList 0 = some c := by rw [atI_pos (by decide)]; exact hc
    refine bI (a := !decide (c ∈ lowS.cps.toList)) (cF rfl (gI (line_le (by omega)) (bI hc1 rfl))) ?_
    unfold nameB
    rw [h1, hc, Bool.true_and]
    dsimp only
    cases hl : decide (c ∈ lowS.cps.toList) with
    | false => rfl
    | true =>
      refine cF rfl ?_
      rw [forFind (p := fun c => !decide (c ∈ sgnS.cps.toList)) (g := fun _ => false) (fun x _ => by cases decide (x ∈ sgnS.cps.toList) <;> rfl), Bool.true_and]
      rw [flK_find]
      cases hf : List.find? (fun c => !decide (c ∈ sgnS.cps.toList)) s.cps.toList with
      | none => exact congrArg some (find_all.mp hf).symm
      | some x =>
        cases ha : s.cps.toList.all fun c => decide (c ∈ sgnS.cps.toList) with
        | false => rfl
        | true => rw [find_all.mpr ha] at hf; cases hf
theorem strOk_sign {s : Str} {c : Nat} (h : PyData.strOk s = true) (hc : c ∈ s.cps.toList) : PyData.strOk (⟨#[c]⟩ : Str) = true := by
  have h0 : s.cps.all (· < 0x110000) = true := by simpa only [PyData.strOk] using h
  have h2 := (Array.all_eq_true_iff_forall_mem.mp h0) c (Array.mem_toList_iff.mp hc)
  have h3 : c < 0x110000 := by simpa using h2
  simp [PyData.strOk, h3]
theorem nameB_nm {s : Str} (h : nameB s = true) : Nm s := by
  unfold nameB at h
  simp only [Bool.and_eq_true] at h
  obtain ⟨⟨h1, h2⟩, h3, h4⟩ := h
  have h1 := of_decide_eq_true h1
  have h2 := of_decide_eq_true h2
  rw [len_tl'] at h1 h2
  refine ⟨by omega, by omega, fun c hc => ?_, fun c hc => ?_⟩
  · rw [hc] at h3
    exact mem_low.mp (of_decide_eq_true h3)
  · exact mem_sgn.mp (of_decide_eq_true (List.all_eq_true.mp h4 c hc))
theorem nm_nameB {s : Str} (h : Nm s) : nameB s = true := by
  unfold nameB
  have l1 := h.l1
  have l2 := h.l2
  have e : s.cps.toList[0]? = some (s.cps.toList[0]'(by omega)) := List.getElem?_eq_getElem (by omega)
  rw [len_tl', dT (by omega), dT (by omega), e]
  dsimp only
  rw [dT (mem_low.mpr (h.hd _ e))]
  exact List.all_eq_true.mpr fun c hc => dT (mem_sgn.mpr (h.al c hc))
end K13

/-! K13P -/
namespace K13
open PySem PySem.Spec L2 Ty
abbrev PT := (List (Str)) × (List ((Str) × (Int) × (Int))) × (List ((Int) × (Int))) × (List ((Str) × (Int)))
abbrev fst0 (P : PT) : Int := 1 + (P.1.length : Int) + (P.2.1.length : Int)
abbrev cnt (P : PT) : Int := 1 + (P.1.length : Int) + (P.2.1.length : Int) + (P.2.2.1.length : Int)
/-- a text as the law has it -/
structure So (s : Str) : Prop where
  ok : PyData.strOk s = true
  len : s.length ≤ 5000000
structure Sm (P : PT) : Prop where
  n0 : P.1.length ≤ 5000000
  n1 : P.2.1.length ≤ 5000000
  n2 : P.2.2.1.length ≤ 5000000
  n3 : P.2.2.2.length ≤ 5000000
  s0 : ∀ s ∈ P.1, So s
  s1 : ∀ p ∈ P.2.1, So p.1
  s3 : ∀ p ∈ P.2.2.2, So p.1
def iAt (P : PT) (j : Nat) : Str := (P.1[j]?).getD ""
def lAt (P : PT) (j : Nat) : Str × Int × Int := (P.2.1[j]?).getD ("", 0, 0)
def tAt1 (P : PT) (j : Nat) : Int × Int := (P.2.2.1[j]?).getD (0, 0)
def oAt (P : PT) (j : Nat) : Str × Int := (P.2.2.2[j]?).getD ("", 0)
def badI (P : PT) (j : Nat) : Bool := decide (16 ≤ j) || (!nameB (iAt P j) || decide (iAt P j ∈ P.1.take j))
def badL1 (P : PT) (j : Nat) : Bool := decide (40 ≤ j) || (!nameB (lAt P j).1 || decide ((lAt P j).1 ∈ P.1 ++ (P.2.1.map (·.1)).take j))
def badL2 (P : PT) (j : Nat) : Bool := (!(decide ((0 : Int) ≤ (lAt P j).2.1) && decide ((lAt P j).2.1 ≤ (1 : Int)))) || (!(decide ((0 : Int) ≤ (lAt P j).2.2) && decide ((lAt P j).2.2 < 2 * cnt P)))
def badL (P : PT) (j : Nat) : Bool := badL1 P j || badL2 P j
def badT (P : PT) (j : Nat) : Bool := decide (2000 ≤ j) || ((!(decide ((0 : Int) ≤ (tAt1 P j).1) && decide ((tAt1 P j).1 < 2 * (fst0 P + j)))) || (!(decide ((0 : Int) ≤ (tAt1 P j).2) && decide ((tAt1 P j).2 < 2 * (fst0 P + j)))))
def badO1 (P : PT) (j : Nat) : Bool := decide (32 ≤ j) || (!nameB (oAt P j).1 || decide ((oAt P j).1 ∈ (P.2.2.2.map (·.1)).take j))
def badO2 (P : PT) (j : Nat) : Bool := !(decide ((0 : Int) ≤ (oAt P j).2) && decide ((oAt P j).2 < 2 * cnt P))
def badO (P : PT) (j : Nat) : Bool := badO1 P j || badO2 P j
abbrev FT := Option (Str × Int)
def fI (P : PT) : FT := (fst1 (badI P) P.1.length).map fun (j : Nat) => (("inputs" : Str), (j : Int))
def fL (P : PT) : FT := (fst1 (badL P) P.2.1.length).map fun (j : Nat) => (("latches" : Str), (j : Int))
def fT (P : PT) : FT := (fst1 (badT P) P.2.2.1.length).map fun (j : Nat) => (("ands" : Str), (j : Int))
def fO (P : PT) : FT := (fst1 (badO P) P.2.2.2.length).map fun (j : Nat) => (("outputs" : Str), (j : Int))
def fS (P : PT) : FT := match fI P with | some x => some x | none => fL P
def fault (P : PT) : FT := match fS P with | some x => some x | none => match fT P with | some x => some x | none => fO P
theorem map_take_succ {α β : Type} {f : α → β} {xs : List α} {j : Nat} {x : α} (h : xs[j]? = some x) : (xs.map f).take (j + 1) = (xs.map f).take j ++ [f x] := by
  rw [List.take_succ, List.getElem?_map, h]; rfl
/-! ### what the package finds -/
theorem sources_eq {P : PT} (h : Sm P) : m_fault_of_leaves P.1 P.2.1 (cnt P) = some (fS P) := by
  have n0 := h.n0
  have n1 := h.n1
  unfold m_fault_of_leaves
  refine flKF (badI P) (fun j => some (("inputs" : Str), (j : Int))) (fun j (nm : List (Str × Bool)) => nm.length ≤ j ∧ ∀ q, (dget nm q).isSome = true ↔ q ∈ P.1.take j) ⟨Nat.le_refl _, fun q => by simp [dget_nil]⟩ (fun j x nm hx hb hj => ?_) (fun j hj => ?_) (fun nm hf hnm => ?_)
  · obtain ⟨s, hs, rfl⟩ := enum_at hx
    have hlt := (List.getElem?_eq_some_iff.mp hs).1
    have hS := h.s0 s (List.mem_of_getElem? hs)
    have hj16 : j ≤ 16 := by
      by_cases hh : j ≤ 16
      · exact hh
      · have := hb 16 (by omega)
        unfold badI at this
        simp at this
    have eI : iAt P j = s := by unfold iAt; rw [hs]; rfl
    have key : (bif decide ((j : Int) = 16) then some true else ((m_is_name s).bind fun r_538 => some ((!r_538) || (dget nm s).isSome))) = some (badI P j) := by
      unfold badI
      rw [eI]
      by_cases hh : j = 16
      · rw [dT (by omega), dT (by omega : 16 ≤ j)]; rfl
      · rw [dF (by omega), dF (by omega : ¬ 16 ≤ j)]
        refine cF rfl (bI (is_name_eq (by have := hS.len; omega)) ?_)
        rw [Bool.false_or]
        refine congrArg some (congrArg _ ?_)
        rw [Bool.eq_iff_iff, decide_eq_true_eq]
        exact hj.2 s
    refine ⟨fun hp => bI key (by rw [hp]; rfl), fun hp => ⟨_, bI key (by rw [hp]; exact gI (line_lt (by omega)) rfl), ?_, fun q => ?_⟩⟩
    · have := dput_len nm s true
      show (dput nm s true).length ≤ _
      omega
    · show (dget (dput nm s true) q).isSome = true ↔ _
      rw [dget_put, List.take_succ, hs]
      by_cases e : q = s
      · subst e; simp
      · rw [if_neg e, hj.2 q]; simp [e]
  · have e : fst1 (badI P) P.1.length = some j := by rw [← enum_len P.1]; exact hj
    unfold fS fI
    rw [e]; rfl
  · rw [enum_len] at hf hnm
    have eS : fS P = fL P := by unfold fS fI; rw [hf]; rfl
    rw [eS]
    rw [List.take_length] at hnm
    refine flKF (badL P) (fun j => some (("latches" : Str), (j : Int))) (fun j (nm : List (Str × Bool)) => nm.length ≤ P.1.length + j ∧ ∀ q, (dget nm q).isSome = true ↔ q ∈ P.1 ++ (P.2.1.map (·.1)).take j) ⟨hnm.1, fun q => by rw [hnm.2 q]; simp⟩ (fun j x nm hx hb hj => ?_) (fun j hj => ?_) (fun nm hf hnm => ?_)
    · obtain ⟨p, hp, rfl⟩ := enum_at hx
      have hlt := (List.getElem?_eq_some_iff.mp hp).1
      have hS := h.s1 p (List.mem_of_getElem? hp)
      have hj40 : j ≤ 40 := by
        by_cases hh : j ≤ 40
        · exact hh
        · have := hb 40 (by omega)
          unfold badL badL1 at this
          simp at this
      have eI : lAt P j = p := by unfold lAt; rw [hp]; rfl
      have key : (bif decide ((j : Int) = 40) then some true else ((m_is_name p.1).bind fun r_538 => some ((!r_538) || (dget nm p.1).isSome))) = some (badL1 P j) := by
        unfold badL1
        rw [eI]
        by_cases hh : j = 40
        · rw [dT (by omega), dT (by omega : 40 ≤ j)]; rfl
        · rw [dF (by omega), dF (by omega : ¬ 40 ≤ j)]
          refine cF rfl (bI (is_name_eq (by have := hS.len; omega)) ?_)
          rw [Bool.false_or]
          refine congrArg some (congrArg _ ?_)
          rw [Bool.eq_iff_iff, decide_eq_true_eq]
          exact hj.2 p.1
      refine ⟨fun hq => bI key ?_, fun hq => ?_⟩
      · cases h1 : badL1 P j with
        | true => rfl
        | false =>
          refine cF rfl (cT ?_ rfl)
          unfold badL at hq
          rw [h1, Bool.false_or] at hq
          unfold badL2 at hq
          rw [eI] at hq
          exact hq
      · obtain ⟨h1, h2⟩ := Bool.or_eq_false_iff.mp hq
        refine ⟨_, bI key (cF h1 (cF ?_ (gI (line_lt (by omega)) rfl))), ?_, fun q => ?_⟩
        · unfold badL2 at h2
          rw [eI] at h2
          exact h2
        · have := dput_len nm p.1 true
          show (dput nm p.1 true).length ≤ _
          omega
        · show (dget (dput nm p.1 true) q).isSome = true ↔ _
          rw [dget_put, map_take_succ hp, ← List.append_assoc]
          by_cases e : q = p.1
          · subst e; simp
          · rw [if_neg e, hj.2 q, List.mem_append (t := [p.1]), List.mem_singleton]; simp [e]
    · have e : fst1 (badL P) P.2.1.length = some j := by rw [← enum_len P.2.1]; exact hj
      unfold fL
      rw [e]; rfl
    · rw [enum_len] at hf
      unfold fL
      rw [hf]; rfl
theorem le2000 {P : PT} {j : Nat} (hb : ∀ i, i < j → badT P i = false) : j ≤ 2000 := by
  by_cases hh : j ≤ 2000
  · exact hh
  · have := hb 2000 (by omega)
    unfold badT at this
    rw [dT (Nat.le_refl _)] at this
    cases this
theorem tables_eq {P : PT} (h : Sm P) : m_fault_of_ands (fst0 P) P.2.2.1 = some (fT P) := by
  unfold m_fault_of_ands
  refine flKF (badT P) (fun j => some (("ands" : Str), (j : Int))) (fun _ _ => True) trivial (fun j x _ hx hb _ => ?_) (fun j hj => ?_) (fun _ hf _ => ?_)
  · obtain ⟨p, hp, rfl⟩ := enum_at hx
    have hj41 := le2000 hb
    have eI : tAt1 P j = p := by unfold tAt1; rw [hp]; rfl
    dsimp only
    have key : (decide ((j : Int) = (2000 : Int)) || ((!(decide ((0 : Int) ≤ p.1) && decide (p.1 < 2 * (fst0 P + j)))) || (!(decide ((0 : Int) ≤ p.2) && decide (p.2 < 2 * (fst0 P + j)))))) = badT P j := by
      unfold badT
      rw [eI]
      congr 1
      rw [Bool.eq_iff_iff, decide_eq_true_eq, decide_eq_true_eq]
      omega
    exact ⟨fun hq => lI (cT (key.trans hq) rfl), fun hq => ⟨(), lI (cF (key.trans hq) rfl), trivial⟩⟩
  · have e : fst1 (badT P) P.2.2.1.length = some j := by rw [← enum_len P.2.2.1]; exact hj
    unfold fT
    rw [e]; rfl
  · rw [enum_len] at hf
    unfold fT
    rw [hf]; rfl
theorem ends_eq {P : PT} (h : Sm P) : m_fault_of_outputs P.2.2.2 (cnt P) = some (fO P) := by
  have n3 := h.n3
  unfold m_fault_of_outputs
  refine flKF (badO P) (fun j => some (("outputs" : Str), (j : Int))) (fun j (nm : List (Str × Bool)) => nm.length ≤ j ∧ ∀ q, (dget nm q).isSome = true ↔ q ∈ (P.2.2.2.map (·.1)).take j) ⟨Nat.le_refl _, fun q => by simp [dget_nil]⟩ (fun j x nm hx hb hj => ?_) (fun j hj => ?_) (fun nm hf hnm => ?_)
  · obtain ⟨p, hp, rfl⟩ := enum_at hx
    have hlt := (List.getElem?_eq_some_iff.mp hp).1
    have hS := h.s3 p (List.mem_of_getElem? hp)
    have hj32 : j ≤ 32 := by
      by_cases hh : j ≤ 32
      · exact hh
      · have := hb 32 (by omega)
        unfold badO badO1 at this
        simp at this
    have eI : oAt P j = p := by unfold oAt; rw [hp]; rfl
    have key : (bif decide ((j : Int) = 32) then some true else ((m_is_name p.1).bind fun r_538 => some ((!r_538) || (dget nm p.1).isSome))) = some (badO1 P j) := by
      unfold badO1
      rw [eI]
      by_cases hh : j = 32
      · rw [dT (by omega), dT (by omega : 32 ≤ j)]; rfl
      · rw [dF (by omega), dF (by omega : ¬ 32 ≤ j)]
        refine cF rfl (bI (is_name_eq (by have := hS.len; omega)) ?_)
        rw [Bool.false_or]
        refine congrArg some (congrArg _ ?_)
        rw [Bool.eq_iff_iff, decide_eq_true_eq]
        exact hj.2 p.1
    refine ⟨fun hq => bI key ?_, fun hq => ?_⟩
    · cases h1 : badO1 P j with
      | true => rfl
      | false =>
        refine cF rfl (cT ?_ rfl)
        unfold badO at hq
        rw [h1, Bool.false_or] at hq
        unfold badO2 at hq
        rw [eI] at hq
        exact hq
    · obtain ⟨h1, h2⟩ := Bool.or_eq_false_iff.mp hq
      refine ⟨_, bI key (cF h1 (cF ?_ (gI (line_lt (by omega)) rfl))), ?_, fun q => ?_⟩
      · unfold badO2 at h2
        rw [eI] at h2
        exact h2
      · have := dput_len nm p.1 true
        show (dput nm p.1 true).length ≤ _
        omega
      · show (dget (dput nm p.1 true) q).isSome = true ↔ _
        rw [dget_put, map_take_succ hp]
        by_cases e : q = p.1
        · subst e; simp
        · rw [if_neg e, hj.2 q, List.mem_append (t := [p.1]), List.mem_singleton]; simp [e]
  · have e : fst1 (badO P) P.2.2.2.length = some j := by rw [← enum_len P.2.2.2]; exact hj
    unfold fO
    rw [e]; rfl
  · rw [enum_len] at hf
    unfold fO
    rw [hf]; rfl
theorem fault_cases {P : PT} {x : Str × Int} (h : fault P = some x) : (x.1 = "inputs" ∨ x.1 = "latches" ∨ x.1 = "ands" ∨ x.1 = "outputs") ∧ ∃ j : Nat, x.2 = (j : Int) ∧ (j < P.1.length ∨ j < P.2.1.length ∨ j < P.2.2.1.length ∨ j < P.2.2.2.length) := by
  unfold fault fS at h
  have hI : ∀ {y}, fI P = some y → y.1 = "inputs" ∧ ∃ j : Nat, y.2 = (j : Int) ∧ j < P.1.length := fun hy => by
    unfold fI at hy
    obtain ⟨j, hj, rfl⟩ := Option.map_eq_some_iff.mp hy
    exact ⟨rfl, j, rfl, (fst1_lt hj).1⟩
  have hL : ∀ {y}, fL P = some y → y.1 = "latches" ∧ ∃ j : Nat, y.2 = (j : Int) ∧ j < P.2.1.length := fun hy => by
    unfold fL at hy
    obtain ⟨j, hj, rfl⟩ := Option.map_eq_some_iff.mp hy
    exact ⟨rfl, j, rfl, (fst1_lt hj).1⟩
  have hT : ∀ {y}, fT P = some y → y.1 = "ands" ∧ ∃ j : Nat, y.2 = (j : Int) ∧ j < P.2.2.1.length := fun hy => by
    unfold fT at hy
    obtain ⟨j, hj, rfl⟩ := Option.map_eq_some_iff.mp hy
    exact ⟨rfl, j, rfl, (fst1_lt hj).1⟩
  have hO : ∀ {y}, fO P = some y → y.1 = "outputs" ∧ ∃ j : Nat, y.2 = (j : Int) ∧ j < P.2.2.2.length := fun hy => by
    unfold fO at hy
    obtain ⟨j, hj, rfl⟩ := Option.map_eq_some_iff.mp hy
    exact ⟨rfl, j, rfl, (fst1_lt hj).1⟩
  cases h1 : fI P with
  | some y =>
    rw [h1] at h; cases h
    obtain ⟨a, j, b, c⟩ := hI h1
    exact ⟨.inl a, j, b, .inl c⟩
  | none =>
    rw [h1] at h
    dsimp only at h
    cases h2 : fL P with
    | some y =>
      rw [h2] at h; cases h
      obtain ⟨a, j, b, c⟩ := hL h2
      exact ⟨.inr (.inl a), j, b, .inr (.inl c)⟩
    | none =>
      rw [h2] at h
      dsimp only at h
      cases h3 : fT P with
      | some y =>
        rw [h3] at h; cases h
        obtain ⟨a, j, b, c⟩ := hT h3
        exact ⟨.inr (.inr (.inl a)), j, b, .inr (.inr (.inl c))⟩
      | none =>
        rw [h3] at h
        obtain ⟨a, j, b, c⟩ := hO h
        exact ⟨.inr (.inr (.inr a)), j, b, .inr (.inr (.inr c))⟩
theorem fault_ok1 {P : PT} (h : Sm P) {x : Str × Int} (hx : fault P = some x) : (XF.s x.1).ok ∧ (XF.i x.2).ok := by
  obtain ⟨a, j, b, c⟩ := fault_cases hx
  have := h.n0
  have := h.n1
  have := h.n2
  have := h.n3
  refine ⟨?_, ?_⟩
  · rcases a with a | a | a | a <;> rw [a] <;> decide +kernel
  · rw [b]
    exact Nat.lt_of_le_of_lt (show ((j : Int)).natAbs ≤ 10000000 by omega) (by decide)
abbrev netOf (P : PT) : S_Circuit := ⟨P.1, P.2.1, P.2.2.1, P.2.2.2⟩
theorem init_eq {P : PT} (h : Sm P) : m_Circuit_init P.1 P.2.1 P.2.2.1 P.2.2.2 = some (match fault P with | some x => .ex ("InvalidCircuit", [.s x.1, .i x.2]) | none => .ok (netOf P, ())) := by
  unfold m_Circuit_init
  refine lI (lI (bI (sources_eq h) ?_))
  cases hF : fault P with
  | some x =>
    have hx := fault_ok1 h hF
    unfold fault at hF
    cases h1 : fS P with
    | some y =>
      rw [h1] at hF; cases hF
      exact bI rfl (bI rfl (cT rfl (bI rfl (bI rfl (gI hx.1 (gI hx.2 rfl))))))
    | none =>
      rw [h1] at hF
      dsimp only at hF
      refine bI (a := fT P) (cT rfl (bI (tables_eq h) rfl)) ?_
      cases h2 : fT P with
      | some y =>
        rw [h2] at hF; cases hF
        exact bI rfl (cT rfl (bI rfl (bI rfl (gI hx.1 (gI hx.2 rfl)))))
      | none =>
        rw [h2] at hF
        dsimp only at hF
        refine bI (a := fO P) (cT rfl (bI (ends_eq h) rfl)) ?_
        rw [hF]
        exact cT rfl (bI rfl (bI rfl (gI hx.1 (gI hx.2 rfl))))
  | none =>
    unfold fault at hF
    cases h1 : fS P with
    | some y => rw [h1] at hF; cases hF
    | none =>
      rw [h1] at hF
      dsimp only at hF
      refine bI (a := fT P) (cT rfl (bI (tables_eq h) rfl)) ?_
      cases h2 : fT P with
      | some y => rw [h2] at hF; cases hF
      | none =>
        rw [h2] at hF
        dsimp only at hF
        refine bI (a := fO P) (cT rfl (bI (ends_eq h) rfl)) ?_
        rw [hF]
        rfl
end K13

/-! K13T -/
namespace K13
open PySem PySem.Spec L2 Ty
/-! ### netlists without fault -/
theorem nodup_take {α : Type} {l : List α} : l.Nodup ↔ ∀ (j : Nat) x, l[j]? = some x → x ∉ l.take j := by
  rw [List.Nodup, List.pairwise_iff_getElem]
  constructor
  · intro h j x hx hm
    obtain ⟨m, h1, h2⟩ := List.getElem_of_mem hm
    rw [List.length_take] at h1
    rw [List.getElem_take] at h2
    obtain ⟨h3, h4⟩ := List.getElem?_eq_some_iff.mp hx
    exact h m j (by omega) h3 (by omega) (h2.trans h4.symm)
  · intro h i j h1 h2 h3 e
    refine h j _ (List.getElem?_eq_getElem h2) ?_
    rw [← e]
    have hlt : i < (l.take j).length := by rw [List.length_take]; omega
    have := List.getElem_mem hlt
    rw [List.getElem_take] at this
    exact this
structure Ok (P : PT) : Prop where
  i1 : P.1.length ≤ 16
  l1 : P.2.1.length ≤ 40
  t1 : P.2.2.1.length ≤ 2000
  o1 : P.2.2.2.length ≤ 32
  iN : ∀ s ∈ P.1, nameB s = true
  lN : ∀ p ∈ P.2.1, nameB p.1 = true
  oN : ∀ p ∈ P.2.2.2, nameB p.1 = true
  nd : (P.1 ++ P.2.1.map (·.1)).Nodup
  on : (P.2.2.2.map (·.1)).Nodup
  lv : ∀ p ∈ P.2.1, (0 ≤ p.2.1 ∧ p.2.1 ≤ 1) ∧ 0 ≤ p.2.2 ∧ p.2.2 < 2 * cnt P
  tb : ∀ (k : Nat) p, P.2.2.1[k]? = some p → (0 ≤ p.1 ∧ p.1 < 2 * (fst0 P + k)) ∧ 0 ≤ p.2 ∧ p.2 < 2 * (fst0 P + k)
  ov : ∀ p ∈ P.2.2.2, 0 ≤ p.2 ∧ p.2 < 2 * cnt P
theorem fault_none {P : PT} : fault P = none ↔ (∀ j, j < P.1.length → badI P j = false) ∧ (∀ j, j < P.2.1.length → badL P j = false) ∧ (∀ j, j < P.2.2.1.length → badT P j = false) ∧ (∀ j, j < P.2.2.2.length → badO P j = false) := by
  have hI : fI P = none ↔ ∀ j, j < P.1.length → badI P j = false := by unfold fI; rw [Option.map_eq_none_iff]; exact fst1_none
  have hL : fL P = none ↔ ∀ j, j < P.2.1.length → badL P j = false := by unfold fL; rw [Option.map_eq_none_iff]; exact fst1_none
  have hT : fT P = none ↔ ∀ j, j < P.2.2.1.length → badT P j = false := by unfold fT; rw [Option.map_eq_none_iff]; exact fst1_none
  have hO : fO P = none ↔ ∀ j, j < P.2.2.2.length → badO P j = false := by unfold fO; rw [Option.map_eq_none_iff]; exact fst1_none
  rw [← hI, ← hL, ← hT, ← hO]
  unfold fault fS
  cases fI P <;> cases fL P <;> cases fT P <;> simp
theorem ok_fault {P : PT} (h : Ok P) : fault P = none := by
  refine fault_none.mpr ⟨fun j hj => ?_, fun j hj => ?_, fun j hj => ?_, fun j hj => ?_⟩
  · have e := List.getElem?_eq_getElem hj
    generalize P.1[j] = s at e
    have nd := nodup_take.mp h.nd j s (by rw [List.getElem?_append_left hj]; exact e)
    rw [List.take_append_of_le_length (by omega)] at nd
    have i1 := h.i1
    unfold badI iAt
    rw [e, Option.getD_some, dF (by omega), h.iN s (List.mem_of_getElem? e), dF nd]
    rfl
  · have e := List.getElem?_eq_getElem hj
    generalize P.2.1[j] = p at e
    have nd := nodup_take.mp h.nd (P.1.length + j) p.1 (by rw [List.getElem?_append_right (by omega), Nat.add_sub_cancel_left, List.getElem?_map, e]; rfl)
    rw [List.take_append, List.take_of_length_le (by omega), Nat.add_sub_cancel_left] at nd
    have l1 := h.l1
    have lv := h.lv p (List.mem_of_getElem? e)
    unfold badL badL1 badL2 lAt
    rw [e, Option.getD_some, dF (by omega), h.lN p (List.mem_of_getElem? e), dF nd, dT lv.1.1, dT lv.1.2, dT lv.2.1, dT lv.2.2]
    rfl
  · have e := List.getElem?_eq_getElem hj
    generalize P.2.2.1[j] = p at e
    have t1 := h.t1
    obtain ⟨⟨h1, h2⟩, h3, h4⟩ := h.tb j p e
    unfold badT tAt1
    rw [e, Option.getD_some, dF (by omega), dT h1, dT h2, dT h3, dT h4]
    rfl
  · have e := List.getElem?_eq_getElem hj
    generalize P.2.2.2[j] = p at e
    have nd := nodup_take.mp h.on j p.1 (by rw [List.getElem?_map, e]; rfl)
    have o1 := h.o1
    have ov := h.ov p (List.mem_of_getElem? e)
    unfold badO badO1 badO2 oAt
    rw [e, Option.getD_some, dF (by omega), h.oN p (List.mem_of_getElem? e), dF nd, dT ov.1, dT ov.2]
    rfl
theorem so_nm {s : Str} (h : Nm s) : So s := ⟨h.ok, by rw [len_tl']; have := h.l2; omega⟩
theorem Ok.sm {P : PT} (h : Ok P) : Sm P := by
  have := h.i1
  have := h.l1
  have := h.t1
  have := h.o1
  exact ⟨by omega, by omega, by omega, by omega, fun s hs => so_nm (nameB_nm (h.iN s hs)), fun s hs => so_nm (nameB_nm (h.lN s hs)), fun s hs => so_nm (nameB_nm (h.oN s hs))⟩
theorem init_ok {P : PT} (h : Ok P) : m_Circuit_init P.1 P.2.1 P.2.2.1 P.2.2.2 = some (.ok (netOf P, ())) := by rw [init_eq h.sm, ok_fault h]
end K13

/-! K13R -/
namespace K13
open PySem PySem.Spec L2 Ty
theorem rows_ok (ns : List Int) : Tot (m__law_rows ns 36) fun r => r.length = 36 := by
  unfold m__law_rows
  refine tG ⟨by decide, by decide⟩ (tForR (fun k (s : List Int) => (s.length : Int) = k) (by decide) rfl ?_ ?_)
  · rintro k s hk1 hk2 hs
    refine tB (R := fun _ => True) (tD (fun h => tG h (tAt (Int.emod_nonneg _ (by omega)) (Int.emod_lt_of_pos _ h) fun v _ => tR trivial)) (fun _ => tR trivial)) fun c _ => tB (R := fun _ => True) (tD (fun h => tL (tR trivial)) (fun _ => tR trivial)) fun c _ => tB (R := fun _ => True) (tC (fun h => tL (tL (tR trivial))) (fun _ => tR trivial)) fun c _ => tG (line_lt (by omega)) (tR ?_)
    show ((s ++ [_]).length : Int) = k + 1
    rw [List.length_append]
    show ((s.length + 1 : Nat) : Int) = _
    omega
  · intro s hs
    exact tR (by omega)
theorem literal_ok {r n count : Int} (h : 1 ≤ count) (h2 : count < 1000000) : ∃ v, m__law_literal r n count = some v ∧ 0 ≤ v ∧ v < 2 * count := by
  show Tot _ fun v => 0 ≤ v ∧ v < 2 * count
  unfold m__law_literal
  have a1 := Int.emod_nonneg r (b := count) (by omega)
  have a2 := Int.emod_lt_of_pos r (b := count) (by omega)
  refine tG (by omega) (tLe fun x ex => tB (R := fun y => 0 ≤ y ∧ y < count) (tD (fun _ => tG (by split <;> omega) (tL (tR ?_))) (fun _ => tR (by omega))) fun y hy => tG ⟨by omega, by omega⟩ (tR (by omega)))
  have a3 := Int.emod_nonneg x (b := if count < 4 then count else 4) (by split <;> omega)
  have a4 := Int.emod_lt_of_pos x (b := if count < 4 then count else 4) (by split <;> omega)
  have : (if count < 4 then count else 4) ≤ count := by split <;> omega
  omega
theorem ands_ok' {rows : List Int} {z fa n : Int} (h0 : 0 ≤ z) (h1 : z + n ≤ rows.length) (hn : 0 ≤ n ∧ n ≤ 1000) (hf : 1 ≤ fa ∧ fa ≤ 1000) : Tot (m__law_ands rows z fa n) fun A => (A.length : Int) = n ∧ Wf A fa := by
  unfold m__law_ands
  refine tG ⟨by omega, by omega⟩ (tForR (fun k (s : List (Int × Int)) => (s.length : Int) = k ∧ Wf s fa) hn.1 ⟨rfl, hf.1, fun k p hp => by simp at hp⟩ ?_ ?_)
  · rintro k s hk1 hk2 ⟨hs1, hs2⟩
    refine tAt (by omega) (by omega) fun v hv => tL (tLe fun sz esz => tE hv ?_)
    obtain ⟨u, hu, hu1, hu2⟩ := literal_ok (r := v / 4) (n := v) (count := sz) (by omega) (by omega)
    obtain ⟨u', hu', hu1', hu2'⟩ := literal_ok (r := v / 4 / (2 * sz)) (n := v / 2) (count := sz) (by omega) (by omega)
    refine tE hu (tG ⟨by omega, by omega⟩ (tE hv (tE hu' (tG (line_lt (by omega)) (tR ⟨?_, hf.1, fun m p hp => ?_⟩)))))
    · show ((s ++ [_]).length : Int) = k + 1
      rw [List.length_append]
      show ((s.length + 1 : Nat) : Int) = _
      omega
    · rcases snoc_at hp with ⟨_, hp⟩ | ⟨hm, rfl⟩
      · exact hs2.2 m p hp
      · dsimp only
        omega
  · rintro s ⟨hs1, hs2⟩
    exact tR ⟨hs1, hs2⟩
theorem name_ok {r : Int} {k : Nat} (hk : k < 10) : Tot (m__law_name r (k : Int)) (NameB k) := by
  have e1 := tl_numI (n := (k : Int)) (by omega)
  rw [show (k : Int).toNat = k by omega, TL.numL_lt hk] at e1
  have e95 : ("_" : Str).cps.toList = [95] := by decide +kernel
  unfold m__law_name
  obtain ⟨c, hc1, _, hc2⟩ := al_at (i := r % 26) (by omega) (by omega)
  refine tL (tL (tG (line_le (by decide +kernel)) (tE hc1 (tLe fun nm enm => tG ⟨by omega, by omega⟩ (tForR (fun j (s : Int × Str) => ∃ t, s.2.cps.toList = c :: t ∧ (t.length : Int) = j ∧ ∀ x ∈ t, aln x) (by omega) ⟨[], by rw [enm], rfl, fun x hx => nomatch hx⟩ ?_ ?_)))))
  · rintro j ⟨rest, s⟩ hj1 hj2 ⟨t, ht1, ht2, ht3⟩
    dsimp only at ht1
    obtain ⟨d, hd1, hd2, _⟩ := al_at (i := rest % 36) (by omega) (by omega)
    refine tG (line_le (by decide +kernel)) (tE hd1 (tG (line_le ?_) (tL (tL (tR ⟨t ++ [d], ?_, ?_, fun x hx => ?_⟩)))))
    · rw [len_tl', ht1, len_tl']; simp; omega
    · show (s ++ (⟨#[d]⟩ : Str)).cps.toList = _
      rw [tl_cat, ht1]; simp
    · rw [List.length_append]; simp; omega
    · rcases List.mem_append.mp hx with hx | hx
      · exact ht3 x hx
      · rw [List.mem_singleton.mp hx]; exact hd2
  · rintro ⟨rest, s⟩ ⟨t, ht1, ht2, ht3⟩
    dsimp only at ht1
    have hsl : s.length = t.length + 1 := by rw [len_tl', ht1]; rfl
    have a1 := Int.emod_nonneg rest (b := (s.length : Int)) (by omega)
    have a2 := Int.emod_lt_of_pos rest (b := (s.length : Int)) (by omega)
    refine tG (line_le (by omega)) (tG (by omega) (tLe fun pl epl => ?_))
    have hpl : 1 ≤ pl ∧ pl ≤ s.cps.toList.length := by rw [← len_tl']; omega
    have c1 := cutS_pre (s := s) (n := pl) (by omega) hpl.2
    have c2 := cutS_suf (s := s) (n := pl) (by omega) hpl.2
    have l1 := len_tl' (cutS s none (some pl))
    rw [c1, List.length_take, ht1, List.length_cons] at l1
    have l2 := len_tl' (cutS s (some pl) none)
    rw [c2, List.length_drop, ht1, List.length_cons] at l2
    have l95 : ("_" : Str).length = 1 := by decide +kernel
    have lk : (Str.ofString (toString (k : Int))).length = 1 := by rw [len_tl', e1]; rfl
    have l3 := len_tl' (cutS s none (some pl) ++ ("_" : Str))
    rw [tl_cat, List.length_append, ← len_tl', ← len_tl'] at l3
    have l4 := len_tl' (cutS s none (some pl) ++ ("_" : Str) ++ Str.ofString (toString (k : Int)))
    rw [tl_cat, List.length_append, ← len_tl', ← len_tl'] at l4
    refine tG (line_le (by omega)) (tG (line_le (by omega)) (tG (Nat.lt_trans (show _ < 1000 by omega) (by decide)) (tG (line_le (by omega)) (tG (line_le (by omega)) (tG (line_le (by omega)) (tR ?_))))))
    obtain ⟨m, hm⟩ : ∃ m, pl.toNat = m + 1 := ⟨pl.toNat - 1, by omega⟩
    refine ⟨c, t.take m, t.drop m, hc2 (by omega), ?_, ?_, fun x hx => ht3 x (List.mem_of_mem_take hx), fun x hx => ht3 x (List.mem_of_mem_drop hx)⟩
    · rw [tl_cat, tl_cat, tl_cat, c1, c2, e95, e1, ht1, hm]
      simp
    · rw [List.length_take, List.length_drop]; omega
structure Good (P : PT) : Prop where
  ok : CircOk P.1 P.2.1 P.2.2.1 P.2.2.2
  has : ∀ s ∈ P.1, 95 ∈ s.cps.toList
  nz : ∀ s ∈ P.1, s ≠ ("zz_9" : Str)
  oz : ∀ p ∈ P.2.2.2, p.1 ≠ ("zz_9" : Str)
  o1 : 1 ≤ P.2.2.2.length
theorem ne_zz {k : Nat} {s : Str} (h : NameB k s) (hk : k < 9) : s ≠ ("zz_9" : Str) := fun e => by
  rw [e] at h
  have := h.inj zz9
  omega
theorem parts_ok {rows : List Int} {mi ml ma : Int} (hr : 30 ≤ rows.length) (h1 : 0 ≤ mi ∧ 0 ≤ ml ∧ mi + ml ≤ 8 ∧ ml ≤ 5) (h2 : 0 ≤ ma ∧ ma ≤ 13) :
    Tot (m__law_parts rows mi ml ma) fun P => Good P ∧ (P.1.length : Int) ≤ mi ∧ (P.2.1.length : Int) ≤ ml ∧ (P.2.2.1.length : Int) ≤ ma ∧ P.2.2.2.length ≤ 3 := by
  unfold m__law_parts
  refine tAt (by decide) (by omega) fun head _ => tG (by omega) (tLe fun i ei => tG ⟨by omega, by omega⟩ (tLe fun hd1 _ => tG (by omega) (tLe fun l el => tG ⟨by omega, by omega⟩ (tLe fun hd2 _ => tG (by omega) (tLe fun a ea => tG ⟨by omega, by omega⟩ (tLe fun o eo => ?_))))))
  have bi1 := Int.emod_nonneg head (b := mi + 1) (by omega)
  have bi2 := Int.emod_lt_of_pos head (b := mi + 1) (by omega)
  have bl1 := Int.emod_nonneg hd1 (b := ml + 1) (by omega)
  have bl2 := Int.emod_lt_of_pos hd1 (b := ml + 1) (by omega)
  have ba1 := Int.emod_nonneg hd2 (b := ma + 1) (by omega)
  have ba2 := Int.emod_lt_of_pos hd2 (b := ma + 1) (by omega)
  have bo : 1 ≤ o ∧ o ≤ 3 := by omega
  rw [← ei] at bi1 bi2
  rw [← el] at bl1 bl2
  rw [← ea] at ba1 ba2
  clear ei el ea eo
  refine tG ⟨by omega, by omega⟩ (tG (line_le (by rw [rangeL_len]; omega)) (tFmX NameB (fun j x hx => ?_) fun ys hys1 hys2 => ?_))
  · obtain ⟨rfl, hj⟩ := rangeL_at hx
    obtain ⟨v, hv⟩ := atI_ex (xs := rows) (i := 1 + (0 + (j : Int))) (by omega) (by omega)
    obtain ⟨nm, h3, h4⟩ := name_ok (r := v) (k := j) (by omega)
    rw [show (j : Int) = 0 + (j : Int) by omega] at h3
    exact ⟨nm, bI hv (bI h3 rfl), h4⟩
  · rw [rangeL_len] at hys1
    refine tLe fun fa efa => tLe fun count ecount => tB (ands_ok' (z := 9) (by decide) (by omega) ⟨ba1, by omega⟩ ⟨by omega, by omega⟩) ?_
    rintro ands ⟨ha1, ha2⟩
    refine tG ⟨by omega, by omega⟩ (tForR (fun k (s : List (Str × Int × Int)) => (s.length : Int) = k ∧ ∀ (m : Nat) p, s[m]? = some p → ys[i.toNat + m]? = some p.1 ∧ (0 ≤ p.2.1 ∧ p.2.1 ≤ 1) ∧ 0 ≤ p.2.2 ∧ p.2.2 < 2 * count) bl1 ⟨rfl, fun m p hp => by simp at hp⟩ ?_ ?_)
    · rintro k s hk1 hk2 ⟨hs1, hs2⟩
      refine tAt (by omega) (by omega) fun row _ => tAt (by omega) (by omega) fun nm hnm => ?_
      obtain ⟨u, hu, hu1, hu2⟩ := literal_ok (r := row / 4) (n := row / 2) (count := count) (by omega) (by omega)
      refine tE hu (tG (line_lt (by omega)) (tR ⟨?_, fun m p hp => ?_⟩))
      · show ((s ++ [_]).length : Int) = k + 1
        rw [List.length_append]
        show ((s.length + 1 : Nat) : Int) = _
        omega
      · rcases snoc_at hp with ⟨_, hp⟩ | ⟨hm, rfl⟩
        · exact hs2 m p hp
        · dsimp only
          rw [atI_pos (by omega)] at hnm
          rw [show i.toNat + m = (i + k).toNat by omega]
          exact ⟨hnm, by omega, hu1, hu2⟩
    · rintro lts ⟨hl1, hl2⟩
      refine tG ⟨by omega, by omega⟩ (tForR (fun k (s : List (Str × Int)) => (s.length : Int) = k ∧ ∀ (m : Nat) p, s[m]? = some p → NameB m p.1 ∧ 0 ≤ p.2 ∧ p.2 < 2 * count) (by omega) ⟨rfl, fun m p hp => by simp at hp⟩ ?_ ?_)
      · rintro k s hk1 hk2 ⟨hs1, hs2⟩
        refine tAt (by omega) (by omega) fun row _ => ?_
        obtain ⟨u, hu, hu1, hu2⟩ := literal_ok (r := row / 2) (n := row) (count := count) (by omega) (by omega)
        obtain ⟨nm, hnm, hn⟩ := name_ok (r := row / 7) (k := k.toNat) (by omega)
        rw [Int.toNat_of_nonneg hk1] at hnm
        refine tE hnm (tE hu (tG (line_lt (by omega)) (tR ⟨?_, fun m p hp => ?_⟩)))
        · show ((s ++ [_]).length : Int) = k + 1
          rw [List.length_append]
          show ((s.length + 1 : Nat) : Int) = _
          omega
        · rcases snoc_at hp with ⟨_, hp⟩ | ⟨hm, rfl⟩
          · exact hs2 m p hp
          · rw [show m = k.toNat by omega]
            exact ⟨hn, hu1, hu2⟩
      · rintro outs ⟨ho1, ho2⟩
        have hco : ∀ {m : Nat} {p : Str × Int}, outs[m]? = some p → m < 3 := fun {m p} hm => by
          have : m < outs.length := (List.getElem?_eq_some_iff.mp hm).1
          omega
        have et : (ys.take i.toNat).length = i.toNat := by rw [List.length_take]; omega
        have ed : lts.map (·.1) = ys.drop i.toNat := by
          refine List.ext_getElem? fun m => ?_
          rw [List.getElem?_map, List.getElem?_drop]
          cases hm : lts[m]? with
          | none =>
            have := List.getElem?_eq_none_iff.mp hm
            symm
            refine List.getElem?_eq_none_iff.mpr ?_
            omega
          | some p => exact (hl2 m p hm).1.symm
        have hys : ∀ s ∈ ys, ∃ j, j < 8 ∧ NameB j s := fun s hs => by
          obtain ⟨j, hj⟩ := List.getElem?_of_mem hs
          have := (List.getElem?_eq_some_iff.mp hj).1
          exact ⟨j, by omega, hys2 j s hj⟩
        have ecut : cutL ys none (some i) = ys.take i.toNat := cutL_pre bi1 (by omega)
        refine tR ⟨⟨?_, fun s hs => ?_, fun s hs => ?_, fun p hp => ?_, by dsimp only; omega⟩, ?_, by dsimp only; omega, by dsimp only; omega, by dsimp only; omega⟩
        · rw [ecut]
          refine ⟨by dsimp only; omega, by dsimp only; omega, by dsimp only; omega, by dsimp only; omega, fun s hs => ?_, fun p hp => ?_, fun p hp => ?_, ?_, ?_, fun p hp => ?_, ⟨?_, fun k p hp => ?_⟩, fun p hp => ?_⟩
          · obtain ⟨j, hj, hn⟩ := hys s (List.mem_of_mem_take hs)
            exact hn.nm (by omega)
          · obtain ⟨m, hm⟩ := List.getElem?_of_mem hp
            obtain ⟨j, hj, hn⟩ := hys _ (List.mem_of_getElem? (hl2 m p hm).1)
            exact hn.nm (by omega)
          · obtain ⟨m, hm⟩ := List.getElem?_of_mem hp
            have := hco hm
            exact (ho2 m p hm).1.nm (by omega)
          · dsimp only
            rw [ed, List.take_append_drop]
            exact nodup_by hys2 fun j k v a b => a.inj b
          · refine nodup_by (R := NameB) (fun j v hv => ?_) fun j k v a b => a.inj b
            rw [List.getElem?_map] at hv
            obtain ⟨p, hp, rfl⟩ := Option.map_eq_some_iff.mp hv
            exact (ho2 j p hp).1
          · obtain ⟨m, hm⟩ := List.getElem?_of_mem hp
            have := hl2 m p hm
            dsimp only
            omega
          · dsimp only; omega
          · have := ha2.2 k p hp
            dsimp only
            omega
          · obtain ⟨m, hm⟩ := List.getElem?_of_mem hp
            have := ho2 m p hm
            dsimp only
            omega
        · have hs : s ∈ cutL ys none (some i) := hs
          rw [ecut] at hs
          obtain ⟨j, hj, hn⟩ := hys s (List.mem_of_mem_take hs)
          exact hn.has
        · have hs : s ∈ cutL ys none (some i) := hs
          rw [ecut] at hs
          obtain ⟨j, hj, hn⟩ := hys s (List.mem_of_mem_take hs)
          exact ne_zz hn (by omega)
        · obtain ⟨m, hm⟩ := List.getElem?_of_mem hp
          have := hco hm
          exact ne_zz (ho2 m p hm).1 (by omega)
        · show ((cutL ys none (some i)).length : Int) ≤ mi
          rw [ecut]; omega
end K13

/-! K13S -/
namespace K13
open PySem PySem.Spec L2 Ty
/-! ### texts, words, numbers -/
structure Tx (s : Str) : Prop where
  sg : ∀ c ∈ s.cps.toList, c < 128
  len : s.length ≤ 5000000
theorem Tx.ok {s : Str} (h : Tx s) : PyData.strOk s = true := ok_of fun c hc => by have := h.sg c hc; omega
theorem Tx.wd {c : Nat} {s w : Str} (h : Tx s) (hw : w ∈ wds c s) : Tx w := by
  have := wds_sub hw
  have := h.len
  exact ⟨fun x hx => h.sg x ((wds_sub hw).2.1 x hx), by omega⟩
theorem ll {n : Nat} (h : n ≤ 16777216) : n ≤ sizeLine := line_le h
theorem mem_dig {c : Nat} : c ∈ ("0123456789" : Str).cps.toList ↔ 48 ≤ c ∧ c ≤ 57 := by
  have e : ("0123456789" : Str).cps.toList = [48, 49, 50, 51, 52, 53, 54, 55, 56, 57] := by decide +kernel
  rw [e]
  simp only [List.mem_cons, List.not_mem_nil, or_false]
  omega
theorem dig_dec (c : Nat) : decide (c ∈ ("0123456789" : Str).cps.toList) = (decide (48 ≤ c) && decide (c ≤ 57)) := by
  rw [Bool.eq_iff_iff, decide_eq_true_eq, mem_dig]
  simp
theorem zero_iff (c : Nat) : ((⟨#[c]⟩ : Str) = ("0" : Str)) ↔ c = 48 := by
  have e : ("0" : Str) = ⟨#[48]⟩ := tl_ext (by decide +kernel)
  rw [e]
  constructor
  · intro h
    have := congrArg (fun x : Str => x.cps.toList) h
    simpa using this
  · intro h; rw [h]
theorem numB_eq {w : Str} {c : Nat} {r : List Nat} (h : w.cps.toList = c :: r) : numB w = (decide (w.length ≤ 6) && (((c :: r).all fun c => decide (c ∈ ("0123456789" : Str).cps.toList)) && (decide (c ≠ 48) || decide (w.length = 1)))) := by
  have e1 : decide (1 ≤ w.cps.toList.length) = true := dT (by rw [h]; simp)
  have e2 : decide (w.cps.toList.head? ≠ some 48) = decide (c ≠ 48) := by
    rw [Bool.eq_iff_iff, decide_eq_true_eq, decide_eq_true_eq, h]; simp
  unfold numB
  rw [e1, e2, Bool.true_and, len_tl' w, h]
  simp only [dig_dec]
theorem numB_nil {w : Str} (h : w.cps.toList = []) : numB w = false := by
  unfold numB
  rw [h]; rfl
theorem is_number_eq {w : Str} (h : w.length ≤ 10000000) : m_is_number w = some (numB w) := by
  unfold m_is_number
  refine gI (ll (by omega)) ?_
  cases hl : w.cps.toList with
  | nil =>
    rw [numB_nil hl]
    have h0 : w.length = 0 := by rw [len_tl', hl]; rfl
    refine bI (a := true) (cT ?_ rfl) rfl
    rw [h0]; rfl
  | cons c r =>
    rw [numB_eq hl]
    have h1 : 1 ≤ w.length := by rw [len_tl', hl]; simp
    by_cases h6 : w.length ≤ 6
    · rw [dT h6, Bool.true_and]
      have hc : atI (c :: r) (0 : Int) = some c := by rw [atI_pos (by decide)]; rfl
      refine bI (a := (decide (c = 48) && decide (1 < w.length))) (cF ?_ (gI (ll (by omega)) (bI hc ?_))) ?_
      · rw [dT (show (1 : Int) ≤ (w.length : Int) by omega), dT (show (w.length : Int) ≤ 6 by omega)]; rfl
      · by_cases hz : c = 48
        · refine bI (a := decide (1 < w.length)) (cT (dT ((zero_iff c).mpr hz)) (gI (ll (by omega)) ?_)) ?_
          · refine congrArg some ?_
            rw [Bool.eq_iff_iff, decide_eq_true_eq, decide_eq_true_eq]; omega
          · rw [dT hz]; rfl
        · refine bI (a := false) (cF (dF (fun e => hz ((zero_iff c).mp e))) rfl) ?_
          rw [dF hz]; rfl
      · cases hb : (decide (c = 48) && decide (1 < w.length)) with
        | true =>
          simp only [Bool.and_eq_true, decide_eq_true_eq] at hb
          refine cT rfl (congrArg some ?_)
          rw [dF (show ¬ c ≠ 48 by simp [hb.1]), dF (show ¬ w.length = 1 by omega)]
          simp
        | false =>
          have hk : (decide (c ≠ 48) || decide (w.length = 1)) = true := by
            simp only [Bool.and_eq_false_iff, decide_eq_false_iff_not] at hb
            simp only [Bool.or_eq_true, decide_eq_true_eq]
            omega
          refine cF rfl ?_
          rw [hk, Bool.and_true]
          rw [forFind (p := fun c => !decide (c ∈ ("0123456789" : Str).cps.toList)) (g := fun _ => false) (fun x _ => by cases decide (x ∈ ("0123456789" : Str).cps.toList) <;> rfl), flK_find]
          cases hf : List.find? (fun c => !decide (c ∈ ("0123456789" : Str).cps.toList)) (c :: r) with
          | none => exact congrArg some (find_all.mp hf).symm
          | some x =>
            cases ha : (c :: r).all fun c => decide (c ∈ ("0123456789" : Str).cps.toList) with
            | false => rfl
            | true => rw [find_all.mpr ha] at hf; cases hf
    · rw [dF h6, Bool.false_and]
      refine bI (a := true) (cT ?_ rfl) rfl
      rw [dT (show (1 : Int) ≤ (w.length : Int) by omega), dF (show ¬ (w.length : Int) ≤ 6 by omega)]; rfl
theorem law_number_eq {w : Str} (h : Tx w) : m__law_number w = some (numB w) := by
  have hlen := h.len
  unfold m__law_number
  refine gI (ll (by omega)) ?_
  cases hl : w.cps.toList with
  | nil =>
    rw [numB_nil hl]
    have h0 : w.length = 0 := by rw [len_tl', hl]; rfl
    refine bI (a := true) (cT ?_ rfl) rfl
    rw [h0]; rfl
  | cons c r =>
    rw [numB_eq hl]
    have h1 : 1 ≤ w.length := by rw [len_tl', hl]; simp
    have hll : (c :: r).length = w.length := by rw [len_tl', hl]
    by_cases h6 : w.length ≤ 6
    · rw [dT h6, Bool.true_and]
      have hc : atI (c :: r) (0 : Int) = some c := by rw [atI_pos (by decide)]; rfl
      have hfm : fmO (c :: r) (fun sign_210 => (bif (!decide (sign_210 ∈ (("0123456789" : Str)).cps.toList)) then (some (some (⟨#[sign_210]⟩ : Str))) else some none)) = some (((c :: r).filter fun x => !decide (x ∈ ("0123456789" : Str).cps.toList)).map fun x => (⟨#[x]⟩ : Str)) := fmO_fm fun x _ => by cases decide (x ∈ ("0123456789" : Str).cps.toList) <;> rfl
      have hns : (!decide (((c :: r).filter fun x => !decide (x ∈ ("0123456789" : Str).cps.toList)).map (fun x => (⟨#[x]⟩ : Str)) = [])) = !((c :: r).all fun c => decide (c ∈ ("0123456789" : Str).cps.toList)) := by
        refine congrArg (fun b => !b) ?_
        rw [Bool.eq_iff_iff, decide_eq_true_eq, List.map_eq_nil_iff, List.filter_eq_nil_iff, List.all_eq_true]
        exact ⟨fun hh x hx => by have := hh x hx; simpa using this, fun hh x hx => by rw [hh x hx]; simp⟩
      refine bI (a := !((c :: r).all fun c => decide (c ∈ ("0123456789" : Str).cps.toList))) (cF (dF (by omega)) (gI (ll (by omega)) (bI (a := !((c :: r).all fun c => decide (c ∈ ("0123456789" : Str).cps.toList))) (cF (dF (by omega)) (gI (ll (by omega)) (bI hfm (gI (fun q hq => ?_) (gI (fun q hq => absurd hq List.not_mem_nil) (congrArg some hns)))))) rfl))) ?_
      · obtain ⟨x, hx, rfl⟩ := List.mem_map.mp hq
        exact strOk_sign h.ok (by rw [hl]; exact (List.mem_filter.mp hx).1)
      · cases ha : (c :: r).all fun c => decide (c ∈ ("0123456789" : Str).cps.toList) with
        | false => rfl
        | true =>
          refine cF rfl (gI (ll (by omega)) (bI hc ?_))
          rw [Bool.true_and]
          by_cases hz : c = 48
          · refine bI (a := decide (w.length = 1)) (cF (by rw [dT ((zero_iff c).mpr hz)]; rfl) (gI (ll (by omega)) (congrArg some ?_))) ?_
            · rw [Bool.eq_iff_iff, decide_eq_true_eq, decide_eq_true_eq]; omega
            · rw [dF (show ¬ c ≠ 48 by simp [hz])]; rfl
          · refine bI (a := true) (cT (by rw [dF (fun e => hz ((zero_iff c).mp e))]; rfl) rfl) ?_
            rw [dT hz]; rfl
    · rw [dF h6, Bool.false_and]
      exact bI (a := true) (cF (dF (by omega)) (gI (ll (by omega)) (bI (a := true) (cT (dT (by omega)) rfl) rfl))) rfl
theorem numbers_eq {ws : List Str} (hl : ws.length ≤ 16777216) (h : ∀ w ∈ ws, Tx w) : m_numbers_of ws = some (if ws.all numB = true then some (ws.map numV) else none) := by
  unfold m_numbers_of
  have hfm : fmO ws (fun word => ((m_is_number word).bind fun r => bif (!r) then (some (some word)) else some none)) = some ((ws.filter fun w => !numB w).map id) := fmO_fm fun w hw => bI (is_number_eq (by have := (h w hw).len; omega)) (by cases numB w <;> rfl)
  have hns : (!decide ((ws.filter fun w => !numB w).map id = [])) = !(ws.all numB) := by
    refine congrArg (fun b => !b) ?_
    rw [Bool.eq_iff_iff, decide_eq_true_eq, List.map_eq_nil_iff, List.filter_eq_nil_iff, List.all_eq_true]
    exact ⟨fun hh x hx => by have := hh x hx; simpa using this, fun hh x hx => by rw [hh x hx]; simp⟩
  refine gI (ll hl) (bI hfm (gI (fun q hq => ?_) (gI (fun q hq => absurd hq List.not_mem_nil) ?_)))
  · rw [List.map_id] at hq
    exact (h q (List.mem_filter.mp hq).1).ok
  · cases ha : ws.all numB with
    | false =>
      rw [ha] at hns
      exact cT hns rfl
    | true =>
      rw [ha] at hns
      refine cF hns (gI (ll hl) (bI (fmO_all (g := numV) fun w hw => ?_) rfl))
      have := numB_val (List.all_eq_true.mp ha w hw)
      exact gI (by omega) (bI this.1 rfl)
theorem cutL_from {α : Type} {xs : List α} {n : Int} (h0 : 0 ≤ n) : cutL xs (some n) none = xs.drop n.toNat := by
  by_cases h : n ≤ xs.length
  · exact cutL_suf h0 h
  · unfold cutL
    have : HT.sIx xs.length 0 (some n) = xs.length := by
      show (if n < 0 then (n + (xs.length : Int)).toNat else min n.toNat xs.length) = _
      rw [if_neg (by omega)]
      omega
    rw [this, List.drop_length, List.take_nil, List.drop_eq_nil_of_le (by omega)]
theorem cutL_mid {α : Type} {xs : List α} {a b : Int} (h0 : 0 ≤ a) (h1 : a ≤ b) (h2 : b ≤ xs.length) : cutL xs (some a) (some b) = (xs.drop a.toNat).take (b.toNat - a.toNat) := by
  unfold cutL
  rw [sIx_some h0 (by omega), sIx_some (by omega) h2]
/-! ### lines -/
abbrev spS : Str := " "
abbrev nlS : Str := "\n"
theorem sp_tl : spS.cps.toList = [32] := by decide +kernel
theorem nl_tl : nlS.cps.toList = [10] := by decide +kernel
theorem split_sp (s : Str) : Txt.split s spS = wds 32 s := split_wds sp_tl (by decide)
theorem split_nl (s : Str) : Txt.split s nlS = wds 10 s := split_wds nl_tl (by decide)
def W (l : Str) : List Str := wds 32 l
def wd (l : Str) (i : Nat) : Str := ((W l)[i]?).getD ""
def wrdL : List Str := ["circuit", "input", "latch", "and", "output"]
def kd (l : Str) : Nat := wrdL.idxOf (wd l 0)
def nmsN (j : Nat) : Nat := if j = 1 ∨ j = 2 ∨ j = 4 then 1 else 0
def cntN (j : Nat) : Nat := if j = 2 ∨ j = 3 then 2 else if j = 4 then 1 else 0
def fine (l : Str) : Bool := decide ((W l).length = 1 + nmsN (kd l) + cntN (kd l)) && ((W l).drop (1 + nmsN (kd l))).all numB
theorem W_ne (l : Str) : 1 ≤ (W l).length := List.length_pos_iff.mpr (wds_ne 32 l)
theorem W0 (l : Str) : (W l)[0]? = some (wd l 0) := by
  have := W_ne l
  unfold wd
  rw [List.getElem?_eq_getElem (by omega)]; rfl
theorem W_at {l : Str} {i : Nat} (h : i < (W l).length) : (W l)[i]? = some (wd l i) := by
  unfold wd
  rw [List.getElem?_eq_getElem h]; rfl
theorem kd_le (l : Str) : kd l ≤ 5 := by
  have := List.idxOf_le_length (a := wd l 0) (l := wrdL)
  exact this
theorem kd_word {l : Str} {j : Nat} (hj : j < 5) {w : Str} (hw : wrdL[j]? = some w) : wd l 0 = w ↔ kd l = j := by
  unfold kd
  constructor
  · intro e
    rw [e]
    match j, hj, hw with
    | 0, _, hw => cases hw; decide +kernel
    | 1, _, hw => cases hw; decide +kernel
    | 2, _, hw => cases hw; decide +kernel
    | 3, _, hw => cases hw; decide +kernel
    | 4, _, hw => cases hw; decide +kernel
  · intro e
    have hlt : wrdL.idxOf (wd l 0) < wrdL.length := by rw [e]; exact hj
    have h := List.getElem_idxOf hlt
    have h2 := List.getElem?_eq_getElem hlt
    rw [h, e, hw] at h2
    exact (Option.some.inj h2).symm
abbrev nums (ws : List Str) : List Int := ws.map numV
def rowD (l : Str) : List PyData := (((W l).drop 1).take (nmsN (kd l))).map DE.str.enc ++ (nums ((W l).drop (1 + nmsN (kd l)))).map DE.int.enc
def rL (l : Str) : Str × Int × Int := (wd l 1, numV (wd l 2), numV (wd l 3))
def rA (l : Str) : Int × Int := (numV (wd l 1), numV (wd l 2))
def rO (l : Str) : Str × Int := (wd l 1, numV (wd l 2))
theorem shape {l : Str} {n : Nat} (h : (W l).length = n) : W l = (List.range n).map (wd l) := by
  refine List.ext_getElem? fun i => ?_
  rw [List.getElem?_map]
  by_cases hi : i < n
  · rw [W_at (by omega), List.getElem?_range hi]; rfl
  · rw [List.getElem?_eq_none (by omega), List.getElem?_eq_none (by simp; omega)]; rfl
theorem fine1 {l : Str} (h : fine l = true) (hk : kd l = 1) : W l = [wd l 0, wd l 1] := by
  unfold fine at h
  rw [Bool.and_eq_true, decide_eq_true_eq, hk] at h
  exact shape (n := 2) h.1
theorem fine0 {l : Str} (h : fine l = true) (hk : kd l = 0) : W l = [wd l 0] := by
  unfold fine at h
  rw [Bool.and_eq_true, decide_eq_true_eq, hk] at h
  exact shape (n := 1) h.1
theorem fine2 {l : Str} (h : fine l = true) (hk : kd l = 2) : W l = [wd l 0, wd l 1, wd l 2, wd l 3] ∧ numB (wd l 2) = true ∧ numB (wd l 3) = true := by
  unfold fine at h
  rw [Bool.and_eq_true, decide_eq_true_eq, hk] at h
  have e := shape (n := 4) h.1
  refine ⟨e, ?_⟩
  have h2 := h.2
  rw [e] at h2
  have h3 : ([wd l 2, wd l 3]).all numB = true := h2
  simpa using h3
theorem fine3 {l : Str} (h : fine l = true) (hk : kd l = 3) : W l = [wd l 0, wd l 1, wd l 2] ∧ numB (wd l 1) = true ∧ numB (wd l 2) = true := by
  unfold fine at h
  rw [Bool.and_eq_true, decide_eq_true_eq, hk] at h
  have e := shape (n := 3) h.1
  refine ⟨e, ?_⟩
  have h2 := h.2
  rw [e] at h2
  have h3 : ([wd l 1, wd l 2]).all numB = true := h2
  simpa using h3
theorem fine4 {l : Str} (h : fine l = true) (hk : kd l = 4) : W l = [wd l 0, wd l 1, wd l 2] ∧ numB (wd l 2) = true := by
  unfold fine at h
  rw [Bool.and_eq_true, decide_eq_true_eq, hk] at h
  have e := shape (n := 3) h.1
  refine ⟨e, ?_⟩
  have h2 := h.2
  rw [e] at h2
  have h3 : ([wd l 2]).all numB = true := h2
  simpa using h3
theorem row1 {l : Str} (h : fine l = true) (hk : kd l = 1) : rowD l = [.str (wd l 1)] := by
  unfold rowD
  rw [fine1 h hk, hk]; rfl
theorem row2 {l : Str} (h : fine l = true) (hk : kd l = 2) : rowD l = [.str (wd l 1), .int (numV (wd l 2)), .int (numV (wd l 3))] := by
  unfold rowD
  rw [(fine2 h hk).1, hk]; rfl
theorem row3 {l : Str} (h : fine l = true) (hk : kd l = 3) : rowD l = [.int (numV (wd l 1)), .int (numV (wd l 2))] := by
  unfold rowD
  rw [(fine3 h hk).1, hk]; rfl
theorem row4 {l : Str} (h : fine l = true) (hk : kd l = 4) : rowD l = [.str (wd l 1), .int (numV (wd l 2))] := by
  unfold rowD
  rw [(fine4 h hk).1, hk]; rfl
/-! ### all lines -/
def lAtS (L : List Str) (k : Nat) : Str := (L[k]?).getD ""
def rk (L : List Str) (k : Nat) : Nat := if k = 0 then 0 else kd (lAtS L (k - 1))
def bad (L : List Str) (k : Nat) : Bool := decide (kd (lAtS L k) = 5) || (!(decide (decide (k = 0) = decide (kd (lAtS L k) = 0))) || (decide (kd (lAtS L k) < rk L k) || !fine (lAtS L k)))
def fl (j : Nat) (T : List Str) : List Str := T.filter fun l => decide (kd l = j)
def pI (T : List Str) : List Str := (fl 1 T).map fun l => wd l 1
def pL (T : List Str) : List (Str × Int × Int) := (fl 2 T).map rL
def pA (T : List Str) : List (Int × Int) := (fl 3 T).map rA
def pO (T : List Str) : List (Str × Int) := (fl 4 T).map rO
def parts (T : List Str) : PT := (pI T, pL T, pA T, pO T)
theorem bad_false {L : List Str} {k : Nat} (h : bad L k = false) : kd (lAtS L k) < 5 ∧ ((k = 0) ↔ kd (lAtS L k) = 0) ∧ rk L k ≤ kd (lAtS L k) ∧ fine (lAtS L k) = true := by
  unfold bad at h
  simp only [Bool.or_eq_false_iff, decide_eq_false_iff_not, Bool.not_eq_false', decide_eq_true_eq, Bool.not_eq_false] at h
  have := kd_le (lAtS L k)
  refine ⟨by omega, ?_, by omega, h.2.2.2⟩
  have e := h.2.1
  rw [Bool.eq_iff_iff, decide_eq_true_eq, decide_eq_true_eq] at e
  exact e
theorem bad_mk {L : List Str} {k : Nat} (h1 : kd (lAtS L k) < 5) (h2 : (k = 0) ↔ kd (lAtS L k) = 0) (h3 : rk L k ≤ kd (lAtS L k)) (h4 : fine (lAtS L k) = true) : bad L k = false := by
  unfold bad
  have e : decide (decide (k = 0) = decide (kd (lAtS L k) = 0)) = true := dT (by rw [Bool.eq_iff_iff, decide_eq_true_eq, decide_eq_true_eq]; exact h2)
  rw [dF (show ¬ kd (lAtS L k) = 5 by omega), h4, dF (show ¬ kd (lAtS L k) < rk L k by omega), e]
  rfl
theorem fl_snoc (j : Nat) (T : List Str) (l : Str) : fl j (T ++ [l]) = if kd l = j then fl j T ++ [l] else fl j T := by
  unfold fl
  rw [List.filter_append, List.filter_cons, List.filter_nil]
  by_cases h : kd l = j
  · rw [if_pos h, if_pos (dT h)]
  · rw [if_neg h, if_neg (by rw [dF h]; simp), List.append_nil]
theorem fl_none {j : Nat} {T : List Str} (h : ∀ x ∈ T, kd x ≠ j) : fl j T = [] := by
  unfold fl
  rw [List.filter_eq_nil_iff]
  intro x hx
  rw [dF (h x hx)]; simp
theorem take_snoc {L : List Str} {k : Nat} {l : Str} (h : L[k]? = some l) : L.take (k + 1) = L.take k ++ [l] := by rw [List.take_succ, h]; rfl
/-- what the first lines are when all of them are fine -/
structure Srt (L : List Str) (k : Nat) : Prop where
  le : ∀ x ∈ L.take k, kd x ≤ rk L k
  fn : ∀ x ∈ L.take k, fine x = true
  f0 : 1 ≤ k → fl 0 (L.take k) = [("circuit" : Str)]
  eq : L.take k = fl 0 (L.take k) ++ (fl 1 (L.take k) ++ (fl 2 (L.take k) ++ (fl 3 (L.take k) ++ fl 4 (L.take k))))
theorem line0 {l : Str} (h : fine l = true) (hk : kd l = 0) : l = ("circuit" : Str) := by
  have e := join_wds (s := l) sp_tl
  have e2 : wds 32 l = [wd l 0] := fine0 h hk
  rw [e2] at e
  have e3 : wd l 0 = ("circuit" : Str) := (kd_word (j := 0) (by decide) rfl).mpr hk
  rw [← e, e3]
  rfl
theorem srt {L : List Str} : ∀ {k : Nat}, k ≤ L.length → (∀ i, i < k → bad L i = false) → Srt L k
  | 0, _, _ => ⟨fun x hx => by simp at hx, fun x hx => by simp at hx, fun h => absurd h (by decide), rfl⟩
  | k + 1, hk, hb => by
    have ih := srt (L := L) (k := k) (by omega) fun i hi => hb i (by omega)
    have e : L[k]? = some (lAtS L k) := by
      unfold lAtS
      rw [List.getElem?_eq_getElem (by omega)]; rfl
    obtain ⟨g1, g2, g3, g4⟩ := bad_false (hb k (by omega))
    have er : rk L (k + 1) = kd (lAtS L k) := by unfold rk; rw [if_neg (by omega)]; rfl
    have et := take_snoc e
    generalize lAtS L k = l at *
    refine ⟨fun x hx => ?_, fun x hx => ?_, fun _ => ?_, ?_⟩
    · rw [et] at hx
      rw [er]
      rcases List.mem_append.mp hx with hx | hx
      · have := ih.le x hx; omega
      · rw [List.mem_singleton.mp hx]; exact Nat.le_refl _
    · rw [et] at hx
      rcases List.mem_append.mp hx with hx | hx
      · exact ih.fn x hx
      · rw [List.mem_singleton.mp hx]; exact g4
    · rw [et, fl_snoc]
      by_cases h0 : k = 0
      · subst h0
        rw [if_pos (g2.mp rfl), List.take_zero]
        show [] ++ [l] = _
        rw [line0 g4 (g2.mp rfl)]; rfl
      · rw [if_neg (fun z => h0 (g2.mpr z))]
        exact ih.f0 (by omega)
    · rw [et]
      simp only [fl_snoc]
      have hle : ∀ j, kd l < j → fl j (L.take k) = [] := fun j hj => fl_none fun x hx e => by have := ih.le x hx; omega
      have ie := ih.eq
      have : kd l = 0 ∨ kd l = 1 ∨ kd l = 2 ∨ kd l = 3 ∨ kd l = 4 := by omega
      rcases this with h | h | h | h | h
      · rw [if_pos h, if_neg (show ¬ kd l = 1 by omega), if_neg (show ¬ kd l = 2 by omega), if_neg (show ¬ kd l = 3 by omega), if_neg (show ¬ kd l = 4 by omega)]
        rw [hle 1 (by omega), hle 2 (by omega), hle 3 (by omega), hle 4 (by omega)] at ie ⊢
        exact (congrArg (· ++ [l]) ie).trans (by simp)
      · rw [if_neg (show ¬ kd l = 0 by omega), if_pos h, if_neg (show ¬ kd l = 2 by omega), if_neg (show ¬ kd l = 3 by omega), if_neg (show ¬ kd l = 4 by omega)]
        rw [hle 2 (by omega), hle 3 (by omega), hle 4 (by omega)] at ie ⊢
        exact (congrArg (· ++ [l]) ie).trans (by simp)
      · rw [if_neg (show ¬ kd l = 0 by omega), if_neg (show ¬ kd l = 1 by omega), if_pos h, if_neg (show ¬ kd l = 3 by omega), if_neg (show ¬ kd l = 4 by omega)]
        rw [hle 3 (by omega), hle 4 (by omega)] at ie ⊢
        exact (congrArg (· ++ [l]) ie).trans (by simp)
      · rw [if_neg (show ¬ kd l = 0 by omega), if_neg (show ¬ kd l = 1 by omega), if_neg (show ¬ kd l = 2 by omega), if_pos h, if_neg (show ¬ kd l = 4 by omega)]
        rw [hle 4 (by omega)] at ie ⊢
        exact (congrArg (· ++ [l]) ie).trans (by simp)
      · rw [if_neg (show ¬ kd l = 0 by omega), if_neg (show ¬ kd l = 1 by omega), if_neg (show ¬ kd l = 2 by omega), if_neg (show ¬ kd l = 3 by omega), if_pos h]
        exact (congrArg (· ++ [l]) ie).trans (by simp)
end K13

/-! K13V -/
namespace K13
open PySem PySem.Spec L2 Ty
/-! ### the law's reading -/
theorem fmO_map {α β γ : Type} {f : β → Option (Option γ)} {h : α → β} {g : α → γ} : ∀ {xs : List α}, (∀ x ∈ xs, f (h x) = some (some (g x))) → fmO (xs.map h) f = some (xs.map g)
  | [], _ => rfl
  | x :: xs, hh => by
    rw [List.map_cons]
    unfold fmO
    rw [hh x List.mem_cons_self, Option.bind_some, fmO_map fun y hy => hh y (List.mem_cons_of_mem _ hy)]; rfl
def rdL (t : Str) : Sum Int PT :=
  if (wds 10 t).getLast? = some ("" : Str) then
    match fst1 (bad (wds 10 t).dropLast) (wds 10 t).dropLast.length with
    | some k => .inl ((k : Int) + 1)
    | none => if (wds 10 t).dropLast = [] then .inl 1 else .inr (parts (wds 10 t).dropLast)
  else .inl ((wds 10 t).length : Int)
def pts (T : List Str) : List (List (List PyData)) := [(fl 0 T).map rowD, (fl 1 T).map rowD, (fl 2 T).map rowD, (fl 3 T).map rowD, (fl 4 T).map rowD]
theorem pts_at {T : List Str} {j : Nat} (hj : j < 5) : (pts T)[j]? = some ((fl j T).map rowD) := by
  match j, hj with
  | 0, _ => rfl
  | 1, _ => rfl
  | 2, _ => rfl
  | 3, _ => rfl
  | 4, _ => rfl
theorem pts_set {T : List Str} {l : Str} (hj : kd l < 5) : (pts T).set (kd l) ((fl (kd l) T).map rowD ++ [rowD l]) = pts (T ++ [l]) := by
  unfold pts
  rw [fl_snoc 0, fl_snoc 1, fl_snoc 2, fl_snoc 3, fl_snoc 4]
  have : kd l = 0 ∨ kd l = 1 ∨ kd l = 2 ∨ kd l = 3 ∨ kd l = 4 := by omega
  rcases this with h | h | h | h | h <;> rw [h] <;> simp
theorem kinds_eq (l : Str) : fmO (rangeL 0 (5 : Int)) (fun j => ((atI [("circuit" : Str), ("input" : Str), ("latch" : Str), ("and" : Str), ("output" : Str)] j).bind fun v_250 => (atI (W l) (0 : Int)).bind fun v_252 => bif decide (v_250 = v_252) then (some (some j)) else some none)) = some (if kd l = 5 then [] else [((kd l : Nat) : Int)]) := by
  have h0 : atI (W l) (0 : Int) = some (wd l 0) := by rw [atI_pos (by decide)]; exact W0 l
  have hq := fmO_fm (f := fun j => ((atI [("circuit" : Str), ("input" : Str), ("latch" : Str), ("and" : Str), ("output" : Str)] j).bind fun v_250 => (atI (W l) (0 : Int)).bind fun v_252 => bif decide (v_250 = v_252) then (some (some j)) else some none)) (p := fun x : Int => decide (((kd l : Nat) : Int) = x)) (g := id) (xs := rangeL 0 5) (fun x hx => by
    have := mem_rangeL hx
    obtain ⟨n, rfl⟩ := Int.eq_ofNat_of_zero_le this.1
    have hn : n < 5 := by omega
    have hw : wrdL[n]? = some (wrdL[n]'hn) := List.getElem?_eq_getElem hn
    have hk := kd_word (l := l) hn hw
    refine bI (Ty.atI_nat hw) (bI h0 ?_)
    have e1 : decide (wrdL[n]'hn = wd l 0) = decide (((kd l : Nat) : Int) = (n : Int)) := by
      rw [Bool.eq_iff_iff, decide_eq_true_eq, decide_eq_true_eq]
      constructor
      · intro e; have := hk.mp e.symm; omega
      · intro e; exact (hk.mpr (by omega)).symm
    rw [e1]
    cases decide (((kd l : Nat) : Int) = (n : Int)) <;> rfl)
  refine hq.trans (congrArg some ?_)
  have hr : rangeL 0 (5 : Int) = [0, 1, 2, 3, 4] := by decide +kernel
  rw [hr]
  have hle := kd_le l
  generalize kd l = m at hle
  have : m = 0 ∨ m = 1 ∨ m = 2 ∨ m = 3 ∨ m = 4 ∨ m = 5 := by omega
  rcases this with h | h | h | h | h | h <;> subst h <;> rfl
theorem nms_at {j : Nat} (hj : j < 5) : atI [(0 : Int), (1 : Int), (1 : Int), (0 : Int), (1 : Int)] (j : Int) = some ((nmsN j : Nat) : Int) := by
  match j, hj with
  | 0, _ => rfl
  | 1, _ => rfl
  | 2, _ => rfl
  | 3, _ => rfl
  | 4, _ => rfl
theorem cnt_at {j : Nat} (hj : j < 5) : atI [(0 : Int), (0 : Int), (2 : Int), (2 : Int), (1 : Int)] (j : Int) = some ((cntN j : Nat) : Int) := by
  match j, hj with
  | 0, _ => rfl
  | 1, _ => rfl
  | 2, _ => rfl
  | 3, _ => rfl
  | 4, _ => rfl
theorem nms_le (j : Nat) : nmsN j ≤ 1 := by unfold nmsN; split <;> omega
theorem cnt_le (j : Nat) : cntN j ≤ 2 := by unfold cntN; split <;> (try split) <;> omega
theorem last_at {α : Type} {I : List α} {v : α} : atI (I ++ [v]) (((I ++ [v]).length : Int) - 1) = some v := by
  have : ((I ++ [v]).length : Int) = I.length + 1 := by rw [List.length_append]; rfl
  rw [atI_pos (by omega), this, show ((I.length : Int) + 1 - 1).toNat = I.length by omega]
  simp
theorem last_cut {α : Type} {I : List α} {v : α} : cutL (I ++ [v]) none (some (((I ++ [v]).length : Int) - 1)) = I := by
  have : ((I ++ [v]).length : Int) = I.length + 1 := by rw [List.length_append]; rfl
  rw [cutL_pre (by omega) (by omega), this, show ((I.length : Int) + 1 - 1).toNat = I.length by omega]
  simp
theorem not_iff {k m : Nat} : (!decide (decide ((k : Int) = (0 : Int)) = decide ((m : Int) = (0 : Int)))) = !(decide (decide (k = 0) = decide (m = 0))) := by
  have e1 : decide ((k : Int) = 0) = decide (k = 0) := by rw [Bool.eq_iff_iff, decide_eq_true_eq, decide_eq_true_eq]; omega
  have e2 : decide ((m : Int) = 0) = decide (m = 0) := by rw [Bool.eq_iff_iff, decide_eq_true_eq, decide_eq_true_eq]; omega
  rw [e1, e2]
theorem law_reading_eq {t : Str} (h : Tx t) : m__law_reading t = some (match rdL t with | .inl k => (k, none) | .inr P => (0, some P)) := by
  have hlen := h.len
  obtain ⟨I, v, hR⟩ : ∃ I v, wds 10 t = I ++ [v] := ⟨_, _, (List.dropLast_concat_getLast (wds_ne 10 t)).symm⟩
  have hRl := wds_len 10 t
  have hW : ∀ l ∈ I, Tx l := fun l hl => h.wd (c := 10) (by rw [hR]; exact List.mem_append_left _ hl)
  have hIl : I.length + 1 ≤ t.length + 1 := by rw [hR] at hRl; simpa using hRl
  unfold m__law_reading
  have es := split_nl t
  rw [show Txt.split t ("\n" : Str) = wds 10 t from es]
  unfold rdL
  rw [hR]
  refine gI (ll (by omega)) (bI last_at ?_)
  rw [List.getLast?_concat, List.dropLast_concat]
  by_cases hv : v = ("" : Str)
  · rw [if_pos (by rw [hv])]
    refine cF (by rw [dT hv]; rfl) (lI ?_)
    rw [last_cut]
    refine lI (lI (lI (gI ⟨by omega, by omega⟩ ?_)))
    refine flKF (bad I) (fun k => ((k : Int) + 1, none)) (fun k (s : List (List (List PyData)) × Int) => s.2 = ((rk I k : Nat) : Int) ∧ s.1 = pts (I.take k)) ⟨rfl, rfl⟩ (fun j x s hx hb hs => ?_) (fun j hj => ?_) (fun s hf hs => ?_)
    · obtain ⟨rfl, hj⟩ := rangeL_at hx
      rw [Int.zero_add]
      have hj : j < I.length := by omega
      obtain ⟨ptr, rank⟩ := s
      obtain ⟨hs1, hs2⟩ := hs
      dsimp only at hs1 hs2
      have el : I[j]? = some (lAtS I j) := by unfold lAtS; rw [List.getElem?_eq_getElem hj]; rfl
      have hT := hW _ (List.mem_of_getElem? el)
      have hTl := hT.len
      have hWl : (W (lAtS I j)).length ≤ 5000001 := Nat.le_trans (wds_len 32 _) (by omega)
      have hWt : ∀ w ∈ W (lAtS I j), Tx w := fun w hw => hT.wd hw
      have et := take_snoc el
      have hr2 : rk I (j + 1) = kd (lAtS I j) := by unfold rk; rw [if_neg (by omega)]; rfl
      have hbd : bad I j = (decide (kd (lAtS I j) = 5) || (!(decide (decide (j = 0) = decide (kd (lAtS I j) = 0))) || (decide (kd (lAtS I j) < rk I j) || !fine (lAtS I j)))) := rfl
      have es2 := split_sp (lAtS I j)
      have hW0 := W_ne (lAtS I j)
      have hkl := kd_le (lAtS I j)
      generalize lAtS I j = l at *
      have es3 : Txt.split l (" " : Str) = W l := es2
      by_cases h5 : kd l = 5
      · refine ⟨fun _ => ?_, fun hz => ?_⟩
        · refine bI (Ty.atI_nat el) ?_
          rw [es3]
          refine gI (ll (by omega)) (gI ⟨by decide, by decide⟩ (gI (ll (by rw [rangeL_len]; decide)) (bI (kinds_eq l) ?_)))
          rw [if_pos h5]
          exact bI (a := true) rfl rfl
        · rw [hbd, dT h5] at hz; cases hz
      · have hk5 : kd l < 5 := by omega
        rw [dF h5, Bool.false_or, ← not_iff] at hbd
        have hrk : decide (((kd l : Nat) : Int) < rank) = decide (kd l < rk I j) := by
          rw [hs1, Bool.eq_iff_iff, decide_eq_true_eq, decide_eq_true_eq]; omega
        have pre : ∀ {Z : Option (Fl (Int × Option PT) (List (List (List PyData)) × Int))} {K : List Int → Bool → Option (Fl (Int × Option PT) (List (List (List PyData)) × Int))}, K [((kd l : Nat) : Int)] ((!decide (decide ((j : Int) = 0) = decide (((kd l : Nat) : Int) = 0))) || decide (kd l < rk I j)) = Z →
            ((fmO (rangeL 0 (5 : Int)) fun j => ((atI [("circuit" : Str), ("input" : Str), ("latch" : Str), ("and" : Str), ("output" : Str)] j).bind fun v_250 => (atI (W l) (0 : Int)).bind fun v_252 => bif decide (v_250 = v_252) then (some (some j)) else some none)).bind fun ys_247 =>
              (bif decide (ys_247 = ([] : List (Int))) then some true else ((atI ys_247 (0 : Int)).bind fun v_255 => (bif (!decide (decide ((j : Int) = (0 : Int)) = decide (v_255 = (0 : Int)))) then some true else ((atI ys_247 (0 : Int)).bind fun v_257 => some (decide (v_257 < rank)))).bind fun b_259 => some b_259)).bind fun b_261 => K ys_247 b_261) = Z := fun {Z K} hk => by
          refine bI (kinds_eq l) ?_
          rw [if_neg h5]
          refine bI (a := _) (cF rfl (bI (a := ((kd l : Nat) : Int)) rfl (bI (a := ((!decide (decide ((j : Int) = 0) = decide (((kd l : Nat) : Int) = 0))) || decide (kd l < rk I j))) ?_ rfl))) hk
          cases hc : (!decide (decide ((j : Int) = 0) = decide (((kd l : Nat) : Int) = 0))) with
          | true => rfl
          | false =>
            refine cF rfl (bI (a := ((kd l : Nat) : Int)) rfl ?_)
            exact congrArg some hrk
        have ecut : cutL (W l) (some ((1 : Int) + ((nmsN (kd l) : Nat) : Int))) none = (W l).drop (1 + nmsN (kd l)) := by
          rw [cutL_from (by omega)]
          congr 1
        cases hb1 : ((!decide (decide ((j : Int) = 0) = decide (((kd l : Nat) : Int) = 0))) || decide (kd l < rk I j)) with
        | true =>
          refine ⟨fun _ => ?_, fun hz => ?_⟩
          · refine bI (Ty.atI_nat el) ?_
            rw [es3]
            refine gI (ll (by omega)) (gI ⟨by decide, by decide⟩ (gI (ll (by rw [rangeL_len]; decide)) (pre ?_)))
            rw [hb1]; rfl
          · rw [hbd, ← Bool.or_assoc, hb1] at hz; cases hz
        | false =>
          have hbd2 : bad I j = !fine l := by rw [hbd, ← Bool.or_assoc, hb1, Bool.false_or]
          have hfm : fmO ((W l).drop (1 + nmsN (kd l))) (fun word => ((m__law_number word).bind fun r => bif (!r) then (some (some word)) else some none)) = some ((((W l).drop (1 + nmsN (kd l))).filter fun w => !numB w).map id) := fmO_fm fun w hw => bI (law_number_eq (hWt w (List.mem_of_mem_drop hw))) (by cases numB w <;> rfl)
          have hns : (!decide ((((W l).drop (1 + nmsN (kd l))).filter fun w => !numB w).map id = [])) = !(((W l).drop (1 + nmsN (kd l))).all numB) := by
            refine congrArg (fun b => !b) ?_
            rw [Bool.eq_iff_iff, decide_eq_true_eq, List.map_eq_nil_iff, List.filter_eq_nil_iff, List.all_eq_true]
            exact ⟨fun hh x hx => by have := hh x hx; simpa using this, fun hh x hx => by rw [hh x hx]; simp⟩
          have hnc := nms_le (kd l)
          have hcc := cnt_le (kd l)
          have hdl : ((W l).drop (1 + nmsN (kd l))).length ≤ 5000001 := by rw [List.length_drop]; omega
          have hb2 : ∀ {Z : Option (Fl (Int × Option PT) (List (List (List PyData)) × Int))} {K : Bool → Option (Fl (Int × Option PT) (List (List (List PyData)) × Int))}, K (!fine l) = Z → ((bif (!decide (((W l).length : Int) = (((1 : Int) + ((nmsN (kd l) : Nat) : Int)) + ((cntN (kd l) : Nat) : Int)))) then some true else (guardO (((W l).drop (1 + nmsN (kd l))).length ≤ sizeLine) ((fmO ((W l).drop (1 + nmsN (kd l))) fun word_275 => ((m__law_number word_275).bind fun r_276 => bif (!r_276) then (some (some word_275)) else some none)).bind fun ys_273 => guardO ((∀ q_281 ∈ ys_273, PyData.strOk q_281 = true)) (guardO ((∀ q_282 ∈ ([] : List (Str)), PyData.strOk q_282 = true)) (some (!decide (ys_273 = ([] : List (Str))))))))).bind fun b_283 => K b_283) = Z := fun {Z K} hk => by
            refine bI (a := !fine l) ?_ hk
            unfold fine
            by_cases hc : (W l).length = 1 + nmsN (kd l) + cntN (kd l)
            · rw [dT (show ((W l).length : Int) = (1 : Int) + ((nmsN (kd l) : Nat) : Int) + ((cntN (kd l) : Nat) : Int) by omega), dT hc, Bool.true_and]
              refine cF rfl (gI (ll (by omega)) (bI hfm (gI (fun q hq => ?_) (gI (fun q hq => absurd hq List.not_mem_nil) (congrArg some hns)))))
              rw [List.map_id] at hq
              exact (hWt q (List.mem_of_mem_drop (List.mem_filter.mp hq).1)).ok
            · rw [dF (show ¬ ((W l).length : Int) = (1 : Int) + ((nmsN (kd l) : Nat) : Int) + ((cntN (kd l) : Nat) : Int) by omega), dF hc]
              rfl
          refine ⟨fun hz => ?_, fun hz => ?_⟩
          · rw [hbd2] at hz
            refine bI (Ty.atI_nat el) ?_
            rw [es3]
            refine gI (ll (by omega)) (gI ⟨by decide, by decide⟩ (gI (ll (by rw [rangeL_len]; decide)) (pre ?_)))
            rw [hb1]
            refine cF rfl (bI (a := ((kd l : Nat) : Int)) rfl (bI (nms_at hk5) (lI ?_)))
            rw [ecut]
            refine bI (nms_at hk5) (bI (cnt_at hk5) (hb2 ?_))
            rw [hz]; rfl
          · rw [hbd2] at hz
            have hfi : fine l = true := by simpa using hz
            have hfi2 := hfi
            unfold fine at hfi2
            rw [Bool.and_eq_true, decide_eq_true_eq] at hfi2
            have emid : cutL (W l) (some (1 : Int)) (some ((1 : Int) + ((nmsN (kd l) : Nat) : Int))) = ((W l).drop 1).take (nmsN (kd l)) := by
              rw [cutL_mid (by decide) (by omega) (by omega)]
              congr 1
              omega
            refine ⟨(pts (I.take j ++ [l]), ((kd l : Nat) : Int)), bI (Ty.atI_nat el) ?_, ?_⟩
            · rw [es3]
              refine gI (ll (by omega)) (gI ⟨by decide, by decide⟩ (gI (ll (by rw [rangeL_len]; decide)) (pre ?_)))
              rw [hb1]
              refine cF rfl (bI (a := ((kd l : Nat) : Int)) rfl (bI (nms_at hk5) (lI ?_)))
              rw [ecut]
              refine bI (nms_at hk5) (bI (cnt_at hk5) (hb2 ?_))
              rw [hz]
              rw [hs2]
              refine cF rfl (bI (a := kd l) (ixN_of (n := 5) (i := ((kd l : Nat) : Int)) (by omega) (by omega)) (bI (pts_at hk5) (bI (nms_at hk5) (gI (ll (by omega)) (bI (fmO_all (g := numV) fun w hw => ?_) ?_)))))
              · have := numB_val (List.all_eq_true.mp hfi2.2 w hw)
                exact gI (by omega) (bI this.1 rfl)
              · rw [emid]
                refine gI (ll ?_) (gI (line_lt ?_) (congrArg (fun x => some (Fl.next (x, ((kd l : Nat) : Int)))) (pts_set (T := I.take j) hk5)))
                · rw [List.length_map, List.length_map, List.length_map, List.length_take]; omega
                · rw [List.length_map]
                  have : (fl (kd l) (I.take j)).length ≤ (I.take j).length := List.length_filter_le _ _
                  rw [List.length_take] at this
                  omega
            · refine ⟨by dsimp only; rw [hr2], ?_⟩
              dsimp only
              rw [et]
    · rw [rangeL_len, Int.toNat_natCast] at hj
      rw [hj]
    · rw [rangeL_len, Int.toNat_natCast] at hf hs
      rw [hf]
      obtain ⟨ptr, rank⟩ := s
      obtain ⟨hs1, hs2⟩ := hs
      dsimp only at hs1 hs2
      have hS := srt (L := I) (k := I.length) (Nat.le_refl _) fun i hi => fst1_none.mp hf i hi
      rw [List.take_length] at hs2
      have hS2 := hS.fn
      rw [List.take_length] at hS2
      have hfl : ∀ j, (fl j I).length ≤ I.length := fun j => List.length_filter_le _ _
      have hmem : ∀ {j : Nat} {l : Str}, l ∈ fl j I → kd l = j ∧ fine l = true := fun {j l} hl => by
        have := List.mem_filter.mp hl
        exact ⟨of_decide_eq_true this.2, hS2 l this.1⟩
      by_cases h0 : I = []
      · dsimp only
        rw [if_pos h0]
        exact cT (dT (by rw [h0]; rfl)) rfl
      · dsimp only
        rw [if_neg h0]
        have hl0 : 0 < I.length := List.length_pos_iff.mpr h0
        have h1 := hfl 1
        have h2 := hfl 2
        have h3 := hfl 3
        have h4 := hfl 4
        rw [hs2]
        refine cF (dF (by omega)) (bI (a := (fl 2 I).map rowD) rfl (gI (ll (by rw [List.length_map]; omega)) (bI (fmO_map (g := rL) fun l hl => ?_) (bI (a := (fl 3 I).map rowD) rfl (gI (ll (by rw [List.length_map]; omega)) (bI (fmO_map (g := rA) fun l hl => ?_) (bI (a := (fl 4 I).map rowD) rfl (gI (ll (by rw [List.length_map]; omega)) (bI (fmO_map (g := rO) fun l hl => ?_) (bI (a := (fl 1 I).map rowD) rfl (gI (ll (by rw [List.length_map]; omega)) (bI (fmO_map (g := fun l => wd l 1) fun l hl => ?_) rfl))))))))))))
        · obtain ⟨hk, hf⟩ := hmem hl
          rw [row2 hf hk]; rfl
        · obtain ⟨hk, hf⟩ := hmem hl
          rw [row3 hf hk]; rfl
        · obtain ⟨hk, hf⟩ := hmem hl
          rw [row4 hf hk]; rfl
        · obtain ⟨hk, hf⟩ := hmem hl
          rw [row1 hf hk]; rfl
  · rw [if_neg (by simp [hv])]
    exact cT (by rw [dF hv]; rfl) rfl
end K13

/-! K13X -/
namespace K13
open PySem PySem.Spec L2 Ty
/-! ### the package's reading -/
abbrev ErrT (k : Int) : Exn := ("InvalidText", [.i k])
structure Ls (L : List Str) : Prop where
  len : L.length ≤ 5000001
  tx : ∀ l ∈ L, Tx l
theorem at_l {L : List Str} {k : Nat} (h : k < L.length) : L[k]? = some (lAtS L k) := by unfold lAtS; rw [List.getElem?_eq_getElem h]; rfl
theorem iok {k : Int} (h0 : 0 ≤ k) (h : k ≤ 10000000) : (XF.i k).ok := Nat.lt_of_le_of_lt (show k.natAbs ≤ 10000000 by omega) (by decide)
theorem more_eq {L : List Str} (h : Ls L) {k j : Nat} (hj : j < 5) {w : Str} (hw : wrdL[j]? = some w) : m_Lines_more ⟨L, (k : Int)⟩ w = some (decide (k < L.length) && decide (kd (lAtS L k) = j)) := by
  unfold m_Lines_more
  by_cases hk : k < L.length
  · have el := at_l hk
    have hT := h.tx _ (List.mem_of_getElem? el)
    have hl := hT.len
    refine bI (a := decide (kd (lAtS L k) = j)) (cT (dT (by dsimp only; omega)) (bI (Ty.atI_nat el) (gI (ll (by omega)) ?_))) ?_
    · have e3 : Txt.split (lAtS L k) (" " : Str) = W (lAtS L k) := split_sp _
      rw [e3]
      have h0 : atI (W (lAtS L k)) (0 : Int) = some (wd (lAtS L k) 0) := by rw [atI_pos (by decide)]; exact W0 _
      refine bI h0 (congrArg some ?_)
      rw [Bool.eq_iff_iff, decide_eq_true_eq, decide_eq_true_eq]
      exact kd_word hj hw
    · rw [dT hk]; rfl
  · refine bI (a := false) (cF (dF (by dsimp only; omega)) rfl) ?_
    rw [dF hk]; rfl
def isF (L : List Str) (k j : Nat) : Bool := decide (k < L.length) && decide (kd (lAtS L k) = j)
theorem take_eq {L : List Str} (h : Ls L) {k j : Nat} (hk : k ≤ 5000002) (hj : j < 5) {w : Str} (hw : wrdL[j]? = some w) : m_Lines_take ⟨L, (k : Int)⟩ w = some (if isF L k j = true then .ok (⟨L, (k : Int) + 1⟩, (W (lAtS L k)).drop 1) else .ex (ErrT ((k : Int) + 1))) := by
  unfold m_Lines_take
  refine bI (more_eq h hj hw) ?_
  rw [show (decide (k < L.length) && decide (kd (lAtS L k) = j)) = isF L k j from rfl]
  cases hf : isF L k j with
  | false => exact cT rfl (gI (iok (by dsimp only; omega) (by dsimp only; omega)) rfl)
  | true =>
    have hf2 := hf
    unfold isF at hf2
    rw [Bool.and_eq_true, decide_eq_true_eq, decide_eq_true_eq] at hf2
    have el := at_l hf2.1
    have hl := (h.tx _ (List.mem_of_getElem? el)).len
    refine cF rfl ?_
    dsimp only
    rw [show (k : Int) + 1 - 1 = (k : Int) by omega]
    refine bI (Ty.atI_nat el) (gI (ll (by omega)) ?_)
    have e3 : Txt.split (lAtS L k) (" " : Str) = W (lAtS L k) := split_sp _
    rw [e3, cutL_from (by decide)]
    rfl
theorem tn_eq {L : List Str} (h : Ls L) {k j : Nat} (hk : k ≤ 5000002) (hj : j < 5) {w : Str} (hw : wrdL[j]? = some w) : m_Lines_take_numbers ⟨L, (k : Int)⟩ w ((nmsN j : Nat) : Int) ((cntN j : Nat) : Int) = some (if (isF L k j && fine (lAtS L k)) = true then .ok (⟨L, (k : Int) + 1⟩, rowD (lAtS L k)) else .ex (ErrT ((k : Int) + 1))) := by
  unfold m_Lines_take_numbers
  have ht := take_eq h hk hj hw
  cases hf : isF L k j with
  | false =>
    rw [hf] at ht
    exact exI_ex ht rfl
  | true =>
    rw [hf] at ht
    refine exI_ok ht ?_
    have hf2 := hf
    unfold isF at hf2
    rw [Bool.and_eq_true, decide_eq_true_eq, decide_eq_true_eq] at hf2
    have el := at_l hf2.1
    have hT := h.tx _ (List.mem_of_getElem? el)
    have hkj := hf2.2
    have hW0 := W_ne (lAtS L k)
    have hWl : (W (lAtS L k)).length ≤ 5000001 := Nat.le_trans (wds_len 32 _) (by have := hT.len; omega)
    have hWt : ∀ w ∈ W (lAtS L k), Tx w := fun w hw => hT.wd hw
    generalize lAtS L k = l at *
    subst hkj
    have hnc := nms_le (kd l)
    have hcc := cnt_le (kd l)
    dsimp only
    rw [cutL_from (by omega), Int.toNat_natCast, List.drop_drop]
    refine bI (numbers_eq (by rw [List.length_drop]; omega) fun w hw => hWt w (List.mem_of_mem_drop hw)) ?_
    have hd1 : ((W l).drop 1).length = (W l).length - 1 := List.length_drop
    have hd2 : ((W l).drop (1 + nmsN (kd l))).length = (W l).length - (1 + nmsN (kd l)) := List.length_drop
    have hfi : fine l = (decide ((W l).length = 1 + nmsN (kd l) + cntN (kd l)) && ((W l).drop (1 + nmsN (kd l))).all numB) := rfl
    cases ha : ((W l).drop (1 + nmsN (kd l))).all numB with
    | false =>
      rw [ha, Bool.and_false] at hfi
      rw [hfi, if_neg (by simp), if_neg (by simp)]
      refine bI (a := true) ?_ (cT rfl (gI (iok (by omega) (by omega)) rfl))
      exact cS (fun _ => rfl) fun _ => rfl
    | true =>
      rw [ha, Bool.and_true] at hfi
      rw [if_pos rfl]
      refine bI (a := !fine l) ?_ ?_
      · rw [hfi]
        by_cases h1 : (W l).length = 1 + nmsN (kd l) + cntN (kd l)
        · rw [dT h1]
          refine cF (dF (by omega)) (bI (a := false) (cF rfl (bI (a := false) (cT rfl (bI (a := ((W l).drop (1 + nmsN (kd l))).map numV) rfl ?_)) rfl)) rfl)
          rw [dT (by rw [List.length_map]; omega)]; rfl
        · rw [dF h1]
          refine cS (fun _ => rfl) fun hc => ?_
          have hc := of_decide_eq_false hc
          refine bI (a := true) (cF rfl (bI (a := true) (cT rfl (bI (a := ((W l).drop (1 + nmsN (kd l))).map numV) rfl ?_)) rfl)) rfl
          rw [dF (by rw [List.length_map]; omega)]; rfl
      · cases hfl : fine l with
        | false => exact cT rfl (gI (iok (by omega) (by omega)) rfl)
        | true =>
          rw [hfl] at hfi
          have h1 := of_decide_eq_true hfi.symm
          refine cF rfl (bI (a := ((W l).drop (1 + nmsN (kd l))).map numV) rfl ?_)
          rw [cutL_pre (by omega) (by omega), Int.toNat_natCast]
          refine gI (ll ?_) rfl
          rw [List.length_map, List.length_map, List.length_map, List.length_take]
          omega
/-- where the reading stands in the lines of one kind -/
structure Inv (L : List Str) (j k : Nat) : Prop where
  k1 : 1 ≤ k
  kn : k ≤ L.length
  gd : ∀ i, i < k → bad L i = false
  le : ∀ x ∈ L.take k, kd x ≤ j
  nx : k < L.length → kd (lAtS L k) < j → bad L k = true
theorem rk_le {L : List Str} {j k : Nat} (h : Inv L j k) : rk L k ≤ j := by
  unfold rk
  rw [if_neg (by have := h.k1; omega)]
  have hk : k - 1 < L.length := by have := h.k1; have := h.kn; omega
  refine h.le _ ?_
  have e := at_l hk
  refine List.mem_of_getElem? (i := k - 1) ?_
  rw [List.getElem?_take, if_pos (by have := h.k1; omega)]
  exact e
theorem Inv.step {L : List Str} {j k : Nat} (h : Inv L j k) (hj : 1 ≤ j ∧ j < 5) (hf : isF L k j = true) (hi : fine (lAtS L k) = true) : Inv L j (k + 1) := by
  unfold isF at hf
  rw [Bool.and_eq_true, decide_eq_true_eq, decide_eq_true_eq] at hf
  have hg : bad L k = false := bad_mk (by omega) (by have := h.k1; omega) (by have := rk_le h; omega) hi
  refine ⟨by omega, by omega, fun i hi => ?_, fun x hx => ?_, fun h1 h2 => ?_⟩
  · by_cases e : i = k
    · rw [e]; exact hg
    · exact h.gd i (by omega)
  · rw [take_snoc (at_l hf.1)] at hx
    rcases List.mem_append.mp hx with hx | hx
    · exact h.le x hx
    · rw [List.mem_singleton.mp hx]; omega
  · cases hb : bad L (k + 1) with
    | true => rfl
    | false =>
      obtain ⟨_, _, g3, _⟩ := bad_false hb
      have : rk L (k + 1) = kd (lAtS L k) := by unfold rk; rw [if_neg (by omega)]; rfl
      omega
theorem Inv.up {L : List Str} {j k : Nat} (h : Inv L j k) (hf : isF L k j = false) : Inv L (j + 1) k := by
  refine ⟨h.k1, h.kn, h.gd, fun x hx => by have := h.le x hx; omega, fun h1 h2 => ?_⟩
  unfold isF at hf
  rw [dT h1, Bool.true_and, decide_eq_false_iff_not] at hf
  exact h.nx h1 (by omega)
theorem Inv.bad1 {L : List Str} {j k : Nat} (h : Inv L j k) (hf : isF L k j = true) (hi : fine (lAtS L k) = false) : k < L.length ∧ bad L k = true := by
  unfold isF at hf
  rw [Bool.and_eq_true, decide_eq_true_eq, decide_eq_true_eq] at hf
  refine ⟨hf.1, ?_⟩
  unfold bad
  rw [hi]; simp
theorem Inv.bad5 {L : List Str} {k : Nat} (h : Inv L 5 k) (hk : k < L.length) : bad L k = true := by
  have := kd_le (lAtS L k)
  by_cases e : kd (lAtS L k) = 5
  · unfold bad; rw [dT e]; rfl
  · exact h.nx hk (by omega)
theorem fl_step {L : List Str} {j k i : Nat} (hf : isF L k j = true) : fl i (L.take (k + 1)) = if i = j then fl i (L.take k) ++ [lAtS L k] else fl i (L.take k) := by
  unfold isF at hf
  rw [Bool.and_eq_true, decide_eq_true_eq, decide_eq_true_eq] at hf
  rw [take_snoc (at_l hf.1), fl_snoc, hf.2]
  by_cases e : j = i
  · rw [if_pos e, if_pos e.symm]
  · rw [if_neg e, if_neg fun z => e z.symm]
theorem Inv.empty {L : List Str} {j k i : Nat} (h : Inv L j k) (hi : j < i) : fl i (L.take k) = [] := fl_none fun x hx e => by have := h.le x hx; omega
/-- what take_circuit answers -/
def TQ (L : List Str) (r : Rx (S_Lines × PT)) : Prop := (∃ k, k < L.length ∧ (∀ i, i < k → bad L i = false) ∧ bad L k = true ∧ r = .ex (ErrT ((k : Int) + 1))) ∨ ∃ k, Inv L 5 k ∧ r = .ok (⟨L, (k : Int)⟩, parts (L.take k))
theorem take_circuit_ok {L : List Str} (h : Ls L) (h0 : L ≠ []) : Tot (m_take_circuit ⟨L, 0⟩) (TQ L) := by
  have hlen := h.len
  have hl0 : 0 < L.length := List.length_pos_iff.mpr h0
  unfold m_take_circuit
  have t0 := tn_eq h (k := 0) (j := 0) (by decide) (by decide) (w := "circuit") rfl
  cases hz : (isF L 0 0 && fine (lAtS L 0)) with
  | false =>
    rw [hz] at t0
    refine ⟨_, exI_ex t0 rfl, .inl ⟨0, hl0, fun i hi => absurd hi (Nat.not_lt_zero _), ?_, rfl⟩⟩
    cases hb : bad L 0 with
    | true => rfl
    | false =>
      obtain ⟨_, g2, _, g4⟩ := bad_false hb
      unfold isF at hz
      rw [dT hl0, g4, dT (g2.mp rfl)] at hz
      cases hz
  | true =>
    rw [hz] at t0
    rw [Bool.and_eq_true] at hz
    have hz1 := hz.1
    unfold isF at hz1
    rw [Bool.and_eq_true, decide_eq_true_eq, decide_eq_true_eq] at hz1
    have hg0 : bad L 0 = false := bad_mk (by omega) (by omega) (by unfold rk; simp) hz.2
    have I1 : Inv L 1 1 := by
      refine ⟨Nat.le_refl _, by omega, fun i hi => by rw [show i = 0 by omega]; exact hg0, fun x hx => ?_, fun h1 h2 => ?_⟩
      · rw [take_snoc (at_l hz1.1)] at hx
        rcases List.mem_append.mp hx with hx | hx
        · simp at hx
        · rw [List.mem_singleton.mp hx]; omega
      · cases hb : bad L 1 with
        | true => rfl
        | false =>
          obtain ⟨_, g2, _, _⟩ := bad_false hb
          omega
    refine tX (Tot.of t0 ?_)
    rw [if_pos rfl]
    dsimp only
    refine tWhile (fun (s : S_Lines × List Str) => ∃ k : Nat, s = (⟨L, (k : Int)⟩, pI (L.take k)) ∧ Inv L 1 k) (fun s => L.length + 1 - s.1.place.toNat) _ (by dsimp only; omega) ⟨1, ?_, I1⟩ ?_
    · unfold pI
      rw [fl_none fun x hx e => ?_]
      · rfl
      · rw [take_snoc (at_l hz1.1)] at hx
        rcases List.mem_append.mp hx with hx | hx
        · simp at hx
        · rw [List.mem_singleton.mp hx] at e; omega
    rintro _ ⟨k1, rfl, Ik⟩
    have hkn := Ik.kn
    refine tE (more_eq h (k := k1) (j := 1) (by decide) (w := "input") rfl) ?_
    refine tC (fun hf => ?_) (fun hf => ?_)
    · have tk := tn_eq h (k := k1) (j := 1) (by omega) (by decide) (w := "input") rfl
      have hf : isF L k1 1 = true := hf
      cases hi : fine (lAtS L k1) with
      | false =>
        rw [hf, hi] at tk
        exact ⟨_, exI_ex tk rfl, tR (.inl ⟨k1, (Ik.bad1 hf hi).1, Ik.gd, (Ik.bad1 hf hi).2, rfl⟩)⟩
      | true =>
        rw [hf, hi] at tk
        have hk1 : kd (lAtS L k1) = 1 := by unfold isF at hf; simp at hf; exact hf.2
        have hkl : k1 < L.length := by unfold isF at hf; simp at hf; exact hf.1
        refine tX (Tot.of tk ?_)
        rw [show (true && true) = true from rfl, if_pos rfl]
        dsimp only
        rw [row1 hi hk1]
        refine tE (a := wd (lAtS L k1) 1) rfl (tG (line_lt ?_) (tR ⟨⟨k1 + 1, ?_, Ik.step (by decide) hf hi⟩, ?_⟩))
        · unfold pI fl
          rw [List.length_map]
          have := List.length_filter_le (fun l => decide (kd l = 1)) (L.take k1)
          rw [List.length_take] at this
          omega
        · unfold pI
          rw [fl_step hf, if_pos rfl, List.map_append]
          rfl
        · show L.length + 1 - ((k1 : Int) + 1).toNat < L.length + 1 - ((k1 : Int)).toNat
          omega
    refine tR ?_
    have Ik0 := Ik
    replace Ik := Ik.up hf
    clear hf
    refine tWhile (fun (s : S_Lines × List (Str × Int × Int)) => ∃ k : Nat, s = (⟨L, (k : Int)⟩, pL (L.take k)) ∧ Inv L 2 k ∧ fl 1 (L.take k) = fl 1 (L.take k1)) (fun s => L.length + 1 - s.1.place.toNat) _ (by dsimp only; omega) ⟨k1, by unfold pL; rw [Ik0.empty (by decide)]; rfl, Ik, rfl⟩ ?_
    rintro _ ⟨k2, rfl, Ik, e1⟩
    have hkn := Ik.kn
    refine tE (more_eq h (k := k2) (j := 2) (by decide) (w := "latch") rfl) ?_
    refine tC (fun hf => ?_) (fun hf => ?_)
    · have tk := tn_eq h (k := k2) (j := 2) (by omega) (by decide) (w := "latch") rfl
      have hf : isF L k2 2 = true := hf
      cases hi : fine (lAtS L k2) with
      | false =>
        rw [hf, hi] at tk
        exact ⟨_, exI_ex tk rfl, tR (.inl ⟨k2, (Ik.bad1 hf hi).1, Ik.gd, (Ik.bad1 hf hi).2, rfl⟩)⟩
      | true =>
        rw [hf, hi] at tk
        have hk1 : kd (lAtS L k2) = 2 := by unfold isF at hf; simp at hf; exact hf.2
        have hkl : k2 < L.length := by unfold isF at hf; simp at hf; exact hf.1
        refine tX (Tot.of tk ?_)
        rw [show (true && true) = true from rfl, if_pos rfl]
        dsimp only
        rw [row2 hi hk1]
        refine tE (a := (wd (lAtS L k2) 1, numV (wd (lAtS L k2) 2), numV (wd (lAtS L k2) 3))) rfl (tG (line_lt ?_) (tR ⟨⟨k2 + 1, ?_, Ik.step (by decide) hf hi, by rw [fl_step hf, if_neg (by decide)]; exact e1⟩, ?_⟩))
        · unfold pL fl
          rw [List.length_map]
          have := List.length_filter_le (fun l => decide (kd l = 2)) (L.take k2)
          rw [List.length_take] at this
          omega
        · unfold pL
          rw [fl_step hf, if_pos rfl, List.map_append]
          rfl
        · show L.length + 1 - ((k2 : Int) + 1).toNat < L.length + 1 - ((k2 : Int)).toNat
          omega
    refine tR ?_
    have Ik0 := Ik
    replace Ik := Ik.up hf
    clear hf
    refine tWhile (fun (s : S_Lines × List (Int × Int)) => ∃ k : Nat, s = (⟨L, (k : Int)⟩, pA (L.take k)) ∧ Inv L 3 k ∧ fl 1 (L.take k) = fl 1 (L.take k1) ∧ fl 2 (L.take k) = fl 2 (L.take k2)) (fun s => L.length + 1 - s.1.place.toNat) _ (by dsimp only; omega) ⟨k2, by unfold pA; rw [Ik0.empty (by decide)]; rfl, Ik, e1, rfl⟩ ?_
    rintro _ ⟨k3, rfl, Ik, e1, e2⟩
    have hkn := Ik.kn
    refine tE (more_eq h (k := k3) (j := 3) (by decide) (w := "and") rfl) ?_
    refine tC (fun hf => ?_) (fun hf => ?_)
    · have tk := tn_eq h (k := k3) (j := 3) (by omega) (by decide) (w := "and") rfl
      have hf : isF L k3 3 = true := hf
      cases hi : fine (lAtS L k3) with
      | false =>
        rw [hf, hi] at tk
        exact ⟨_, exI_ex tk rfl, tR (.inl ⟨k3, (Ik.bad1 hf hi).1, Ik.gd, (Ik.bad1 hf hi).2, rfl⟩)⟩
      | true =>
        rw [hf, hi] at tk
        have hk1 : kd (lAtS L k3) = 3 := by unfold isF at hf; simp at hf; exact hf.2
        have hkl : k3 < L.length := by unfold isF at hf; simp at hf; exact hf.1
        refine tX (Tot.of tk ?_)
        rw [show (true && true) = true from rfl, if_pos rfl]
        dsimp only
        rw [row3 hi hk1]
        refine tE (a := (numV (wd (lAtS L k3) 1), numV (wd (lAtS L k3) 2))) rfl (tG (line_lt ?_) (tR ⟨⟨k3 + 1, ?_, Ik.step (by decide) hf hi, by rw [fl_step hf, if_neg (by decide)]; exact e1, by rw [fl_step hf, if_neg (by decide)]; exact e2⟩, ?_⟩))
        · unfold pA fl
          rw [List.length_map]
          have := List.length_filter_le (fun l => decide (kd l = 3)) (L.take k3)
          rw [List.length_take] at this
          omega
        · unfold pA
          rw [fl_step hf, if_pos rfl, List.map_append]
          rfl
        · show L.length + 1 - ((k3 : Int) + 1).toNat < L.length + 1 - ((k3 : Int)).toNat
          omega
    refine tR ?_
    have Ik0 := Ik
    replace Ik := Ik.up hf
    clear hf
    refine tWhile (fun (s : S_Lines × List (Str × Int)) => ∃ k : Nat, s = (⟨L, (k : Int)⟩, pO (L.take k)) ∧ Inv L 4 k ∧ fl 1 (L.take k) = fl 1 (L.take k1) ∧ fl 2 (L.take k) = fl 2 (L.take k2) ∧ fl 3 (L.take k) = fl 3 (L.take k3)) (fun s => L.length + 1 - s.1.place.toNat) _ (by dsimp only; omega) ⟨k3, by unfold pO; rw [Ik0.empty (by decide)]; rfl, Ik, e1, e2, rfl⟩ ?_
    rintro _ ⟨k4, rfl, Ik, e1, e2, e3⟩
    have hkn := Ik.kn
    refine tE (more_eq h (k := k4) (j := 4) (by decide) (w := "output") rfl) ?_
    refine tC (fun hf => ?_) (fun hf => ?_)
    · have tk := tn_eq h (k := k4) (j := 4) (by omega) (by decide) (w := "output") rfl
      have hf : isF L k4 4 = true := hf
      cases hi : fine (lAtS L k4) with
      | false =>
        rw [hf, hi] at tk
        exact ⟨_, exI_ex tk rfl, tR (.inl ⟨k4, (Ik.bad1 hf hi).1, Ik.gd, (Ik.bad1 hf hi).2, rfl⟩)⟩
      | true =>
        rw [hf, hi] at tk
        have hk1 : kd (lAtS L k4) = 4 := by unfold isF at hf; simp at hf; exact hf.2
        have hkl : k4 < L.length := by unfold isF at hf; simp at hf; exact hf.1
        refine tX (Tot.of tk ?_)
        rw [show (true && true) = true from rfl, if_pos rfl]
        dsimp only
        rw [row4 hi hk1]
        refine tE (a := (wd (lAtS L k4) 1, numV (wd (lAtS L k4) 2))) rfl (tG (line_lt ?_) (tR ⟨⟨k4 + 1, ?_, Ik.step (by decide) hf hi, by rw [fl_step hf, if_neg (by decide)]; exact e1, by rw [fl_step hf, if_neg (by decide)]; exact e2, by rw [fl_step hf, if_neg (by decide)]; exact e3⟩, ?_⟩))
        · unfold pO fl
          rw [List.length_map]
          have := List.length_filter_le (fun l => decide (kd l = 4)) (L.take k4)
          rw [List.length_take] at this
          omega
        · unfold pO
          rw [fl_step hf, if_pos rfl, List.map_append]
          rfl
        · show L.length + 1 - ((k4 : Int) + 1).toNat < L.length + 1 - ((k4 : Int)).toNat
          omega
    refine tR ?_
    replace Ik := Ik.up hf
    refine tR (.inr ⟨k4, Ik, ?_⟩)
    unfold parts pI pL pA
    rw [e1, e2, e3]
/-- what is read -/
theorem read_ok {t : Str} (h : Tx t) : m_read_circuit t = match rdL t with | .inl k => some (.ex (ErrT k)) | .inr P => exK (m_Circuit_init P.1 P.2.1 P.2.2.1 P.2.2.2) (fun e => some (.ex e)) fun r => some (.ok r.1) := by
  have hlen := h.len
  obtain ⟨I, v, hR⟩ : ∃ I v, wds 10 t = I ++ [v] := ⟨_, _, (List.dropLast_concat_getLast (wds_ne 10 t)).symm⟩
  have hRl := wds_len 10 t
  have hW : ∀ l ∈ I, Tx l := fun l hl => h.wd (c := 10) (by rw [hR]; exact List.mem_append_left _ hl)
  have hIl : I.length + 1 ≤ t.length + 1 := by rw [hR] at hRl; simpa using hRl
  have es : Txt.split t ("\n" : Str) = wds 10 t := split_nl t
  have hlo : m_lines_of t = some (if v = ("" : Str) then .ok I else .ex (ErrT ((I.length : Int) + 1))) := by
    unfold m_lines_of
    rw [es, hR]
    refine gI (ll (by omega)) (bI (a := v) ?_ ?_)
    · unfold atI ixN
      rw [if_neg (by decide), if_pos (by rw [List.length_append]; simp; omega)]
      show (I ++ [v])[_]? = _
      rw [show ((-1 : Int) + ((I ++ [v]).length : Int)).toNat = I.length by rw [List.length_append, List.length_singleton]; omega]
      simp
    · by_cases hv : v = ("" : Str)
      · rw [if_pos hv]
        refine cF (by rw [dT hv]; rfl) ?_
        have : cutL (I ++ [v]) none (some (-(1 : Int))) = I := by
          unfold cutL
          have e1 : HT.sIx (I ++ [v]).length (I ++ [v]).length (some (-(1 : Int))) = I.length := by
            show (if (-(1 : Int)) < 0 then (-(1 : Int) + ((I ++ [v]).length : Int)).toNat else min (-(1 : Int)).toNat (I ++ [v]).length) = _
            rw [if_pos (by decide), List.length_append]; simp; omega
          rw [e1]
          show List.take (I.length - 0) (List.drop 0 (I ++ [v])) = I
          simp
        rw [this]
      · rw [if_neg hv]
        refine cT (by rw [dF hv]; rfl) (gI (iok (by omega) (by rw [List.length_append]; simp; omega)) ?_)
        rw [List.length_append]; rfl
  unfold m_read_circuit rdL
  rw [hR, List.getLast?_concat, List.dropLast_concat]
  by_cases hv : v = ("" : Str)
  · rw [if_pos hv] at hlo
    rw [if_pos (by rw [hv])]
    refine exI_ok hlo (bI (a := (⟨I, 0⟩, ())) rfl ?_)
    dsimp only
    have hL : Ls I := ⟨by omega, hW⟩
    by_cases h0 : I = []
    · have hn : fst1 (bad I) I.length = none := fst1_none.mpr fun i hi => by rw [h0] at hi; exact absurd hi (Nat.not_lt_zero _)
      rw [hn]
      dsimp only
      rw [if_pos h0]
      refine exI_ex (e := ErrT 1) ?_ rfl
      unfold m_take_circuit
      have t0 := tn_eq hL (k := 0) (j := 0) (by decide) (by decide) (w := "circuit") rfl
      rw [show isF I 0 0 = false by unfold isF; rw [h0]; rfl] at t0
      exact exI_ex t0 rfl
    · obtain ⟨r, e, q⟩ := take_circuit_ok hL h0
      rcases q with ⟨k, k1, k2, k3, rfl⟩ | ⟨k, Ik, rfl⟩
      · rw [fst1_some k1 k3 k2]
        exact exI_ex e rfl
      · refine exI_ok e ?_
        have hkn := Ik.kn
        dsimp only
        by_cases hk : k < I.length
        · rw [fst1_some hk (Ik.bad5 hk) Ik.gd]
          refine exI_ex (e := ErrT ((k : Int) + 1)) ?_ rfl
          unfold m_Lines_finish
          exact cT (dT (by dsimp only; omega)) (gI (iok (by dsimp only; omega) (by dsimp only; omega)) rfl)
        · have ek : k = I.length := by omega
          subst ek
          rw [fst1_none.mpr Ik.gd]
          dsimp only
          rw [if_neg h0]
          refine exI_ok (a := (⟨I, (I.length : Int)⟩, ())) ?_ ?_
          · unfold m_Lines_finish
            exact cF (dF (by dsimp only; omega)) rfl
          · rw [List.take_length]
  · rw [if_neg hv] at hlo
    rw [if_neg (by simp [hv])]
    refine exI_ex hlo ?_
    rw [List.length_append]; rfl
end K13

/-! K13Y -/
namespace K13
open PySem PySem.Spec L2 Ty
/-! ### writing -/
abbrev nS (n : Int) : Str := Str.ofString (toString n)
def lnI (s : Str) : Str := (Str.empty ++ ("input " : Str)) ++ s
def lnL (p : Str × Int × Int) : Str := (((((Str.empty ++ ("latch " : Str)) ++ p.1) ++ (" " : Str)) ++ nS p.2.1) ++ (" " : Str)) ++ nS p.2.2
def lnA (p : Int × Int) : Str := Txt.join (" " : Str) ([("and" : Str)] ++ [nS p.1, nS p.2])
def lnO (p : Str × Int) : Str := (((Str.empty ++ ("output " : Str)) ++ p.1) ++ (" " : Str)) ++ nS p.2
def linesOf (P : PT) : List Str := ((([("circuit" : Str)] ++ P.1.map lnI) ++ P.2.1.map lnL) ++ P.2.2.1.map lnA) ++ P.2.2.2.map lnO
abbrev Sn (x : Int) : Prop := 0 ≤ x ∧ x < 1000000
theorem nS_len {x : Int} (h : Sn x) : (nS x).length ≤ 6 := by
  have := TL.numL_len (n := x.toNat) (k := 6) (by decide) (by have := h.1; have := h.2; omega)
  rw [len_tl', tl_numI h.1]
  exact this
theorem log_ok {x : Int} (h : Sn x) : x.natAbs.log2 < 1920 := by
  have h1 : x.natAbs < 2 ^ 1920 := Nat.lt_of_lt_of_le (show x.natAbs < 2 ^ 20 by have := h.1; have := h.2; omega) (Nat.pow_le_pow_right (by decide) (by decide))
  by_cases h0 : x.natAbs = 0
  · rw [h0]; decide
  · exact (Nat.log2_lt h0).mpr h1
theorem abs_ok {x : Int} (h : Sn x) : x.natAbs < 2 ^ 64 := Nat.lt_of_lt_of_le (show x.natAbs < 2 ^ 20 by have := h.1; have := h.2; omega) (Nat.pow_le_pow_right (by decide) (by decide))
structure Wr (P : PT) : Prop where
  n1 : 1 + P.1.length + P.2.1.length + P.2.2.1.length + P.2.2.2.length ≤ 5000001
  n : P.1.length + P.2.1.length + P.2.2.1.length + P.2.2.2.length ≤ 5000001
  iN : ∀ s ∈ P.1, s.length ≤ 5000000
  lN : ∀ p ∈ P.2.1, p.1.length ≤ 5000000 ∧ Sn p.2.1 ∧ Sn p.2.2
  aN : ∀ p ∈ P.2.2.1, Sn p.1 ∧ Sn p.2
  oN : ∀ p ∈ P.2.2.2, p.1.length ≤ 5000000 ∧ Sn p.2
theorem li : ("input " : Str).length = 6 := by decide +kernel
theorem lla : ("latch " : Str).length = 6 := by decide +kernel
theorem lo : ("output " : Str).length = 7 := by decide +kernel
theorem lsp : (" " : Str).length = 1 := by decide +kernel
theorem lnl : ("\n" : Str).length = 1 := by decide +kernel
theorem land : ("and" : Str).length = 3 := by decide +kernel
theorem joined_ok {p : Int × Int} (h : Sn p.1 ∧ Sn p.2) : m_joined_words ("and" : Str) p = some (lnA p) := by
  unfold m_joined_words
  have h1 := nS_len h.1
  have h2 := nS_len h.2
  refine gI (ll (Nat.le_trans (show 2 ≤ 2 from Nat.le_refl _) (by decide))) (bI (a := [nS p.1, nS p.2]) ?_ (gI (ll (Nat.le_trans (show 3 ≤ 3 from Nat.le_refl _) (by decide))) (gI ?_ rfl)))
  · refine fmO_all (g := nS) (xs := [p.1, p.2]) fun x hx => ?_
    rcases List.mem_cons.mp hx with rfl | hx
    · exact gI (abs_ok h.1) rfl
    · rw [List.mem_singleton.mp hx]; exact gI (abs_ok h.2) rfl
  · show (3 + ((nS p.1).length + ((nS p.2).length + 0))) + 3 * 1 ≤ 16777216
    omega
theorem lines_ok {P : PT} (h : Wr P) : m_circuit_lines (netOf P) = some (linesOf P) := by
  have hn := h.n
  unfold m_circuit_lines
  refine gI (ll (by dsimp only; omega)) (bI (fmO_all (g := lnI) fun s hs => ?_) (gI (ll ?_) (gI (ll (by dsimp only; omega)) (bI (fmO_all (g := lnL) fun p hp => ?_) (gI (ll ?_) (gI (ll (by dsimp only; omega)) (bI (fmO_all (g := lnA) fun p hp => bI (joined_ok (h.aN p hp)) rfl) (gI (ll ?_) (gI (ll (by dsimp only; omega)) (bI (fmO_all (g := lnO) fun p hp => ?_) (gI (ll ?_) rfl)))))))))))
  · have := h.iN s hs
    exact gI (ll (by omega)) (gI (ll (by rw [li]; omega)) rfl)
  · simp; omega
  · obtain ⟨a, b, c⟩ := h.lN p hp
    have : (Str.ofString (toString p.2.1)).length ≤ 6 := nS_len b
    have : (Str.ofString (toString p.2.2)).length ≤ 6 := nS_len c
    exact gI (ll (by omega)) (gI (log_ok b) (gI (log_ok c) (gI (ll (by rw [lla, lsp]; omega)) rfl)))
  · simp; omega
  · simp; omega
  · obtain ⟨a, b⟩ := h.oN p hp
    have : (Str.ofString (toString p.2)).length ≤ 6 := nS_len b
    exact gI (ll (by omega)) (gI (log_ok b) (gI (ll (by rw [lo, lsp]; omega)) rfl))
  · simp; omega
theorem le_sum : ∀ {xs : List Nat} {x : Nat}, x ∈ xs → x ≤ xs.sum
  | y :: r, x, h => by
    rw [List.sum_cons]
    rcases List.mem_cons.mp h with h | h
    · omega
    · have := le_sum h; omega
theorem linesOf_len (P : PT) : (linesOf P).length = 1 + P.1.length + P.2.1.length + P.2.2.1.length + P.2.2.2.length := by
  unfold linesOf
  simp only [List.length_append, List.length_map, List.length_singleton]
theorem sum_map_add {xs : List Str} {k : Nat} {f : Str → Str} (h : ∀ x, (f x).length = x.length + k) : ((xs.map f).map (·.length)).sum = (xs.map (·.length)).sum + xs.length * k := by
  induction xs with
  | nil => simp
  | cons x r ih => simp only [List.map_cons, List.sum_cons, List.length_cons, h, Nat.add_mul] at ih ⊢; omega
theorem cat_len' (a b : Str) : (a ++ b).length = a.length + b.length := by rw [len_tl', tl_cat, List.length_append, ← len_tl', ← len_tl']
theorem nl_len (x : Str) : (x ++ ("\n" : Str)).length = x.length + 1 := by rw [cat_len', lnl]
theorem empty_len : ("" : Str).length = 0 := by decide +kernel
def glue (L : List Str) : Str := Txt.join ("" : Str) (L.map fun l => l ++ ("\n" : Str))
theorem glue_ok {L : List Str} (h1 : L.length ≤ 5000001) (h2 : (L.map (·.length)).sum ≤ 6000000) : guardO (L.length ≤ sizeLine) ((fmO L fun line => (guardO (line.length + ("\n" : Str).length ≤ sizeLine) (some (some (line ++ ("\n" : Str)))))).bind fun ys => guardO ((ys.map (·.length)).sum + ys.length * ("" : Str).length ≤ 16777216) (some (Txt.join ("" : Str) ys))) = some (glue L) := by
  refine gI (ll (by omega)) (bI (fmO_all (g := fun l => l ++ ("\n" : Str)) fun l hl => gI (ll ?_) rfl) (gI ?_ rfl))
  · have : l.length ≤ (L.map (·.length)).sum := le_sum (List.mem_map.mpr ⟨l, hl, rfl⟩)
    rw [lnl]; omega
  · rw [sum_map_add (k := 1) nl_len, empty_len]; omega
theorem write_ok {P : PT} (h : Wr P) (h2 : ((linesOf P).map (·.length)).sum ≤ 6000000) : m_write_circuit (netOf P) = some (glue (linesOf P)) := by
  unfold m_write_circuit
  refine bI (lines_ok h) (glue_ok ?_ h2)
  have := h.n
  rw [linesOf_len]
  -- one line more than the entries
  exact Nat.le_trans (by omega) (h.n1)
theorem glue_tl (L : List Str) : (glue L).cps.toList = (L.map fun l => l.cps.toList ++ [10]).flatten := by
  unfold glue
  rw [tl_joinE, List.map_map]
  refine congrArg List.flatten (List.map_congr_left fun l _ => ?_)
  show (l ++ ("\n" : Str)).cps.toList = _
  rw [tl_cat]
  rw [show ("\n" : Str).cps.toList = [10] from nl_tl]
theorem glue_back {t : Str} {L : List Str} (h : wds 10 t = L ++ [("" : Str)]) : glue L = t := by
  refine tl_ext ?_
  rw [glue_tl]
  have hj := join_wds (s := t) nl_tl
  rw [h] at hj
  have e : (Txt.join nlS (L ++ [("" : Str)])).cps.toList = TL.joinL [10] ((L ++ [("" : Str)]).map fun y => y.cps.toList) := by
    rw [show Txt.join nlS (L ++ [("" : Str)]) = Str.join nlS (L ++ [("" : Str)]) from TL.join_eq _ _]
    refine (TL.tl_join nlS _).trans ?_
    show TL.joinL nlS.cps.toList _ = _
    rw [nl_tl]
  rw [← hj, e, List.map_append]
  have e0 : ([("" : Str)].map fun y : Str => y.cps.toList) = [[]] := by decide +kernel
  rw [e0, joinL_last, List.map_map]
  rfl
theorem glue_len (L : List Str) : (glue L).length ≤ (L.map (·.length)).sum + L.length := by
  unfold glue
  have := join_len ("" : Str) (L.map fun l => l ++ ("\n" : Str))
  rw [sum_map_add (k := 1) nl_len, empty_len] at this
  omega
/-! ### what is read is written again -/
theorem join_two (a b : Str) : Txt.join spS [a, b] = (a ++ spS) ++ b := by
  refine tl_ext ?_
  rw [show Txt.join spS [a, b] = Str.join spS [a, b] from TL.join_eq _ _]
  refine (TL.tl_join spS _).trans ?_
  rw [tl_cat, tl_cat]
  show a.cps.toList ++ (spS.cps.toList ++ b.cps.toList) = _
  rw [List.append_assoc]
theorem join_more (a b : Str) (r : List Str) : Txt.join spS (a :: b :: r) = (a ++ spS) ++ Txt.join spS (b :: r) := by
  refine tl_ext ?_
  rw [show Txt.join spS (a :: b :: r) = Str.join spS (a :: b :: r) from TL.join_eq _ _, show Txt.join spS (b :: r) = Str.join spS (b :: r) from TL.join_eq _ _]
  refine (TL.tl_join spS _).trans ?_
  rw [tl_cat, tl_cat]
  have := TL.tl_join spS (b :: r)
  show a.cps.toList ++ (spS.cps.toList ++ TL.joinL (TL.tl spS) ((b :: r).map TL.tl)) = _
  rw [← this, List.append_assoc]
theorem back (l : Str) : Txt.join spS (W l) = l := join_wds sp_tl
theorem tl_in : ("input " : Str).cps.toList = ("input" : Str).cps.toList ++ [32] := by decide +kernel
theorem tl_la : ("latch " : Str).cps.toList = ("latch" : Str).cps.toList ++ [32] := by decide +kernel
theorem tl_ou : ("output " : Str).cps.toList = ("output" : Str).cps.toList ++ [32] := by decide +kernel
theorem tl_em : Str.empty.cps.toList = [] := rfl
theorem back1 {l : Str} (h : fine l = true) (hk : kd l = 1) : lnI (wd l 1) = l := by
  have e := back l
  rw [fine1 h hk, join_two] at e
  have e0 : wd l 0 = ("input" : Str) := (kd_word (j := 1) (by decide) rfl).mpr hk
  rw [e0] at e
  refine Eq.trans ?_ e
  refine tl_ext ?_
  unfold lnI
  rw [tl_cat, tl_cat, tl_cat, tl_cat, tl_in, tl_em, sp_tl]; rfl
theorem back2 {l : Str} (h : fine l = true) (hk : kd l = 2) : lnL (rL l) = l := by
  have e := back l
  obtain ⟨hw, h1, h2⟩ := fine2 h hk
  rw [hw, join_more, join_more, join_two] at e
  have e0 : wd l 0 = ("latch" : Str) := (kd_word (j := 2) (by decide) rfl).mpr hk
  rw [e0] at e
  refine Eq.trans ?_ e
  unfold lnL rL
  dsimp only
  rw [show nS (numV (wd l 2)) = wd l 2 from (numB_val h1).2.2.2.1, show nS (numV (wd l 3)) = wd l 3 from (numB_val h2).2.2.2.1]
  refine tl_ext ?_
  simp only [tl_cat, tl_la, tl_em]
  rw [show (" " : Str).cps.toList = [32] from sp_tl]
  simp
theorem back3 {l : Str} (h : fine l = true) (hk : kd l = 3) : lnA (rA l) = l := by
  have e := back l
  obtain ⟨hw, h1, h2⟩ := fine3 h hk
  rw [hw] at e
  have e0 : wd l 0 = ("and" : Str) := (kd_word (j := 3) (by decide) rfl).mpr hk
  rw [e0] at e
  refine Eq.trans ?_ e
  unfold lnA rA
  dsimp only
  rw [show nS (numV (wd l 1)) = wd l 1 from (numB_val h1).2.2.2.1, show nS (numV (wd l 2)) = wd l 2 from (numB_val h2).2.2.2.1]
  rfl
theorem back4 {l : Str} (h : fine l = true) (hk : kd l = 4) : lnO (rO l) = l := by
  have e := back l
  obtain ⟨hw, h1⟩ := fine4 h hk
  rw [hw, join_more, join_two] at e
  have e0 : wd l 0 = ("output" : Str) := (kd_word (j := 4) (by decide) rfl).mpr hk
  rw [e0] at e
  refine Eq.trans ?_ e
  unfold lnO rO
  dsimp only
  rw [show nS (numV (wd l 2)) = wd l 2 from (numB_val h1).2.2.2.1]
  refine tl_ext ?_
  simp only [tl_cat, tl_ou, tl_em]
  rw [show (" " : Str).cps.toList = [32] from sp_tl]
  simp
theorem map_back {T : List Str} {f : Str → Str} (h : ∀ l ∈ T, f l = l) : T.map f = T := by
  have : T.map f = T.map id := List.map_congr_left fun l hl => h l hl
  rw [this, List.map_id]
theorem lines_back {L : List Str} (h0 : L ≠ []) (hg : ∀ i, i < L.length → bad L i = false) : linesOf (parts L) = L ∧ ∀ l ∈ L, fine l = true := by
  have hS := srt (L := L) (k := L.length) (Nat.le_refl _) hg
  have hl0 : 0 < L.length := List.length_pos_iff.mpr h0
  have f0 := hS.f0 hl0
  have eq := hS.eq
  have fn := hS.fn
  rw [List.take_length] at f0 eq fn
  have hm : ∀ {j : Nat} {l : Str}, l ∈ fl j L → kd l = j ∧ fine l = true := fun {j l} hl => by
    have := List.mem_filter.mp hl
    exact ⟨of_decide_eq_true this.2, fn l this.1⟩
  refine ⟨?_, fn⟩
  unfold linesOf parts pI pL pA pO
  dsimp only
  rw [List.map_map, List.map_map, List.map_map, List.map_map]
  rw [map_back (f := lnI ∘ fun l => wd l 1) (T := fl 1 L) fun l hl => back1 (hm hl).2 (hm hl).1, map_back (f := lnL ∘ rL) (T := fl 2 L) fun l hl => back2 (hm hl).2 (hm hl).1, map_back (f := lnA ∘ rA) (T := fl 3 L) fun l hl => back3 (hm hl).2 (hm hl).1, map_back (f := lnO ∘ rO) (T := fl 4 L) fun l hl => back4 (hm hl).2 (hm hl).1]
  refine Eq.trans ?_ eq.symm
  rw [f0]
  simp
/-! ### changed lines -/
structure Ln (B : Nat) (s : Str) : Prop where
  sg : ∀ c ∈ s.cps.toList, c < 128
  len : s.length ≤ B
theorem Ln.mono {B C : Nat} {s : Str} (h : Ln B s) (hc : B ≤ C) : Ln C s := ⟨h.sg, Nat.le_trans h.len hc⟩
def lnB (s : Str) : Bool := s.cps.toList.all (fun c => decide (c < 128)) && decide (s.length ≤ 10)
theorem lnB_ln {s : Str} (h : lnB s = true) : Ln 10 s := by
  unfold lnB at h
  rw [Bool.and_eq_true, decide_eq_true_eq] at h
  exact ⟨fun c hc => of_decide_eq_true (List.all_eq_true.mp h.1 c hc), h.2⟩
theorem cutL_len {α : Type} (xs : List α) (a b : Option Int) : (cutL xs a b).length ≤ xs.length := by
  unfold cutL
  rw [List.length_take, List.length_drop]
  omega
theorem cutL_mem {α : Type} {xs : List α} {a b : Option Int} {x : α} (h : x ∈ cutL xs a b) : x ∈ xs := List.mem_of_mem_drop (List.mem_of_mem_take h)
theorem sum_take {α : Type} {f : α → Nat} : ∀ (xs : List α) (n : Nat), ((xs.take n).map f).sum + ((xs.drop n).map f).sum = (xs.map f).sum
  | [], n => by simp
  | x :: r, 0 => by simp
  | x :: r, n + 1 => by
    have := sum_take (f := f) r n
    simp only [List.take_succ_cons, List.drop_succ_cons, List.map_cons, List.sum_cons]
    omega
theorem sum_drop_le {α : Type} {f : α → Nat} (xs : List α) (n m : Nat) (h : n ≤ m) : ((xs.drop m).map f).sum ≤ ((xs.drop n).map f).sum := by
  have h1 := sum_take (f := f) xs n
  have h2 := sum_take (f := f) (xs.drop n) (m - n)
  rw [List.drop_drop, show n + (m - n) = m by omega] at h2
  omega
theorem odd_ln : ∀ v ∈ [("" : Str), (" " : Str), ("circuit" : Str), ("and 0 1 2" : Str), ("and 0" : Str), ("input" : Str), ("input a b" : Str), ("latch x 0" : Str), ("Output y 1" : Str), ("output  1" : Str), ("next 3" : Str)], lnB v = true := by decide +kernel
theorem word_ln : ∀ v ∈ [("" : Str), ("00" : Str), ("07" : Str), ("1234567" : Str), ("-1" : Str), ("+1" : Str), ("x" : Str), ("1." : Str), ("999999" : Str), ("1_0" : Str)], lnB v = true := by decide +kernel
/-- words put together again, one of them another one -/
theorem glued {l v : Str} {B : Nat} {a b : Nat} (hl : Ln B l) (hv : Ln 10 v) (hab : a ≤ b) : (((W l).take a ++ [v] ++ (W l).drop b).map (·.length)).sum + ((W l).take a ++ [v] ++ (W l).drop b).length * (" " : Str).length ≤ 2 * B + 12 ∧ Ln (2 * B + 12) (Txt.join (" " : Str) ((W l).take a ++ [v] ++ (W l).drop b)) := by
  have hs := wds_sum 32 l
  have hc := wds_len 32 l
  have h1 := sum_take (f := fun x : Str => x.length) (W l) a
  have h2 := sum_drop_le (f := fun x : Str => x.length) (W l) a b hab
  have hB := hl.len
  have hvl := hv.len
  have e : ((wds 32 l).map (·.length)).sum = ((W l).map fun x : Str => x.length).sum := rfl
  have e2 : (wds 32 l).length = (W l).length := rfl
  have key : (((W l).take a ++ [v] ++ (W l).drop b).map (·.length)).sum + ((W l).take a ++ [v] ++ (W l).drop b).length * (" " : Str).length ≤ 2 * B + 12 := by
    rw [lsp]
    simp only [List.map_append, List.sum_append, List.length_append, List.length_take, List.length_drop, List.map_cons, List.map_nil, List.sum_cons, List.sum_nil, List.length_singleton]
    omega
  refine ⟨key, fun c hc2 => ?_, Nat.le_trans (join_len _ _) key⟩
  rcases join_mem hc2 with h | ⟨y, hy, h⟩
  · rw [show (" " : Str).cps.toList = [32] from sp_tl] at h
    rw [List.mem_singleton.mp h]; decide
  · have hw : ∀ y ∈ W l, ∀ c ∈ y.cps.toList, c < 128 := fun y hy c hc => hl.sg c ((wds_sub hy).2.1 c hc)
    rcases List.mem_append.mp hy with hy | hy
    · rcases List.mem_append.mp hy with hy | hy
      · exact hw y (List.mem_of_mem_take hy) c h
      · rw [List.mem_singleton.mp hy] at h; exact hv.sg c h
    · exact hw y (List.mem_of_mem_drop hy) c h
theorem changed_ok {L : List Str} {r : Int} {N B : Nat} (hL : L.length ≤ N) (hl : ∀ l ∈ L, Ln B l) (hN : N ≤ 10000) (hB : B ≤ 100000) : Tot (m__law_changed L r) fun L' => L'.length ≤ N + 1 ∧ ∀ l ∈ L', Ln (2 * B + 12) l := by
  have hl2 : ∀ l ∈ L, Ln (2 * B + 12) l := fun l h => (hl l h).mono (by omega)
  have hc : ∀ a b, ∀ l ∈ cutL L a b, Ln (2 * B + 12) l := fun a b l h => hl2 l (cutL_mem h)
  have hcl : ∀ a b, (cutL L a b).length ≤ L.length := fun a b => cutL_len _ _ _
  have two : ∀ pl : Int, 0 ≤ pl → (cutL L none (some pl)).length + (cutL L (some pl) none).length ≤ L.length := fun pl h0 => by
    rw [cutL_all h0, cutL_from h0, List.length_take, List.length_drop]; omega
  have two1 : ∀ pl : Int, 0 ≤ pl → pl < L.length → (cutL L none (some pl)).length + (cutL L (some (pl + 1)) none).length + 1 = L.length := fun pl h0 h1 => by
    rw [cutL_all h0, cutL_from (by omega), List.length_take, List.length_drop]; omega
  unfold m__law_changed
  refine tLe fun odd hodd => tAt (by omega) (by show _ < (10 : Int); omega) fun v hv => ?_
  have hvl := lnB_ln (word_ln v (mem_of_atI hv))
  clear hv
  refine tG (by split <;> omega) (tLe fun pl hpl => tLe fun kind hk => ?_)
  have p0 : 0 ≤ pl := by rw [hpl]; exact Int.emod_nonneg _ (by split <;> omega)
  have p1 : pl < (if (L.length : Int) > 1 then (L.length : Int) else 1) := by rw [hpl]; exact Int.emod_lt_of_pos _ (by split <;> omega)
  clear hpl
  refine tC (fun _ => ?_) (fun hz => ?_)
  · refine tAt (by omega) (by rw [hodd]; show _ < (11 : Int); omega) fun u hu => ?_
    have hul : Ln (2 * B + 12) u := (lnB_ln (odd_ln u (by rw [← hodd]; exact mem_of_atI hu))).mono (by omega)
    have t := two pl p0
    have c1 := hcl none (some pl)
    have c2 := hcl (some pl) none
    refine tG (ll (by show _ + 1 ≤ _; omega)) (tG (ll (by rw [List.length_append]; show _ + 1 + _ ≤ _; omega)) (tR ⟨by rw [List.length_append, List.length_append]; show _ + 1 + _ ≤ _; omega, fun l h => ?_⟩))
    rcases List.mem_append.mp h with h | h
    · rcases List.mem_append.mp h with h | h
      · exact hc _ _ l h
      · rw [List.mem_singleton.mp h]; exact hul
    · exact hc _ _ l h
  · have hL0 : ¬ (L.length : Int) = 0 := by
      rw [Bool.or_eq_false_iff] at hz
      exact of_decide_eq_false hz.1
    have hpl : pl < L.length := by
      by_cases h1 : (L.length : Int) > 1
      · rw [if_pos h1] at p1; exact p1
      · rw [if_neg h1] at p1; omega
    have t := two1 pl p0 hpl
    have t0 := two pl p0
    have c1 := hcl none (some pl)
    have c2 := hcl (some (pl + 1)) none
    refine tC (fun _ => ?_) (fun _ => tC (fun _ => ?_) (fun _ => tC (fun _ => ?_) (fun _ => ?_)))
    · refine tG (ll (by omega)) (tR ⟨by rw [List.length_append]; omega, fun l h => ?_⟩)
      rcases List.mem_append.mp h with h | h
      · exact hc _ _ l h
      · exact hc _ _ l h
    · refine tAt p0 hpl fun u hu => tAt p0 hpl fun u' hu' => tG (ll (by show _ + 2 ≤ _; omega)) (tG (ll (by rw [List.length_append]; show _ + 2 + _ ≤ _; omega)) (tR ⟨by rw [List.length_append, List.length_append]; show _ + 2 + _ ≤ _; omega, fun l h => ?_⟩))
      rcases List.mem_append.mp h with h | h
      · rcases List.mem_append.mp h with h | h
        · exact hc _ _ l h
        · rcases List.mem_cons.mp h with rfl | h
          · exact hl2 _ (mem_of_atI hu)
          · rw [List.mem_singleton.mp h]; exact hl2 _ (mem_of_atI hu')
      · exact hc _ _ l h
    · refine tAt p0 hpl fun u hu => tG (ll (by show _ + 1 ≤ _; omega)) (tG (ll (by rw [List.length_append]; show _ + 1 + _ ≤ _; omega)) (tR ⟨by rw [List.length_append, List.length_append]; show _ + 1 + _ ≤ _; omega, fun l h => ?_⟩))
      rcases List.mem_append.mp h with h | h
      · rcases List.mem_append.mp h with h | h
        · exact hc _ _ l h
        · rw [List.mem_singleton.mp h]; exact hl2 _ (mem_of_atI hu)
      · exact hc _ _ l h
    · refine tAt p0 hpl fun u hu => ?_
      have hu2 := hl u (mem_of_atI hu)
      have hul := hu2.len
      have e3 : Txt.split u (" " : Str) = W u := split_sp u
      rw [e3]
      have hW0 := W_ne u
      have hWl : (W u).length ≤ B + 1 := Nat.le_trans (wds_len 32 u) (by omega)
      refine tG (ll (by omega)) (tG (by omega) (tLe fun ap hap => ?_))
      have a0 : 0 ≤ ap := by rw [hap]; exact Int.emod_nonneg _ (by omega)
      clear hap
      rw [cutL_all a0, cutL_from (n := ap + 1) (by omega), cutL_from a0]
      have d1 : ((W u).take ap.toNat).length ≤ (W u).length := by rw [List.length_take]; omega
      have d2 : ((W u).drop ap.toNat).length ≤ (W u).length := by rw [List.length_drop]; omega
      have d3 : ((W u).drop (ap + 1).toNat).length ≤ (W u).length := by rw [List.length_drop]; omega
      refine tC (fun _ => ?_) (fun _ => ?_)
      · obtain ⟨g1, g2⟩ := glued (a := ap.toNat) (b := (ap + 1).toNat) hu2 hvl (by omega)
        refine tG (ll (by show _ + 1 ≤ _; omega)) (tG (ll (by rw [List.length_append]; show _ + 1 + _ ≤ _; omega)) (tG (Nat.le_trans g1 (by omega)) (tG (ll (by show _ + 1 ≤ _; omega)) (tG (ll (by rw [List.length_append]; show _ + 1 + _ ≤ _; omega)) (tR ⟨by rw [List.length_append, List.length_append]; show _ + 1 + _ ≤ _; omega, fun l h => ?_⟩)))))
        rcases List.mem_append.mp h with h | h
        · rcases List.mem_append.mp h with h | h
          · exact hc _ _ l h
          · rw [List.mem_singleton.mp h]; exact g2
        · exact hc _ _ l h
      · obtain ⟨g1, g2⟩ := glued (a := ap.toNat) (b := ap.toNat) (v := ("" : Str)) hu2 (lnB_ln (by decide +kernel)) (Nat.le_refl _)
        refine tG (ll (by show _ + 1 ≤ _; omega)) (tG (ll (by rw [List.length_append]; show _ + 1 + _ ≤ _; omega)) (tG (Nat.le_trans g1 (by omega)) (tG (ll (by show _ + 1 ≤ _; omega)) (tG (ll (by rw [List.length_append]; show _ + 1 + _ ≤ _; omega)) (tR ⟨by rw [List.length_append, List.length_append]; show _ + 1 + _ ≤ _; omega, fun l h => ?_⟩)))))
        rcases List.mem_append.mp h with h | h
        · rcases List.mem_append.mp h with h | h
          · exact hc _ _ l h
          · rw [List.mem_singleton.mp h]; exact g2
        · exact hc _ _ l h
end K13

/-! K13U -/
namespace K13
open PySem PySem.Spec L2 Ty
theorem ok_of_circ {P : PT} (h : CircOk P.1 P.2.1 P.2.2.1 P.2.2.2) : Ok P :=
  ⟨h.i1, h.l1, h.a1, h.o1, fun s hs => nm_nameB (h.iN s hs), fun p hp => nm_nameB (h.lN p hp), fun p hp => nm_nameB (h.oN p hp), h.nd, h.on, h.lv, fun k p hp => by have := h.wf.2 k p hp; exact this, h.ov⟩
theorem nm_ln {s : Str} (h : Nm s) : Ln 12 s := ⟨fun c hc => by rcases h.al c hc with z | z | z <;> omega, by rw [len_tl']; exact h.l2⟩
theorem nS_ln {x : Int} (h : Sn x) : Ln 6 (nS x) := ⟨fun c hc => by
  rw [tl_numI h.1] at hc
  have := TL.numL_digits _ c hc
  omega, nS_len h⟩
theorem Ln.cat {B C : Nat} {a b : Str} (h1 : Ln B a) (h2 : Ln C b) : Ln (B + C) (a ++ b) := ⟨fun c hc => by
  rw [tl_cat] at hc
  rcases List.mem_append.mp hc with hc | hc
  · exact h1.sg c hc
  · exact h2.sg c hc, by rw [cat_len']; have := h1.len; have := h2.len; omega⟩
theorem ln_w {s : Str} (h : lnB s = true) : Ln 10 s := lnB_ln h
theorem ln_em : Ln 0 Str.empty := ⟨fun c hc => absurd hc (by rw [tl_em]; exact List.not_mem_nil), Nat.le_refl _⟩
/-- a circuit as it is drawn -/
theorem drawn_lines {P : PT} (h : CircOk P.1 P.2.1 P.2.2.1 P.2.2.2) (h1 : P.1.length ≤ 3) (h2 : P.2.1.length ≤ 2) (h3 : P.2.2.1.length ≤ 5) (h4 : P.2.2.2.length ≤ 3) : Wr P ∧ (∀ l ∈ linesOf P, Ln 50 l) ∧ (linesOf P).length ≤ 14 := by
  have hs : ∀ {x : Int}, 0 ≤ x → x < 2 * (1 + P.1.length + P.2.1.length + P.2.2.1.length : Int) → Sn x := fun {x} a b => ⟨a, by omega⟩
  have hL : ∀ p ∈ P.2.1, Sn p.2.1 ∧ Sn p.2.2 := fun p hp => by
    obtain ⟨⟨a, b⟩, c, d⟩ := h.lv p hp
    exact ⟨⟨a, by omega⟩, hs c d⟩
  have hA : ∀ p ∈ P.2.2.1, Sn p.1 ∧ Sn p.2 := fun p hp => by
    obtain ⟨k, hk⟩ := List.getElem?_of_mem hp
    have := h.wf.2 k p hk
    have := (List.getElem?_eq_some_iff.mp hk).1
    exact ⟨⟨by omega, by omega⟩, by omega, by omega⟩
  have hO : ∀ p ∈ P.2.2.2, Sn p.2 := fun p hp => by
    obtain ⟨a, b⟩ := h.ov p hp
    exact hs a b
  refine ⟨⟨by omega, by omega, fun s hs => by have := (nm_ln (h.iN s hs)).len; omega, fun p hp => ⟨by have := (nm_ln (h.lN p hp)).len; omega, hL p hp⟩, hA, fun p hp => ⟨by have := (nm_ln (h.oN p hp)).len; omega, hO p hp⟩⟩, fun l hl => ?_, by rw [linesOf_len]; omega⟩
  have w1 : Ln 10 (" " : Str) := ln_w (by decide +kernel)
  unfold linesOf at hl
  rcases List.mem_append.mp hl with hl | hl
  · rcases List.mem_append.mp hl with hl | hl
    · rcases List.mem_append.mp hl with hl | hl
      · rcases List.mem_append.mp hl with hl | hl
        · rw [List.mem_singleton.mp hl]; exact (ln_w (by decide +kernel)).mono (by decide)
        · obtain ⟨s, hs, rfl⟩ := List.mem_map.mp hl
          exact ((ln_em.cat (ln_w (by decide +kernel))).cat (nm_ln (h.iN s hs))).mono (by decide)
      · obtain ⟨p, hp, rfl⟩ := List.mem_map.mp hl
        have a := ((((ln_em.cat (ln_w (s := "latch ") (by decide +kernel))).cat (nm_ln (h.lN p hp))).cat (⟨by rw [show (" " : Str).cps.toList = [32] from sp_tl]; simp, by rw [lsp]; exact Nat.le_refl 1⟩ : Ln 1 (" " : Str))).cat (nS_ln (hL p hp).1)).cat (⟨by rw [show (" " : Str).cps.toList = [32] from sp_tl]; simp, by rw [lsp]; exact Nat.le_refl 1⟩ : Ln 1 (" " : Str))
        exact (a.cat (nS_ln (hL p hp).2)).mono (by decide)
    · obtain ⟨p, hp, rfl⟩ := List.mem_map.mp hl
      unfold lnA
      refine ⟨fun c hc => ?_, Nat.le_trans (join_len _ _) ?_⟩
      · rcases join_mem hc with hc | ⟨y, hy, hc⟩
        · rw [show (" " : Str).cps.toList = [32] from sp_tl] at hc
          rw [List.mem_singleton.mp hc]; decide
        · rcases List.mem_cons.mp hy with rfl | hy
          · exact (ln_w (s := "and") (by decide +kernel)).sg c hc
          · rcases List.mem_cons.mp hy with rfl | hy
            · exact (nS_ln (hA p hp).1).sg c hc
            · rw [List.mem_singleton.mp hy] at hc; exact (nS_ln (hA p hp).2).sg c hc
      · have a := nS_len (hA p hp).1
        have b := nS_len (hA p hp).2
        rw [lsp]
        show ((("and" : Str).length + ((nS p.1).length + ((nS p.2).length + 0)))) + 3 * 1 ≤ 50
        rw [land]
        omega
  · obtain ⟨p, hp, rfl⟩ := List.mem_map.mp hl
    exact ((((ln_em.cat (ln_w (s := "output ") (by decide +kernel))).cat (nm_ln (h.oN p hp))).cat w1).cat (nS_ln (hO p hp))).mono (by decide)
theorem sum_le {B : Nat} : ∀ {L : List Str}, (∀ l ∈ L, l.length ≤ B) → (L.map (·.length)).sum ≤ L.length * B
  | [], _ => by simp
  | l :: r, h => by
    have h1 := h l List.mem_cons_self
    have h2 := sum_le (L := r) fun x hx => h x (List.mem_cons_of_mem _ hx)
    simp only [List.map_cons, List.sum_cons, List.length_cons, Nat.add_mul, Nat.one_mul]
    omega
theorem glue_sg {L : List Str} {B : Nat} (h : ∀ l ∈ L, Ln B l) : ∀ c ∈ (glue L).cps.toList, c < 128 := fun c hc => by
  rw [glue_tl] at hc
  obtain ⟨p, hp, hc⟩ := List.mem_flatten.mp hc
  obtain ⟨l, hl, rfl⟩ := List.mem_map.mp hp
  rcases List.mem_append.mp hc with hc | hc
  · exact (h l hl).sg c hc
  · rw [List.mem_singleton.mp hc]; decide
def Bd : Nat → Nat
  | 0 => 714
  | n + 1 => 2 * Bd n + 12
theorem bd_le {n : Nat} (h : n ≤ 3) : Bd n ≤ 5796 := by
  have : n = 0 ∨ n = 1 ∨ n = 2 ∨ n = 3 := by omega
  rcases this with rfl | rfl | rfl | rfl <;> decide
theorem Tx.empty : Tx ("" : Str) := ⟨fun c hc => absurd hc (by rw [show ("" : Str).cps.toList = [] by decide +kernel]; exact List.not_mem_nil), by rw [empty_len]; decide⟩
theorem Tx.wdi {l : Str} (h : Tx l) (i : Nat) : Tx (K13.wd l i) := by
  unfold K13.wd
  by_cases hi : i < (W l).length
  · rw [List.getElem?_eq_getElem hi]
    exact h.wd (c := 32) (List.getElem_mem hi)
  · rw [List.getElem?_eq_none (by omega)]
    exact Tx.empty
theorem sm_parts {L : List Str} (h : ∀ l ∈ L, Tx l) (hl : L.length ≤ 5000000) : Sm (parts L) := by
  have hf : ∀ j, (fl j L).length ≤ L.length := fun j => List.length_filter_le _ _
  have h1 := hf 1
  have h2 := hf 2
  have h3 := hf 3
  have h4 := hf 4
  have hm : ∀ {j : Nat} {l : Str}, l ∈ fl j L → Tx l := fun hl => h _ (List.mem_filter.mp hl).1
  refine ⟨?_, ?_, ?_, ?_, fun s hs => ?_, fun p hp => ?_, fun p hp => ?_⟩
  · show (pI L).length ≤ _; unfold pI; rw [List.length_map]; omega
  · show (pL L).length ≤ _; unfold pL; rw [List.length_map]; omega
  · show (pA L).length ≤ _; unfold pA; rw [List.length_map]; omega
  · show (pO L).length ≤ _; unfold pO; rw [List.length_map]; omega
  · obtain ⟨l, hl, rfl⟩ := List.mem_map.mp (show s ∈ (fl 1 L).map fun l => wd l 1 from hs)
    have := (hm hl).wdi 1
    exact ⟨this.ok, this.len⟩
  · obtain ⟨l, hl, rfl⟩ := List.mem_map.mp (show p ∈ (fl 2 L).map rL from hp)
    have := (hm hl).wdi 1
    exact ⟨this.ok, this.len⟩
  · obtain ⟨l, hl, rfl⟩ := List.mem_map.mp (show p ∈ (fl 4 L).map rO from hp)
    have := (hm hl).wdi 1
    exact ⟨this.ok, this.len⟩
/-! ### what is told -/
abbrev TD := Sum (Str × S_Circuit) PyData
abbrev txD (k : Int) : PyData := PyData.tuple [DE.str.enc ("text" : Str), DE.int.enc k, DE.bl.enc true, DE.bl.enc false]
abbrev paD (x : Str × Int) : PyData := PyData.tuple [DE.str.enc ("parts" : Str), DE.str.enc x.1, DE.int.enc x.2]
def dueOf (P : PT) : TD := match fault P with | some x => .inr (paD x) | none => .inl (("circuit" : Str), netOf P)
def toldOf (t : Str) : TD := match rdL t with | .inl k => .inr (txD k) | .inr P => dueOf P
theorem made_eq {P : PT} (h : Sm P) : m__law_made P = some (dueOf P) := by
  unfold m__law_made dueOf
  have e := init_eq h
  cases hf : fault P with
  | some x =>
    rw [hf] at e
    refine exI_ex e (cT (dT rfl) (bI rfl (bI rfl rfl)))
  | none =>
    rw [hf] at e
    exact exI_ok e rfl
theorem rdL_P {t : Str} (h : Tx t) {P : PT} (hr : rdL t = .inr P) : Sm P ∧ ∃ L, P = parts L ∧ wds 10 t = L ++ [("" : Str)] ∧ L ≠ [] ∧ (∀ i, i < L.length → bad L i = false) ∧ L.length ≤ t.length ∧ ∀ l ∈ L, Tx l := by
  have hlen := h.len
  obtain ⟨I, v, hR⟩ : ∃ I v, wds 10 t = I ++ [v] := ⟨_, _, (List.dropLast_concat_getLast (wds_ne 10 t)).symm⟩
  have hRl := wds_len 10 t
  have hW : ∀ l ∈ I, Tx l := fun l hl => h.wd (c := 10) (by rw [hR]; exact List.mem_append_left _ hl)
  have hIl : I.length + 1 ≤ t.length + 1 := by rw [hR] at hRl; simpa using hRl
  unfold rdL at hr
  rw [hR, List.getLast?_concat, List.dropLast_concat] at hr
  by_cases hv : v = ("" : Str)
  · rw [if_pos (by rw [hv])] at hr
    cases hf : fst1 (bad I) I.length with
    | some k => rw [hf] at hr; cases hr
    | none =>
      rw [hf] at hr
      dsimp only at hr
      by_cases h0 : I = []
      · rw [if_pos h0] at hr; cases hr
      · rw [if_neg h0] at hr
        injection hr with hr
        rw [← hr]
        exact ⟨sm_parts hW (by omega), I, rfl, by rw [hR, hv], h0, fst1_none.mp hf, by omega, hW⟩
  · rw [if_neg (by simp [hv])] at hr; cases hr
theorem rdL_k {t : Str} {k : Int} (hr : rdL t = .inl k) : 0 < k := by
  unfold rdL at hr
  split at hr
  · split at hr
    · injection hr with hr; omega
    · split at hr
      · injection hr with hr; omega
      · cases hr
  · injection hr with hr
    have := List.length_pos_iff.mpr (wds_ne 10 t)
    omega
theorem told_eq {t : Str} (h : Tx t) : m__law_told t = some (toldOf t) := by
  unfold m__law_told toldOf
  have e := read_ok h
  cases hr : rdL t with
  | inl k =>
    rw [hr] at e
    exact exI_ex e (cT (dT rfl) (bI rfl rfl))
  | inr P =>
    rw [hr] at e
    have hS := (rdL_P h hr).1
    dsimp only at e
    rw [init_eq hS] at e
    dsimp only
    unfold dueOf
    cases hf : fault P with
    | some x =>
      rw [hf] at e
      exact exI_ex (e := ("InvalidCircuit", [.s x.1, .i x.2])) e (cF (dF (show ¬ ("InvalidCircuit" : String) = "InvalidText" by decide)) (cT (dT rfl) (bI rfl (bI rfl rfl))))
    | none =>
      rw [hf] at e
      exact exI_ok (a := netOf P) e rfl
/-- what is read is written the same -/
theorem rewrite_ok {t : Str} (h : Tx t) {P : PT} (hr : rdL t = .inr P) : m_write_circuit (netOf P) = some t := by
  obtain ⟨hS, L, rfl, hw, h0, hg, hl, hT⟩ := rdL_P h hr
  obtain ⟨hb, hfi⟩ := lines_back h0 hg
  have hlen := h.len
  have hll : (linesOf (parts L)).length = L.length := by rw [hb]
  rw [linesOf_len] at hll
  have hm : ∀ {j : Nat} {l : Str}, l ∈ fl j L → kd l = j ∧ fine l = true ∧ Tx l := fun {j l} hl => by
    have := List.mem_filter.mp hl
    exact ⟨of_decide_eq_true this.2, hfi l this.1, hT l this.1⟩
  have sn : ∀ {w : Str}, numB w = true → Sn (numV w) := fun hw => ⟨(numB_val hw).2.1, (numB_val hw).2.2.1⟩
  have hWr : Wr (parts L) := by
    refine ⟨by omega, by omega, fun s hs => ?_, fun p hp => ?_, fun p hp => ?_, fun p hp => ?_⟩
    · obtain ⟨l, hl, rfl⟩ := List.mem_map.mp (show s ∈ (fl 1 L).map fun l => wd l 1 from hs)
      exact ((hm hl).2.2.wdi 1).len
    · obtain ⟨l, hl, rfl⟩ := List.mem_map.mp (show p ∈ (fl 2 L).map rL from hp)
      obtain ⟨a, b, c⟩ := hm hl
      obtain ⟨_, d, e⟩ := fine2 b a
      exact ⟨(c.wdi 1).len, sn d, sn e⟩
    · obtain ⟨l, hl, rfl⟩ := List.mem_map.mp (show p ∈ (fl 3 L).map rA from hp)
      obtain ⟨a, b, c⟩ := hm hl
      obtain ⟨_, d, e⟩ := fine3 b a
      exact ⟨sn d, sn e⟩
    · obtain ⟨l, hl, rfl⟩ := List.mem_map.mp (show p ∈ (fl 4 L).map rO from hp)
      obtain ⟨a, b, c⟩ := hm hl
      obtain ⟨_, d⟩ := fine4 b a
      exact ⟨(c.wdi 1).len, sn d⟩
  have hsum : (L.map (·.length)).sum ≤ t.length := by
    have := wds_sum 10 t
    rw [hw, List.map_append, List.sum_append] at this
    omega
  have := write_ok hWr (by rw [hb]; omega)
  rw [hb] at this
  rw [this, glue_back hw]
theorem eq_self {P : PT} (h : Sm P) : m_Circuit_eq (netOf P) (netOf P) = some true := by
  unfold m_Circuit_eq
  have a : ∀ q ∈ P.1, PyData.strOk q = true := fun q hq => (h.s0 q hq).ok
  have b : ∀ q ∈ P.2.1, (PyData.strOk q.1 = true ∧ True ∧ True) := fun q hq => ⟨(h.s1 q hq).ok, trivial, trivial⟩
  have c : ∀ q ∈ P.2.2.2, (PyData.strOk q.1 = true ∧ True) := fun q hq => ⟨(h.s3 q hq).ok, trivial⟩
  refine gI a (gI a (bI (a := false) (cF (by rw [dT rfl]; rfl) (gI b (gI b (by rw [dT rfl]; rfl)))) (cF rfl (bI (a := true) (cT (dT rfl) (gI c (gI c (by rw [dT rfl])))) rfl))))
theorem cutS_sub {s : Str} {a b : Option Int} : (cutS s a b).length ≤ s.length ∧ ∀ c ∈ (cutS s a b).cps.toList, c ∈ s.cps.toList := by
  rw [len_tl', len_tl' s]
  unfold cutS
  refine ⟨?_, fun c hc => List.mem_of_mem_drop (List.mem_of_mem_take hc)⟩
  show (List.take _ (List.drop _ s.cps.toList)).length ≤ _
  rw [List.length_take, List.length_drop]
  omega
theorem sml_txt {k : Int} (h0 : 0 ≤ k) (h1 : k ≤ 10000000) : Sml 10000000 5 (txD k) := by
  have hk : k.natAbs < 2 ^ 70 := Nat.lt_of_le_of_lt (show k.natAbs ≤ 10000000 by omega) (by decide)
  refine (Sml.tuple (w := 100) (k := 0) (n := 4) (fun d hd => ?_) (by simp)).mono (by decide) (by decide)
  rcases List.mem_cons.mp hd with rfl | hd
  · exact (Sml.str (by decide +kernel) (n := 4) (by decide +kernel)).mono (by decide) (Nat.le_refl _)
  · rcases List.mem_cons.mp hd with rfl | hd
    · exact (Sml.int hk).mono (by decide) (Nat.le_refl _)
    · rcases List.mem_cons.mp hd with rfl | hd
      · exact (Sml.bool true).mono (by decide) (Nat.le_refl _)
      · rw [List.mem_singleton.mp hd]; exact (Sml.bool false).mono (by decide) (Nat.le_refl _)
theorem sml_par {P : PT} (h : Sm P) {x : Str × Int} (hx : fault P = some x) : Sml 10000000 5 (paD x) := by
  obtain ⟨a, j, b, c⟩ := fault_cases hx
  have := h.n0
  have := h.n1
  have := h.n2
  have := h.n3
  have hk : x.2.natAbs < 2 ^ 70 := Nat.lt_of_le_of_lt (show x.2.natAbs ≤ 10000000 by omega) (by decide)
  refine (Sml.t3 (w := 100) (k := 0) ?_ ?_ ?_).mono (by decide) (by decide)
  · exact (Sml.str (by decide +kernel) (n := 5) (by decide +kernel)).mono (by decide) (Nat.le_refl _)
  · rcases a with a | a | a | a <;> rw [a] <;> exact (Sml.str (by decide +kernel) (n := 10) (by decide +kernel)).mono (by decide) (Nat.le_refl _)
  · exact (Sml.int hk).mono (by decide) (Nat.le_refl _)
theorem rdL_le {t : Str} (h : Tx t) {k : Int} (hr : rdL t = .inl k) : k ≤ 10000000 := by
  have hlen := h.len
  have hR := wds_len 10 t
  unfold rdL at hr
  split at hr
  · split at hr
    · rename_i k' hk'
      injection hr with hr
      have := (fst1_lt hk').1
      rw [List.length_dropLast] at this
      omega
    · split at hr
      · injection hr with hr; omega
      · cases hr
  · injection hr with hr
    omega
theorem end_ok {t : Str} (h : Tx t) : Tot ((m__law_reading t).bind fun r_652 =>
  (m__law_told t).bind fun r_654 =>
  bif decide ((0 : Int) < r_652.1) then (
  (Sum.getRight? r_654).bind fun u_656 =>
  guardO (SeqAt.shaped u_656 = true) <|
  guardO (SeqAt.shaped (PyData.tuple [DE.str.enc ("text" : Str), DE.int.enc r_652.1, DE.bl.enc true, DE.bl.enc false]) = true) <|
  some (PyData.eqv u_656 (PyData.tuple [DE.str.enc ("text" : Str), DE.int.enc r_652.1, DE.bl.enc true, DE.bl.enc false])))
  else (
  (r_652.2).bind fun u_660 =>
  (m__law_made u_660).bind fun r_662 =>
  (hdS r_662).bind fun t_664 =>
  (bif decide (t_664 = ("parts" : Str)) then some true else ((hdS r_654).bind fun t_666 => some (!decide (t_666 = ("circuit" : Str))))).bind fun b_668 =>
  bif b_668 then (
  (Sum.getRight? r_654).bind fun u_670 =>
  (Sum.getRight? r_662).bind fun u_672 =>
  guardO (SeqAt.shaped u_670 = true) <|
  guardO (SeqAt.shaped u_672 = true) <|
  some (PyData.eqv u_670 u_672))
  else (
  (Sum.getLeft? r_654).bind fun u_676 =>
  (Sum.getLeft? r_662).bind fun u_678 =>
  (m_Circuit_eq u_676.2 u_678.2).bind fun q_680 =>
  (bif q_680 then ((Sum.getLeft? r_654).bind fun u_682 => (m_write_circuit u_682.2).bind fun r_684 => some (decide (r_684 = t))) else some false).bind fun b_686 =>
  some b_686))) fun b => b = true := by
  have e1 := law_reading_eq h
  have e2 := told_eq h
  cases hr : rdL t with
  | inl k =>
    rw [hr] at e1
    have e3 : toldOf t = .inr (txD k) := by unfold toldOf; rw [hr]
    rw [e3] at e2
    have hk := rdL_k hr
    have hs := sml_txt (by omega) (rdL_le h hr)
    exact tE e1 (tE e2 (tC (fun _ => tE rfl (tG (hs.shaped (by decide)) (tG (hs.shaped (by decide)) (tR hs.eqv)))) fun hz => absurd hk (of_decide_eq_false hz)))
  | inr P =>
    rw [hr] at e1
    have hS := (rdL_P h hr).1
    have e3 : toldOf t = dueOf P := by unfold toldOf; rw [hr]
    rw [e3] at e2
    refine tE e1 (tE e2 (tC (fun hz => absurd (of_decide_eq_true hz) (show ¬ (0 : Int) < 0 by decide)) fun _ => tE (a := P) rfl (tE (made_eq hS) ?_)))
    cases hf : fault P with
    | some x =>
      have e4 : dueOf P = .inr (paD x) := by unfold dueOf; rw [hf]
      rw [e4]
      have hs := sml_par hS hf
      refine tE (a := ("parts" : Str)) rfl (tE (a := true) (cT (dT rfl) rfl) (tC (fun _ => tE rfl (tE rfl (tG (hs.shaped (by decide)) (tG (hs.shaped (by decide)) (tR hs.eqv))))) fun hz => nomatch hz))
    | none =>
      have e4 : dueOf P = .inl (("circuit" : Str), netOf P) := by unfold dueOf; rw [hf]
      rw [e4]
      refine tE (a := ("circuit" : Str)) rfl (tE (a := false) (cF (dF (by decide)) (bI (a := ("circuit" : Str)) rfl (by rw [dT rfl]; rfl))) (tC (fun hz => nomatch hz) fun _ => tE rfl (tE rfl (tE (eq_self hS) (tE (a := true) (cT rfl (bI rfl (bI (rewrite_ok h hr) (by rw [dT rfl])))) (tR rfl))))))
theorem law_ok (ns : List Int) : m_law ns = some true := by
  refine Tot.eq (Tot.imp (Q := fun b => b = true) ?_ fun v h => h)
  unfold m_law
  refine tB (rows_ok ns) fun rows hrows => tB (parts_ok (rows := rows) (mi := 3) (ml := 2) (ma := 5) (by omega) (by decide) (by decide)) ?_
  rintro P ⟨hG, b1, b2, b3, b4⟩
  have hO := ok_of_circ hG.ok
  obtain ⟨hW, hL, hn⟩ := drawn_lines hG.ok (by omega) (by omega) (by omega) b4
  have hsum := sum_le (B := 50) fun l hl => (hL l hl).len
  have hsum2 : (linesOf P).length * 50 ≤ 14 * 50 := Nat.mul_le_mul_right _ hn
  refine tE (a := (netOf P, ())) (by rw [init_ok hO]; rfl) (tE (write_ok hW (by omega)) ?_)
  have hgl := glue_len (linesOf P)
  have hgs := glue_sg hL
  generalize glue (linesOf P) = t0 at *
  have es : Txt.split t0 ("\n" : Str) = wds 10 t0 := split_nl t0
  rw [es]
  have ht0 : Ln 714 t0 := ⟨hgs, by omega⟩
  refine tG (ll (by omega)) (tLe fun lines0 hl0 => tAt (by decide) (by omega) fun v hv => tG ⟨by omega, by omega⟩ (tForR (fun k (s : List Str) => ∃ n : Nat, k = (n : Int) ∧ s.length ≤ 715 + n ∧ ∀ l ∈ s, Ln (Bd n) l) (by omega) ⟨0, rfl, ?_, ?_⟩ ?_ ?_))
  · have := cutL_len (wds 10 t0) none (some (((wds 10 t0).length : Int) - 1))
    have := wds_len 10 t0
    rw [hl0]
    omega
  · intro l hl
    rw [hl0] at hl
    have hl := cutL_mem hl
    have := wds_sub hl
    exact ⟨fun c hc => ht0.sg c (this.2.1 c hc), Nat.le_trans this.1 ht0.len⟩
  · rintro k s hk1 hk2 ⟨n, rfl, hs1, hs2⟩
    have hb := bd_le (n := n) (by omega)
    refine tAt (by omega) (by omega) fun r _ => tB (changed_ok hs1 hs2 (by omega) (by omega)) ?_
    rintro s' ⟨h1, h2⟩
    exact tR ⟨n + 1, by omega, by omega, h2⟩
  · rintro s ⟨n, hn1, hs1, hs2⟩
    have hb := bd_le (n := n) (by omega)
    have hs3 := sum_le (B := 5796) fun l hl => Nat.le_trans (hs2 l hl).len hb
    have hs4 : s.length * 5796 ≤ 718 * 5796 := Nat.mul_le_mul_right _ (by omega)
    have hgl2 := glue_len s
    have hgs2 := glue_sg hs2
    have hT : Tx (glue s) := ⟨hgs2, by omega⟩
    refine tG (ll (by omega)) (tE (fmO_all (g := fun l => l ++ ("\n" : Str)) fun l hl => gI (ll ?_) rfl) (tG ?_ (tLe fun t ht => tE hv ?_)))
    · have := (hs2 l hl).len
      rw [lnl]; omega
    · rw [sum_map_add (k := 1) nl_len, empty_len]; omega
    · have ht : t = glue s := ht
      rw [← ht] at hT
      have hlen := hT.len
      refine tB (R := Tx) (tC (fun _ => tG (ll (by omega)) (tG (ll (by omega)) (tLe fun t2 ht2 => tR ?_))) fun _ => tR hT) fun t2 hT2 => end_ok hT2
      have := cutS_sub (s := t) (a := none) (b := some ((t.length : Int) - 1))
      rw [ht2]
      exact ⟨fun c hc => hT.sg c (this.2 c hc), Nat.le_trans this.1 hlen⟩
end K13

/-! K13Z -/
namespace K13
open PySem PySem.Spec L2 Ty
def spLaw (K : PySem.W.Frag) : Sp := fun vs H Q _ => ∃ (a : Addr) (ns : List Int), vs = [.ref a] ∧ SqL K H a (ns.map V.int) ∧ ns.length ≤ 63 ∧ ∀ H2, Q (.bl true) H2
section
variable {P : Program} {w : World} {K : PySem.W.Frag} {mg : Str → Option Value} {base : Heap}
theorem ok_top (T : Txt P K mg) : FnOk P w K mg base CX0 8 T.f_law T.d_law ["script"] (spLaw K) := (ok_law T).imp fun vs H Q E ⟨a, ns, ev, hS, hl, hq⟩ => by
  subst ev
  refine ⟨ns, true, H, law_ok ns, fun _ _ h => h, ?_, fun v F2 H2 fp W2 p2 => ?_⟩
  · exact Slots.cons (fp := []) ⟨rfl, _, rfl, a, rfl, hS⟩ .nil
  · rw [(val_P p2).2]; exact hq H2
end
theorem all_mk {l : PySem.W.OpenLaw} {w : World} {K : PySem.W.Frag} {h : Heap} {mg : Str → Option Value} {fa : Addr} (X : K.In h) (G : h.Ns mainGlobals mg) (hfa : mg "law" = some (.ref fa))
    {f1 : Addr}
    {od1 an1 : Option Addr}
    {sl1 : Array (Option Value)}
    {oc1 kV1 dc1 pm1 cd1 ct1 : Value}
    {f2 : Addr}
    {od2 an2 : Option Addr}
    {sl2 : Array (Option Value)}
    {oc2 kV2 dc2 pm2 cd2 ct2 : Value}
    {f3 : Addr}
    {od3 an3 : Option Addr}
    {sl3 : Array (Option Value)}
    {oc3 kV3 dc3 pm3 cd3 ct3 : Value}
    {f4 : Addr}
    {od4 an4 : Option Addr}
    {sl4 : Array (Option Value)}
    {oc4 kV4 dc4 pm4 cd4 ct4 : Value}
    {f5 : Addr}
    {od5 an5 : Option Addr}
    {sl5 : Array (Option Value)}
    {oc5 kV5 dc5 pm5 cd5 ct5 : Value}
    {f6 : Addr}
    {od6 an6 : Option Addr}
    {sl6 : Array (Option Value)}
    {oc6 kV6 dc6 pm6 cd6 ct6 : Value}
    {f7 : Addr}
    {od7 an7 : Option Addr}
    {sl7 : Array (Option Value)}
    {oc7 kV7 dc7 pm7 cd7 ct7 : Value}
    {f8 : Addr}
    {od8 an8 : Option Addr}
    {sl8 : Array (Option Value)}
    {oc8 kV8 dc8 pm8 cd8 ct8 : Value}
    {f9 : Addr}
    {od9 an9 : Option Addr}
    {sl9 : Array (Option Value)}
    {oc9 kV9 dc9 pm9 cd9 ct9 : Value}
    {f10 : Addr}
    {od10 an10 : Option Addr}
    {sl10 : Array (Option Value)}
    {oc10 kV10 dc10 pm10 cd10 ct10 : Value}
    {f11 : Addr}
    {od11 an11 : Option Addr}
    {sl11 : Array (Option Value)}
    {oc11 kV11 dc11 pm11 cd11 ct11 : Value}
    {f12 : Addr}
    {od12 an12 : Option Addr}
    {sl12 : Array (Option Value)}
    {oc12 kV12 dc12 pm12 cd12 ct12 : Value}
    {f13 : Addr}
    {od13 an13 : Option Addr}
    {sl13 : Array (Option Value)}
    {oc13 kV13 dc13 pm13 cd13 ct13 : Value}
    {f14 : Addr}
    {od14 an14 : Option Addr}
    {sl14 : Array (Option Value)}
    {oc14 kV14 dc14 pm14 cd14 ct14 : Value}
    {f15 : Addr}
    {od15 an15 : Option Addr}
    {sl15 : Array (Option Value)}
    {oc15 kV15 dc15 pm15 cd15 ct15 : Value}
    {f16 : Addr}
    {od16 an16 : Option Addr}
    {sl16 : Array (Option Value)}
    {oc16 kV16 dc16 pm16 cd16 ct16 : Value}
    {f17 : Addr}
    {od17 an17 : Option Addr}
    {sl17 : Array (Option Value)}
    {oc17 kV17 dc17 pm17 cd17 ct17 : Value}
    {f18 : Addr}
    {od18 an18 : Option Addr}
    {sl18 : Array (Option Value)}
    {oc18 kV18 dc18 pm18 cd18 ct18 : Value}
    {f19 : Addr}
    {od19 an19 : Option Addr}
    {sl19 : Array (Option Value)}
    {oc19 kV19 dc19 pm19 cd19 ct19 : Value}
    {f20 : Addr}
    {od20 an20 : Option Addr}
    {sl20 : Array (Option Value)}
    {oc20 kV20 dc20 pm20 cd20 ct20 : Value}
    {f21 : Addr}
    {od21 an21 : Option Addr}
    {sl21 : Array (Option Value)}
    {oc21 kV21 dc21 pm21 cd21 ct21 : Value}
    {f22 : Addr}
    {od22 an22 : Option Addr}
    {sl22 : Array (Option Value)}
    {oc22 kV22 dc22 pm22 cd22 ct22 : Value}
    {f23 : Addr}
    {od23 an23 : Option Addr}
    {sl23 : Array (Option Value)}
    {oc23 kV23 dc23 pm23 cd23 ct23 : Value}
    {f24 : Addr}
    {od24 an24 : Option Addr}
    {sl24 : Array (Option Value)}
    {oc24 kV24 dc24 pm24 cd24 ct24 : Value}
    {f25 : Addr}
    {od25 an25 : Option Addr}
    {sl25 : Array (Option Value)}
    {oc25 kV25 dc25 pm25 cd25 ct25 : Value}
    {f26 : Addr}
    {od26 an26 : Option Addr}
    {sl26 : Array (Option Value)}
    {oc26 kV26 dc26 pm26 cd26 ct26 : Value}
    {f27 : Addr}
    {od27 an27 : Option Addr}
    {sl27 : Array (Option Value)}
    {oc27 kV27 dc27 pm27 cd27 ct27 : Value}
    {f28 : Addr}
    {od28 an28 : Option Addr}
    {sl28 : Array (Option Value)}
    {oc28 kV28 dc28 pm28 cd28 ct28 : Value}
    {f29 : Addr}
    {od29 an29 : Option Addr}
    {sl29 : Array (Option Value)}
    {oc29 kV29 dc29 pm29 cd29 ct29 : Value}
    {f30 : Addr}
    {od30 an30 : Option Addr}
    {sl30 : Array (Option Value)}
    {oc30 kV30 dc30 pm30 cd30 ct30 : Value}
    {CCircuit : Addr}
    {CLines : Addr}
    {CEvergateError : Addr}
    {CInvalidCircuit : Addr}
    {CInvalidText : Addr}
    {feInvalidCircuit : Addr}
    {bsInvalidCircuit bmInvalidCircuit subInvalidCircuit : List Value}
    {nmInvalidCircuit qnInvalidCircuit : Str}
    {NNInvalidCircuit : Addr}
    {snInvalidCircuit : List Str}
    {abInvalidCircuit : Bool}
    {colInvalidCircuit : Option Bool}
    {ddInvalidCircuit : Option Addr}
    {k0InvalidCircuit k1InvalidCircuit k2InvalidCircuit k3InvalidCircuit k5InvalidCircuit : Option Value}
    {ocInvalidCircuit kVInvalidCircuit docInvalidCircuit pmInvalidCircuit ctInvalidCircuit oc2InvalidCircuit oc3InvalidCircuit : Value}
    {odInvalidCircuit anInvalidCircuit od2InvalidCircuit od3InvalidCircuit : Option Addr}
    {cdaInvalidCircuit ccInvalidCircuit : Addr}
    {oslInvalidCircuit sl2InvalidCircuit sl3InvalidCircuit : Array (Option Value)}
    {vs2InvalidCircuit : Array Value}
    {fileInvalidCircuit : Str}
    {tfInvalidCircuit : Tok}
    {feInvalidText : Addr}
    {bsInvalidText bmInvalidText subInvalidText : List Value}
    {nmInvalidText qnInvalidText : Str}
    {NNInvalidText : Addr}
    {snInvalidText : List Str}
    {abInvalidText : Bool}
    {colInvalidText : Option Bool}
    {ddInvalidText : Option Addr}
    {k0InvalidText k1InvalidText k2InvalidText k3InvalidText k5InvalidText : Option Value}
    {ocInvalidText kVInvalidText docInvalidText pmInvalidText ctInvalidText oc2InvalidText oc3InvalidText : Value}
    {odInvalidText anInvalidText od2InvalidText od3InvalidText : Option Addr}
    {cdaInvalidText ccInvalidText : Addr}
    {oslInvalidText sl2InvalidText sl3InvalidText : Array (Option Value)}
    {vs2InvalidText : Array Value}
    {fileInvalidText : Str}
    {tfInvalidText : Tok}
    {tDIGITS : Tok}
    {tFIRST_SIGNS : Tok}
    {tMOST_ANDS : Tok}
    {tMOST_DIGITS : Tok}
    {tMOST_INPUTS : Tok}
    {tMOST_LATCHES : Tok}
    {tMOST_OUTPUTS : Tok}
    {tMOST_SIGNS : Tok}
    {tSIGNS : Tok}
    (aCCircuit : PySem.W.nsIn K mainGlobals "Circuit" = some (some (.ref CCircuit)))
    (aCLines : PySem.W.nsIn K mainGlobals "Lines" = some (some (.ref CLines)))
    (aCEvergateError : PySem.W.nsIn K mainGlobals "EvergateError" = some (some (.ref CEvergateError)))
    (aCInvalidCircuit : PySem.W.nsIn K mainGlobals "InvalidCircuit" = some (some (.ref CInvalidCircuit)))
    (aCInvalidText : PySem.W.nsIn K mainGlobals "InvalidText" = some (some (.ref CInvalidText)))
    (a1 : PySem.W.findIn K (.ref CCircuit) "__eq__" = some (some (.ref f1)))
    (l1 : K.lookup f1 = some ⟨oc1, od1, .func (PySem.W.fnOf "__eq__" "Circuit.__eq__" (defArgs s_Circuit_eq) (defBody s_Circuit_eq) (defScope s_Circuit_eq) .none kV1 dc1 pm1 an1 cd1 ct1), sl1⟩)
    (c1 : PySem.W.codeIn K cd1 "Circuit.__eq__" = true)
    (k1 : PySem.W.keepIn K (.ref f1) = true)
    (i1 : PySem.W.isFn K (.ref f1) = true)
    (a2 : PySem.W.nsIn K mainGlobals "_law_rows" = some (some (.ref f2)))
    (l2 : K.lookup f2 = some ⟨oc2, od2, .func (PySem.W.fnOf "_law_rows" "_law_rows" (defArgs s__law_rows) (defBody s__law_rows) (defScope s__law_rows) .none kV2 dc2 pm2 an2 cd2 ct2), sl2⟩)
    (c2 : PySem.W.codeIn K cd2 "_law_rows" = true)
    (k2 : PySem.W.keepIn K (.ref f2) = true)
    (a3 : PySem.W.nsIn K mainGlobals "_law_literal" = some (some (.ref f3)))
    (l3 : K.lookup f3 = some ⟨oc3, od3, .func (PySem.W.fnOf "_law_literal" "_law_literal" (defArgs s__law_literal) (defBody s__law_literal) (defScope s__law_literal) .none kV3 dc3 pm3 an3 cd3 ct3), sl3⟩)
    (c3 : PySem.W.codeIn K cd3 "_law_literal" = true)
    (k3 : PySem.W.keepIn K (.ref f3) = true)
    (a4 : PySem.W.nsIn K mainGlobals "_law_ands" = some (some (.ref f4)))
    (l4 : K.lookup f4 = some ⟨oc4, od4, .func (PySem.W.fnOf "_law_ands" "_law_ands" (defArgs s__law_ands) (defBody s__law_ands) (defScope s__law_ands) .none kV4 dc4 pm4 an4 cd4 ct4), sl4⟩)
    (c4 : PySem.W.codeIn K cd4 "_law_ands" = true)
    (k4 : PySem.W.keepIn K (.ref f4) = true)
    (a5 : PySem.W.nsIn K mainGlobals "_law_name" = some (some (.ref f5)))
    (l5 : K.lookup f5 = some ⟨oc5, od5, .func (PySem.W.fnOf "_law_name" "_law_name" (defArgs s__law_name) (defBody s__law_name) (defScope s__law_name) .none kV5 dc5 pm5 an5 cd5 ct5), sl5⟩)
    (c5 : PySem.W.codeIn K cd5 "_law_name" = true)
    (k5 : PySem.W.keepIn K (.ref f5) = true)
    (a6 : PySem.W.nsIn K mainGlobals "_law_parts" = some (some (.ref f6)))
    (l6 : K.lookup f6 = some ⟨oc6, od6, .func (PySem.W.fnOf "_law_parts" "_law_parts" (defArgs s__law_parts) (defBody s__law_parts) (defScope s__law_parts) .none kV6 dc6 pm6 an6 cd6 ct6), sl6⟩)
    (c6 : PySem.W.codeIn K cd6 "_law_parts" = true)
    (k6 : PySem.W.keepIn K (.ref f6) = true)
    (a7 : PySem.W.nsIn K mainGlobals "joined_words" = some (some (.ref f7)))
    (l7 : K.lookup f7 = some ⟨oc7, od7, .func (PySem.W.fnOf "joined_words" "joined_words" (defArgs s_joined_words) (defBody s_joined_words) (defScope s_joined_words) .none kV7 dc7 pm7 an7 cd7 ct7), sl7⟩)
    (c7 : PySem.W.codeIn K cd7 "joined_words" = true)
    (k7 : PySem.W.keepIn K (.ref f7) = true)
    (a8 : PySem.W.nsIn K mainGlobals "circuit_lines" = some (some (.ref f8)))
    (l8 : K.lookup f8 = some ⟨oc8, od8, .func (PySem.W.fnOf "circuit_lines" "circuit_lines" (defArgs s_circuit_lines) (defBody s_circuit_lines) (defScope s_circuit_lines) .none kV8 dc8 pm8 an8 cd8 ct8), sl8⟩)
    (c8 : PySem.W.codeIn K cd8 "circuit_lines" = true)
    (k8 : PySem.W.keepIn K (.ref f8) = true)
    (a9 : PySem.W.nsIn K mainGlobals "write_circuit" = some (some (.ref f9)))
    (l9 : K.lookup f9 = some ⟨oc9, od9, .func (PySem.W.fnOf "write_circuit" "write_circuit" (defArgs s_write_circuit) (defBody s_write_circuit) (defScope s_write_circuit) .none kV9 dc9 pm9 an9 cd9 ct9), sl9⟩)
    (c9 : PySem.W.codeIn K cd9 "write_circuit" = true)
    (k9 : PySem.W.keepIn K (.ref f9) = true)
    (a10 : PySem.W.nsIn K mainGlobals "_law_number" = some (some (.ref f10)))
    (l10 : K.lookup f10 = some ⟨oc10, od10, .func (PySem.W.fnOf "_law_number" "_law_number" (defArgs s__law_number) (defBody s__law_number) (defScope s__law_number) .none kV10 dc10 pm10 an10 cd10 ct10), sl10⟩)
    (c10 : PySem.W.codeIn K cd10 "_law_number" = true)
    (k10 : PySem.W.keepIn K (.ref f10) = true)
    (a11 : PySem.W.nsIn K mainGlobals "_law_reading" = some (some (.ref f11)))
    (l11 : K.lookup f11 = some ⟨oc11, od11, .func (PySem.W.fnOf "_law_reading" "_law_reading" (defArgs s__law_reading) (defBody s__law_reading) (defScope s__law_reading) .none kV11 dc11 pm11 an11 cd11 ct11), sl11⟩)
    (c11 : PySem.W.codeIn K cd11 "_law_reading" = true)
    (k11 : PySem.W.keepIn K (.ref f11) = true)
    (a12 : PySem.W.findIn K (.ref CLines) "__init__" = some (some (.ref f12)))
    (l12 : K.lookup f12 = some ⟨oc12, od12, .func (PySem.W.fnOf "__init__" "Lines.__init__" (defArgs s_Lines_init) (defBody s_Lines_init) (defScope s_Lines_init) .none kV12 dc12 pm12 an12 cd12 ct12), sl12⟩)
    (c12 : PySem.W.codeIn K cd12 "Lines.__init__" = true)
    (k12 : PySem.W.keepIn K (.ref f12) = true)
    (i12 : PySem.W.isFn K (.ref f12) = true)
    (a13 : PySem.W.findIn K (.ref CLines) "more" = some (some (.ref f13)))
    (l13 : K.lookup f13 = some ⟨oc13, od13, .func (PySem.W.fnOf "more" "Lines.more" (defArgs s_Lines_more) (defBody s_Lines_more) (defScope s_Lines_more) .none kV13 dc13 pm13 an13 cd13 ct13), sl13⟩)
    (c13 : PySem.W.codeIn K cd13 "Lines.more" = true)
    (k13 : PySem.W.keepIn K (.ref f13) = true)
    (i13 : PySem.W.isFn K (.ref f13) = true)
    (a14 : PySem.W.findIn K (.ref CLines) "take" = some (some (.ref f14)))
    (l14 : K.lookup f14 = some ⟨oc14, od14, .func (PySem.W.fnOf "take" "Lines.take" (defArgs s_Lines_take) (defBody s_Lines_take) (defScope s_Lines_take) .none kV14 dc14 pm14 an14 cd14 ct14), sl14⟩)
    (c14 : PySem.W.codeIn K cd14 "Lines.take" = true)
    (k14 : PySem.W.keepIn K (.ref f14) = true)
    (i14 : PySem.W.isFn K (.ref f14) = true)
    (a15 : PySem.W.nsIn K mainGlobals "is_number" = some (some (.ref f15)))
    (l15 : K.lookup f15 = some ⟨oc15, od15, .func (PySem.W.fnOf "is_number" "is_number" (defArgs s_is_number) (defBody s_is_number) (defScope s_is_number) .none kV15 dc15 pm15 an15 cd15 ct15), sl15⟩)
    (c15 : PySem.W.codeIn K cd15 "is_number" = true)
    (k15 : PySem.W.keepIn K (.ref f15) = true)
    (a16 : PySem.W.nsIn K mainGlobals "numbers_of" = some (some (.ref f16)))
    (l16 : K.lookup f16 = some ⟨oc16, od16, .func (PySem.W.fnOf "numbers_of" "numbers_of" (defArgs s_numbers_of) (defBody s_numbers_of) (defScope s_numbers_of) .none kV16 dc16 pm16 an16 cd16 ct16), sl16⟩)
    (c16 : PySem.W.codeIn K cd16 "numbers_of" = true)
    (k16 : PySem.W.keepIn K (.ref f16) = true)
    (a17 : PySem.W.findIn K (.ref CLines) "take_numbers" = some (some (.ref f17)))
    (l17 : K.lookup f17 = some ⟨oc17, od17, .func (PySem.W.fnOf "take_numbers" "Lines.take_numbers" (defArgs s_Lines_take_numbers) (defBody s_Lines_take_numbers) (defScope s_Lines_take_numbers) .none kV17 dc17 pm17 an17 cd17 ct17), sl17⟩)
    (c17 : PySem.W.codeIn K cd17 "Lines.take_numbers" = true)
    (k17 : PySem.W.keepIn K (.ref f17) = true)
    (i17 : PySem.W.isFn K (.ref f17) = true)
    (a18 : PySem.W.nsIn K mainGlobals "take_circuit" = some (some (.ref f18)))
    (l18 : K.lookup f18 = some ⟨oc18, od18, .func (PySem.W.fnOf "take_circuit" "take_circuit" (defArgs s_take_circuit) (defBody s_take_circuit) (defScope s_take_circuit) .none kV18 dc18 pm18 an18 cd18 ct18), sl18⟩)
    (c18 : PySem.W.codeIn K cd18 "take_circuit" = true)
    (k18 : PySem.W.keepIn K (.ref f18) = true)
    (a19 : PySem.W.findIn K (.ref CLines) "finish" = some (some (.ref f19)))
    (l19 : K.lookup f19 = some ⟨oc19, od19, .func (PySem.W.fnOf "finish" "Lines.finish" (defArgs s_Lines_finish) (defBody s_Lines_finish) (defScope s_Lines_finish) .none kV19 dc19 pm19 an19 cd19 ct19), sl19⟩)
    (c19 : PySem.W.codeIn K cd19 "Lines.finish" = true)
    (k19 : PySem.W.keepIn K (.ref f19) = true)
    (i19 : PySem.W.isFn K (.ref f19) = true)
    (a20 : PySem.W.nsIn K mainGlobals "is_name" = some (some (.ref f20)))
    (l20 : K.lookup f20 = some ⟨oc20, od20, .func (PySem.W.fnOf "is_name" "is_name" (defArgs s_is_name) (defBody s_is_name) (defScope s_is_name) .none kV20 dc20 pm20 an20 cd20 ct20), sl20⟩)
    (c20 : PySem.W.codeIn K cd20 "is_name" = true)
    (k20 : PySem.W.keepIn K (.ref f20) = true)
    (a21 : PySem.W.nsIn K mainGlobals "fault_of_leaves" = some (some (.ref f21)))
    (l21 : K.lookup f21 = some ⟨oc21, od21, .func (PySem.W.fnOf "fault_of_leaves" "fault_of_leaves" (defArgs s_fault_of_leaves) (defBody s_fault_of_leaves) (defScope s_fault_of_leaves) .none kV21 dc21 pm21 an21 cd21 ct21), sl21⟩)
    (c21 : PySem.W.codeIn K cd21 "fault_of_leaves" = true)
    (k21 : PySem.W.keepIn K (.ref f21) = true)
    (a22 : PySem.W.nsIn K mainGlobals "fault_of_ands" = some (some (.ref f22)))
    (l22 : K.lookup f22 = some ⟨oc22, od22, .func (PySem.W.fnOf "fault_of_ands" "fault_of_ands" (defArgs s_fault_of_ands) (defBody s_fault_of_ands) (defScope s_fault_of_ands) .none kV22 dc22 pm22 an22 cd22 ct22), sl22⟩)
    (c22 : PySem.W.codeIn K cd22 "fault_of_ands" = true)
    (k22 : PySem.W.keepIn K (.ref f22) = true)
    (a23 : PySem.W.nsIn K mainGlobals "fault_of_outputs" = some (some (.ref f23)))
    (l23 : K.lookup f23 = some ⟨oc23, od23, .func (PySem.W.fnOf "fault_of_outputs" "fault_of_outputs" (defArgs s_fault_of_outputs) (defBody s_fault_of_outputs) (defScope s_fault_of_outputs) .none kV23 dc23 pm23 an23 cd23 ct23), sl23⟩)
    (c23 : PySem.W.codeIn K cd23 "fault_of_outputs" = true)
    (k23 : PySem.W.keepIn K (.ref f23) = true)
    (a24 : PySem.W.findIn K (.ref CCircuit) "__init__" = some (some (.ref f24)))
    (l24 : K.lookup f24 = some ⟨oc24, od24, .func (PySem.W.fnOf "__init__" "Circuit.__init__" (defArgs s_Circuit_init) (defBody s_Circuit_init) (defScope s_Circuit_init) .none kV24 dc24 pm24 an24 cd24 ct24), sl24⟩)
    (c24 : PySem.W.codeIn K cd24 "Circuit.__init__" = true)
    (k24 : PySem.W.keepIn K (.ref f24) = true)
    (i24 : PySem.W.isFn K (.ref f24) = true)
    (a25 : PySem.W.nsIn K mainGlobals "lines_of" = some (some (.ref f25)))
    (l25 : K.lookup f25 = some ⟨oc25, od25, .func (PySem.W.fnOf "lines_of" "lines_of" (defArgs s_lines_of) (defBody s_lines_of) (defScope s_lines_of) .none kV25 dc25 pm25 an25 cd25 ct25), sl25⟩)
    (c25 : PySem.W.codeIn K cd25 "lines_of" = true)
    (k25 : PySem.W.keepIn K (.ref f25) = true)
    (a26 : PySem.W.nsIn K mainGlobals "read_circuit" = some (some (.ref f26)))
    (l26 : K.lookup f26 = some ⟨oc26, od26, .func (PySem.W.fnOf "read_circuit" "read_circuit" (defArgs s_read_circuit) (defBody s_read_circuit) (defScope s_read_circuit) .none kV26 dc26 pm26 an26 cd26 ct26), sl26⟩)
    (c26 : PySem.W.codeIn K cd26 "read_circuit" = true)
    (k26 : PySem.W.keepIn K (.ref f26) = true)
    (a27 : PySem.W.nsIn K mainGlobals "_law_told" = some (some (.ref f27)))
    (l27 : K.lookup f27 = some ⟨oc27, od27, .func (PySem.W.fnOf "_law_told" "_law_told" (defArgs s__law_told) (defBody s__law_told) (defScope s__law_told) .none kV27 dc27 pm27 an27 cd27 ct27), sl27⟩)
    (c27 : PySem.W.codeIn K cd27 "_law_told" = true)
    (k27 : PySem.W.keepIn K (.ref f27) = true)
    (a28 : PySem.W.nsIn K mainGlobals "_law_made" = some (some (.ref f28)))
    (l28 : K.lookup f28 = some ⟨oc28, od28, .func (PySem.W.fnOf "_law_made" "_law_made" (defArgs s__law_made) (defBody s__law_made) (defScope s__law_made) .none kV28 dc28 pm28 an28 cd28 ct28), sl28⟩)
    (c28 : PySem.W.codeIn K cd28 "_law_made" = true)
    (k28 : PySem.W.keepIn K (.ref f28) = true)
    (a29 : PySem.W.nsIn K mainGlobals "_law_changed" = some (some (.ref f29)))
    (l29 : K.lookup f29 = some ⟨oc29, od29, .func (PySem.W.fnOf "_law_changed" "_law_changed" (defArgs s__law_changed) (defBody s__law_changed) (defScope s__law_changed) .none kV29 dc29 pm29 an29 cd29 ct29), sl29⟩)
    (c29 : PySem.W.codeIn K cd29 "_law_changed" = true)
    (k29 : PySem.W.keepIn K (.ref f29) = true)
    (a30 : PySem.W.nsIn K mainGlobals "law" = some (some (.ref f30)))
    (l30 : K.lookup f30 = some ⟨oc30, od30, .func (PySem.W.fnOf "law" "law" (defArgs s_law) (defBody s_law) (defScope s_law) .none kV30 dc30 pm30 an30 cd30 ct30), sl30⟩)
    (c30 : PySem.W.codeIn K cd30 "law" = true)
    (k30 : PySem.W.keepIn K (.ref f30) = true)
    (pgCircuit : PySem.W.plainGet K CCircuit Str.empty = true)
    (hdCircuit : PySem.W.hasDictIn K CCircuit = true)
    (poCircuit : PySem.W.plainOver K CCircuit = true)
    (saCircuit : PySem.W.findIn K (.ref CCircuit) "__setattr__" = some (some (.builtin "object.__setattr__")))
    (mkCircuit : PySem.W.makesIn K CCircuit = true)
    (kcCircuit : PySem.W.keepIn K (.ref CCircuit) = true)
    (nCircuit_inputs : PySem.W.findIn K (.ref CCircuit) "inputs" = some none)
    (nCircuit_latches : PySem.W.findIn K (.ref CCircuit) "latches" = some none)
    (nCircuit_ands : PySem.W.findIn K (.ref CCircuit) "ands" = some none)
    (nCircuit_outputs : PySem.W.findIn K (.ref CCircuit) "outputs" = some none)
    (qnCircuit : PySem.W.findIn K (.ref CCircuit) "__ne__" = some (some (.builtin "object.__ne__")))
    (qmCircuit : PySem.W.mroIn K CCircuit (.type "object") = some true)
    (qhaCircuit : PySem.W.findIn K (.ref CCircuit) "__class__" = some (some (.builtin "object.__class__")))
    (qhnCircuit : PySem.W.specialIn K (.builtin "object.__class__") "__get__" = some (some (.builtin "getset_descriptor.__get__")))
    (qhtCircuit : PySem.W.takesIn K (.builtin "object.__class__") = some true)
    (qhmCircuit : PySem.W.mroIn K CCircuit (.type "object") = some true)
    (pgLines : PySem.W.plainGet K CLines Str.empty = true)
    (hdLines : PySem.W.hasDictIn K CLines = true)
    (poLines : PySem.W.plainOver K CLines = true)
    (saLines : PySem.W.findIn K (.ref CLines) "__setattr__" = some (some (.builtin "object.__setattr__")))
    (mkLines : PySem.W.makesIn K CLines = true)
    (kcLines : PySem.W.keepIn K (.ref CLines) = true)
    (nLines__rest : PySem.W.findIn K (.ref CLines) "_rest" = some none)
    (nLines_place : PySem.W.findIn K (.ref CLines) "place" = some none)
    (z_super : PySem.W.nsIn K mainGlobals "super" = some none)
    (zan : PySem.W.nsIn K cStatics "thirdparty.any" = some none)
    (yht : (l.prog.main.scope.names.lookup ("super" : Str)).isSome = false)
    (eKInvalidCircuit : K.lookup CInvalidCircuit = some (excClassObj nmInvalidCircuit qnInvalidCircuit CInvalidCircuit NNInvalidCircuit bsInvalidCircuit bmInvalidCircuit true snInvalidCircuit subInvalidCircuit abInvalidCircuit colInvalidCircuit ddInvalidCircuit k0InvalidCircuit k1InvalidCircuit k2InvalidCircuit k3InvalidCircuit k5InvalidCircuit "ValueError.__new__"))
    (eVInvalidCircuit : PySem.HandSPX.refsVE bmInvalidCircuit = true)
    (eSInvalidCircuit : PySem.W.findIn K (.ref CInvalidCircuit) "__setattr__" = some (some (.builtin "object.__setattr__")))
    (eXInvalidCircuit : PySem.W.subIn K (.ref CInvalidCircuit) (.type "BaseException") = some true)
    (eTInvalidCircuit : PySem.W.typeIn K (.ref CInvalidCircuit) = some (.type "type"))
    (ePInvalidCircuit : PySem.W.keepIn K (.ref CInvalidCircuit) = true)
    (eIInvalidCircuit : PySem.W.findIn K (.ref CInvalidCircuit) "__init__" = some (some (.ref feInvalidCircuit)))
    (eFInvalidCircuit : PySem.W.typeIn K (.ref feInvalidCircuit) = some (.type "function"))
    (eLInvalidCircuit : K.lookup feInvalidCircuit = some ⟨ocInvalidCircuit, odInvalidCircuit, .func (PySem.W.fnX "__init__" "InvalidCircuit.__init__" (defArgs s_InvalidCircuit_init) (defBody s_InvalidCircuit_init) (defScope s_InvalidCircuit_init) [("__class__", ccInvalidCircuit)] .none kVInvalidCircuit docInvalidCircuit pmInvalidCircuit anInvalidCircuit (.ref cdaInvalidCircuit) ctInvalidCircuit), oslInvalidCircuit⟩)
    (eCInvalidCircuit : PySem.W.codeIn K (.ref cdaInvalidCircuit) "InvalidCircuit.__init__" = true)
    (eDInvalidCircuit : K.lookup cdaInvalidCircuit = some ⟨oc2InvalidCircuit, od2InvalidCircuit, .fields vs2InvalidCircuit, sl2InvalidCircuit⟩)
    (eEInvalidCircuit : vs2InvalidCircuit[2]? = some (.str fileInvalidCircuit tfInvalidCircuit))
    (eGInvalidCircuit : ((l.prog.main.file : Str) == fileInvalidCircuit) = true)
    (eHInvalidCircuit : K.lookup ccInvalidCircuit = some ⟨oc3InvalidCircuit, od3InvalidCircuit, .cell (some (.ref CInvalidCircuit)), sl3InvalidCircuit⟩)
    (eMInvalidCircuit : PySem.W.ks_superIn K CInvalidCircuit CInvalidCircuit "__init__" = some (some (.builtin "ValueError.__init__")))
    (eNInvalidCircuit : PySem.W.subIn K (.ref CInvalidCircuit) (.type "ValueError") = some true)
    (eOInvalidCircuit : PySem.W.mroIn K CInvalidCircuit (.ref CInvalidCircuit) = some true)
    (eAInvalidCircuit_part : PySem.W.findIn K (.ref CInvalidCircuit) "part" = some none)
    (eAInvalidCircuit_index : PySem.W.findIn K (.ref CInvalidCircuit) "index" = some none)
    (ehgInvalidCircuit : PySem.W.findIn K (.ref CInvalidCircuit) "__getattribute__" = some (some (.builtin "BaseException.__getattribute__")))
    (ehkInvalidCircuit : PySem.W.findIn K (.ref CInvalidCircuit) "__getattr__" = some none)
    (ehsInvalidCircuit : PySem.W.subIn K (.ref CInvalidCircuit) (.type "BaseException") = some true)
    (ehdInvalidCircuit : PySem.W.hasDictIn K CInvalidCircuit = true)
    (ehaInvalidCircuit : PySem.W.findIn K (.ref CInvalidCircuit) "__class__" = some (some (.builtin "object.__class__")))
    (ehnInvalidCircuit : PySem.W.specialIn K (.builtin "object.__class__") "__get__" = some (some (.builtin "getset_descriptor.__get__")))
    (ehtInvalidCircuit : PySem.W.takesIn K (.builtin "object.__class__") = some true)
    (ehmInvalidCircuit : PySem.W.mroIn K CInvalidCircuit (.type "object") = some true)
    (eKInvalidText : K.lookup CInvalidText = some (excClassObj nmInvalidText qnInvalidText CInvalidText NNInvalidText bsInvalidText bmInvalidText true snInvalidText subInvalidText abInvalidText colInvalidText ddInvalidText k0InvalidText k1InvalidText k2InvalidText k3InvalidText k5InvalidText "ValueError.__new__"))
    (eVInvalidText : PySem.HandSPX.refsVE bmInvalidText = true)
    (eSInvalidText : PySem.W.findIn K (.ref CInvalidText) "__setattr__" = some (some (.builtin "object.__setattr__")))
    (eXInvalidText : PySem.W.subIn K (.ref CInvalidText) (.type "BaseException") = some true)
    (eTInvalidText : PySem.W.typeIn K (.ref CInvalidText) = some (.type "type"))
    (ePInvalidText : PySem.W.keepIn K (.ref CInvalidText) = true)
    (eIInvalidText : PySem.W.findIn K (.ref CInvalidText) "__init__" = some (some (.ref feInvalidText)))
    (eFInvalidText : PySem.W.typeIn K (.ref feInvalidText) = some (.type "function"))
    (eLInvalidText : K.lookup feInvalidText = some ⟨ocInvalidText, odInvalidText, .func (PySem.W.fnX "__init__" "InvalidText.__init__" (defArgs s_InvalidText_init) (defBody s_InvalidText_init) (defScope s_InvalidText_init) [("__class__", ccInvalidText)] .none kVInvalidText docInvalidText pmInvalidText anInvalidText (.ref cdaInvalidText) ctInvalidText), oslInvalidText⟩)
    (eCInvalidText : PySem.W.codeIn K (.ref cdaInvalidText) "InvalidText.__init__" = true)
    (eDInvalidText : K.lookup cdaInvalidText = some ⟨oc2InvalidText, od2InvalidText, .fields vs2InvalidText, sl2InvalidText⟩)
    (eEInvalidText : vs2InvalidText[2]? = some (.str fileInvalidText tfInvalidText))
    (eGInvalidText : ((l.prog.main.file : Str) == fileInvalidText) = true)
    (eHInvalidText : K.lookup ccInvalidText = some ⟨oc3InvalidText, od3InvalidText, .cell (some (.ref CInvalidText)), sl3InvalidText⟩)
    (eMInvalidText : PySem.W.ks_superIn K CInvalidText CInvalidText "__init__" = some (some (.builtin "ValueError.__init__")))
    (eNInvalidText : PySem.W.subIn K (.ref CInvalidText) (.type "ValueError") = some true)
    (eOInvalidText : PySem.W.mroIn K CInvalidText (.ref CInvalidText) = some true)
    (eAInvalidText_line : PySem.W.findIn K (.ref CInvalidText) "line" = some none)
    (ehgInvalidText : PySem.W.findIn K (.ref CInvalidText) "__getattribute__" = some (some (.builtin "BaseException.__getattribute__")))
    (ehkInvalidText : PySem.W.findIn K (.ref CInvalidText) "__getattr__" = some none)
    (ehsInvalidText : PySem.W.subIn K (.ref CInvalidText) (.type "BaseException") = some true)
    (ehdInvalidText : PySem.W.hasDictIn K CInvalidText = true)
    (ehaInvalidText : PySem.W.findIn K (.ref CInvalidText) "__class__" = some (some (.builtin "object.__class__")))
    (ehnInvalidText : PySem.W.specialIn K (.builtin "object.__class__") "__get__" = some (some (.builtin "getset_descriptor.__get__")))
    (ehtInvalidText : PySem.W.takesIn K (.builtin "object.__class__") = some true)
    (ehmInvalidText : PySem.W.mroIn K CInvalidText (.type "object") = some true)
    (ybInvalidCircuit_InvalidCircuit : PySem.W.subIn K (.ref CInvalidCircuit) (.type "BaseException") = some true)
    (yiInvalidCircuit_InvalidCircuit : PySem.W.isClsIn K CInvalidCircuit = true)
    (ytInvalidCircuit_InvalidCircuit : PySem.W.typeIn K (.ref CInvalidCircuit) = some (.type "type"))
    (ysInvalidCircuit_InvalidCircuit : PySem.W.subIn K (.ref CInvalidCircuit) (.ref CInvalidCircuit) = some true)
    (ybInvalidCircuit_InvalidText : PySem.W.subIn K (.ref CInvalidText) (.type "BaseException") = some true)
    (yiInvalidCircuit_InvalidText : PySem.W.isClsIn K CInvalidText = true)
    (ytInvalidCircuit_InvalidText : PySem.W.typeIn K (.ref CInvalidText) = some (.type "type"))
    (ysInvalidCircuit_InvalidText : PySem.W.subIn K (.ref CInvalidCircuit) (.ref CInvalidText) = some false)
    (ybInvalidText_InvalidText : PySem.W.subIn K (.ref CInvalidText) (.type "BaseException") = some true)
    (yiInvalidText_InvalidText : PySem.W.isClsIn K CInvalidText = true)
    (ytInvalidText_InvalidText : PySem.W.typeIn K (.ref CInvalidText) = some (.type "type"))
    (ysInvalidText_InvalidText : PySem.W.subIn K (.ref CInvalidText) (.ref CInvalidText) = some true)
    (znInvalidText_EvergateError : (Value.ref CInvalidText == Value.ref CEvergateError) = false)
    (ziInvalidText_EvergateError : PySem.W.isClsIn K CEvergateError = true)
    (ztInvalidText_EvergateError : PySem.W.typeIn K (.ref CEvergateError) = some (.type "type"))
    (zsInvalidText_EvergateError : PySem.W.subIn K (.ref CInvalidText) (.ref CEvergateError) = some true)
    (znInvalidText_InvalidCircuit : (Value.ref CInvalidText == Value.ref CInvalidCircuit) = false)
    (ziInvalidText_InvalidCircuit : PySem.W.isClsIn K CInvalidCircuit = true)
    (ztInvalidText_InvalidCircuit : PySem.W.typeIn K (.ref CInvalidCircuit) = some (.type "type"))
    (zsInvalidText_InvalidCircuit : PySem.W.subIn K (.ref CInvalidText) (.ref CInvalidCircuit) = some false)
    (z_enumerate : PySem.W.nsIn K mainGlobals "enumerate" = some none)
    (z_int : PySem.W.nsIn K mainGlobals "int" = some none)
    (z_isinstance : PySem.W.nsIn K mainGlobals "isinstance" = some none)
    (z_len : PySem.W.nsIn K mainGlobals "len" = some none)
    (z_list : PySem.W.nsIn K mainGlobals "list" = some none)
    (z_max : PySem.W.nsIn K mainGlobals "max" = some none)
    (z_min : PySem.W.nsIn K mainGlobals "min" = some none)
    (z_range : PySem.W.nsIn K mainGlobals "range" = some none)
    (z_str : PySem.W.nsIn K mainGlobals "str" = some none)
    (z_DIGITS : PySem.W.nsIn K mainGlobals "DIGITS" = some (some (.str "0123456789" tDIGITS)))
    (z_FIRST_SIGNS : PySem.W.nsIn K mainGlobals "FIRST_SIGNS" = some (some (.str "abcdefghijklmnopqrstuvwxyz" tFIRST_SIGNS)))
    (z_MOST_ANDS : PySem.W.nsIn K mainGlobals "MOST_ANDS" = some (some (.int 2000 tMOST_ANDS)))
    (z_MOST_DIGITS : PySem.W.nsIn K mainGlobals "MOST_DIGITS" = some (some (.int 6 tMOST_DIGITS)))
    (z_MOST_INPUTS : PySem.W.nsIn K mainGlobals "MOST_INPUTS" = some (some (.int 16 tMOST_INPUTS)))
    (z_MOST_LATCHES : PySem.W.nsIn K mainGlobals "MOST_LATCHES" = some (some (.int 40 tMOST_LATCHES)))
    (z_MOST_OUTPUTS : PySem.W.nsIn K mainGlobals "MOST_OUTPUTS" = some (some (.int 32 tMOST_OUTPUTS)))
    (z_MOST_SIGNS : PySem.W.nsIn K mainGlobals "MOST_SIGNS" = some (some (.int 12 tMOST_SIGNS)))
    (z_SIGNS : PySem.W.nsIn K mainGlobals "SIGNS" = some (some (.str "abcdefghijklmnopqrstuvwxyz0123456789_" tSIGNS)))
    : ∃ fd : FuncData, (∀ (s : Shared) (v : Value), BindsTo s fd ⟨[v], []⟩ [("script", v)]) ∧ ∀ base : Heap, K.In base → base.Ns mainGlobals mg → FnOk l.prog w K mg base CX0 8 fa fd ["script"] (spLaw K) := by
  have e := hfa.symm.trans (PySem.W.mg_of X G a30)
  cases e
  refine ⟨PySem.W.fnOf "law" "law" (defArgs s_law) (defBody s_law) (defScope s_law) .none kV30 dc30 pm30 an30 cd30 ct30, fun s v => .of_eq rfl, fun base _ _ => ?_⟩
  have T : { T : Txt l.prog K mg // T.f_law = fa ∧ T.d_law = PySem.W.fnOf "law" "law" (defArgs s_law) (defBody s_law) (defScope s_law) .none kV30 dc30 pm30 an30 cd30 ct30 } := ⟨{
    f_Circuit_eq := f1
    d_Circuit_eq := _
    F_Circuit_eq := fun_mk (st := s_Circuit_eq) l1 c1 k1
    b_Circuit_eq := (fun_mk (st := s_Circuit_eq) l1 c1 k1).binds (ps := ["self", "other"]) fun _ _ _ _ _ _ us hl => match us, hl with | [_, _], _ => rfl
    f__law_rows := f2
    d__law_rows := _
    F__law_rows := fun_mk (st := s__law_rows) l2 c2 k2
    b__law_rows := (fun_mk (st := s__law_rows) l2 c2 k2).binds (ps := ["script", "count"]) fun _ _ _ _ _ _ us hl => match us, hl with | [_, _], _ => rfl
    g__law_rows := PySem.W.mg_of X G a2
    k__law_rows := k2
    f__law_literal := f3
    d__law_literal := _
    F__law_literal := fun_mk (st := s__law_literal) l3 c3 k3
    b__law_literal := (fun_mk (st := s__law_literal) l3 c3 k3).binds (ps := ["row", "near", "count"]) fun _ _ _ _ _ _ us hl => match us, hl with | [_, _, _], _ => rfl
    g__law_literal := PySem.W.mg_of X G a3
    k__law_literal := k3
    f__law_ands := f4
    d__law_ands := _
    F__law_ands := fun_mk (st := s__law_ands) l4 c4 k4
    b__law_ands := (fun_mk (st := s__law_ands) l4 c4 k4).binds (ps := ["rows", "at", "first_and", "count"]) fun _ _ _ _ _ _ us hl => match us, hl with | [_, _, _, _], _ => rfl
    g__law_ands := PySem.W.mg_of X G a4
    k__law_ands := k4
    f__law_name := f5
    d__law_name := _
    F__law_name := fun_mk (st := s__law_name) l5 c5 k5
    b__law_name := (fun_mk (st := s__law_name) l5 c5 k5).binds (ps := ["row", "k"]) fun _ _ _ _ _ _ us hl => match us, hl with | [_, _], _ => rfl
    g__law_name := PySem.W.mg_of X G a5
    k__law_name := k5
    f__law_parts := f6
    d__law_parts := _
    F__law_parts := fun_mk (st := s__law_parts) l6 c6 k6
    b__law_parts := (fun_mk (st := s__law_parts) l6 c6 k6).binds (ps := ["rows", "most_inputs", "most_latches", "most_ands"]) fun _ _ _ _ _ _ us hl => match us, hl with | [_, _, _, _], _ => rfl
    g__law_parts := PySem.W.mg_of X G a6
    k__law_parts := k6
    f_joined_words := f7
    d_joined_words := _
    F_joined_words := fun_mk (st := s_joined_words) l7 c7 k7
    b_joined_words := (fun_mk (st := s_joined_words) l7 c7 k7).binds (ps := ["word", "numbers"]) fun _ _ _ _ _ _ us hl => match us, hl with | [_, _], _ => rfl
    g_joined_words := PySem.W.mg_of X G a7
    k_joined_words := k7
    f_circuit_lines := f8
    d_circuit_lines := _
    F_circuit_lines := fun_mk (st := s_circuit_lines) l8 c8 k8
    b_circuit_lines := (fun_mk (st := s_circuit_lines) l8 c8 k8).binds (ps := ["circuit"]) fun _ _ _ _ _ _ us hl => match us, hl with | [_], _ => rfl
    g_circuit_lines := PySem.W.mg_of X G a8
    k_circuit_lines := k8
    f_write_circuit := f9
    d_write_circuit := _
    F_write_circuit := fun_mk (st := s_write_circuit) l9 c9 k9
    b_write_circuit := (fun_mk (st := s_write_circuit) l9 c9 k9).binds (ps := ["circuit"]) fun _ _ _ _ _ _ us hl => match us, hl with | [_], _ => rfl
    g_write_circuit := PySem.W.mg_of X G a9
    k_write_circuit := k9
    f__law_number := f10
    d__law_number := _
    F__law_number := fun_mk (st := s__law_number) l10 c10 k10
    b__law_number := (fun_mk (st := s__law_number) l10 c10 k10).binds (ps := ["word"]) fun _ _ _ _ _ _ us hl => match us, hl with | [_], _ => rfl
    g__law_number := PySem.W.mg_of X G a10
    k__law_number := k10
    f__law_reading := f11
    d__law_reading := _
    F__law_reading := fun_mk (st := s__law_reading) l11 c11 k11
    b__law_reading := (fun_mk (st := s__law_reading) l11 c11 k11).binds (ps := ["text"]) fun _ _ _ _ _ _ us hl => match us, hl with | [_], _ => rfl
    g__law_reading := PySem.W.mg_of X G a11
    k__law_reading := k11
    f_Lines_init := f12
    d_Lines_init := _
    F_Lines_init := fun_mk (st := s_Lines_init) l12 c12 k12
    b_Lines_init := (fun_mk (st := s_Lines_init) l12 c12 k12).binds (ps := ["self", "lines"]) fun _ _ _ _ _ _ us hl => match us, hl with | [_, _], _ => rfl
    f_Lines_more := f13
    d_Lines_more := _
    F_Lines_more := fun_mk (st := s_Lines_more) l13 c13 k13
    b_Lines_more := (fun_mk (st := s_Lines_more) l13 c13 k13).binds (ps := ["self", "word"]) fun _ _ _ _ _ _ us hl => match us, hl with | [_, _], _ => rfl
    f_Lines_take := f14
    d_Lines_take := _
    F_Lines_take := fun_mk (st := s_Lines_take) l14 c14 k14
    b_Lines_take := (fun_mk (st := s_Lines_take) l14 c14 k14).binds (ps := ["self", "word"]) fun _ _ _ _ _ _ us hl => match us, hl with | [_, _], _ => rfl
    f_is_number := f15
    d_is_number := _
    F_is_number := fun_mk (st := s_is_number) l15 c15 k15
    b_is_number := (fun_mk (st := s_is_number) l15 c15 k15).binds (ps := ["word"]) fun _ _ _ _ _ _ us hl => match us, hl with | [_], _ => rfl
    g_is_number := PySem.W.mg_of X G a15
    k_is_number := k15
    f_numbers_of := f16
    d_numbers_of := _
    F_numbers_of := fun_mk (st := s_numbers_of) l16 c16 k16
    b_numbers_of := (fun_mk (st := s_numbers_of) l16 c16 k16).binds (ps := ["words"]) fun _ _ _ _ _ _ us hl => match us, hl with | [_], _ => rfl
    g_numbers_of := PySem.W.mg_of X G a16
    k_numbers_of := k16
    f_Lines_take_numbers := f17
    d_Lines_take_numbers := _
    F_Lines_take_numbers := fun_mk (st := s_Lines_take_numbers) l17 c17 k17
    b_Lines_take_numbers := (fun_mk (st := s_Lines_take_numbers) l17 c17 k17).binds (ps := ["self", "word", "skipped", "count"]) fun _ _ _ _ _ _ us hl => match us, hl with | [_, _, _, _], _ => rfl
    f_take_circuit := f18
    d_take_circuit := _
    F_take_circuit := fun_mk (st := s_take_circuit) l18 c18 k18
    b_take_circuit := (fun_mk (st := s_take_circuit) l18 c18 k18).binds (ps := ["lines"]) fun _ _ _ _ _ _ us hl => match us, hl with | [_], _ => rfl
    g_take_circuit := PySem.W.mg_of X G a18
    k_take_circuit := k18
    f_Lines_finish := f19
    d_Lines_finish := _
    F_Lines_finish := fun_mk (st := s_Lines_finish) l19 c19 k19
    b_Lines_finish := (fun_mk (st := s_Lines_finish) l19 c19 k19).binds (ps := ["self"]) fun _ _ _ _ _ _ us hl => match us, hl with | [_], _ => rfl
    f_is_name := f20
    d_is_name := _
    F_is_name := fun_mk (st := s_is_name) l20 c20 k20
    b_is_name := (fun_mk (st := s_is_name) l20 c20 k20).binds (ps := ["text"]) fun _ _ _ _ _ _ us hl => match us, hl with | [_], _ => rfl
    g_is_name := PySem.W.mg_of X G a20
    k_is_name := k20
    f_fault_of_leaves := f21
    d_fault_of_leaves := _
    F_fault_of_leaves := fun_mk (st := s_fault_of_leaves) l21 c21 k21
    b_fault_of_leaves := (fun_mk (st := s_fault_of_leaves) l21 c21 k21).binds (ps := ["inputs", "latches", "node_count"]) fun _ _ _ _ _ _ us hl => match us, hl with | [_, _, _], _ => rfl
    g_fault_of_leaves := PySem.W.mg_of X G a21
    k_fault_of_leaves := k21
    f_fault_of_ands := f22
    d_fault_of_ands := _
    F_fault_of_ands := fun_mk (st := s_fault_of_ands) l22 c22 k22
    b_fault_of_ands := (fun_mk (st := s_fault_of_ands) l22 c22 k22).binds (ps := ["first_and", "ands"]) fun _ _ _ _ _ _ us hl => match us, hl with | [_, _], _ => rfl
    g_fault_of_ands := PySem.W.mg_of X G a22
    k_fault_of_ands := k22
    f_fault_of_outputs := f23
    d_fault_of_outputs := _
    F_fault_of_outputs := fun_mk (st := s_fault_of_outputs) l23 c23 k23
    b_fault_of_outputs := (fun_mk (st := s_fault_of_outputs) l23 c23 k23).binds (ps := ["outputs", "node_count"]) fun _ _ _ _ _ _ us hl => match us, hl with | [_, _], _ => rfl
    g_fault_of_outputs := PySem.W.mg_of X G a23
    k_fault_of_outputs := k23
    f_Circuit_init := f24
    d_Circuit_init := _
    F_Circuit_init := fun_mk (st := s_Circuit_init) l24 c24 k24
    b_Circuit_init := (fun_mk (st := s_Circuit_init) l24 c24 k24).binds (ps := ["self", "inputs", "latches", "ands", "outputs"]) fun _ _ _ _ _ _ us hl => match us, hl with | [_, _, _, _, _], _ => rfl
    f_lines_of := f25
    d_lines_of := _
    F_lines_of := fun_mk (st := s_lines_of) l25 c25 k25
    b_lines_of := (fun_mk (st := s_lines_of) l25 c25 k25).binds (ps := ["text"]) fun _ _ _ _ _ _ us hl => match us, hl with | [_], _ => rfl
    g_lines_of := PySem.W.mg_of X G a25
    k_lines_of := k25
    f_read_circuit := f26
    d_read_circuit := _
    F_read_circuit := fun_mk (st := s_read_circuit) l26 c26 k26
    b_read_circuit := (fun_mk (st := s_read_circuit) l26 c26 k26).binds (ps := ["text"]) fun _ _ _ _ _ _ us hl => match us, hl with | [_], _ => rfl
    g_read_circuit := PySem.W.mg_of X G a26
    k_read_circuit := k26
    f__law_told := f27
    d__law_told := _
    F__law_told := fun_mk (st := s__law_told) l27 c27 k27
    b__law_told := (fun_mk (st := s__law_told) l27 c27 k27).binds (ps := ["text"]) fun _ _ _ _ _ _ us hl => match us, hl with | [_], _ => rfl
    g__law_told := PySem.W.mg_of X G a27
    k__law_told := k27
    f__law_made := f28
    d__law_made := _
    F__law_made := fun_mk (st := s__law_made) l28 c28 k28
    b__law_made := (fun_mk (st := s__law_made) l28 c28 k28).binds (ps := ["parts"]) fun _ _ _ _ _ _ us hl => match us, hl with | [_], _ => rfl
    g__law_made := PySem.W.mg_of X G a28
    k__law_made := k28
    f__law_changed := f29
    d__law_changed := _
    F__law_changed := fun_mk (st := s__law_changed) l29 c29 k29
    b__law_changed := (fun_mk (st := s__law_changed) l29 c29 k29).binds (ps := ["lines", "row"]) fun _ _ _ _ _ _ us hl => match us, hl with | [_, _], _ => rfl
    g__law_changed := PySem.W.mg_of X G a29
    k__law_changed := k29
    f_law := fa
    d_law := _
    F_law := fun_mk (st := s_law) l30 c30 k30
    b_law := (fun_mk (st := s_law) l30 c30 k30).binds (ps := ["script"]) fun _ _ _ _ _ _ us hl => match us, hl with | [_], _ => rfl
    g_law := PySem.W.mg_of X G a30
    k_law := k30
    C_Circuit := CCircuit
    cl_Circuit := ⟨pgCircuit, hdCircuit, poCircuit, saCircuit⟩
    g_Circuit := PySem.W.mg_of X G aCCircuit
    at_Circuit_inputs := ⟨⟨pgCircuit, hdCircuit, poCircuit, saCircuit⟩, nCircuit_inputs⟩
    at_Circuit_latches := ⟨⟨pgCircuit, hdCircuit, poCircuit, saCircuit⟩, nCircuit_latches⟩
    at_Circuit_ands := ⟨⟨pgCircuit, hdCircuit, poCircuit, saCircuit⟩, nCircuit_ands⟩
    at_Circuit_outputs := ⟨⟨pgCircuit, hdCircuit, poCircuit, saCircuit⟩, nCircuit_outputs⟩
    ne_Circuit := qnCircuit
    mo_Circuit := qmCircuit
    ic_Circuit := ⟨⟨pgCircuit, hdCircuit, poCircuit, saCircuit⟩, qhaCircuit, qhnCircuit, qhtCircuit, qhmCircuit⟩
    me_Circuit_eq := ⟨a1, i1, k1⟩
    mk_Circuit := ⟨mkCircuit, a24, i24, kcCircuit⟩
    C_Lines := CLines
    cl_Lines := ⟨pgLines, hdLines, poLines, saLines⟩
    g_Lines := PySem.W.mg_of X G aCLines
    at_Lines__rest := ⟨⟨pgLines, hdLines, poLines, saLines⟩, nLines__rest⟩
    at_Lines_place := ⟨⟨pgLines, hdLines, poLines, saLines⟩, nLines_place⟩
    mk_Lines := ⟨mkLines, a12, i12, kcLines⟩
    me_Lines_more := ⟨a13, i13, k13⟩
    me_Lines_take := ⟨a14, i14, k14⟩
    me_Lines_take_numbers := ⟨a17, i17, k17⟩
    me_Lines_finish := ⟨a19, i19, k19⟩
    C_EvergateError := CEvergateError
    g_EvergateError := PySem.W.mg_of X G aCEvergateError
    C_InvalidCircuit := CInvalidCircuit
    g_InvalidCircuit := PySem.W.mg_of X G aCInvalidCircuit
    C_InvalidText := CInvalidText
    g_InvalidText := PySem.W.mg_of X G aCInvalidText
    f_InvalidCircuit_init := feInvalidCircuit
    d_InvalidCircuit_init := _
    FS_InvalidCircuit := ⟨⟨_, _, _, _, _, _, _, _, _, _, _, _, _, _, _, _, _, _, _, rfl, eLInvalidCircuit, eCInvalidCircuit, eDInvalidCircuit, eEInvalidCircuit, eGInvalidCircuit, eHInvalidCircuit⟩⟩
    b_InvalidCircuit_init := .all fun us hl => match us, hl with | [_, _, _], _ => rfl
    xo_InvalidCircuit := ⟨⟨_, _, _, _, _, _, _, _, _, _, _, _, _, _, _, eKInvalidCircuit, eVInvalidCircuit⟩, eSInvalidCircuit, eXInvalidCircuit, eTInvalidCircuit, ePInvalidCircuit⟩
    xu_InvalidCircuit := ⟨PySem.W.mg_none_of X G z_super, zan, eMInvalidCircuit, eNInvalidCircuit, eOInvalidCircuit, yht⟩
    xic_InvalidCircuit := eIInvalidCircuit
    xti_InvalidCircuit := eFInvalidCircuit
    xn_InvalidCircuit_part := eAInvalidCircuit_part
    xn_InvalidCircuit_index := eAInvalidCircuit_index
    xe_InvalidCircuit := ⟨ehgInvalidCircuit, ehkInvalidCircuit, ehsInvalidCircuit, ehdInvalidCircuit, ehaInvalidCircuit, ehnInvalidCircuit, ehtInvalidCircuit, ehmInvalidCircuit⟩
    f_InvalidText_init := feInvalidText
    d_InvalidText_init := _
    FS_InvalidText := ⟨⟨_, _, _, _, _, _, _, _, _, _, _, _, _, _, _, _, _, _, _, rfl, eLInvalidText, eCInvalidText, eDInvalidText, eEInvalidText, eGInvalidText, eHInvalidText⟩⟩
    b_InvalidText_init := .all fun us hl => match us, hl with | [_, _], _ => rfl
    xo_InvalidText := ⟨⟨_, _, _, _, _, _, _, _, _, _, _, _, _, _, _, eKInvalidText, eVInvalidText⟩, eSInvalidText, eXInvalidText, eTInvalidText, ePInvalidText⟩
    xu_InvalidText := ⟨PySem.W.mg_none_of X G z_super, zan, eMInvalidText, eNInvalidText, eOInvalidText, yht⟩
    xic_InvalidText := eIInvalidText
    xti_InvalidText := eFInvalidText
    xn_InvalidText_line := eAInvalidText_line
    xe_InvalidText := ⟨ehgInvalidText, ehkInvalidText, ehsInvalidText, ehdInvalidText, ehaInvalidText, ehnInvalidText, ehtInvalidText, ehmInvalidText⟩
    xp_InvalidCircuit_InvalidCircuit := exm_mk ybInvalidCircuit_InvalidCircuit yiInvalidCircuit_InvalidCircuit ytInvalidCircuit_InvalidCircuit ysInvalidCircuit_InvalidCircuit
    xp_InvalidCircuit_InvalidText := exm_mk ybInvalidCircuit_InvalidText yiInvalidCircuit_InvalidText ytInvalidCircuit_InvalidText ysInvalidCircuit_InvalidText
    xp_InvalidText_InvalidText := exm_mk ybInvalidText_InvalidText yiInvalidText_InvalidText ytInvalidText_InvalidText ysInvalidText_InvalidText
    xi_InvalidText_EvergateError := kit_mk znInvalidText_EvergateError ziInvalidText_EvergateError ztInvalidText_EvergateError zsInvalidText_EvergateError
    xi_InvalidText_InvalidCircuit := kit_mk znInvalidText_InvalidCircuit ziInvalidText_InvalidCircuit ztInvalidText_InvalidCircuit zsInvalidText_InvalidCircuit
    g_enumerate := PySem.W.mg_none_of X G z_enumerate
    g_int := PySem.W.mg_none_of X G z_int
    g_isinstance := PySem.W.mg_none_of X G z_isinstance
    g_len := PySem.W.mg_none_of X G z_len
    g_list := PySem.W.mg_none_of X G z_list
    g_max := PySem.W.mg_none_of X G z_max
    g_min := PySem.W.mg_none_of X G z_min
    g_range := PySem.W.mg_none_of X G z_range
    g_str := PySem.W.mg_none_of X G z_str
    t_DIGITS := tDIGITS
    g_DIGITS := PySem.W.mg_of X G z_DIGITS
    t_FIRST_SIGNS := tFIRST_SIGNS
    g_FIRST_SIGNS := PySem.W.mg_of X G z_FIRST_SIGNS
    t_MOST_ANDS := tMOST_ANDS
    g_MOST_ANDS := PySem.W.mg_of X G z_MOST_ANDS
    t_MOST_DIGITS := tMOST_DIGITS
    g_MOST_DIGITS := PySem.W.mg_of X G z_MOST_DIGITS
    t_MOST_INPUTS := tMOST_INPUTS
    g_MOST_INPUTS := PySem.W.mg_of X G z_MOST_INPUTS
    t_MOST_LATCHES := tMOST_LATCHES
    g_MOST_LATCHES := PySem.W.mg_of X G z_MOST_LATCHES
    t_MOST_OUTPUTS := tMOST_OUTPUTS
    g_MOST_OUTPUTS := PySem.W.mg_of X G z_MOST_OUTPUTS
    t_MOST_SIGNS := tMOST_SIGNS
    g_MOST_SIGNS := PySem.W.mg_of X G z_MOST_SIGNS
    t_SIGNS := tSIGNS
    g_SIGNS := PySem.W.mg_of X G z_SIGNS
  }, rfl, rfl⟩
  obtain ⟨T, e1, e2⟩ := T
  rw [← e1, ← e2]
  exact ok_top T
theorem walk {l : PySem.W.OpenLaw} {q : Program} {loose : List Str} {XP : (Str → Option Value) → Heap → Prop} {YP : World → Heap → Prop} {d : DefRec} {K : Params → PySem.W.Frag} (hn : l.most = some 63) (hdf : d.params.defaults = [])
    (hY : ∀ (w : World) (h : Heap), YP w h → (K w.params).In h)
    (F : ∀ (w : World) (mg : Str → Option Value) (fa : Addr) (h : Heap), (K w.params).In h → h.Ns mainGlobals mg → mg d.name = some (.ref fa) →
      ∃ fd : FuncData, (∀ (s : Shared) (u : Value), BindsTo s fd ⟨[u], []⟩ [("script", u)]) ∧ ∀ base : Heap, (K w.params).In base → base.Ns mainGlobals mg → FnOk l.prog w (K w.params) mg base CX0 8 fa fd ["script"] (spLaw (K w.params))) :
    PySem.W.WalkO q loose XP YP l.row.toRowW d [] (fun f vs => PySem.call f vs) :=
  L2.walk_of (n := 63) (k := 8) (x := "script") (CX := fun _ => CX0) (sp := fun w => spLaw (K w.params)) hn (by decide) hdf ⟨rfl, by decide, by decide⟩ hY F (fun _ _ a ns hl _ hS => ⟨a, ns, rfl, hS, hl, fun _ => rfl⟩) fun _ _ _ _ _ z => z
end K13
open PySem PySem.W PyProof.Rows in
set_option maxRecDepth 100000 in
set_option maxHeartbeats 0 in
theorem PySem.Challenge.cw_evergate_k13_wrong_circuit_texts_holds : PySem.Challenge.rw_evergate_k13_wrong_circuit_texts.Holds := by
  w_on; o_law; k_head; (case hw => w_witness2)
  k_fill
  refine K13.walk (l := PySem.Challenge.rw_evergate_k13_wrong_circuit_texts) rfl rfl (fun w h Y => PySem.W.kIn_of Y) ?F
  case F =>
    intro w mg fa h KX G hmg
    refine' K13.all_mk KX G hmg ?aCCircuit ?aCLines ?aCEvergateError ?aCInvalidCircuit ?aCInvalidText ?a1 ?l1 ?c1 ?k1 ?i1 ?a2 ?l2 ?c2 ?k2 ?a3 ?l3 ?c3 ?k3 ?a4 ?l4 ?c4 ?k4 ?a5 ?l5 ?c5 ?k5 ?a6 ?l6 ?c6 ?k6 ?a7 ?l7 ?c7 ?k7 ?a8 ?l8 ?c8 ?k8 ?a9 ?l9 ?c9 ?k9 ?a10 ?l10 ?c10 ?k10 ?a11 ?l11 ?c11 ?k11 ?a12 ?l12 ?c12 ?k12 ?i12 ?a13 ?l13 ?c13 ?k13 ?i13 ?a14 ?l14 ?c14 ?k14 ?i14 ?a15 ?l15 ?c15 ?k15 ?a16 ?l16 ?c16 ?k16 ?a17 ?l17 ?c17 ?k17 ?i17 ?a18 ?l18 ?c18 ?k18 ?a19 ?l19 ?c19 ?k19 ?i19 ?a20 ?l20 ?c20 ?k20 ?a21 ?l21 ?c21 ?k21 ?a22 ?l22 ?c22 ?k22 ?a23 ?l23 ?c23 ?k23 ?a24 ?l24 ?c24 ?k24 ?i24 ?a25 ?l25 ?c25 ?k25 ?a26 ?l26 ?c26 ?k26 ?a27 ?l27 ?c27 ?k27 ?a28 ?l28 ?c28 ?k28 ?a29 ?l29 ?c29 ?k29 ?a30 ?l30 ?c30 ?k30 ?pgCircuit ?hdCircuit ?poCircuit ?saCircuit ?mkCircuit ?kcCircuit ?nCircuit_inputs ?nCircuit_latches ?nCircuit_ands ?nCircuit_outputs ?qnCircuit ?qmCircuit ?qhaCircuit ?qhnCircuit ?qhtCircuit ?qhmCircuit ?pgLines ?hdLines ?poLines ?saLines ?mkLines ?kcLines ?nLines__rest ?nLines_place ?z_super ?zan ?yht ?eKInvalidCircuit ?eVInvalidCircuit ?eSInvalidCircuit ?eXInvalidCircuit ?eTInvalidCircuit ?ePInvalidCircuit ?eIInvalidCircuit ?eFInvalidCircuit ?eLInvalidCircuit ?eCInvalidCircuit ?eDInvalidCircuit ?eEInvalidCircuit ?eGInvalidCircuit ?eHInvalidCircuit ?eMInvalidCircuit ?eNInvalidCircuit ?eOInvalidCircuit ?eAInvalidCircuit_part ?eAInvalidCircuit_index ?ehgInvalidCircuit ?ehkInvalidCircuit ?ehsInvalidCircuit ?ehdInvalidCircuit ?ehaInvalidCircuit ?ehnInvalidCircuit ?ehtInvalidCircuit ?ehmInvalidCircuit ?eKInvalidText ?eVInvalidText ?eSInvalidText ?eXInvalidText ?eTInvalidText ?ePInvalidText ?eIInvalidText ?eFInvalidText ?eLInvalidText ?eCInvalidText ?eDInvalidText ?eEInvalidText ?eGInvalidText ?eHInvalidText ?eMInvalidText ?eNInvalidText ?eOInvalidText ?eAInvalidText_line ?ehgInvalidText ?ehkInvalidText ?ehsInvalidText ?ehdInvalidText ?ehaInvalidText ?ehnInvalidText ?ehtInvalidText ?ehmInvalidText ?ybInvalidCircuit_InvalidCircuit ?yiInvalidCircuit_InvalidCircuit ?ytInvalidCircuit_InvalidCircuit ?ysInvalidCircuit_InvalidCircuit ?ybInvalidCircuit_InvalidText ?yiInvalidCircuit_InvalidText ?ytInvalidCircuit_InvalidText ?ysInvalidCircuit_InvalidText ?ybInvalidText_InvalidText ?yiInvalidText_InvalidText ?ytInvalidText_InvalidText ?ysInvalidText_InvalidText ?znInvalidText_EvergateError ?ziInvalidText_EvergateError ?ztInvalidText_EvergateError ?zsInvalidText_EvergateError ?znInvalidText_InvalidCircuit ?ziInvalidText_InvalidCircuit ?ztInvalidText_InvalidCircuit ?zsInvalidText_InvalidCircuit ?z_enumerate ?z_int ?z_isinstance ?z_len ?z_list ?z_max ?z_min ?z_range ?z_str ?z_DIGITS ?z_FIRST_SIGNS ?z_MOST_ANDS ?z_MOST_DIGITS ?z_MOST_INPUTS ?z_MOST_LATCHES ?z_MOST_OUTPUTS ?z_MOST_SIGNS ?z_SIGNS
    (case aCCircuit => k_is)
    (case aCLines => k_is)
    (case aCEvergateError => k_is)
    (case aCInvalidCircuit => k_is)
    (case aCInvalidText => k_is)
    (case a1 => k_is)
    (case l1 => k_is)
    (case c1 => k_is)
    (case k1 => k_is)
    (case i1 => k_is)
    (case a2 => k_is)
    (case l2 => k_is)
    (case c2 => k_is)
    (case k2 => k_is)
    (case a3 => k_is)
    (case l3 => k_is)
    (case c3 => k_is)
    (case k3 => k_is)
    (case a4 => k_is)
    (case l4 => k_is)
    (case c4 => k_is)
    (case k4 => k_is)
    (case a5 => k_is)
    (case l5 => k_is)
    (case c5 => k_is)
    (case k5 => k_is)
    (case a6 => k_is)
    (case l6 => k_is)
    (case c6 => k_is)
    (case k6 => k_is)
    (case a7 => k_is)
    (case l7 => k_is)
    (case c7 => k_is)
    (case k7 => k_is)
    (case a8 => k_is)
    (case l8 => k_is)
    (case c8 => k_is)
    (case k8 => k_is)
    (case a9 => k_is)
    (case l9 => k_is)
    (case c9 => k_is)
    (case k9 => k_is)
    (case a10 => k_is)
    (case l10 => k_is)
    (case c10 => k_is)
    (case k10 => k_is)
    (case a11 => k_is)
    (case l11 => k_is)
    (case c11 => k_is)
    (case k11 => k_is)
    (case a12 => k_is)
    (case l12 => k_is)
    (case c12 => k_is)
    (case k12 => k_is)
    (case i12 => k_is)
    (case a13 => k_is)
    (case l13 => k_is)
    (case c13 => k_is)
    (case k13 => k_is)
    (case i13 => k_is)
    (case a14 => k_is)
    (case l14 => k_is)
    (case c14 => k_is)
    (case k14 => k_is)
    (case i14 => k_is)
    (case a15 => k_is)
    (case l15 => k_is)
    (case c15 => k_is)
    (case k15 => k_is)
    (case a16 => k_is)
    (case l16 => k_is)
    (case c16 => k_is)
    (case k16 => k_is)
    (case a17 => k_is)
    (case l17 => k_is)
    (case c17 => k_is)
    (case k17 => k_is)
    (case i17 => k_is)
    (case a18 => k_is)
    (case l18 => k_is)
    (case c18 => k_is)
    (case k18 => k_is)
    (case a19 => k_is)
    (case l19 => k_is)
    (case c19 => k_is)
    (case k19 => k_is)
    (case i19 => k_is)
    (case a20 => k_is)
    (case l20 => k_is)
    (case c20 => k_is)
    (case k20 => k_is)
    (case a21 => k_is)
    (case l21 => k_is)
    (case c21 => k_is)
    (case k21 => k_is)
    (case a22 => k_is)
    (case l22 => k_is)
    (case c22 => k_is)
    (case k22 => k_is)
    (case a23 => k_is)
    (case l23 => k_is)
    (case c23 => k_is)
    (case k23 => k_is)
    (case a24 => k_is)
    (case l24 => k_is)
    (case c24 => k_is)
    (case k24 => k_is)
    (case i24 => k_is)
    (case a25 => k_is)
    (case l25 => k_is)
    (case c25 => k_is)
    (case k25 => k_is)
    (case a26 => k_is)
    (case l26 => k_is)
    (case c26 => k_is)
    (case k26 => k_is)
    (case a27 => k_is)
    (case l27 => k_is)
    (case c27 => k_is)
    (case k27 => k_is)
    (case a28 => k_is)
    (case l28 => k_is)
    (case c28 => k_is)
    (case k28 => k_is)
    (case a29 => k_is)
    (case l29 => k_is)
    (case c29 => k_is)
    (case k29 => k_is)
    (case a30 => k_is)
    (case l30 => k_is)
    (case c30 => k_is)
    (case k30 => k_is)
    (case pgCircuit => k_is)
    (case hdCircuit => k_is)
    (case poCircuit => k_is)
    (case saCircuit => k_is)
    (case mkCircuit => k_is)
    (case kcCircuit => k_is)
    (case nCircuit_inputs => k_is)
    (case nCircuit_latches => k_is)
    (case nCircuit_ands => k_is)
    (case nCircuit_outputs => k_is)
    (case qnCircuit => k_is)
    (case qmCircuit => k_is)
    (case qhaCircuit => k_is)
    (case qhnCircuit => k_is)
    (case qhtCircuit => k_is)
    (case qhmCircuit => k_is)
    (case pgLines => k_is)
    (case hdLines => k_is)
    (case poLines => k_is)
    (case saLines => k_is)
    (case mkLines => k_is)
    (case kcLines => k_is)
    (case nLines__rest => k_is)
    (case nLines_place => k_is)
    (case z_super => k_is)
    (case zan => k_is)
    (case yht => first | rfl | decide +kernel)
    (case eKInvalidCircuit => k_is)
    (case eVInvalidCircuit => first | rfl | decide +kernel)
    (case eSInvalidCircuit => k_is)
    (case eXInvalidCircuit => k_is)
    (case eTInvalidCircuit => k_is)
    (case ePInvalidCircuit => k_is)
    (case eIInvalidCircuit => k_is)
    (case eFInvalidCircuit => k_is)
    (case eLInvalidCircuit => k_is)
    (case eCInvalidCircuit => k_is)
    (case eDInvalidCircuit => k_is)
    (case eEInvalidCircuit => rfl)
    (case eGInvalidCircuit => first | rfl | decide +kernel)
    (case eHInvalidCircuit => k_is)
    (case eMInvalidCircuit => ks_is)
    (case eNInvalidCircuit => k_is)
    (case eOInvalidCircuit => k_is)
    (case eAInvalidCircuit_part => k_is)
    (case eAInvalidCircuit_index => k_is)
    (case ehgInvalidCircuit => k_is)
    (case ehkInvalidCircuit => k_is)
    (case ehsInvalidCircuit => k_is)
    (case ehdInvalidCircuit => k_is)
    (case ehaInvalidCircuit => k_is)
    (case ehnInvalidCircuit => k_is)
    (case ehtInvalidCircuit => k_is)
    (case ehmInvalidCircuit => k_is)
    (case eKInvalidText => k_is)
    (case eVInvalidText => first | rfl | decide +kernel)
    (case eSInvalidText => k_is)
    (case eXInvalidText => k_is)
    (case eTInvalidText => k_is)
    (case ePInvalidText => k_is)
    (case eIInvalidText => k_is)
    (case eFInvalidText => k_is)
    (case eLInvalidText => k_is)
    (case eCInvalidText => k_is)
    (case eDInvalidText => k_is)
    (case eEInvalidText => rfl)
    (case eGInvalidText => first | rfl | decide +kernel)
    (case eHInvalidText => k_is)
    (case eMInvalidText => ks_is)
    (case eNInvalidText => k_is)
    (case eOInvalidText => k_is)
    (case eAInvalidText_line => k_is)
    (case ehgInvalidText => k_is)
    (case ehkInvalidText => k_is)
    (case ehsInvalidText => k_is)
    (case ehdInvalidText => k_is)
    (case ehaInvalidText => k_is)
    (case ehnInvalidText => k_is)
    (case ehtInvalidText => k_is)
    (case ehmInvalidText => k_is)
    (case ybInvalidCircuit_InvalidCircuit => k_is)
    (case yiInvalidCircuit_InvalidCircuit => k_is)
    (case ytInvalidCircuit_InvalidCircuit => k_is)
    (case ysInvalidCircuit_InvalidCircuit => k_is)
    (case ybInvalidCircuit_InvalidText => k_is)
    (case yiInvalidCircuit_InvalidText => k_is)
    (case ytInvalidCircuit_InvalidText => k_is)
    (case ysInvalidCircuit_InvalidText => k_is)
    (case ybInvalidText_InvalidText => k_is)
    (case yiInvalidText_InvalidText => k_is)
    (case ytInvalidText_InvalidText => k_is)
    (case ysInvalidText_InvalidText => k_is)
    (case znInvalidText_EvergateError => rfl)
    (case ziInvalidText_EvergateError => k_is)
    (case ztInvalidText_EvergateError => k_is)
    (case zsInvalidText_EvergateError => k_is)
    (case znInvalidText_InvalidCircuit => rfl)
    (case ziInvalidText_InvalidCircuit => k_is)
    (case ztInvalidText_InvalidCircuit => k_is)
    (case zsInvalidText_InvalidCircuit => k_is)
    (case z_enumerate => k_is)
    (case z_int => k_is)
    (case z_isinstance => k_is)
    (case z_len => k_is)
    (case z_list => k_is)
    (case z_max => k_is)
    (case z_min => k_is)
    (case z_range => k_is)
    (case z_str => k_is)
    (case z_DIGITS => k_is)
    (case z_FIRST_SIGNS => k_is)
    (case z_MOST_ANDS => k_is)
    (case z_MOST_DIGITS => k_is)
    (case z_MOST_INPUTS => k_is)
    (case z_MOST_LATCHES => k_is)
    (case z_MOST_OUTPUTS => k_is)
    (case z_MOST_SIGNS => k_is)
    (case z_SIGNS => k_is)
#print axioms PySem.Challenge.cw_evergate_k13_wrong_circuit_texts_holds

