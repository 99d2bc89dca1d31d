import PyProof.Rows.All
import Wide.All
import OpenK.AllK
import Wide.FinOn
import HandS.ForMost
import HandS.ForExc
import HandS.Walk
import PyProof.Rows.TupDisplay
import HandS.IsInst
import HandS.Words
import HandS.ExcInit
import KE.KExcSuper
import KE.KSuper
import HandS.ExcIs
import HandS.ExcField
import HandS.TryOnly
import HandS.SetFor
import HandS.Strs
import HandS.Conv
import HandS.FStr
import KE.KExcIs
import HandS.Property
import HandS.SortKw
import PyProof.WalkInts
import KE.KMinKey
import HandS.Text
import HandS.RevRange
import HandS.Codes
import HandS.OwnEq
import HandS.More
import HandS.Wide
import KE.KeyNested
import HandS.TupLen
import HandS.Ends
import HandS.RaiseMore
import PyProof.ReprRoads
import HandS.TupAny
import HandS.Iter
import PyProof.EnumMake
import PyProof.Draws
import KE.GoesMore
import HandS.Lambda
import HandS.EndTab
import KE.KNestM
import KE.KLam
import HandS.SortInts
import PyProof.ListTruth
import PyProof.P3In
import KE.SortData
import PyProof.Rows.RuleM_int
import PyProof.LongRange
import HandS.ExcValue
import KE.DataMinMax
import HandS.MapJoin
import KE.SortKeyHeap
import PySem.Challenge.RW_evergate_k56_cuts
import KE.BitLaws
import PyProof.ReprLen
import PyProof.P3Eq
import KE.RegKSuper
set_option Elab.async false
set_option linter.all false
set_option maxRecDepth 100000
set_option maxHeartbeats 4000000
/-! Ty1 -/
namespace Ty
open PySem PySem.Spec L2

/-! ### slots: what is known of a value -/
structure Slot where
  P : Hp → Hp → List Addr → Option V → Prop
  mono : ∀ {F H F' H' : Hp} {fp : List Addr} {o : Option V}, Same F F' → Same H H' → P F H fp o → P F' H' fp o
  st : Prop
  mm : st → ∀ {F H F' H' : Hp} {fp : List Addr} {o : Option V}, Same F F' → (∀ a ∈ fp, H' a = H a) → P F H fp o → P F' H' fp o

inductive Slots (F H : Hp) : List Addr → List (Option V) → List Slot → Prop
  | nil : Slots F H [] [] []
  | cons {fp os : List Addr} {o : Option V} {σ : List (Option V)} {s : Slot} {Γ : List Slot} : s.P F H fp o → Slots F H os σ Γ → Slots F H (fp ++ os) (o :: σ) (s :: Γ)

theorem Slots.mono {F H F' H' : Hp} (hF : Same F F') (hH : Same H H') : ∀ {os σ Γ}, Slots F H os σ Γ → Slots F' H' os σ Γ
  | _, _, _, .nil => .nil
  | _, _, _, .cons p r => .cons (Slot.mono _ hF hH p) (Slots.mono hF hH r)

/-- all slots of the list bear a change elsewhere -/
def Stb (Γ : List Slot) : Prop := ∀ s ∈ Γ, s.st
theorem Stb.nil : Stb [] := fun _ h => nomatch h
theorem Stb.cons {s : Slot} {Γ : List Slot} (h : s.st) (r : Stb Γ) : Stb (s :: Γ) := fun x hx => by
  rcases List.mem_cons.mp hx with rfl | hx
  · exact h
  · exact r x hx
theorem Slots.mm {F H F' H' : Hp} (hF : Same F F') {os σ Γ} (h : Slots F H os σ Γ) : Stb Γ → (∀ a ∈ os, H' a = H a) → Slots F' H' os σ Γ := by
  induction h with
  | nil => intro _ _; exact .nil
  | @cons fp os o σ s Γ p r ih =>
    intro b k
    exact .cons (s.mm (b s List.mem_cons_self) hF (fun a ha => k a (List.mem_append_left _ ha)) p)
      (ih (fun x hx => b x (List.mem_cons_of_mem _ hx)) (fun a ha => k a (List.mem_append_right _ ha)))
theorem Slots.length {F H : Hp} : ∀ {os σ Γ}, Slots F H os σ Γ → σ.length = Γ.length
  | _, _, _, .nil => rfl
  | _, _, _, .cons _ r => congrArg (· + 1) r.length
theorem Slots.append {F H : Hp} : ∀ {os σ Γ os' σ' Γ'}, Slots F H os σ Γ → Slots F H os' σ' Γ' → Slots F H (os ++ os') (σ ++ σ') (Γ ++ Γ')
  | _, _, _, _, _, _, .nil, s => s
  | _, _, _, _, _, _, .cons p r, s => by
    rw [List.append_assoc]
    exact .cons p (Slots.append r s)

/-- the i-th slot taken out, and something put in its place -/
theorem Slots.at {F H : Hp} : ∀ {os σ Γ i s}, Slots F H os σ Γ → Γ[i]? = some s →
    ∃ o fp r, σ[i]? = some o ∧ s.P F H fp o ∧ os.Perm (fp ++ r) ∧
      ∀ {F' H' : Hp} {fp' : List Addr} {o' : Option V} {s' : Slot}, s'.P F' H' fp' o' →
        (∀ s0 ∈ Γ, ∀ fp0 o0, (∀ a ∈ fp0, a ∈ r) → s0.P F H fp0 o0 → s0.P F' H' fp0 o0) →
        ∃ os', Slots F' H' os' (σ.set i o') (Γ.set i s') ∧ os'.Perm (fp' ++ r)
  | _, _, _, i, s, .nil, e => by simp at e
  | _, _, _, 0, s, .cons (fp := fp) (os := os) (o := o) (σ := σ) (s := s0) (Γ := Γ) p r, e => by
    simp at e; subst e
    refine ⟨o, fp, os, rfl, p, List.Perm.refl _, ?_⟩
    intro F' H' fp' o' s' q k
    have all : ∀ {os σ Γ'}, Slots F H os σ Γ' → (∀ s ∈ Γ', ∀ fp0 o0, (∀ a ∈ fp0, a ∈ os) → s.P F H fp0 o0 → s.P F' H' fp0 o0) → Slots F' H' os σ Γ' := by
      intro os σ Γ' h
      induction h with
      | nil => intro _; exact .nil
      | cons p r ih =>
        intro k
        exact .cons (k _ List.mem_cons_self _ _ (fun a ha => List.mem_append_left _ ha) p) (ih fun s hs fp0 o0 hf q => k s (List.mem_cons_of_mem _ hs) fp0 o0 (fun a ha => List.mem_append_right _ (hf a ha)) q)
    exact ⟨fp' ++ os, .cons q (all r fun s hs fp0 o0 hf q => k s (List.mem_cons_of_mem _ hs) fp0 o0 hf q), List.Perm.refl _⟩
  | _, _, _, i + 1, s, .cons (fp := fp) (os := os) (o := o) (σ := σ) (s := s0) (Γ := Γ) p r, e => by
    obtain ⟨o1, fp1, r1, e1, p1, q1, k1⟩ := Slots.at (i := i) (s := s) r (by simpa using e)
    refine ⟨o1, fp1, fp ++ r1, by simpa using e1, p1, ?_, ?_⟩
    · refine (List.Perm.append_left fp q1).trans ?_
      rw [← List.append_assoc, ← List.append_assoc]
      exact List.Perm.append_right r1 List.perm_append_comm
    · intro F' H' fp' o' s' q k
      obtain ⟨os', h1, h2⟩ := k1 q (fun s hs fp0 o0 hf q => k s (List.mem_cons_of_mem _ hs) fp0 o0 (fun a ha => List.mem_append_right _ (hf a ha)) q)
      refine ⟨fp ++ os', .cons (k s0 List.mem_cons_self fp o (fun a ha => List.mem_append_left _ ha) p) h1, ?_⟩
      refine (List.Perm.append_left fp h2).trans ?_
      rw [← List.append_assoc, ← List.append_assoc]
      exact List.Perm.append_right r1 List.perm_append_comm

/-! ### the world: the caller's heaps, the frozen heap F, the heap H, what is owned -/
structure Bs where
  F : Hp
  H : Hp
  os : List Addr
structure Wo (B : Bs) (F H : Hp) (os : List Addr) : Prop where
  sub : Same F H
  nd : os.Nodup
  oF : ∀ a ∈ os, F a = none
  oH : ∀ a ∈ os, ∃ o, H a = some o
  bF : Same B.F F
  bH : ∀ a o, B.H a = some o → a ∉ B.os → H a = some o
  bN : ∀ a o, F a = some o → B.F a = some o ∨ B.H a = none ∨ a ∈ B.os
  bO : ∀ a ∈ os, B.H a = none ∨ a ∈ B.os
section
variable {B : Bs} {F H F' H' : Hp} {os os' : List Addr}
theorem Wo.perm (W : Wo B F H os) (p : os.Perm os') : Wo B F H os' :=
  ⟨W.sub, p.nodup_iff.mp W.nd, fun a h => W.oF a (p.mem_iff.mpr h), fun a h => W.oH a (p.mem_iff.mpr h), W.bF, W.bH, W.bN, fun a h => W.bO a (p.mem_iff.mpr h)⟩
theorem Wo.drop {a b : List Addr} (W : Wo B F H (a ++ b)) : Wo B F H b :=
  ⟨W.sub, (List.nodup_append.mp W.nd).2.1, fun x h => W.oF x (List.mem_append_right _ h), fun x h => W.oH x (List.mem_append_right _ h), W.bF, W.bH, W.bN, fun x h => W.bO x (List.mem_append_right _ h)⟩
theorem Wo.dropR {a b : List Addr} (W : Wo B F H (a ++ b)) : Wo B F H a := (W.perm List.perm_append_comm).drop
theorem Wo.bFree (W : Wo B F H os) {p : Addr} (h : H p = none) : B.H p = none ∨ p ∈ B.os := by
  cases q : B.H p with
  | none => exact .inl rfl
  | some o =>
    refine .inr ?_
    by_cases hp : p ∈ B.os
    · exact hp
    · rw [W.bH p o q hp] at h; cases h
theorem Wo.free (W : Wo B F H os) {p : Addr} (h : H p = none) : F p = none ∧ p ∉ os := by
  refine ⟨?_, fun hp => ?_⟩
  · cases q : F p with
    | none => rfl
    | some o => rw [W.sub p o q] at h; cases h
  · obtain ⟨o, e⟩ := W.oH p hp
    rw [e] at h; cases h
theorem same_upd {H : Hp} {p : Addr} {o : HO} (h : H p = none) : Same H (upd H p o) := fun a u e => by
  rw [upd_ne (ne_of_none e h)]; exact e
/-- a new frozen object -/
theorem Wo.newF (W : Wo B F H os) {p : Addr} {o : HO} (h : H p = none) : Wo B (upd F p o) (upd H p o) os := by
  obtain ⟨f0, n0⟩ := W.free h
  refine ⟨fun a u e => ?_, W.nd, fun a ha => ?_, fun a ha => ?_, fun a u e => ?_, fun a u e hb => ?_, fun a u e => ?_, W.bO⟩
  · by_cases q : a = p
    · subst q; rw [upd_same] at e ⊢; exact e
    · rw [upd_ne q] at e ⊢; exact W.sub a u e
  · rw [upd_ne (fun q => n0 (by rw [← q]; exact ha))]; exact W.oF a ha
  · rw [upd_ne (fun q => n0 (by rw [← q]; exact ha))]; exact W.oH a ha
  · exact same_upd f0 a u (W.bF a u e)
  · exact same_upd h a u (W.bH a u e hb)
  · by_cases q : a = p
    · subst q; exact .inr (W.bFree h)
    · rw [upd_ne q] at e; exact W.bN a u e
/-- a new owned object -/
theorem Wo.newO (W : Wo B F H os) {p : Addr} {o : HO} (h : H p = none) : Wo B F (upd H p o) (p :: os) := by
  obtain ⟨f0, n0⟩ := W.free h
  refine ⟨fun a u e => same_upd h a u (W.sub a u e), List.nodup_cons.mpr ⟨n0, W.nd⟩, fun a ha => ?_, fun a ha => ?_, W.bF, fun a u e hb => same_upd h a u (W.bH a u e hb), W.bN, fun a ha => ?_⟩
  · rcases List.mem_cons.mp ha with rfl | ha
    · exact f0
    · exact W.oF a ha
  · rcases List.mem_cons.mp ha with rfl | ha
    · exact ⟨o, upd_same⟩
    · obtain ⟨u, e⟩ := W.oH a ha; exact ⟨u, same_upd h a u e⟩
  · rcases List.mem_cons.mp ha with rfl | ha
    · exact W.bFree h
    · exact W.bO a ha
/-- an owned object changes -/
theorem Wo.write (W : Wo B F H os) {p : Addr} {o : HO} (hp : p ∈ os) : Wo B F (upd H p o) os := by
  have nf : ∀ a u, F a = some u → a ≠ p := fun a u e q => by subst q; rw [W.oF a hp] at e; cases e
  refine ⟨fun a u e => by rw [upd_ne (nf a u e)]; exact W.sub a u e, W.nd, W.oF, fun a ha => ?_, W.bF, fun a u e hb => ?_, W.bN, W.bO⟩
  · by_cases q : a = p
    · subst q; exact ⟨o, upd_same⟩
    · rw [upd_ne q]; exact W.oH a ha
  · have q : a ≠ p := fun q => by
      subst q
      rcases W.bO a hp with z | z
      · rw [z] at e; cases e
      · exact hb z
    rw [upd_ne q]; exact W.bH a u e hb
/-- owned objects become frozen -/
theorem Wo.freeze {a b : List Addr} (W : Wo B F H (a ++ b)) : ∃ F', Wo B F' H b ∧ Same F F' ∧ ∀ x ∈ a, F' x = H x := by
  classical
  have nd := List.nodup_append.mp W.nd
  refine ⟨fun x => if x ∈ a then H x else F x, ⟨fun x o e => ?_, nd.2.1, fun x hx => ?_, fun x hx => W.oH x (List.mem_append_right _ hx), fun x o e => ?_, W.bH, fun x o e => ?_, fun x hx => W.bO x (List.mem_append_right _ hx)⟩, fun x o e => ?_, fun x hx => if_pos hx⟩
  · by_cases q : x ∈ a
    · simp only [q, if_true] at e; exact e
    · simp only [q, if_false] at e; exact W.sub x o e
  · have q : x ∉ a := fun q => (nd.2.2 x q x hx) rfl
    simp only [q, if_false]; exact W.oF x (List.mem_append_right _ hx)
  · have q : x ∉ a := fun q => by
      have z := W.oF x (List.mem_append_left _ q)
      rw [W.bF x o e] at z; cases z
    simp only [q, if_false]; exact W.bF x o e
  · by_cases q : x ∈ a
    · exact .inr (W.bO x (List.mem_append_left _ q))
    · simp only [q, if_false] at e; exact W.bN x o e
  · have q : x ∉ a := fun q => by
      have z := W.oF x (List.mem_append_left _ q)
      rw [e] at z; cases z
    simp only [q, if_false]; exact e
end

/-- a state told from an entry within -/
theorem Wo.trans {B : Bs} {F1 H1 F2 H2 : Hp} {os1 os2 : List Addr} (W1 : Wo B F1 H1 os1) (W2 : Wo ⟨F1, H1, os1⟩ F2 H2 os2) : Wo B F2 H2 os2 := by
  refine ⟨W2.sub, W2.nd, W2.oF, W2.oH, W1.bF.trans W2.bF, fun a o e hb => ?_, fun a o e => ?_, fun a ha => ?_⟩
  · refine W2.bH a o (W1.bH a o e hb) fun z => ?_
    rcases W1.bO a z with q | q
    · rw [q] at e; cases e
    · exact hb q
  · rcases W2.bN a o e with q | q | q
    · exact W1.bN a o q
    · exact .inr (W1.bFree q)
    · exact .inr (W1.bO a q)
  · rcases W2.bO a ha with q | q
    · exact W1.bFree q
    · exact W1.bO a q
theorem Wo.self {B : Bs} {F H : Hp} {os : List Addr} (W : Wo B F H os) : Wo ⟨F, H, os⟩ F H os :=
  ⟨W.sub, W.nd, W.oF, W.oH, fun _ _ h => h, fun _ _ h _ => h, fun _ _ h => .inl h, fun _ h => .inr h⟩

/-! ### the state of a frame -/
def Sta (B : Bs) (F H : Hp) (σ : List (Option V)) (Γ : List Slot) : Prop := ∃ os, Wo B F H os ∧ Slots F H os σ Γ
end Ty

/-! Ty2 -/
namespace Ty
open PySem PySem.Spec L2

/-! ### kinds of values -/
/-- frozen data: what of the frozen heap makes v the datum a -/
structure VP (α : Type) where
  R : Hp → V → α → Prop
  mono : ∀ {F F' : Hp} {v : V} {a : α}, Same F F' → R F v a → R F' v a
/-- owned data: at the addresses fp -/
structure OP (α : Type) where
  P : Hp → Hp → List Addr → V → α → Prop
  mono : ∀ {F H F' H' : Hp} {fp : List Addr} {v : V} {a : α}, Same F F' → Same H H' → P F H fp v a → P F' H' fp v a
  mm : ∀ {F H F' H' : Hp} {fp : List Addr} {v : V} {a : α}, Same F F' → (∀ x ∈ fp, H' x = H x) → P F H fp v a → P F' H' fp v a
section
variable {α β γ : Type}
def val (p : VP α) (a : α) : Slot where
  P := fun F _ fp o => fp = [] ∧ ∃ v, o = some v ∧ p.R F v a
  mono := fun hF _ h => let ⟨e, v, ev, r⟩ := h; ⟨e, v, ev, p.mono hF r⟩
  st := True
  mm := fun _ {_ _ _ _ _ _} hF _ h => let ⟨e, v, ev, r⟩ := h; ⟨e, v, ev, p.mono hF r⟩
def dead : Slot where
  P := fun _ _ fp _ => fp = []
  mono := fun {_ _ _ _ _ _} _ _ h => h
  st := True
  mm := fun {_ _ _ _ _ _ _} _ _ h => h
def own (O : OP α) (a : α) : Slot where
  P := fun F H fp o => ∃ v, o = some v ∧ O.P F H fp v a
  mono := fun hF hH h => let ⟨v, ev, r⟩ := h; ⟨v, ev, O.mono hF hH r⟩
  st := True
  mm := fun _ {_ _ _ _ _ _} hF hH h => let ⟨v, ev, r⟩ := h; ⟨v, ev, O.mm hF hH r⟩
/-- something owned that is looked at: its data by the whole heap -/
def bor (p : VP α) (a : α) : Slot where
  P := fun _ H fp o => fp = [] ∧ ∃ v, o = some v ∧ p.R H v a
  mono := fun _ hH h => let ⟨e, v, ev, r⟩ := h; ⟨e, v, ev, p.mono hH r⟩
  st := False
  mm := fun h => h.elim

theorem Paired.mon {α β : Type} {R R' : α → β → Prop} (h : ∀ a b, R a b → R' a b) : ∀ {xs ys}, Paired R xs ys → Paired R' xs ys
  | _, _, .nil => .nil
  | _, _, .cons r t => .cons (h _ _ r) (Paired.mon h t)
def pInt : VP Int := ⟨fun _ v i => v = .int i, fun _ h => h⟩
def pBl : VP Bool := ⟨fun _ v b => v = .bl b, fun _ h => h⟩
def pStr : VP Str := ⟨fun _ v s => v = .str s, fun _ h => h⟩
def pNon : VP Unit := ⟨fun _ v _ => v = .non, fun _ h => h⟩
def pOpt (p : VP α) : VP (Option α) where
  R := fun F v o => match o with | none => v = .non | some a => p.R F v a ∧ v ≠ .non
  mono := fun {F F' v a} hF h => by
    cases a with
    | none => exact h
    | some a => exact ⟨p.mono hF h.1, h.2⟩
def pL (p : VP α) : VP (List α) where
  R := fun F v xs => ∃ l vs, v = .ref l ∧ F l = some (.lst vs) ∧ Paired (p.R F) vs xs
  mono := fun hF h => let ⟨l, vs, e, h1, h2⟩ := h; ⟨l, vs, e, hF _ _ h1, Paired.mon (fun _ _ r => p.mono hF r) h2⟩
/-- a tuple of any length -/
def pTup (p : VP α) : VP (List α) where
  R := fun F v xs => ∃ l vs, v = .ref l ∧ F l = some (.tup vs) ∧ Paired (p.R F) vs xs
  mono := fun hF h => let ⟨l, vs, e, h1, h2⟩ := h; ⟨l, vs, e, hF _ _ h1, Paired.mon (fun _ _ r => p.mono hF r) h2⟩
def pT2 (p : VP α) (q : VP β) : VP (α × β) where
  R := fun F v x => ∃ l a b, v = .ref l ∧ F l = some (.tup [a, b]) ∧ p.R F a x.1 ∧ q.R F b x.2
  mono := fun hF h => let ⟨l, a, b, e, h1, h2, h3⟩ := h; ⟨l, a, b, e, hF _ _ h1, p.mono hF h2, q.mono hF h3⟩
def pT3 (p : VP α) (q : VP β) (r : VP γ) : VP (α × β × γ) where
  R := fun F v x => ∃ l a b c, v = .ref l ∧ F l = some (.tup [a, b, c]) ∧ p.R F a x.1 ∧ q.R F b x.2.1 ∧ r.R F c x.2.2
  mono := fun hF h => let ⟨l, a, b, c, e, h1, h2, h3, h4⟩ := h; ⟨l, a, b, c, e, hF _ _ h1, p.mono hF h2, q.mono hF h3, r.mono hF h4⟩
/-- the script: it may be locked -/
def pScr (K : PySem.W.Frag) : VP (List Int) where
  R := fun F v ns => ∃ l, v = .ref l ∧ SqL K F l (ns.map V.int)
  mono := fun hF h => let ⟨l, e, h1⟩ := h; ⟨l, e, Same.seq hF h1⟩
/-- an owned list of frozen items -/
def oL (p : VP α) : OP (List α) where
  P := fun F H fp v xs => ∃ l vs, v = .ref l ∧ fp = [l] ∧ H l = some (.lst vs) ∧ Paired (p.R F) vs xs
  mono := fun hF hH h => let ⟨l, vs, e, ef, h1, h2⟩ := h; ⟨l, vs, e, ef, hH _ _ h1, Paired.mon (fun _ _ r => p.mono hF r) h2⟩
  mm := fun hF hH h => let ⟨l, vs, e, ef, h1, h2⟩ := h; ⟨l, vs, e, ef, by rw [hH l (by rw [ef]; exact List.mem_cons_self)]; exact h1, Paired.mon (fun _ _ r => p.mono hF r) h2⟩
/-- an owned list that is looked at: its items frozen -/
def borL (p : VP α) (xs : List α) : Slot where
  P := fun F H fp o => fp = [] ∧ ∃ l vs, o = some (.ref l) ∧ H l = some (.lst vs) ∧ Paired (p.R F) vs xs
  mono := fun hF hH h => let ⟨ef, l, vs, e, h1, h2⟩ := h; ⟨ef, l, vs, e, hH _ _ h1, Paired.mon (fun _ _ r => p.mono hF r) h2⟩
  st := False
  mm := fun h => h.elim
end
abbrev vInt (i : Int) : Slot := val pInt i
abbrev vBl (b : Bool) : Slot := val pBl b
abbrev vStr (s : Str) : Slot := val pStr s
abbrev vNon : Slot := val pNon ()

/-! ### views -/
section
variable {α β γ : Type}
/-- a list whose items are frozen, frozen or owned itself -/
def LV (s : Slot) (p : VP α) (xs : List α) : Prop := ∀ F H fp o, Same F H → s.P F H fp o → ∃ l vs, o = some (.ref l) ∧ H l = some (.lst vs) ∧ Paired (p.R F) vs xs
theorem LV.val {p : VP α} {xs : List α} : LV (val (pL p) xs) p xs := fun F H fp o hS h => let ⟨_, v, e, l, vs, ev, h1, h2⟩ := h; ⟨l, vs, by rw [e, ev], hS _ _ h1, h2⟩
theorem LV.own {p : VP α} {xs : List α} : LV (own (oL p) xs) p xs := fun F H fp o _ h => let ⟨v, e, l, vs, ev, _, h1, h2⟩ := h; ⟨l, vs, by rw [e, ev], h1, h2⟩
theorem LV.bor {p : VP α} {xs : List α} : LV (borL p xs) p xs := fun F H fp o _ h => let ⟨_, l, vs, e, h1, h2⟩ := h; ⟨l, vs, e, h1, h2⟩
/-- a list that may be locked -/
def SV (K : PySem.W.Frag) (s : Slot) (p : VP α) (xs : List α) : Prop := ∀ F H fp o, Same F H → s.P F H fp o → ∃ l vs, o = some (.ref l) ∧ SqL K H l vs ∧ Paired (p.R F) vs xs
theorem LV.sv {K : PySem.W.Frag} {s : Slot} {p : VP α} {xs : List α} (h : LV s p xs) : SV K s p xs := fun F H fp o hS q => let ⟨l, vs, e, h1, h2⟩ := h F H fp o hS q; ⟨l, vs, e, SqL.of h1, h2⟩
theorem paired_map_int {F : Hp} : ∀ (ns : List Int), Paired (pInt.R F) (ns.map V.int) ns
  | [] => .nil
  | _ :: r => .cons rfl (paired_map_int r)
theorem map_int_of {F : Hp} : ∀ {vs : List V} {ns : List Int}, Paired (pInt.R F) vs ns → vs = ns.map V.int
  | _, _, .nil => rfl
  | _, _, .cons r t => by rw [show _ = V.int _ from r, map_int_of t]; rfl
theorem SV.scr {K : PySem.W.Frag} {ns : List Int} : SV K (Ty.val (pScr K) ns) pInt ns := fun F H fp o hS h => let ⟨_, v, e, l, ev, h1⟩ := h; ⟨l, _, by rw [e, ev], Same.seq hS h1, paired_map_int ns⟩
/-- a tuple of any length -/
def TV (s : Slot) (p : VP α) (xs : List α) : Prop := ∀ F H fp o, Same F H → s.P F H fp o → ∃ l vs, o = some (.ref l) ∧ H l = some (.tup vs) ∧ Paired (p.R F) vs xs
theorem TV.val {p : VP α} {xs : List α} : TV (Ty.val (pTup p) xs) p xs := fun F H fp o hS h => let ⟨_, v, e, l, vs, ev, h1, h2⟩ := h; ⟨l, vs, by rw [e, ev], hS _ _ h1, h2⟩
/-- a value without a heap -/
def Flat (p : VP α) : Prop := ∀ F F' v a, p.R F v a → p.R F' v a
theorem Flat.int : Flat pInt := fun _ _ _ _ h => h
theorem Flat.bl : Flat pBl := fun _ _ _ _ h => h
theorem Flat.str : Flat pStr := fun _ _ _ _ h => h
theorem Flat.non : Flat pNon := fun _ _ _ _ h => h
theorem Flat.opt {p : VP α} (h : Flat p) : Flat (pOpt p) := fun F F' v a q => by
  cases a with
  | none => exact q
  | some a => exact ⟨h F F' v a q.1, q.2⟩
/-- any value, its data by the whole heap -/
def Vw (s : Slot) (p : VP α) (a : α) : Prop := ∀ F H fp o, Same F H → s.P F H fp o → ∃ v, o = some v ∧ p.R H v a
theorem Vw.val {p : VP α} {a : α} : Vw (Ty.val p a) p a := fun F H fp o hS h => let ⟨_, v, e, r⟩ := h; ⟨v, e, p.mono hS r⟩
theorem Vw.bor {p : VP α} {a : α} : Vw (Ty.bor p a) p a := fun F H fp o hS h => let ⟨_, v, e, r⟩ := h; ⟨v, e, r⟩
theorem LV.vw {s : Slot} {p : VP α} {xs : List α} (h : LV s p xs) : Vw s (pL p) xs := fun F H fp o hS q => let ⟨l, vs, e, h1, h2⟩ := h F H fp o hS q; ⟨_, e, l, vs, rfl, h1, Paired.mon (fun _ _ r => p.mono hS r) h2⟩
theorem val_P {p : VP α} {a : α} {F H : Hp} {fp : List Addr} {v : V} (h : (Ty.val p a).P F H fp (some v)) : fp = [] ∧ p.R F v a := by
  obtain ⟨e, v', ev, r⟩ := h
  cases ev; exact ⟨e, r⟩
end

/-! ### contexts: a body, or a block of a comprehension, whatever the state where it starts -/
structure Fa (P : Program) (w : World) (K : PySem.W.Frag) (mg : Str → Option Value) (base : Heap) (k : Nat) where
  I : Type
  X : I → Cx
  hP : ∀ i, (X i).prog = P
  hw : ∀ i, (X i).w = w
  hK : ∀ i, (X i).K = K
  hM : ∀ i, (X i).mg = mg
  hB : ∀ i, (X i).base = base
  cm : Bool
  hC : ∀ i, (X i).calm = cm
  hR : cm = true → ∀ i, Room k (X i).A
  hU : ∀ i, (X i).A.units + 64 < cLine
  W : WX
  tk : ∀ i, Takes (X i) W
  hN : ∀ i, (X i).N.Nodup
  hO : ∀ i, PassesOwn (model (X i).prog (X i).w) (X i).A (X i).env (X i).xe
section
variable {P : Program} {w : World} {K : PySem.W.Frag} {mg : Str → Option Value} {base : Heap} {k : Nat}
/-- where an expression stands: the world, and the frame told by Γ somewhere within what is owned -/
structure In (B : Bs) (F H : Hp) (os : List Addr) (σ : List (Option V)) (Γ : List Slot) : Prop where
  W : Wo B F H os
  S : ∃ o2 r, os.Perm (o2 ++ r) ∧ Slots F H o2 σ Γ
theorem In.step {B : Bs} {F H F' H' : Hp} {fp os : List Addr} {σ : List (Option V)} {Γ : List Slot} (I : In B F H os σ Γ) (hF : Same F F') (hH : Same H H') (W : Wo B F' H' (fp ++ os)) : In B F' H' (fp ++ os) σ Γ := by
  obtain ⟨_, o2, r, p, S⟩ := I
  exact ⟨W, o2, r ++ fp, (List.perm_append_comm.trans (List.Perm.append_right fp p)).trans (by rw [List.append_assoc]), S.mono hF hH⟩
theorem In.step0 {B : Bs} {F H F' H' : Hp} {os : List Addr} {σ : List (Option V)} {Γ : List Slot} (I : In B F H os σ Γ) (hF : Same F F') (hH : Same H H') (W : Wo B F' H' os) : In B F' H' os σ Γ := I.step (fp := []) hF hH W
/-- e gives a value told by r; all that was stands, what is new is the value's -/
def XV (Y : Fa P w K mg base k) (e : Expr) (Γ : List Slot) (r : Slot) : Prop :=
  ∃ t : TE, (∀ i, PE (Y.X i) e t) ∧ ∀ (B : Bs) (F H : Hp) (os : List Addr) (σ : List (Option V)) (Q : VK), In B F H os σ Γ →
    (∀ v F' H' fp, Same F F' → Same H H' → Wo B F' H' (fp ++ os) → r.P F' H' fp (some v) → Q v H') → t σ H Q
def XT (Y : Fa P w K mg base k) (e : Expr) (Γ : List Slot) (b : Bool) : Prop :=
  ∃ t : TT, (∀ i, PT (Y.X i) e t) ∧ ∀ (B : Bs) (F H : Hp) (os : List Addr) (σ : List (Option V)) (Q : Bool → Hp → Prop), In B F H os σ Γ →
    (∀ F' H', Same F F' → Same H H' → Wo B F' H' os → Q b H') → t σ H Q
def XW (Y : Fa P w K mg base k) (e : Expr) (Γ : List Slot) (b : Bool) : Prop :=
  ∃ t : TT, (∀ i, PW (Y.X i) e t) ∧ ∀ (B : Bs) (F H : Hp) (os : List Addr) (σ : List (Option V)) (Q : Bool → Hp → Prop), In B F H os σ Γ →
    (∀ F' H', Same F F' → Same H H' → Wo B F' H' os → Q b H') → t σ H Q
def XA (Y : Fa P w K mg base k) (es : List Expr) (Γ As : List Slot) : Prop :=
  ∃ t : TA, (∀ i, PA (Y.X i) es t) ∧ ∀ (B : Bs) (F H : Hp) (os : List Addr) (σ : List (Option V)) (Q : List V → Hp → Prop), In B F H os σ Γ →
    (∀ vs F' H' fp, Same F F' → Same H H' → Wo B F' H' (fp ++ os) → Slots F' H' fp (vs.map some) As → Q vs H') → t σ H Q
/-- a two-place operation on values -/
def Op2 (r : R2) (a b c : Slot) : Prop := ∀ (B : Bs) (F H : Hp) (x y : V) (fx fy os : List Addr) (Q : VK), Wo B F H (fy ++ (fx ++ os)) → a.P F H fx (some x) → b.P F H fy (some y) →
  (∀ v F' H' fp, Same F F' → Same H H' → Wo B F' H' (fp ++ os) → c.P F' H' fp (some v) → Q v H') → r x y H Q
def Op1 (r : V → Hp → VK → Prop) (a c : Slot) : Prop := ∀ (B : Bs) (F H : Hp) (x : V) (fx os : List Addr) (Q : VK), Wo B F H (fx ++ os) → a.P F H fx (some x) →
  (∀ v F' H' fp, Same F F' → Same H H' → Wo B F' H' (fp ++ os) → c.P F' H' fp (some v) → Q v H') → r x H Q
/-- a call of a known value -/
def OpA (r : List V → Hp → VK → Prop) (As : List Slot) (c : Slot) : Prop := ∀ (B : Bs) (F H : Hp) (vs : List V) (fx os : List Addr) (Q : VK), Wo B F H (fx ++ os) → Slots F H fx (vs.map some) As →
  (∀ v F' H' fp, Same F F' → Same H H' → Wo B F' H' (fp ++ os) → c.P F' H' fp (some v) → Q v H') → r vs H Q
variable {Y : Fa P w K mg base k} {e ea eb : Expr} {es : List Expr} {Γ : List Slot} {a b c r : Slot} {pos : Pos}

theorem same_refl {H : Hp} : Same H H := fun _ _ h => h
theorem val_no {α : Type} {p : VP α} {z : α} {F H : Hp} {fp : List Addr} {v : Option V} (h : (val p z).P F H fp v) : fp = [] := h.1
/-! ### atoms -/
theorem x_int {z : Int} {j : Nat} : XV Y (.Constant (.int z) j pos) Γ (vInt z) :=
  ⟨_, fun _ => pe_int, fun _ F H os σ Q I q => q _ F H [] same_refl same_refl I.W ⟨rfl, _, rfl, rfl⟩⟩
theorem x_bl {z : Bool} {j : Nat} : XV Y (.Constant (.bool z) j pos) Γ (vBl z) :=
  ⟨_, fun _ => pe_bl, fun _ F H os σ Q I q => q _ F H [] same_refl same_refl I.W ⟨rfl, _, rfl, rfl⟩⟩
theorem In.slot {B : Bs} {F H : Hp} {os : List Addr} {σ : List (Option V)} {i : Nat} {s : Slot} (I : In B F H os σ Γ) (hs : Γ[i]? = some s) : ∃ o fp, σ[i]? = some o ∧ s.P F H fp o := by
  obtain ⟨_, o2, r, p, S⟩ := I
  obtain ⟨o, fp, _, e, p, _⟩ := S.at hs
  exact ⟨o, fp, e, p⟩
/-- a name -/
theorem x_var {α : Type} {p : VP α} {z : α} (i : Nat) {x : Str} (hs : Γ[i]? = some (val p z) := by rfl) (hN : ∀ j, (Y.X j).N[i]? = some x := by intro _; rfl)
    (hv : ∀ j, Vis (Y.X j).env.scope x := by intro _; first | exact Or.inl rfl | exact Or.inr (Or.inl rfl) | exact Or.inr (Or.inr rfl)) (hd : (x == ("__debug__" : Str)) = false := by decide) (hcd : (x == ("__classdict__" : Str)) = false := by decide) : XV Y (.Name x pos) Γ (val p z) := by
  refine ⟨_, fun j => pe_var (hN j) (hv j) hd hcd, fun B F H os σ Q I q => ?_⟩
  obtain ⟨o, fp, e, ef, v, ev, h⟩ := I.slot hs
  subst ev
  exact ⟨v, e, q v F H [] same_refl same_refl I.W ⟨rfl, v, rfl, h⟩⟩
/-- an owned list's name, looked at -/
theorem x_varL {α : Type} {p : VP α} {z : List α} (i : Nat) {x : Str} (hs : Γ[i]? = some (own (oL p) z) := by rfl) (hN : ∀ j, (Y.X j).N[i]? = some x := by intro _; rfl)
    (hv : ∀ j, Vis (Y.X j).env.scope x := by intro _; first | exact Or.inl rfl | exact Or.inr (Or.inl rfl) | exact Or.inr (Or.inr rfl)) (hd : (x == ("__debug__" : Str)) = false := by decide) (hcd : (x == ("__classdict__" : Str)) = false := by decide) : XV Y (.Name x pos) Γ (borL p z) := by
  refine ⟨_, fun j => pe_var (hN j) (hv j) hd hcd, fun B F H os σ Q I q => ?_⟩
  obtain ⟨o, fp, e, v, ev, l, vs, el, _, h1, h2⟩ := I.slot hs
  subst ev; subst el
  exact ⟨_, e, q _ F H [] same_refl same_refl I.W ⟨rfl, l, vs, rfl, h1, h2⟩⟩
/-- a module's constant -/
theorem x_glob {α : Type} {p : VP α} {z : α} {x : Str} {v : V} {u : Value} (hm : mg x = some u) (hr : RelV v u) (hz : ∀ F, p.R F v z) (hg : ∀ j, Gl (Y.X j) x := by intro _; rfl) (hd : (x == ("__debug__" : Str)) = false := by decide) : XV Y (.Name x pos) Γ (val p z) :=
  ⟨_, fun j => pe_glob (hg j) (by rw [Y.hM]; exact hm) hr hd, fun _ F H os σ Q I q => q v F H [] same_refl same_refl I.W ⟨rfl, _, rfl, hz F⟩⟩

/-! ### operators -/
/-- two in a row -/
theorem two {ta tb : TE} {B : Bs} {F H : Hp} {os : List Addr} {σ : List (Option V)} {Q : VK} {R : V → V → Hp → Prop} (I : In B F H os σ Γ)
    (ra : ∀ (B : Bs) (F H : Hp) (os : List Addr) (σ : List (Option V)) (Q : VK), In B F H os σ Γ → (∀ v F' H' fp, Same F F' → Same H H' → Wo B F' H' (fp ++ os) → a.P F' H' fp (some v) → Q v H') → ta σ H Q)
    (rb : ∀ (B : Bs) (F H : Hp) (os : List Addr) (σ : List (Option V)) (Q : VK), In B F H os σ Γ → (∀ v F' H' fp, Same F F' → Same H H' → Wo B F' H' (fp ++ os) → b.P F' H' fp (some v) → Q v H') → tb σ H Q)
    (h : ∀ x y F' H' fx fy, Same F F' → Same H H' → Wo B F' H' (fy ++ (fx ++ os)) → a.P F' H' fx (some x) → b.P F' H' fy (some y) → R x y H') : ta σ H fun x H1 => tb σ H1 fun y H2 => R x y H2 := by
  refine ra B F H os σ _ I fun x F1 H1 fx f1 e1 W1 p1 => ?_
  refine rb B F1 H1 _ σ _ (I.step f1 e1 W1) fun y F2 H2 fy f2 e2 W2 p2 => ?_
  exact h x y F2 H2 fx fy (f1.trans f2) (e1.trans e2) W2 (a.mono f2 e2 p1) p2
theorem x_op {op : Operator} {r2 : R2} (ho : ∀ i, OpR (Y.X i) (binaryOp op) r2) (h : Op2 r2 a b c) (ha : XV Y ea Γ a) (hb : XV Y eb Γ b) : XV Y (.BinOp ea op eb pos) Γ c := by
  obtain ⟨ta, pa, ra⟩ := ha
  obtain ⟨tb, pb, rb⟩ := hb
  refine ⟨_, fun i => pe_op (ho i) (pa i) (pb i), fun B F H os σ Q I q => ?_⟩
  refine two (Q := Q) I ra rb fun x y F2 H2 fx fy f2 e2 W2 p1 p2 => ?_
  exact h B F2 H2 x y fx fy os Q W2 p1 p2 fun v F3 H3 fp f3 e3 W3 p3 => q v F3 H3 fp (f2.trans f3) (e2.trans e3) W3 p3
theorem x_cmp {op : CmpOp} {r2 : R2} (ho : ∀ i, OpR (Y.X i) (compareOp op) r2) (h : Op2 r2 a b c) (hm : behindInMarks op eb = false) (ha : XV Y ea Γ a) (hb : XV Y eb Γ b) : XV Y (.Compare ea [op] [eb] pos) Γ c := by
  obtain ⟨ta, pa, ra⟩ := ha
  obtain ⟨tb, pb, rb⟩ := hb
  refine ⟨_, fun i => pe_cmpR (ho i) (pa i) (pb i) hm, fun B F H os σ Q I q => ?_⟩
  refine two (Q := Q) I ra rb fun x y F2 H2 fx fy f2 e2 W2 p1 p2 => ?_
  exact h B F2 H2 x y fx fy os Q W2 p1 p2 fun v F3 H3 fp f3 e3 W3 p3 => q v F3 H3 fp (f2.trans f3) (e2.trans e3) W3 p3
theorem vbl {z : Bool} {F H : Hp} {fp : List Addr} {v : V} (h : (vBl z).P F H fp (some v)) : v = .bl z := (val_P h).2
theorem vint {z : Int} {F H : Hp} {fp : List Addr} {v : V} (h : (vInt z).P F H fp (some v)) : v = .int z := (val_P h).2
theorem Wo.flat {α : Type} {p : VP α} {z : α} {B : Bs} {F H F1 H1 : Hp} {fp os : List Addr} {v : Option V} (W : Wo B F H (fp ++ os)) (h : (val p z).P F1 H1 fp v) : Wo B F H os := W.drop
theorem xt_cmp {op : CmpOp} {r2 : R2} {z : Bool} (ho : ∀ i, OpR (Y.X i) (compareOp op) r2) (h : Op2 r2 a b (vBl z)) (hm : behindInMarks op eb = false) (ha : XV Y ea Γ a) (hb : XV Y eb Γ b) : XT Y (.Compare ea [op] [eb] pos) Γ z := by
  obtain ⟨ta, pa, ra⟩ := ha
  obtain ⟨tb, pb, rb⟩ := hb
  refine ⟨_, fun i => pt_cmpR (ho i) (pa i) (pb i) hm, fun B F H os σ Q I q => ?_⟩
  refine two (Q := fun _ _ => True) I ra rb fun x y F2 H2 fx fy f2 e2 W2 p1 p2 => ?_
  exact h B F2 H2 x y fx fy os _ W2 p1 p2 fun v F3 H3 fp f3 e3 W3 p3 => ⟨z, vbl p3, q F3 H3 (f2.trans f3) (e2.trans e3) W3.drop⟩
/-- a op1 b op2 c, b an int -/
theorem xt_chain {op op' : CmpOp} {r2 r2' : R2} {ec : Expr} {z z' u : Bool} {n : Int} (ho : ∀ i, OpR (Y.X i) (compareOp op) r2) (ho' : ∀ i, OpR (Y.X i) (compareOp op') r2') (h : Op2 r2 a (vInt n) (vBl z)) (h' : z = true → Op2 r2' (vInt n) c (vBl z'))
    (hu : u = (z && z')) (ha : XV Y ea Γ a) (hb : XV Y eb Γ (vInt n)) (hc : z = true → XV Y ec Γ c) (hm : lastMarks [op, op'] [eb, ec] = false := by with_unfolding_all rfl) : XT Y (.Compare ea [op, op'] [eb, ec] pos) Γ u := by
  subst hu
  obtain ⟨ta, pa, ra⟩ := ha
  obtain ⟨tb, pb, rb⟩ := hb
  cases z with
  | true =>
    obtain ⟨tc, pc, rc⟩ := hc rfl
    refine ⟨_, fun i => pt_chain (ho i) (ho' i) (pa i) (pb i) (pc i) hm, fun B F H os σ Q I q => ?_⟩
    refine two (Q := fun _ _ => True) I ra rb fun x y F2 H2 fx fy f2 e2 W2 p1 p2 => ?_
    obtain rfl := val_no p2
    refine h B F2 H2 x y fx [] os _ W2 p1 p2 fun v F3 H3 fp f3 e3 W3 p3 => ?_
    refine ⟨true, vbl p3, ?_⟩
    show tc σ H3 _
    have W3' := W3.drop
    refine rc B F3 H3 os σ _ (I.step0 (f2.trans f3) (e2.trans e3) W3') fun z4 F4 H4 fp4 f4 e4 W4 p4 => ?_
    refine h' rfl B F4 H4 y z4 [] fp4 os _ W4 ((vInt n).mono (f3.trans f4) (e3.trans e4) p2) p4 fun v5 F5 H5 fp5 f5 e5 W5 p5 => ?_
    exact ⟨z', vbl p5, q F5 H5 (((f2.trans f3).trans f4).trans f5) (((e2.trans e3).trans e4).trans e5) W5.drop⟩
  | false =>
    have dum : ∃ tc, ∀ i, PE (Y.X i) ec tc := ⟨fun _ _ _ => False, fun i => ⟨fun _ _ _ _ _ _ h => h.elim⟩⟩
    obtain ⟨tc, pc⟩ := dum
    refine ⟨_, fun i => pt_chain (ho i) (ho' i) (pa i) (pb i) (pc i) hm, fun B F H os σ Q I q => ?_⟩
    refine two (Q := fun _ _ => True) I ra rb fun x y F2 H2 fx fy f2 e2 W2 p1 p2 => ?_
    refine h B F2 H2 x y fx fy os _ W2 p1 p2 fun v F3 H3 fp f3 e3 W3 p3 => ?_
    refine ⟨false, vbl p3, ?_⟩
    show ∃ k, V.bl false = .bl k ∧ _
    exact ⟨false, rfl, q F3 H3 (f2.trans f3) (e2.trans e3) W3.drop⟩
theorem x_un {op : UnaryOp} {r1 : V → Hp → VK → Prop} (ho : ∀ i, UnR (Y.X i) (unaryOp op) r1) (h : Op1 r1 a c) (ha : XV Y ea Γ a) : XV Y (.UnaryOp op ea pos) Γ c := by
  obtain ⟨ta, pa, ra⟩ := ha
  refine ⟨_, fun i => pe_un (ho i) (pa i), fun B F H os σ Q I q => ?_⟩
  refine ra B F H os σ _ I fun x F1 H1 fx f1 e1 W1 p1 => ?_
  exact h B F1 H1 x fx os Q W1 p1 fun v F3 H3 fp f3 e3 W3 p3 => q v F3 H3 fp (f1.trans f3) (e1.trans e3) W3 p3

/-! ### tests -/
theorem xt_val {z : Bool} (h : XV Y e Γ (vBl z)) (he : ∀ i whole, isTrue e (Y.X i).env whole = (do let v ← whole; standAt e.pos; holding [v] (truthy v)) := by intro _ _; rfl) : XT Y e Γ z := by
  obtain ⟨t, p, r⟩ := h
  refine ⟨_, fun i => pt_val (p i) (he i), fun B F H os σ Q I q => ?_⟩
  refine r B F H os σ _ I fun v F1 H1 fp f1 e1 W1 p1 => ?_
  exact ⟨z, vbl p1, q F1 H1 f1 e1 W1.drop⟩
theorem xw_pt {z : Bool} (h : XW Y e Γ z) : XT Y e Γ z := let ⟨t, p, r⟩ := h; ⟨t, fun i => (p i).pt, r⟩
theorem xw_or1 {z : Bool} (h : XT Y e Γ z) : XW Y (.BoolOp .Or [e] pos) Γ z := let ⟨t, p, r⟩ := h; ⟨t, fun i => pw_or1 (p i), r⟩
theorem pw_dum {i : Y.I} : PW (Y.X i) e (fun _ _ _ => False) := ⟨fun _ _ _ _ _ _ _ h => h.elim⟩
theorem pe_dum {i : Y.I} : PE (Y.X i) e (fun _ _ _ => False) := ⟨fun _ _ _ _ _ _ h => h.elim⟩
theorem xw_or {z z' u : Bool} (h : XT Y ea Γ z) (h2 : z = false → XW Y (.BoolOp .Or (eb :: es) pos) Γ z') (hu : u = (z || z')) : XW Y (.BoolOp .Or (ea :: eb :: es) pos) Γ u := by
  subst hu
  obtain ⟨t, p, r⟩ := h
  cases z with
  | false =>
    obtain ⟨t2, p2, r2⟩ := h2 rfl
    refine ⟨_, fun i => pw_or (p i) (p2 i), fun B F H os σ Q I q => ?_⟩
    refine r B F H os σ _ I fun F1 H1 f1 e1 W1 => ?_
    show t2 σ H1 Q
    exact r2 B F1 H1 os σ _ (I.step0 f1 e1 W1) fun F2 H2 f2 e2 W2 => q F2 H2 (f1.trans f2) (e1.trans e2) W2
  | true =>
    refine ⟨_, fun i => pw_or (p i) pw_dum, fun B F H os σ Q I q => ?_⟩
    refine r B F H os σ _ I fun F1 H1 f1 e1 W1 => ?_
    show Q true H1
    exact q F1 H1 f1 e1 W1
theorem xt_not {z u : Bool} (h : XT Y e Γ z) (hu : u = !z) : XT Y (.UnaryOp .Not e pos) Γ u := by
  subst hu
  obtain ⟨t, p, r⟩ := h
  exact ⟨_, fun i => pt_not (p i), fun B F H os σ Q I q => r B F H os σ _ I fun F1 H1 f1 e1 W1 => q F1 H1 f1 e1 W1⟩
/-- as values, all bools -/
theorem x_one {op : BoolOp} (h : XV Y e Γ r) : XV Y (.BoolOp op [e] pos) Γ r := let ⟨t, p, r⟩ := h; ⟨t, fun i => pe_one (p i), r⟩
theorem x_and {z z' u : Bool} (h : XV Y ea Γ (vBl z)) (h2 : z = true → XV Y (.BoolOp .And (eb :: es) pos) Γ (vBl z')) (hu : u = (z && z')) : XV Y (.BoolOp .And (ea :: eb :: es) pos) Γ (vBl u) := by
  subst hu
  obtain ⟨t, p, r⟩ := h
  cases z with
  | true =>
    obtain ⟨t2, p2, r2⟩ := h2 rfl
    refine ⟨_, fun i => pe_and (p i) (p2 i), fun B F H os σ Q I q => ?_⟩
    refine r B F H os σ _ I fun v F1 H1 fp f1 e1 W1 p1 => ?_
    refine ⟨true, vbl p1, ?_⟩
    show t2 σ H1 Q
    exact r2 B F1 H1 os σ _ (I.step0 f1 e1 W1.drop) fun v F2 H2 fp f2 e2 W2 p2 => q v F2 H2 fp (f1.trans f2) (e1.trans e2) W2 p2
  | false =>
    refine ⟨_, fun i => pe_and (p i) pe_dum, fun B F H os σ Q I q => ?_⟩
    refine r B F H os σ _ I fun v F1 H1 fp f1 e1 W1 p1 => ?_
    refine ⟨false, vbl p1, ?_⟩
    show Q (.bl false) H1
    exact q _ F1 H1 [] f1 e1 W1.drop ⟨rfl, _, rfl, rfl⟩
/-- another reading of the value -/
theorem XV.as (h : XV Y e Γ a) (k : ∀ F H fp o, Same F H → a.P F H fp o → b.P F H fp o) : XV Y e Γ b := by
  obtain ⟨t, p, r⟩ := h
  exact ⟨t, p, fun B F H os σ Q I q => r B F H os σ _ I fun v F1 H1 fp f1 e1 W1 p1 => q v F1 H1 fp f1 e1 W1 (k F1 H1 fp _ W1.sub p1)⟩

/-! ### arguments -/
theorem xa_nil : XA Y [] Γ [] := ⟨_, fun _ => pa_nil, fun B F H os σ Q I q => q [] F H [] same_refl same_refl I.W .nil⟩
theorem xa_cons {As : List Slot} (h : XV Y e Γ a) (hr : XA Y es Γ As) (hs : ∀ i, starEach (e :: es) (Y.X i).env = (false, eval e (Y.X i).env) :: starEach es (Y.X i).env := by intro _; rfl) : XA Y (e :: es) Γ (a :: As) := by
  obtain ⟨t, p, r⟩ := h
  obtain ⟨t2, p2, r2⟩ := hr
  refine ⟨_, fun i => pa_cons (p i) (p2 i) (hs i), fun B F H os σ Q I q => ?_⟩
  refine r B F H os σ _ I fun v F1 H1 fp f1 e1 W1 p1 => ?_
  refine r2 B F1 H1 _ σ _ (I.step f1 e1 W1) fun vs F2 H2 fp2 f2 e2 W2 S2 => ?_
  refine q (v :: vs) F2 H2 (fp ++ fp2) (f1.trans f2) (e1.trans e2) (W2.perm ?_) (.cons (a.mono f2 e2 p1) S2)
  rw [← List.append_assoc]
  exact List.Perm.append_right os List.perm_append_comm
end

/-! ### ints, bools, texts -/
section
variable {a b c : Slot} {i j : Int}
theorem o_II {g : Int → Int → V} (h : ∀ F H, c.P F H [] (some (g i j))) : Op2 (rI0 g) (vInt i) (vInt j) c := fun B F H x y fx fy os Q W p1 p2 q => by
  obtain rfl := vint p1
  obtain rfl := vint p2
  exact ⟨i, j, rfl, rfl, q _ F H [] same_refl same_refl W.drop.drop (h F H)⟩
theorem o_IIc {C : Int → Int → Prop} {g : Int → Int → V} (hC : C i j) (h : ∀ F H, c.P F H [] (some (g i j))) : Op2 (rI C g) (vInt i) (vInt j) c := fun B F H x y fx fy os Q W p1 p2 q => by
  obtain rfl := vint p1
  obtain rfl := vint p2
  exact ⟨i, j, rfl, rfl, hC, q _ F H [] same_refl same_refl W.drop.drop (h F H)⟩
theorem o_int {g : Int → Int → Int} : Op2 (rI0 fun i j => .int (g i j)) (vInt i) (vInt j) (vInt (g i j)) := o_II fun _ _ => ⟨rfl, _, rfl, rfl⟩
theorem o_bl {g : Int → Int → Bool} : Op2 (rI0 fun i j => .bl (g i j)) (vInt i) (vInt j) (vBl (g i j)) := o_II fun _ _ => ⟨rfl, _, rfl, rfl⟩
theorem o_intC {C : Int → Int → Prop} {g : Int → Int → Int} (hC : C i j) : Op2 (rI C fun i j => .int (g i j)) (vInt i) (vInt j) (vInt (g i j)) := o_IIc hC fun _ _ => ⟨rfl, _, rfl, rfl⟩
/-- == of flat values -/
theorem o_eq {α β : Type} {p : VP α} {q' : VP β} {u : α} {v : β} {z : Bool} (h : ∀ F x y, p.R F x u → q'.R F y v → scal x y = true ∧ decide (x = y) = z) : Op2 rEq (val p u) (val q' v) (vBl z) := fun B F H x y fx fy os Q W p1 p2 q => by
  obtain ⟨e1, e2⟩ := h F x y (val_P p1).2 (val_P p2).2
  exact ⟨e1, by rw [e2]; exact q _ F H [] same_refl same_refl W.drop.drop ⟨rfl, _, rfl, rfl⟩⟩
theorem o_ne {α β : Type} {p : VP α} {q' : VP β} {u : α} {v : β} {z : Bool} (h : ∀ F x y, p.R F x u → q'.R F y v → scal x y = true ∧ (!decide (x = y)) = z) : Op2 rNe (val p u) (val q' v) (vBl z) := fun B F H x y fx fy os Q W p1 p2 q => by
  obtain ⟨e1, e2⟩ := h F x y (val_P p1).2 (val_P p2).2
  exact ⟨e1, by rw [e2]; exact q _ F H [] same_refl same_refl W.drop.drop ⟨rfl, _, rfl, rfl⟩⟩
theorem o_eqI : Op2 rEq (vInt i) (vInt j) (vBl (decide (i = j))) := o_eq fun F x y h1 h2 => by
  cases h1; cases h2
  refine ⟨rfl, ?_⟩
  by_cases e : i = j <;> simp [e]
theorem o_neI : Op2 rNe (vInt i) (vInt j) (vBl (!decide (i = j))) := o_ne fun F x y h1 h2 => by
  cases h1; cases h2
  refine ⟨rfl, ?_⟩
  by_cases e : i = j <;> simp [e]
theorem o_eqS {x y : Str} : Op2 rEq (vStr x) (vStr y) (vBl (decide (x = y))) := o_eq fun F x1 y1 h1 h2 => by
  cases h1; cases h2
  refine ⟨rfl, ?_⟩
  by_cases e : x = y <;> simp [e]
end
end Ty

/-! Ty3 -/
namespace Ty
open PySem PySem.Spec L2

section
variable {P : Program} {w : World} {K : PySem.W.Frag} {mg : Str → Option Value} {base : Heap} {k : Nat}
variable {Y : Fa P w K mg base k} {i : Y.I} {e ea eb tg iter : Expr} {es : List Expr} {st : Stmt} {rest body orelse : List Stmt} {Γ Γ' Γ1 Γ2 : List Slot} {a b c r : Slot} {pos : Pos} {B : Bs} {D : Ends}

/-! ### slots read otherwise: frozen, forgotten -/
/-- s may be read as s': what of its own (x) is frozen or forgotten, what (y) stays its own -/
def WkS (s s' : Slot) : Prop := ∀ (F H : Hp) (fp : List Addr) (o : Option V), Same F H → s.P F H fp o → ∃ x y, fp = x ++ y ∧ ∀ F', Same F F' → Same F' H → (∀ q ∈ x, F' q = H q) → s'.P F' H y o
theorem WkS.refl {s : Slot} : WkS s s := fun F H fp o _ h => ⟨[], fp, rfl, fun F' hF _ _ => s.mono hF (fun _ _ h => h) h⟩
theorem WkS.dead {s : Slot} : WkS s dead := fun F H fp o _ h => ⟨fp, [], by simp, fun _ _ _ _ => rfl⟩
theorem WkS.list {α : Type} {p : VP α} {xs : List α} : WkS (own (oL p) xs) (val (pL p) xs) := fun F H fp o _ h => by
  obtain ⟨v, e, l, vs, el, ef, h1, h2⟩ := h
  subst ef
  exact ⟨[l], [], rfl, fun F' hF hs hx => ⟨rfl, v, e, l, vs, el, by rw [hx l List.mem_cons_self]; exact h1, Paired.mon (fun _ _ r => p.mono hF r) h2⟩⟩
/-- the same value, said otherwise -/
theorem WkS.val {α β : Type} {p : VP α} {q : VP β} {x : α} {y : β} (h : ∀ F v, p.R F v x → q.R F v y) : WkS (val p x) (val q y) := fun F H fp o _ g => by
  obtain ⟨e, v, ev, r⟩ := g
  exact ⟨[], fp, rfl, fun F' hF _ _ => ⟨e, v, ev, h F' v (p.mono hF r)⟩⟩
theorem WkS.opt {α : Type} {p : VP α} {x : α} (h : ∀ F v, p.R F v x → v ≠ .non) : WkS (Ty.val p x) (Ty.val (pOpt p) (Option.some x)) := WkS.val fun F v r => ⟨r, h F v r⟩
inductive WkL : List Slot → List Slot → Prop
  | nil : WkL [] []
  | cons {s s' : Slot} {Γ Γ' : List Slot} : WkS s s' → WkL Γ Γ' → WkL (s :: Γ) (s' :: Γ')
theorem WkL.refl : ∀ {Γ : List Slot}, WkL Γ Γ
  | [] => .nil
  | _ :: _ => .cons .refl WkL.refl
theorem Slots.wk {F H : Hp} (hS : Same F H) {Γ Γ' : List Slot} (w : WkL Γ Γ') : ∀ {os σ}, Slots F H os σ Γ → ∃ x y, os.Perm (x ++ y) ∧ ∀ F', Same F F' → Same F' H → (∀ q ∈ x, F' q = H q) → Slots F' H y σ Γ' := by
  induction w with
  | nil => intro os σ h; cases h; exact ⟨[], [], .refl _, fun _ _ _ _ => .nil⟩
  | cons h w ih =>
    intro os σ g
    cases g with
    | @cons fp os o σ _ _ p q =>
      obtain ⟨x1, y1, e1, k1⟩ := h F H fp o hS p
      obtain ⟨x2, y2, e2, k2⟩ := ih q
      refine ⟨x1 ++ x2, y1 ++ y2, ?_, fun F' hF hs hx => .cons (k1 F' hF hs fun q hq => hx q (List.mem_append_left _ hq)) (k2 F' hF hs fun q hq => hx q (List.mem_append_right _ hq))⟩
      subst e1
      refine (List.Perm.append_left (x1 ++ y1) e2).trans ?_
      rw [List.append_assoc, List.append_assoc]
      refine List.Perm.append_left x1 ?_
      rw [← List.append_assoc, ← List.append_assoc]
      exact List.Perm.append_right y2 List.perm_append_comm
theorem Sta.wk {F H : Hp} {σ : List (Option V)} (S : Sta B F H σ Γ) (w : WkL Γ Γ') : ∃ F', Sta B F' H σ Γ' := by
  obtain ⟨os, W, S1⟩ := S
  obtain ⟨x, y, e, kk⟩ := S1.wk W.sub w
  obtain ⟨F', W', hF, hx⟩ := (W.perm e).freeze
  exact ⟨F', y, W', kk F' hF W'.sub hx⟩
theorem XV.wk (h : XV Y e Γ a) (hw : WkS a b) : XV Y e Γ b := by
  obtain ⟨t, p, rd⟩ := h
  refine ⟨t, p, fun B F H os σ Q I q => rd B F H os σ _ I fun v F1 H1 fp f1 e1 W1 p1 => ?_⟩
  obtain ⟨x, y, e, kk⟩ := hw F1 H1 fp _ W1.sub p1
  subst e
  rw [List.append_assoc] at W1
  obtain ⟨F', W', hF, hx⟩ := W1.freeze
  exact q v F' H1 y (f1.trans hF) e1 W' (kk F' hF W'.sub hx)

/-! ### statements -/
/-- the rest of a block, run from here -/
def cont (X : Cx) (rest : List Stmt) (D : Ends) : L2.St → Hp → Prop := fun σ H => ∀ pins s, Inv X pins σ H s → wpAny (model X.prog X.w) X.A (execs rest X.env) (SP X pins D) X.xe s
def Go (Y : Fa P w K mg base k) (i : Y.I) (sts : List Stmt) (D : Ends) (B : Bs) (Γ : List Slot) : Prop := ∀ F H σ, Sta B F H σ Γ → cont (Y.X i) sts D σ H
/-- a state that Γ tells -/
def Nx (B : Bs) (Γ : List Slot) : L2.St → Hp → Prop := fun σ H => ∃ F, Sta B F H σ Γ
/-- a value that is left, nothing else kept -/
def Fi (B : Bs) (s : Slot) : VK := fun v H => ∃ F fp, Wo B F H fp ∧ s.P F H fp (some v)
theorem pss_cont {X : Cx} : PSs X body (fun D σ H => cont X body D σ H) := ⟨fun pins s σ H D I h => h pins s I⟩
theorem go_nil (h : ∀ σ H, Nx B Γ σ H → D.nx σ H) : Go Y i [] D B Γ := fun F H σ S pins s I => wpAny_execs_nil ⟨σ, H, I, h σ H ⟨F, S⟩⟩
theorem go_ps {t : TS} (hp : PS (Y.X i) st t) (h : ∀ F H σ, Sta B F H σ Γ → t { D with nx := cont (Y.X i) rest D } σ H) : Go Y i (st :: rest) D B Γ := fun F H σ S pins s I => by
  refine wpAny_execs_cons (thn (hp.run pins s σ H _ I (h F H σ S)) fun f s1 q => ?_)
  cases f with
  | next =>
    obtain ⟨σ', H', I', q⟩ := q
    exact q pins s1 I'
  | ret v => exact q
  | brk => exact q
  | cont => exact q
theorem go_wk (h : Go Y i rest D B Γ') (hw : WkL Γ Γ') : Go Y i rest D B Γ := fun F H σ S => let ⟨F', S'⟩ := S.wk hw; h F' H σ S'
/-- the end of a branch: what follows the if -/
theorem go_join (h : Go Y i rest D B Γ) : Go Y i [] { D with nx := cont (Y.X i) rest D } B Γ := go_nil fun σ H ⟨F, S⟩ => h F H σ S
theorem go_nx (hw : WkL Γ Γ') : Go Y i [] { D with nx := Nx B Γ' } B Γ := go_nil fun σ H ⟨F, S⟩ => S.wk hw
/-- an expression run from a state -/
theorem Sta.in {F H : Hp} {σ : List (Option V)} {os : List Addr} (W : Wo B F H os) (S : Slots F H os σ Γ) : In B F H os σ Γ := ⟨W, os, [], by simp, S⟩
theorem Sta.to {F H F' H' : Hp} {σ : List (Option V)} {os : List Addr} (S : Slots F H os σ Γ) (hF : Same F F') (hH : Same H H') (W : Wo B F' H' os) : Sta B F' H' σ Γ := ⟨os, W, S.mono hF hH⟩
theorem go_ret (h : XV Y e Γ r) (hd : ∀ v H, Fi B r v H → D.rt v H) : Go Y i (.Return (some e) pos :: rest) D B Γ := by
  obtain ⟨t, p, rd⟩ := h
  refine go_ps (ps_ret (p i)) fun F H σ ⟨os, W, S⟩ => ?_
  exact rd B F H os σ _ (Sta.in W S) fun v F1 H1 fp f1 e1 W1 p1 => hd v H1 ⟨F1, fp, W1.dropR, p1⟩
theorem go_if {z : Bool} (hc : XT Y e Γ z) (h1 : z = true → Go Y i body { D with nx := cont (Y.X i) rest D } B Γ) (h2 : z = false → Go Y i orelse { D with nx := cont (Y.X i) rest D } B Γ) : Go Y i (.If e body orelse pos :: rest) D B Γ := by
  obtain ⟨t, p, rd⟩ := hc
  refine go_ps (ps_if (p i) pss_cont pss_cont) fun F H σ ⟨os, W, S⟩ => ?_
  refine rd B F H os σ _ (Sta.in W S) fun F1 H1 f1 e1 W1 => ?_
  cases z with
  | true =>
    show cont (Y.X i) body _ σ H1
    exact h1 rfl F1 H1 σ (Sta.to S f1 e1 W1)
  | false =>
    show cont (Y.X i) orelse _ σ H1
    exact h2 rfl F1 H1 σ (Sta.to S f1 e1 W1)
theorem cont_mono {X : Cx} {sts : List Stmt} {D D' : Ends} {σ : L2.St} {H : Hp} (h : cont X sts D σ H) (h1 : ∀ σ H, D.nx σ H → D'.nx σ H) (h2 : ∀ v H, D.rt v H → D'.rt v H) (h3 : ∀ σ H, D.bk σ H → D'.bk σ H) (h4 : ∀ σ H, D.ct σ H → D'.ct σ H) : cont X sts D' σ H := fun pins s I => by
  refine thn (h pins s I) fun f s1 q => ?_
  cases f with
  | next => obtain ⟨σ', H', I', q⟩ := q; exact ⟨σ', H', I', h1 _ _ q⟩
  | ret v => obtain ⟨x, σ', H', I', r, q⟩ := q; exact ⟨x, σ', H', I', r, h2 _ _ q⟩
  | brk => obtain ⟨σ', H', I', q⟩ := q; exact ⟨σ', H', I', h3 _ _ q⟩
  | cont => obtain ⟨σ', H', I', q⟩ := q; exact ⟨σ', H', I', h4 _ _ q⟩
/-- both branches come to the one state Γ', from which it goes on -/
theorem go_ifJ (Γ' : List Slot) {z : Bool} (hc : XT Y e Γ z) (h1 : z = true → Go Y i body { D with nx := Nx B Γ' } B Γ) (h2 : z = false → Go Y i orelse { D with nx := Nx B Γ' } B Γ) (hg : Go Y i rest D B Γ') : Go Y i (.If e body orelse pos :: rest) D B Γ :=
  go_if hc (fun hz F H σ S => cont_mono (h1 hz F H σ S) (fun σ' H' ⟨F', S'⟩ => hg F' H' σ' S') (fun _ _ q => q) (fun _ _ q => q) (fun _ _ q => q))
    (fun hz F H σ S => cont_mono (h2 hz F H σ S) (fun σ' H' ⟨F', S'⟩ => hg F' H' σ' S') (fun _ _ q => q) (fun _ _ q => q) (fun _ _ q => q))

/-! ### targets -/
/-- the target takes a value told by r; ws: the slots that it writes -/
def XG (Y : Fa P w K mg base k) (tg : Expr) (ws : List Nat) (r : Slot) (Γ Γ' : List Slot) : Prop :=
  (Γ'.length = Γ.length ∧ ∀ j, j ∉ ws → Γ'[j]? = Γ[j]?) ∧ ∃ g : TG, (∀ i, PG (Y.X i) tg g) ∧ ∀ (F H : Hp) (fp os : List Addr) (σ : List (Option V)) (v : V) (Q : L2.St → Hp → Prop), Same F H → r.P F H fp (some v) → Slots F H os σ Γ →
    (∀ σ' os' d, (σ'.length = σ.length ∧ ∀ j, j ∉ ws → σ'[j]? = σ[j]?) → (fp ++ os).Perm (d ++ os') → Slots F H os' σ' Γ' → Q σ' H) → g v σ H Q
def XGs (Y : Fa P w K mg base k) (tgs : List Expr) (ws : List Nat) (rs : List Slot) (Γ Γ' : List Slot) : Prop :=
  (Γ'.length = Γ.length ∧ ∀ j, j ∉ ws → Γ'[j]? = Γ[j]?) ∧ ∃ g : TGs, (∀ i, PGs (Y.X i) tgs g) ∧ ∀ (F H : Hp) (fp os : List Addr) (σ : List (Option V)) (vs : List V) (Q : L2.St → Hp → Prop), Same F H → Slots F H fp (vs.map some) rs → Slots F H os σ Γ →
    (∀ σ' os' d, (σ'.length = σ.length ∧ ∀ j, j ∉ ws → σ'[j]? = σ[j]?) → (fp ++ os).Perm (d ++ os') → Slots F H os' σ' Γ' → Q σ' H) → g vs σ H Q
theorem Slots.put {F H : Hp} {fp os : List Addr} {o : Option V} {σ : List (Option V)} {j : Nat} (S : Slots F H os σ Γ) (h : r.P F H fp o) (hj : j < Γ.length) : ∃ os' d, Slots F H os' (σ.set j o) (Γ.set j r) ∧ (fp ++ os).Perm (d ++ os') := by
  obtain ⟨o3, fp3, r3, e3, p3, q3, k3⟩ := S.at (List.getElem?_eq_getElem hj)
  obtain ⟨os', h1, h2⟩ := k3 h (fun s0 _ fp0 o0 _ x => x)
  refine ⟨os', fp3, h1, ?_⟩
  refine (List.Perm.append_left fp q3).trans ?_
  rw [← List.append_assoc]
  refine (List.Perm.append_right r3 List.perm_append_comm).trans ?_
  rw [List.append_assoc]
  exact List.Perm.append_left fp3 h2.symm
theorem xg_name (j : Nat) {x : Str} (hj : Nat.blt j Γ.length = true := by rfl) (hi : ∀ i, (Y.X i).N[j]? = some x := by intro _; rfl) (hx : ∀ i, Loc (Y.X i).env.scope x := by intro _; first | exact Or.inl rfl | exact Or.inr rfl)
    (hf : ∀ i, (Y.X i).fn x = true ∨ (Y.X i).env.scope.names.lookup x = some .local := by intro _; first | exact Or.inl rfl | exact Or.inr rfl) : XG Y (.Name x pos) [j] r Γ (Γ.set j r) := by
  refine ⟨⟨by simp, fun q hq => List.getElem?_set_ne (fun z => hq (by simp [z]))⟩, _, fun i => pg_name (Y.hN i) (hi i) (hx i) (hf i), fun F H fp os σ v Q hS p S q => ?_⟩
  obtain ⟨os', d, h1, h2⟩ := S.put p (Nat.le_of_ble_eq_true hj)
  exact q _ os' d ⟨by simp, fun q hq => List.getElem?_set_ne (fun z => hq (by simp [z]))⟩ h2 h1
theorem xgs_nil : XGs Y [] [] [] Γ Γ := by
  refine ⟨⟨rfl, fun _ _ => rfl⟩, _, fun i => pgs_nil, fun F H fp os σ vs Q hS p S q => ?_⟩
  have e := p.length
  obtain rfl : vs = [] := List.eq_nil_of_length_eq_zero (by simpa using e)
  exact ⟨rfl, q σ os fp ⟨rfl, fun _ _ => rfl⟩ (.refl _) S⟩
theorem Slots.cons_inv {F H : Hp} {fp : List Addr} {o : Option V} {σ : List (Option V)} {s : Slot} {Γ : List Slot} (S : Slots F H fp (o :: σ) (s :: Γ)) : ∃ f1 f2, fp = f1 ++ f2 ∧ s.P F H f1 o ∧ Slots F H f2 σ Γ := by
  cases S with
  | cons p r => exact ⟨_, _, rfl, p, r⟩
theorem xgs_cons {t : Expr} {ts : List Expr} {w1 w2 : List Nat} {rs : List Slot} (h1 : XG Y t w1 r Γ Γ1) (h2 : XGs Y ts w2 rs Γ1 Γ2) (hs : ∀ i, (assignEach (t :: ts) (Y.X i).env).map (·.2) = assign t (Y.X i).env :: (assignEach ts (Y.X i).env).map (·.2) := by intro _; rfl) : XGs Y (t :: ts) (w1 ++ w2) (r :: rs) Γ Γ2 := by
  obtain ⟨⟨l1, k1⟩, g1, p1, q1⟩ := h1
  obtain ⟨⟨l2, k2⟩, g2, p2, q2⟩ := h2
  refine ⟨⟨by rw [l2, l1], fun j hj => ?_⟩, _, fun i => pgs_cons (p1 i) (p2 i) (hs i), fun F H fp os σ vs Q hS p S q => ?_⟩
  · rw [k2 j (fun z => hj (List.mem_append_right _ z)), k1 j (fun z => hj (List.mem_append_left _ z))]
  · match vs, p with
    | [], p => have e := p.length; simp at e
    | v :: vs, p =>
      obtain ⟨f1, f2, rfl, pv, pr⟩ := Slots.cons_inv p
      refine ⟨v, vs, rfl, q1 F H f1 os σ v _ hS pv S fun σ1 os1 d1 ⟨m1, n1⟩ W1 S1 => ?_⟩
      refine q2 F H f2 os1 σ1 vs _ hS pr S1 fun σ2 os2 d2 ⟨m2, n2⟩ W3 S2 => q σ2 os2 (d1 ++ d2) ⟨by rw [m2, m1], fun j hj => ?_⟩ ?_ S2
      · rw [n2 j (fun z => hj (List.mem_append_right _ z)), n1 j (fun z => hj (List.mem_append_left _ z))]
      · have a1 : (f1 ++ f2 ++ os).Perm (f2 ++ (f1 ++ os)) := by
          rw [← List.append_assoc]
          exact List.Perm.append_right os List.perm_append_comm
        refine a1.trans ((List.Perm.append_left f2 W1).trans ?_)
        have a2 : (f2 ++ (d1 ++ os1)).Perm (d1 ++ (f2 ++ os1)) := by
          rw [← List.append_assoc, ← List.append_assoc]
          exact List.Perm.append_right os1 List.perm_append_comm
        refine a2.trans ?_
        rw [List.append_assoc]
        exact List.Perm.append_left d1 W3
theorem xg_tup2 {α β : Type} {p : VP α} {q : VP β} {x : α × β} {t1 t2 : Expr} {n : Nat} {ws : List Nat} (h : XGs Y [t1, t2] ws [val p x.1, val q x.2] Γ Γ') (hn : ∀ i, (assignEach [t1, t2] (Y.X i).env).length = 2 := by intro _; rfl) (hst : ∀ i, (assignEach [t1, t2] (Y.X i).env).findIdx? (·.1) = none := by intro _; rfl) (hcm : Y.cm = true := by rfl) :
    XG Y (.Tuple [t1, t2] n pos) ws (val (pT2 p q) x) Γ Γ' := by
  obtain ⟨kk, g, pp, qq⟩ := h
  refine ⟨kk, _, fun i => by have := pg_tup (X := Y.X i) (k := n) (pos := pos) ((Y.hC i).trans hcm) (pp i) (hn i) (hst i); rw [Y.hK i] at this; exact this, fun F H fp os σ v Q hS pv S q => ?_⟩
  obtain ⟨rfl, l, a, b, ev, h1, h2, h3⟩ := val_P pv
  subst ev
  exact ⟨l, [a, b], rfl, SqT.of (hS _ _ h1), rfl, qq F H [] os σ [a, b] Q hS (Slots.cons (fp := []) ⟨rfl, _, rfl, h2⟩ (Slots.cons (fp := []) ⟨rfl, _, rfl, h3⟩ .nil)) S q⟩
/-- x = e -/
theorem go_set (j : Nat) {x : Str} {pos' : Pos} (he : XV Y e Γ r) (hg : Go Y i rest D B (Γ.set j r)) (hj : Nat.blt j Γ.length = true := by rfl) (hi : (Y.X i).N[j]? = some x := by rfl) (hx : Loc (Y.X i).env.scope x := by first | exact Or.inl rfl | exact Or.inr rfl)
    (hs : swapsWith e (some (.Name x pos')) pos.line (Y.X i).env = pure false := by rfl) (hf : (Y.X i).fn x = true ∨ (Y.X i).env.scope.names.lookup x = some .local := by first | exact Or.inl rfl | exact Or.inr rfl) : Go Y i (.Assign [.Name x pos'] e pos :: rest) D B Γ := by
  obtain ⟨t, p, rd⟩ := he
  refine go_ps (ps_set (Y.hN i) hi hx (p i) hs hf) fun F H σ ⟨os, W, S⟩ => ?_
  refine rd B F H os σ _ (Sta.in W S) fun v F1 H1 fp f1 e1 W1 p1 => ?_
  obtain ⟨os', d, h1, h2⟩ := (S.mono f1 e1).put p1 (Nat.le_of_ble_eq_true hj)
  exact hg F1 H1 _ ⟨os', (W1.perm h2).drop, h1⟩
/-! ### what is walked -/
/-- an iterator of things told by rs; ro: while the whole heap stands -/
def Wk (ro : Prop) (J : It) (F H : Hp) (rs : List Slot) : Prop := ∀ F1 H1, Same F F1 → (ro → Same H H1) → Same F1 H1 → J.stop rs.length H1 ∧
  ∀ (n : Nat) (r : Slot), rs[n]? = some r → J.go n H1 ∧ ∀ v H2, J.yld n H1 v H2 → Same H1 H2 ∧ ∀ (B : Bs) (os : List Addr), Wo B F1 H1 os → ∃ F2, Same F1 F2 ∧ Wo B F2 H2 os ∧ r.P F2 H2 [] (some v)
def XI (Y : Fa P w K mg base k) (tg iter : Expr) (Γ : List Slot) (ro : Prop) (rs : List Slot) : Prop :=
  ∃ wi : TI, (∀ i, PI (Y.X i) tg iter wi) ∧ ∀ (B : Bs) (F H : Hp) (os : List Addr) (σ : List (Option V)) (R : It → Hp → Prop), In B F H os σ Γ → (∀ J F' H', Same F F' → Same H H' → Wo B F' H' os → Wk ro J F' H' rs → R J H') → wi σ H R
theorem XI.ro {ro : Prop} {rs : List Slot} (h : XI Y tg iter Γ False rs) : XI Y tg iter Γ ro rs := by
  obtain ⟨wi, p, q⟩ := h
  exact ⟨wi, p, fun B F H os σ R I k => q B F H os σ R I fun J F' H' f e W w' => k J F' H' f e W fun F1 H1 a _ c => w' F1 H1 a (fun z => z.elim) c⟩
theorem paired_at' {α β : Type} {G : α → β → Prop} : ∀ {xs : List α} {ys : List β}, Paired G xs ys → ∀ {n : Nat} {y : β}, ys[n]? = some y → ∃ x, xs[n]? = some x ∧ G x y
  | _, _, .nil, n, x, e => by simp at e
  | _, _, .cons r t, 0, x, e => by simp at e; subst e; exact ⟨_, rfl, r⟩
  | _, _, .cons r t, n + 1, x, e => paired_at' t (n := n) (by simpa using e)
/-- over a list that stands still, by what is known of it at every heap that comes -/
theorem wk_list {α : Type} {p : VP α} {xs : List α} {ro : Prop} {F H : Hp} {l : Addr} {vs : List V} (hl : ∀ F1 H1, Same F F1 → (ro → Same H H1) → Same F1 H1 → SqL K H1 l vs) (hp : Paired (p.R F) vs xs) : Wk ro (Itl K l) F H (xs.map (val p)) := by
  intro F1 H1 a b c
  have q := hl F1 H1 a b c
  have hlen := Paired.length hp
  refine ⟨⟨vs, q, by simp [hlen]⟩, fun n r hr => ?_⟩
  rw [List.getElem?_map] at hr
  obtain ⟨x, ex, er⟩ := Option.map_eq_some_iff.mp hr
  obtain ⟨v, ev, rv⟩ := paired_at' hp ex
  refine ⟨⟨vs, v, q, ev⟩, fun u H2 y => ?_⟩
  obtain ⟨e1, y⟩ := y
  subst e1
  refine ⟨fun _ _ h => h, fun B os W => ⟨F1, same_refl, W, ?_⟩⟩
  have e2 := y vs q
  rw [ev] at e2
  cases e2
  subst er
  exact ⟨rfl, v, rfl, p.mono a rv⟩
theorem xi_list {α : Type} {p : VP α} {xs : List α} (h : XV Y iter Γ (val (pL p) xs)) : XI Y tg iter Γ False (xs.map (val p)) := by
  obtain ⟨t, pe, rd⟩ := h
  refine ⟨_, fun i => by have := pi_list (X := Y.X i) (tg := tg) (pe i); rw [Y.hK i] at this; exact this, fun B F H os σ R I kk => ?_⟩
  refine rd B F H os σ _ I fun v F1 H1 fp f1 e1 W1 p1 => ?_
  obtain ⟨_, l, vs, ev, h1, h2⟩ := val_P p1
  subst ev
  exact ⟨l, rfl, ⟨vs, SqL.of (W1.sub _ _ h1)⟩, kk _ F1 H1 f1 e1 W1.drop (wk_list (fun F2 H2 a _ c => SqL.of (c _ _ (a _ _ h1))) h2)⟩
theorem xi_bor {α : Type} {p : VP α} {xs : List α} (h : XV Y iter Γ (borL p xs)) : XI Y tg iter Γ True (xs.map (val p)) := by
  obtain ⟨t, pe, rd⟩ := h
  refine ⟨_, fun i => by have := pi_list (X := Y.X i) (tg := tg) (pe i); rw [Y.hK i] at this; exact this, fun B F H os σ R I kk => ?_⟩
  refine rd B F H os σ _ I fun v F1 H1 fp f1 e1 W1 p1 => ?_
  obtain ⟨_, l, vs, ev, h1, h2⟩ := p1
  cases ev
  exact ⟨l, rfl, ⟨vs, SqL.of h1⟩, kk _ F1 H1 f1 e1 W1.drop (wk_list (fun F2 H2 a b c => SqL.of (b trivial _ _ h1)) h2)⟩
theorem xi_tup {α : Type} {p : VP α} {xs : List α} (h : XV Y iter Γ (val (pTup p) xs)) : XI Y tg iter Γ False (xs.map (val p)) := by
  obtain ⟨t, pe, rd⟩ := h
  refine ⟨_, fun i => by have := pi_tup (X := Y.X i) (tg := tg) (pe i); rw [Y.hK i] at this; exact this, fun B F H os σ R I kk => ?_⟩
  refine rd B F H os σ _ I fun v F1 H1 fp f1 e1 W1 p1 => ?_
  obtain ⟨_, l, vs, ev, h1, hp⟩ := val_P p1
  subst ev
  refine ⟨l, rfl, ⟨vs, SqT.of (W1.sub _ _ h1)⟩, kk _ F1 H1 f1 e1 W1.drop ?_⟩
  intro F2 H2 a b c
  have q : SqT K H2 l vs := SqT.of (c _ _ (a _ _ h1))
  have hlen := Paired.length hp
  refine ⟨⟨vs, q, by simp [hlen]⟩, fun n r hr => ?_⟩
  rw [List.getElem?_map] at hr
  obtain ⟨x, ex, er⟩ := Option.map_eq_some_iff.mp hr
  obtain ⟨v, ev, rv⟩ := paired_at' hp ex
  refine ⟨⟨vs, v, q, ev⟩, fun u H3 y => ?_⟩
  obtain ⟨e1, y⟩ := y
  subst e1
  refine ⟨fun _ _ h => h, fun B os W => ⟨F2, same_refl, W, ?_⟩⟩
  have e2 := y vs q
  rw [ev] at e2
  cases e2
  subst er
  exact ⟨rfl, v, rfl, p.mono a rv⟩
/-- lo, lo + 1, .. below hi -/
def rangeL (lo hi : Int) : List Int := (List.range (hi - lo).toNat).map fun (n : Nat) => lo + (n : Int)
theorem wk_range {ro : Prop} {F H : Hp} {lo hi : Int} : Wk ro (Itr lo (hi - lo).toNat) F H ((rangeL lo hi).map (val pInt)) := by
  intro F1 H1 a b c
  refine ⟨by show (hi - lo).toNat ≤ _; simp [rangeL], fun n r hr => ?_⟩
  rw [List.getElem?_map] at hr
  obtain ⟨x, ex, er⟩ := Option.map_eq_some_iff.mp hr
  unfold rangeL at ex
  rw [List.getElem?_map] at ex
  obtain ⟨m, em, e3⟩ := Option.map_eq_some_iff.mp ex
  have hn : n < (hi - lo).toNat := by
    have := (List.getElem?_eq_some_iff.mp em).1
    simpa using this
  rw [List.getElem?_range hn] at em
  cases em
  refine ⟨hn, fun u H2 y => ?_⟩
  obtain ⟨e1, e2⟩ := y
  subst e1; subst e2; subst er; subst e3
  exact ⟨fun _ _ h => h, fun B os W => ⟨F1, same_refl, W, rfl, _, rfl, rfl⟩⟩
theorem xi_range1 {n : Int} {p' : Pos} (hm : mg "range" = none) (h : XV Y e Γ (vInt n)) (hn : -(2 ^ 62) ≤ n ∧ n < 2 ^ 62) (hg : ∀ i, Gl (Y.X i) "range" := by intro _; rfl) (hs : ∀ i, starEach [e] (Y.X i).env = [(false, eval e (Y.X i).env)] := by intro _; rfl) : XI Y tg (.Call (.Name "range" p') [e] [] pos) Γ False ((rangeL 0 n).map (val pInt)) := by
  obtain ⟨t, pe, rd⟩ := h
  refine ⟨_, fun i => pi_range1 (hg i) (by rw [Y.hM]; exact hm) (pa_cons (pe i) pa_nil (by rw [hs i]; rfl)) (hs i), fun B F H os σ R I kk => ?_⟩
  refine rd B F H os σ _ I fun v F1 H1 fp f1 e1 W1 p1 => ?_
  obtain rfl := vint p1
  refine ⟨n, rfl, hn.1, hn.2, ?_⟩
  have := kk (Itr 0 (n - 0).toNat) F1 H1 f1 e1 W1.drop wk_range
  rw [Int.sub_zero] at this
  exact this
theorem xi_range2 {m n : Int} {p' : Pos} (hm : mg "range" = none) (ha : XV Y ea Γ (vInt m)) (hb : XV Y eb Γ (vInt n)) (hn : -(2 ^ 62) ≤ m ∧ m < 2 ^ 62 ∧ -(2 ^ 62) ≤ n ∧ n < 2 ^ 62) (hg : ∀ i, Gl (Y.X i) "range" := by intro _; rfl)
    (hs : ∀ i, starEach [ea, eb] (Y.X i).env = [(false, eval ea (Y.X i).env), (false, eval eb (Y.X i).env)] := by intro _; rfl) (hs2 : ∀ i, starEach [eb] (Y.X i).env = [(false, eval eb (Y.X i).env)] := by intro _; rfl) : XI Y tg (.Call (.Name "range" p') [ea, eb] [] pos) Γ False ((rangeL m n).map (val pInt)) := by
  obtain ⟨t, pe, rd⟩ := ha
  obtain ⟨t2, pe2, rd2⟩ := hb
  refine ⟨_, fun i => pi_range2 (hg i) (by rw [Y.hM]; exact hm) (pa_cons (pe i) (pa_cons (pe2 i) pa_nil (by rw [hs2 i]; rfl)) (by rw [hs i, hs2 i])) (hs i) (hs2 i), fun B F H os σ R I kk => ?_⟩
  refine rd B F H os σ _ I fun v F1 H1 fp f1 e1 W1 p1 => ?_
  obtain rfl := vint p1
  refine rd2 B F1 H1 os σ _ (I.step0 f1 e1 W1.drop) fun v2 F2 H2 fp2 f2 e2 W2 p2 => ?_
  obtain rfl := vint p2
  exact ⟨m, n, rfl, hn, kk _ F2 H2 (f1.trans f2) (e1.trans e2) W2.drop wk_range⟩
/-- enumerate(xs) of a list that stands still -/
theorem xi_enum {α : Type} {p : VP α} {xs : List α} {p' tpos : Pos} {elts : List Expr} {kk : Nat} (hm : mg "enumerate" = none) (h : XV Y e Γ (val (pL p) xs)) (hg : ∀ i, Gl (Y.X i) "enumerate" := by intro _; rfl) (hs : ∀ i, starEach [e] (Y.X i).env = [(false, eval e (Y.X i).env)] := by intro _; rfl) :
    XI Y (.Tuple elts kk tpos) (.Call (.Name "enumerate" p') [e] [] pos) Γ False ((xs.zipIdx).map fun (x : α × Nat) => val (pT2 pInt p) ((x.2 : Int), x.1)) := by
  obtain ⟨t, pe, rd⟩ := h
  refine ⟨_, fun i => by have := pi_enum (X := Y.X i) (p := p') (pos := pos) (tpos := tpos) (elts := elts) (kk := kk) (hg i) (by rw [Y.hM]; exact hm) (pa_cons (pe i) pa_nil (by rw [hs i]; rfl)) (hs i); rw [Y.hK i] at this; exact this, fun B F H os σ R I q => ?_⟩
  refine rd B F H os σ _ I fun v F1 H1 fp f1 e1 W1 p1 => ?_
  obtain ⟨_, l, vs, ev, h1, hp⟩ := val_P p1
  subst ev
  refine ⟨l, vs, rfl, SqL.of (W1.sub _ _ h1), q _ F1 H1 f1 e1 W1.drop ?_⟩
  intro F2 H2 a b c
  have ql : SqL K H2 l vs := SqL.of (c _ _ (a _ _ h1))
  have hlen := Paired.length hp
  refine ⟨⟨vs, ql, by simp [hlen]⟩, fun n r hr => ?_⟩
  rw [List.getElem?_map] at hr
  obtain ⟨x, ex, er⟩ := Option.map_eq_some_iff.mp hr
  rw [List.getElem?_zipIdx] at ex
  obtain ⟨x', ex', e3⟩ := Option.map_eq_some_iff.mp ex
  subst e3
  obtain ⟨v, ev, rv⟩ := paired_at' hp ex'
  refine ⟨⟨vs, v, ql, ev⟩, fun u H3 y => ?_⟩
  obtain ⟨T, x2, e4, hT, e5, y⟩ := y
  subst e4; subst e5
  have e2 := y vs ql
  rw [ev] at e2
  cases e2
  subst er
  refine ⟨same_upd hT, fun B os W => ?_⟩
  have hF2 := (W.free hT).1
  exact ⟨upd F2 T (.tup [.int (n : Nat), v]), same_upd hF2, W.newF hT, rfl, _, rfl, T, _, _, rfl, upd_same, by simp [pInt], p.mono (fun _ _ z => same_upd hF2 _ _ (a _ _ z)) rv⟩

/-! ### loops -/
/-- how a loop's turn (or the loop) ends -/
inductive Fl (ρ S : Type) where
  | next (s : S)
  | brk (s : S)
  | ret (r : ρ)
def forF {α S ρ : Type} : List α → S → (α → S → Option (Fl ρ S)) → Option (Fl ρ S)
  | [], s, _ => some (.next s)
  | x :: xs, s, f => (f x s).bind fun
    | .next s' => forF xs s' f
    | .brk s' => some (.brk s')
    | .ret r => some (.ret r)
def whileF {S ρ : Type} : Nat → S → (S → Option (Fl ρ S)) → Option (Fl ρ S)
  | 0, _, _ => none
  | n + 1, s, f => (f s).bind fun
    | .next s' => whileF n s' f
    | .brk s' => some (.brk s')
    | .ret r => some (.ret r)
/-- what a turn's ways out lead to -/
def LE {ρ S : Type} (B : Bs) (Γf : S → List Slot) (Sr : ρ → Slot) (out : Fl ρ S) : Ends where
  nx := fun σ H => ∃ s', out = .next s' ∧ Nx B (Γf s') σ H
  ct := fun σ H => ∃ s', out = .next s' ∧ Nx B (Γf s') σ H
  bk := fun σ H => ∃ s', out = .brk s' ∧ Nx B (Γf s') σ H
  rt := fun v H => ∃ r, out = .ret r ∧ Fi B (Sr r) v H
/-- a target's reading from what runs it -/
def contG (X : Cx) (tg : Expr) : TG := fun v σ H Q => ∀ (pins : List (Addr × Obj)) (s : Shared) (u : Value), Inv X pins σ H s → RelV v u → wpAny (model X.prog X.w) X.A (assign tg X.env u) (fun _ s' => ∃ σ' H', Inv X pins σ' H' s' ∧ Q σ' H') X.xe s
theorem pg_contG {X : Cx} : PG X tg (contG X tg) := ⟨fun pins s σ H v u Q I r h => h pins s u I r⟩
def contT (X : Cx) (e : Expr) : TT := fun σ H Q => ∀ (pins : List (Addr × Obj)) (s : Shared), Inv X pins σ H s → wpAny (model X.prog X.w) X.A (isTrue e X.env (eval e X.env)) (TP X pins σ Q) X.xe s
/-- the entry made the base, and back -/
theorem Sta.enter {F H : Hp} {σ : L2.St} (S : Sta B F H σ Γ) : ∃ os, Wo B F H os ∧ Sta ⟨F, H, os⟩ F H σ Γ := by
  obtain ⟨os, W, S⟩ := S
  exact ⟨os, W, os, W.self, S⟩
theorem Sta.leave {F1 H1 F H : Hp} {os : List Addr} {σ : L2.St} (W : Wo B F1 H1 os) (S : Sta ⟨F1, H1, os⟩ F H σ Γ) : Sta B F H σ Γ := by
  obtain ⟨o2, W2, S⟩ := S
  exact ⟨o2, W.trans W2, S⟩
theorem Fi.leave {F1 H1 : Hp} {os : List Addr} {v : V} {H : Hp} (W : Wo B F1 H1 os) (S : Fi ⟨F1, H1, os⟩ r v H) : Fi B r v H := by
  obtain ⟨F, fp, W2, p⟩ := S
  exact ⟨F, fp, W.trans W2, p⟩
theorem Sta.bF {F H : Hp} {σ : L2.St} (S : Sta B F H σ Γ) : Same B.F F := let ⟨_, W, _⟩ := S; W.bF
theorem Sta.sub {F H : Hp} {σ : L2.St} (S : Sta B F H σ Γ) : Same F H := let ⟨_, W, _⟩ := S; W.sub
theorem go_for {α T ρ : Type} {xs : List α} {rs : α → Slot} (Γf : T → List Slot) {Sr : ρ → Slot} {s0 : T} {f : α → T → Option (Fl ρ T)} {o : Fl ρ T}
    (hi : XI Y tg iter Γ False (xs.map rs)) (h0 : WkL Γ (Γf s0)) (ho : forF xs s0 f = some o)
    (hb : ∀ B1 x s out, x ∈ xs → f x s = some out → (∀ r, out = .ret r → o = .ret r) → (∀ F H os, Wo B1 F H os → Wo B F H os) → ∃ ws Γ1, XG Y tg ws (rs x) (Γf s) Γ1 ∧ Go Y i body (LE B1 Γf Sr out) B1 Γ1)
    (hr : ∀ s, (o = .next s ∨ o = .brk s) → Go Y i rest D B (Γf s)) (hret : ∀ r, o = .ret r → ∀ v H, Fi B (Sr r) v H → D.rt v H)
    (hs : ∀ x, foldedSetIterable iter (Y.X i).env x = pure x := by intro _; rfl) (hcm : Y.cm = true := by rfl) : Go Y i (.For tg iter body [] pos :: rest) D B Γ := by
  obtain ⟨wi, pi, qi⟩ := hi
  refine go_ps (ps_for (Y.hO i) ((Y.hC i).trans hcm) (pi i) pg_contG pss_cont hs) fun F H σ ⟨os0, W0, S0⟩ => ?_
  refine qi B F H os0 σ _ (Sta.in W0 S0) fun J F1 H1 f1 e1 W1 wk => ?_
  obtain ⟨os, W, S1⟩ := (Sta.to S0 f1 e1 W1).enter
  obtain ⟨F2, S2⟩ := S1.wk h0
  refine ⟨fun n m σ' H' => n ≤ xs.length ∧ m = xs.length - n ∧ ∃ (s : T) (F' : Hp), Sta ⟨F1, H1, os⟩ F' H' σ' (Γf s) ∧ forF (xs.drop n) s f = some o, ⟨xs.length - 0, Nat.zero_le _, rfl, s0, F2, S2, by simpa using ho⟩, ?_⟩
  rintro n m σ' H' ⟨hn, rfl, s, F', S', hfo⟩
  obtain ⟨w1, w2⟩ := wk F' H' S'.bF (fun z => z.elim) S'.sub
  by_cases hlt : n < xs.length
  · have hx : xs[n]? = some xs[n] := List.getElem?_eq_getElem hlt
    have hdrop : xs.drop n = xs[n] :: xs.drop (n + 1) := List.drop_eq_getElem_cons hlt
    rw [hdrop] at hfo
    unfold forF at hfo
    obtain ⟨out, hout, hfo⟩ := Option.bind_eq_some_iff.mp hfo
    obtain ⟨g1, g2⟩ := w2 n (rs xs[n]) (by rw [List.getElem?_map, hx]; rfl)
    obtain ⟨ws, Γ1, hxg, hgo⟩ := hb ⟨F1, H1, os⟩ xs[n] s out (List.getElem_mem hlt) hout (fun r e => by subst e; simpa using hfo.symm) (fun _ _ _ W' => W.trans W')
    refine .inr ⟨g1, fun σ2 H2 => ∃ s', out = .next s' ∧ Nx ⟨F1, H1, os⟩ (Γf s') σ2 H2, ?_, ?_⟩
    · rintro σ2 H2 ⟨s', rfl, F3, S3⟩
      exact ⟨xs.length - (n + 1), by omega, hlt, rfl, s', F3, S3, hfo⟩
    · intro v H2 y
      obtain ⟨e2, push⟩ := g2 v H2 y
      obtain ⟨o4, W4, S4⟩ := S'
      obtain ⟨F4, f4, W5, p5⟩ := push _ _ W4
      obtain ⟨_, g, pg, qg⟩ := hxg
      intro pins s9 u I r
      refine (pg i).run pins s9 σ' H2 v u _ I r (qg F4 H2 [] o4 σ' v _ W5.sub p5 (S4.mono f4 e2) fun σ5 o5 d _ W6 S5 => ?_)
      refine cont_mono (hgo F4 H2 σ5 ⟨o5, (W5.perm (by simpa using W6)).drop, S5⟩) (fun _ _ z => z) (fun v H z => ?_) (fun σ6 H6 z => ?_) (fun _ _ z => z)
      · obtain ⟨r, rfl, S6⟩ := z
        exact hret r (by simpa using hfo.symm) v H (S6.leave W)
      · obtain ⟨s', rfl, F6, S6⟩ := z
        exact hr s' (.inr (by simpa using hfo.symm)) F6 H6 σ6 (S6.leave W)
  · have e : n = xs.length := by omega
    subst e
    refine .inl ⟨by simpa using w1, ?_⟩
    rw [List.drop_length] at hfo
    unfold forF at hfo
    exact hr s (.inl (by simpa using hfo.symm)) F' H' σ' (S'.leave W)
end
end Ty

/-! Ty4 -/
namespace Ty
open PySem PySem.Spec L2

section
variable {P : Program} {w : World} {K : PySem.W.Frag} {mg : Str → Option Value} {base : Heap} {k : Nat}
variable {Y : Fa P w K mg base k} {i : Y.I} {e ea eb eo tg iter : Expr} {es : List Expr} {st : Stmt} {rest body orelse : List Stmt} {Γ Γ' Γ1 Γ2 As : List Slot} {a b c r s s' : Slot} {pos : Pos} {B : Bs} {D : Ends} {x : Str} {p' : Pos}

/-! ### calls of builtins -/
theorem x_callB {id : String} {rr : List V → Hp → VK → Prop} (hc : ∀ i, CallR (Y.X i) (.builtin id) rr) (hm : mg x = none) (hv : bootBuiltins x = some (.builtin id)) (h : OpA rr As c) (ha : XA Y (e :: es) Γ As) (hg : ∀ i, Gl (Y.X i) x := by intro _; rfl) (hn : x ≠ "__name__" := by decide) (hdb : (x == ("__debug__" : Str)) = false := by decide)
    (he : ∀ i, starEach (e :: es) (Y.X i).env = (false, eval e (Y.X i).env) :: starEach es (Y.X i).env := by intro _; rfl) (hpl : ∀ i, (backTo pos (starEach es (Y.X i).env)).any (·.1) = false := by intro _; rfl) : XV Y (.Call (.Name x p') (e :: es) [] pos) Γ c := by
  obtain ⟨t, pa, rd⟩ := ha
  refine ⟨_, fun i => pe_callB (hc i) (hg i) (by rw [Y.hM]; exact hm) hv (pa i) hn hdb (he i) (hpl i), fun B F H os σ Q I q => ?_⟩
  refine rd B F H os σ _ I fun vs F1 H1 fp f1 e1 W1 S1 => ?_
  exact h B F1 H1 vs fp os Q W1 S1 fun v F2 H2 fp2 f2 e2 W2 p2 => q v F2 H2 fp2 (f1.trans f2) (e1.trans e2) W2 p2
theorem x_callTy {id : String} {rr : List V → Hp → VK → Prop} (hc : ∀ i, CallR (Y.X i) (.type id) rr) (hm : mg x = none) (hv : bootBuiltins x = some (.type id)) (h : OpA rr As c) (ha : XA Y (e :: es) Γ As) (hg : ∀ i, Gl (Y.X i) x := by intro _; rfl) (hn : x ≠ "__name__" := by decide) (hdb : (x == ("__debug__" : Str)) = false := by decide)
    (he : ∀ i, starEach (e :: es) (Y.X i).env = (false, eval e (Y.X i).env) :: starEach es (Y.X i).env := by intro _; rfl) (hpl : ∀ i, (backTo pos (starEach es (Y.X i).env)).any (·.1) = false := by intro _; rfl) : XV Y (.Call (.Name x p') (e :: es) [] pos) Γ c := by
  obtain ⟨t, pa, rd⟩ := ha
  refine ⟨_, fun i => pe_callTy (hc i) (hg i) (by rw [Y.hM]; exact hm) hv (pa i) hn hdb (he i) (hpl i), fun B F H os σ Q I q => ?_⟩
  refine rd B F H os σ _ I fun vs F1 H1 fp f1 e1 W1 S1 => ?_
  exact h B F1 H1 vs fp os Q W1 S1 fun v F2 H2 fp2 f2 e2 W2 p2 => q v F2 H2 fp2 (f1.trans f2) (e1.trans e2) W2 p2
/-- one argument -/
theorem opA1 {rr : List V → Hp → VK → Prop} (h : Op1 (fun x H Q => rr [x] H Q) a c) : OpA rr [a] c := fun B F H vs fx os Q W S q => by
  match vs, S with
  | [], S => have e := S.length; simp at e
  | [v], S =>
    obtain ⟨f1, f2, rfl, p, S2⟩ := Slots.cons_inv S
    rw [List.append_assoc] at W
    have W' : Wo B F H (f1 ++ os) := (W.perm (by rw [← List.append_assoc, ← List.append_assoc]; exact List.Perm.append_right os List.perm_append_comm)).drop
    exact h B F H v f1 os Q W' p q
  | _ :: _ :: _, S => have e := S.length; simp at e
theorem opA2 {rr : List V → Hp → VK → Prop} (h : Op2 (fun x y H Q => rr [x, y] H Q) a b c) : OpA rr [a, b] c := fun B F H vs fx os Q W S q => by
  match vs, S with
  | [], S => have e := S.length; simp at e
  | [_], S => have e := S.length; simp at e
  | [v, u], S =>
    obtain ⟨f1, f2, rfl, p, S2⟩ := Slots.cons_inv S
    obtain ⟨f3, f4, rfl, p2, S3⟩ := Slots.cons_inv S2
    have W' : Wo B F H (f4 ++ (f3 ++ (f1 ++ os))) := W.perm (by
      have e1 : (f1 ++ (f3 ++ f4)).Perm (f4 ++ (f3 ++ f1)) := by
        refine List.perm_append_comm.trans ?_
        rw [← List.append_assoc]
        exact List.Perm.append_right f1 List.perm_append_comm
      have e2 := List.Perm.append_right os e1
      rw [List.append_assoc f4, List.append_assoc f3] at e2
      exact e2)
    exact h B F H v u f1 f3 os Q W'.drop p p2 q
  | _ :: _ :: _ :: _, S => have e := S.length; simp at e
theorem xa1 (h : XV Y e Γ a) (hs : ∀ i, starEach [e] (Y.X i).env = (false, eval e (Y.X i).env) :: starEach [] (Y.X i).env := by intro _; rfl) : XA Y [e] Γ [a] := xa_cons h xa_nil hs
theorem xa2 (h : XV Y ea Γ a) (h2 : XV Y eb Γ b) (hs2 : ∀ i, starEach [eb] (Y.X i).env = (false, eval eb (Y.X i).env) :: starEach [] (Y.X i).env := by intro _; rfl) (hs : ∀ i, starEach [ea, eb] (Y.X i).env = (false, eval ea (Y.X i).env) :: starEach [eb] (Y.X i).env := by intro _; rfl) : XA Y [ea, eb] Γ [a, b] := xa_cons h (xa_cons h2 xa_nil hs2) hs

/-! ### len, list(), tuple(), int(), max, min -/
def rLenK (K : PySem.W.Frag) : List V → Hp → VK → Prop := fun xs H Q => ∃ p ys, xs = [.ref p] ∧ (SqL K H p ys ∨ SqT K H p ys) ∧ Q (.int ys.length) H
def rListK (K : PySem.W.Frag) : List V → Hp → VK → Prop := fun xs H Q => ∃ p ys, xs = [.ref p] ∧ (SqL K H p ys ∨ SqT K H p ys) ∧ ∀ l, H l = none → Q (.ref l) (upd H l (.lst ys))
def rTupK (K : PySem.W.Frag) : List V → Hp → VK → Prop := fun xs H Q => ∃ p ys, xs = [.ref p] ∧ ((SqL K H p ys ∧ ∀ l, H l = none → Q (.ref l) (upd H l (.tup ys))) ∨ (SqT K H p ys ∧ Q (.ref p) H))
theorem c_len (Y : Fa P w K mg base k) (i : Y.I) : CallR (Y.X i) (.builtin "len") (rLenK K) := by have h := call_len_seq (X := Y.X i); rw [Y.hK i] at h; exact h
theorem c_list (Y : Fa P w K mg base k) (i : Y.I) : CallR (Y.X i) (.type "list") (rListK K) := by have h := call_list_of (X := Y.X i); rw [Y.hK i] at h; exact h
theorem c_tup (Y : Fa P w K mg base k) (i : Y.I) : CallR (Y.X i) (.type "tuple") (rTupK K) := by have h := call_tuple_of (X := Y.X i); rw [Y.hK i] at h; exact h
section
variable {α β : Type} {p : VP α} {q : VP β} {xs : List α}
theorem o_lenL (hs : SV K s p xs) : OpA (rLenK K) [s] (vInt (xs.length : Int)) := opA1 fun B F H v fx os Q W pv q => by
  obtain ⟨l, vs, ev, h1, h2⟩ := hs F H fx _ W.sub pv
  cases ev
  exact ⟨l, vs, rfl, .inl h1, q _ F H [] same_refl same_refl W.drop ⟨rfl, _, rfl, by show V.int _ = V.int _; rw [Paired.length h2]⟩⟩
theorem o_lenT (hs : TV s p xs) : OpA (rLenK K) [s] (vInt (xs.length : Int)) := opA1 fun B F H v fx os Q W pv q => by
  obtain ⟨l, vs, ev, h1, h2⟩ := hs F H fx _ W.sub pv
  cases ev
  exact ⟨l, vs, rfl, .inr (SqT.of h1), q _ F H [] same_refl same_refl W.drop ⟨rfl, _, rfl, by show V.int _ = V.int _; rw [Paired.length h2]⟩⟩
/-- a list made anew -/
theorem newL {B : Bs} {F H : Hp} {os : List Addr} {vs : List V} {l : Addr} {Q : VK} (W : Wo B F H os) (hl : H l = none) (hp : Paired (p.R F) vs xs)
    (q : ∀ v F' H' fp, Same F F' → Same H H' → Wo B F' H' (fp ++ os) → (own (oL p) xs).P F' H' fp (some v) → Q v H') : Q (.ref l) (upd H l (.lst vs)) :=
  q _ F _ [l] same_refl (same_upd hl) (W.newO hl) ⟨_, rfl, l, vs, rfl, rfl, upd_same, hp⟩
theorem o_listL (hs : SV K s p xs) : OpA (rListK K) [s] (own (oL p) xs) := opA1 fun B F H v fx os Q W pv q => by
  obtain ⟨l, vs, ev, h1, h2⟩ := hs F H fx _ W.sub pv
  cases ev
  exact ⟨l, vs, rfl, .inl h1, fun l' hl => newL W.drop hl h2 q⟩
theorem o_listT (hs : TV s p xs) : OpA (rListK K) [s] (own (oL p) xs) := opA1 fun B F H v fx os Q W pv q => by
  obtain ⟨l, vs, ev, h1, h2⟩ := hs F H fx _ W.sub pv
  cases ev
  exact ⟨l, vs, rfl, .inr (SqT.of h1), fun l' hl => newL W.drop hl h2 q⟩
/-- a frozen object made anew -/
theorem newF {B : Bs} {F H : Hp} {os : List Addr} {u : HO} {l : Addr} {Q : VK} {r : Slot} (W : Wo B F H os) (hl : H l = none) (hp : ∀ F', Same F F' → F' l = some u → r.P F' (upd H l u) [] (some (.ref l)))
    (q : ∀ v F' H' fp, Same F F' → Same H H' → Wo B F' H' (fp ++ os) → r.P F' H' fp (some v) → Q v H') : Q (.ref l) (upd H l u) :=
  q _ (upd F l u) _ [] (same_upd (W.free hl).1) (same_upd hl) (W.newF hl) (hp _ (same_upd (W.free hl).1) upd_same)
theorem o_tupL (hs : SV K s p xs) : OpA (rTupK K) [s] (val (pTup p) xs) := opA1 fun B F H v fx os Q W pv q => by
  obtain ⟨l, vs, ev, h1, h2⟩ := hs F H fx _ W.sub pv
  cases ev
  exact ⟨l, vs, rfl, .inl ⟨h1, fun l' hl => newF (r := val (pTup p) xs) W.drop hl (fun F' f e => ⟨rfl, _, rfl, l', vs, rfl, e, Paired.mon (fun _ _ r => p.mono f r) h2⟩) q⟩⟩
theorem o_intI {z : Int} : OpA (fun xs H Q => (∃ i, xs = [V.int i] ∧ Q (.int i) H) ∨ ∃ k, xs = [V.bl k] ∧ Q (.int (if k then 1 else 0)) H) [vInt z] (vInt z) := opA1 fun B F H v fx os Q W pv q => by
  obtain rfl := vint pv
  exact .inl ⟨z, rfl, q _ F H [] same_refl same_refl W.drop ⟨rfl, _, rfl, rfl⟩⟩
theorem o_min2 {m n : Int} : OpA (fun xs H Q => ∃ i j, xs = [V.int i, V.int j] ∧ Q (.int (if j < i then j else i)) H) [vInt m, vInt n] (vInt (if n < m then n else m)) := opA2 fun B F H x y fx fy os Q W p1 p2 q => by
  obtain rfl := vint p1
  obtain rfl := vint p2
  exact ⟨m, n, rfl, q _ F H [] same_refl same_refl W.drop.drop ⟨rfl, _, rfl, rfl⟩⟩

/-! ### displays -/
theorem slots_vals {F H : Hp} : ∀ {vs : List V} {xs : List α} {fp : List Addr}, Slots F H fp (vs.map some) (xs.map (val p)) → Paired (p.R F) vs xs
  | [], [], _, _ => .nil
  | [], _ :: _, _, S => by have e := S.length; simp at e
  | _ :: _, [], _, S => by have e := S.length; simp at e
  | v :: vs, x :: xs, fp, S => by
    rw [List.map_cons, List.map_cons] at S
    obtain ⟨f1, f2, rfl, pv, S2⟩ := Slots.cons_inv S
    exact .cons (val_P pv).2 (slots_vals S2)
theorem x_lst (ha : XA Y es Γ (xs.map (val p))) (hz : xs.length ≤ sizeLine) : XV Y (.List es pos) Γ (own (oL p) xs) := by
  obtain ⟨t, pa, rd⟩ := ha
  refine ⟨_, fun i => pe_lst (pa i), fun B F H os σ Q I q => ?_⟩
  refine rd B F H os σ _ I fun vs F1 H1 fp f1 e1 W1 S1 => ?_
  have hp := slots_vals S1
  exact ⟨by rw [Paired.length hp]; exact hz, fun p' hl => newL W1.drop hl hp fun v F' H' fp' f2 e2 => q v F' H' fp' (f1.trans f2) (e1.trans e2)⟩
theorem x_tupN (ha : XA Y es Γ (xs.map (val p))) (hz : xs.length ≤ sizeLine) {n : Nat} : XV Y (.Tuple es n pos) Γ (val (pTup p) xs) := by
  obtain ⟨t, pa, rd⟩ := ha
  refine ⟨_, fun i => pe_tup (pa i), fun B F H os σ Q I q => ?_⟩
  refine rd B F H os σ _ I fun vs F1 H1 fp f1 e1 W1 S1 => ?_
  have hp := slots_vals S1
  exact ⟨by rw [Paired.length hp]; exact hz, fun p' hl => newF (r := val (pTup p) xs) W1.drop hl (fun F' f e => ⟨rfl, _, rfl, p', vs, rfl, e, Paired.mon (fun _ _ r => p.mono f r) hp⟩) fun v F' H' fp' f2 e2 => q v F' H' fp' (f1.trans f2) (e1.trans e2)⟩
theorem x_tup2 {n : Nat} {u : α} {v : β} (ha : XA Y [ea, eb] Γ [val p u, val q v]) : XV Y (.Tuple [ea, eb] n pos) Γ (val (pT2 p q) (u, v)) := by
  obtain ⟨t, pa, rd⟩ := ha
  refine ⟨_, fun i => pe_tup (pa i), fun B F H os σ Q I kk => ?_⟩
  refine rd B F H os σ _ I fun vs F1 H1 fp f1 e1 W1 S1 => ?_
  match vs, S1 with
  | [], S => have e := S.length; simp at e
  | [_], S => have e := S.length; simp at e
  | [v1, v2], S =>
    obtain ⟨g1, g2, rfl, p1, S2⟩ := Slots.cons_inv S
    obtain ⟨g3, g4, rfl, p2, S3⟩ := Slots.cons_inv S2
    exact ⟨by show 2 ≤ sizeLine; decide, fun p' hl => newF (r := val (pT2 p q) (u, v)) W1.drop hl (fun F' f e => ⟨rfl, _, rfl, p', v1, v2, rfl, e, p.mono f (val_P p1).2, q.mono f (val_P p2).2⟩) fun v F' H' fp' f2 e2 => kk v F' H' fp' (f1.trans f2) (e1.trans e2)⟩
  | _ :: _ :: _ :: _, S => have e := S.length; simp at e
/-! ### subscripts -/
theorem paired_atI {F : Hp} {vs : List V} (h : Paired (p.R F) vs xs) {z : Int} {u : α} (hz : atI xs z = some u) : ∃ v, atI vs z = some v ∧ p.R F v u := by
  unfold atI at hz ⊢
  rw [← Paired.length h] at hz
  cases e : ixN vs.length z with
  | none => rw [e] at hz; cases hz
  | some j =>
    rw [e] at hz
    exact paired_at' h (by simpa using hz)
theorem x_ix {z : Int} {u : α} (ha : XV Y ea Γ s) (hs : SV K s p xs) (hb : XV Y eb Γ (vInt z)) (hz : atI xs z = some u) (hx : PlainIx eb := by exact fun _ _ => rfl) : XV Y (.Subscript ea eb pos) Γ (val p u) := by
  obtain ⟨ta, pa, ra⟩ := ha
  obtain ⟨tb, pb, rb⟩ := hb
  refine ⟨_, fun i => by have h := ix_list (X := Y.X i); rw [Y.hK i] at h; exact pe_ix h (pa i) (pb i) hx, fun B F H os σ Q I q => ?_⟩
  refine two (Q := fun _ _ => True) I ra rb fun x y F2 H2 fx fy f2 e2 W2 p1 p2 => ?_
  obtain rfl := vint p2
  obtain ⟨l, vs, ev, h1, h2⟩ := hs F2 H2 fx _ W2.sub p1
  cases ev
  obtain ⟨v, hv, rv⟩ := paired_atI h2 hz
  exact ⟨l, vs, z, v, rfl, rfl, h1, hv, q v F2 H2 [] f2 e2 W2.drop.drop ⟨rfl, _, rfl, rv⟩⟩
/-- an item of a tuple of known places -/
theorem x_ixC {z : Int} {u : β} {t0 : VP α} {y : α} (ht : ∀ F v, t0.R F v y → ∃ l vs v', v = .ref l ∧ F l = some (.tup vs) ∧ atI vs z = some v' ∧ q.R F v' u) (ha : XV Y ea Γ (val t0 y)) (hb : XV Y eb Γ (vInt z)) (hx : PlainIx eb := by exact fun _ _ => rfl) : XV Y (.Subscript ea eb pos) Γ (val q u) := by
  obtain ⟨ta, pa, ra⟩ := ha
  obtain ⟨tb, pb, rb⟩ := hb
  refine ⟨_, fun i => by have h := ix_tup (X := Y.X i); rw [Y.hK i] at h; exact pe_ix h (pa i) (pb i) hx, fun B F H os σ Q I kk => ?_⟩
  refine two (Q := fun _ _ => True) I ra rb fun x y F2 H2 fx fy f2 e2 W2 p1 p2 => ?_
  obtain rfl := vint p2
  obtain ⟨l, vs, v', ev, h1, h2, h3⟩ := ht F2 _ (val_P p1).2
  subst ev
  exact ⟨l, vs, z, v', rfl, rfl, SqT.of (W2.sub _ _ h1), h2, kk v' F2 H2 [] f2 e2 W2.drop.drop ⟨rfl, _, rfl, h3⟩⟩
theorem x_fst {u : α × β} (ha : XV Y ea Γ (val (pT2 p q) u)) (hb : XV Y eb Γ (vInt 0)) (hx : PlainIx eb := by exact fun _ _ => rfl) : XV Y (.Subscript ea eb pos) Γ (val p u.1) :=
  x_ixC (t0 := pT2 p q) (y := u) (fun F v h => let ⟨l, a, b, e, h1, h2, h3⟩ := h; ⟨l, _, a, e, h1, rfl, h2⟩) ha hb hx
theorem x_snd {u : α × β} (ha : XV Y ea Γ (val (pT2 p q) u)) (hb : XV Y eb Γ (vInt 1)) (hx : PlainIx eb := by exact fun _ _ => rfl) : XV Y (.Subscript ea eb pos) Γ (val q u.2) :=
  x_ixC (t0 := pT2 p q) (y := u) (fun F v h => let ⟨l, a, b, e, h1, h2, h3⟩ := h; ⟨l, _, b, e, h1, rfl, h3⟩) ha hb hx
/-! ### list + list, list * int, in -/
theorem Paired.app {α β : Type} {G : α → β → Prop} : ∀ {xs : List α} {ys : List β} {us : List α} {ws : List β}, Paired G xs ys → Paired G us ws → Paired G (xs ++ us) (ys ++ ws)
  | _, _, _, _, .nil, h => h
  | _, _, _, _, .cons r t, h => .cons r (Paired.app t h)
theorem o_cat {ys : List α} (h1 : LV a p xs) (h2 : LV b p ys) (hz : xs.length + ys.length ≤ sizeLine) : Op2 rCat a b (own (oL p) (xs ++ ys)) := fun B F H x y fx fy os Q W p1 p2 q => by
  obtain ⟨l2, vs2, e2, g2, r2⟩ := h2 F H fy _ W.sub p2
  obtain ⟨l1, vs1, e1, g1, r1⟩ := h1 F H fx _ W.sub p1
  cases e1; cases e2
  exact ⟨l1, l2, vs1, vs2, rfl, rfl, g1, g2, by rw [Paired.length r1, Paired.length r2]; exact hz, fun p' hp => newL W.drop.drop hp (Paired.app r1 r2) q⟩
theorem Paired.rep {α β : Type} {G : α → β → Prop} {xs : List α} {ys : List β} (h : Paired G xs ys) : ∀ n : Nat, Paired G (List.replicate n xs).flatten (List.replicate n ys).flatten
  | 0 => .nil
  | n + 1 => by rw [List.replicate_succ, List.replicate_succ, List.flatten_cons, List.flatten_cons]; exact Paired.app h (Paired.rep h n)
theorem o_rep {z : Int} (h1 : LV a p xs) (hz : -(2 ^ 63) ≤ z ∧ z < 2 ^ 63 ∧ xs.length * z.toNat ≤ sizeLine) : Op2 rRep a (vInt z) (own (oL p) (List.replicate z.toNat xs).flatten) := fun B F H x y fx fy os Q W p1 p2 q => by
  obtain rfl := vint p2
  obtain ⟨l1, vs1, e1, g1, r1⟩ := h1 F H fx _ W.sub p1
  cases e1
  exact ⟨l1, z, vs1, rfl, rfl, g1, hz.1, hz.2.1, by rw [Paired.length r1]; exact hz.2.2, fun p' hp => newL W.drop.drop hp (Paired.rep r1 _) q⟩
/-- items that == tells as equality does -/
def Eqv (p : VP α) [DecidableEq α] : Prop := ∀ F v a, p.R F v a → flatV v = true ∧ ∀ F' v' a', p.R F' v' a' → eqV v' v = decide (a' = a)
theorem Eqv.int : Eqv pInt := fun F v a h => by
  cases h
  refine ⟨rfl, fun F' v' a' h' => ?_⟩
  cases h'
  show (a' == a) = _
  rw [Bool.eq_iff_iff]; simp
theorem Eqv.str : Eqv pStr := fun F v a h => by
  cases h
  refine ⟨rfl, fun F' v' a' h' => ?_⟩
  cases h'
  show (a' == a) = _
  rw [Bool.eq_iff_iff]; simp
theorem inV_of [DecidableEq α] (E : Eqv p) {F F' : Hp} {v : V} {u : α} (hu : p.R F' v u) : ∀ {vs : List V} {xs : List α}, Paired (p.R F) vs xs → inV v vs = decide (u ∈ xs) ∧ vs.all flatV = true
  | _, _, .nil => ⟨by simp [inV], rfl⟩
  | _, _, .cons r t => by
    obtain ⟨i1, i2⟩ := inV_of E hu t
    have h1 := (E _ _ _ hu).2 _ _ _ r
    refine ⟨?_, by rw [List.all_cons, (E _ _ _ r).1, i2]; rfl⟩
    unfold inV at i1 ⊢
    rw [List.any_cons, i1, h1, ← Bool.decide_or]
    exact decide_eq_decide.mpr ⟨fun z => z.elim (fun z => List.mem_cons.mpr (.inl z.symm)) fun z => List.mem_cons_of_mem _ z, fun z => (List.mem_cons.mp z).elim (fun z => .inl z.symm) .inr⟩
theorem o_inL [DecidableEq α] (E : Eqv p) {u : α} (hs : SV K s p xs) : Op2 (rIn K false) (val p u) s (vBl (decide (u ∈ xs))) := fun B F H x y fx fy os Q W p1 p2 q => by
  obtain ⟨l, vs, ev, h1, h2⟩ := hs F H fy _ W.sub p2
  cases ev
  have hu := (val_P p1).2
  obtain ⟨i1, i2⟩ := inV_of E hu h2
  exact ⟨l, vs, rfl, .inl h1, (E _ _ _ hu).1, i2, q _ F H [] same_refl same_refl W.drop.drop ⟨rfl, _, rfl, by show V.bl (inV _ _) = V.bl _; rw [i1]⟩⟩
theorem c_in (Y : Fa P w K mg base k) (i : Y.I) : OpR (Y.X i) (compareOp .In) (rIn K false) := by have h := op_in_seq (X := Y.X i); rw [Y.hK i] at h; exact h
theorem c_nin (Y : Fa P w K mg base k) (i : Y.I) : OpR (Y.X i) (compareOp .NotIn) (rIn K true) := by have h := op_notIn_seq (X := Y.X i); rw [Y.hK i] at h; exact h

/-! ### == of data -/
structure DE (p : VP α) [DecidableEq α] (ok : α → Prop) where
  enc : α → PyData
  dp : ∀ (K : PySem.W.Frag) F v a, p.R F v a → Dp K F v (enc a)
  sh : ∀ a, ok a → (enc a).canLay0 = true
  d : Nat
  hd : ∀ a, (enc a).depth ≤ d
  eq : ∀ a b, PyData.eqv (enc a) (enc b) = decide (a = b)
theorem Dp.mono {F F' : Hp} (h : Same F F') : ∀ {v d}, Dp K F v d → Dp K F' v d := fun {v d} q => by
  refine Dp.rec (motive_1 := fun v d _ => Dp K F' v d) (motive_2 := fun vs ds _ => DpAll K F' vs ds) ?_ ?_ ?_ ?_ ?_ ?_ ?_ ?_ q
  · exact .non
  · exact fun b => .bl b
  · exact fun b => .int b
  · exact fun b => .str b
  · exact fun {a xs ds} s _ ih => .lst (Same.seq h s) ih
  · intro a xs ds s _ ih
    refine .tup ?_ ih
    rcases s with (s | ⟨o, s⟩) | s
    · exact .inl (.inl (h _ _ s))
    · exact .inl (.inr ⟨o, h _ _ s⟩)
    · exact .inr s
  · exact .nil
  · exact fun _ _ i1 i2 => .cons i1 i2
def DE.int : DE pInt (fun _ => True) := ⟨fun i => .int i, fun K F v a h => by cases h; exact .int a, fun _ _ => rfl, 0, fun _ => Nat.le_refl _, fun a b => by rw [PyData.eqv, Bool.eq_iff_iff]; simp⟩
def DE.bl : DE pBl (fun _ => True) := ⟨fun i => .bool i, fun K F v a h => by cases h; exact .bl a, fun _ _ => rfl, 0, fun _ => Nat.le_refl _, fun a b => by rw [PyData.eqv, Bool.eq_iff_iff]; simp⟩
def DE.str : DE pStr (fun x => PyData.strOk x = true) := ⟨fun i => .str i, fun K F v a h => by cases h; exact .str a, fun a h => by rw [PyData.canLay0]; exact h, 0, fun _ => Nat.le_refl _, fun a b => by rw [PyData.eqv, Bool.eq_iff_iff]; simp⟩
theorem eqvAll_map {enc : α → PyData} [DecidableEq α] (h : ∀ a b, PyData.eqv (enc a) (enc b) = decide (a = b)) : ∀ xs ys : List α, PyData.eqvAll (xs.map enc) (ys.map enc) = decide (xs = ys)
  | [], [] => by simp [PyData.eqvAll]
  | [], _ :: _ => by simp [PyData.eqvAll]
  | _ :: _, [] => by simp [PyData.eqvAll]
  | x :: xs, y :: ys => by
    rw [List.map_cons, List.map_cons, PyData.eqvAll, h, eqvAll_map h xs ys, Bool.eq_iff_iff]
    simp
theorem dpAll_of {F : Hp} {enc : α → PyData} (h : ∀ v a, p.R F v a → Dp K F v (enc a)) : ∀ {vs : List V} {xs : List α}, Paired (p.R F) vs xs → DpAll K F vs (xs.map enc)
  | _, _, .nil => .nil
  | _, _, .cons r t => .cons (h _ _ r) (dpAll_of h t)
theorem canAll {enc : α → PyData} {ok : α → Prop} (h : ∀ a, ok a → (enc a).canLay0 = true) : ∀ xs : List α, (∀ a ∈ xs, ok a) → PyData.canLayAll0 (xs.map enc) = true
  | [], _ => by simp [PyData.canLayAll0]
  | x :: xs, k => by
    rw [List.map_cons, PyData.canLayAll0, h x (k x List.mem_cons_self), canAll h xs fun a ha => k a (List.mem_cons_of_mem _ ha)]; rfl
theorem depthAll_le {enc : α → PyData} {d : Nat} (h : ∀ a, (enc a).depth ≤ d) : ∀ xs : List α, PyData.depthAll (xs.map enc) ≤ d
  | [] => by simp [PyData.depthAll]
  | x :: xs => by
    rw [List.map_cons, PyData.depthAll]
    exact Nat.max_le.mpr ⟨h x, depthAll_le h xs⟩
def DE.list [DecidableEq α] {ok : α → Prop} (E : DE p ok) : DE (pL p) (fun xs => ∀ a ∈ xs, ok a) where
  enc := fun xs => .list (xs.map E.enc)
  dp := fun K F v a h => let ⟨l, vs, e, h1, h2⟩ := h; by subst e; exact .lst (SqL.of h1) (dpAll_of (E.dp K F) h2)
  sh := fun a h => by rw [PyData.canLay0]; exact canAll E.sh a h
  d := E.d + 1
  hd := fun a => by rw [PyData.depth]; exact Nat.succ_le_succ (depthAll_le E.hd a)
  eq := fun a b => by rw [PyData.eqv]; exact eqvAll_map E.eq a b
def DE.tup [DecidableEq α] {ok : α → Prop} (E : DE p ok) : DE (pTup p) (fun xs => ∀ a ∈ xs, ok a) where
  enc := fun xs => .tuple (xs.map E.enc)
  dp := fun K F v a h => let ⟨l, vs, e, h1, h2⟩ := h; by subst e; exact .tup (SqT.of h1) (dpAll_of (E.dp K F) h2)
  sh := fun a h => by rw [PyData.canLay0]; exact canAll E.sh a h
  d := E.d + 1
  hd := fun a => by rw [PyData.depth]; exact Nat.succ_le_succ (depthAll_le E.hd a)
  eq := fun a b => by rw [PyData.eqv]; exact eqvAll_map E.eq a b
def DE.t2 [DecidableEq α] [DecidableEq β] {ok : α → Prop} {ok' : β → Prop} (E : DE p ok) (E' : DE q ok') : DE (pT2 p q) (fun x => ok x.1 ∧ ok' x.2) where
  enc := fun x => .tuple [E.enc x.1, E'.enc x.2]
  dp := fun K F v a h => let ⟨l, u, w, e, h1, h2, h3⟩ := h; by subst e; exact .tup (SqT.of h1) (.cons (E.dp K F _ _ h2) (.cons (E'.dp K F _ _ h3) .nil))
  sh := fun a h => by simp [PyData.canLay0, PyData.canLayAll0, E.sh _ h.1, E'.sh _ h.2]
  d := max E.d E'.d + 1
  hd := fun a => by
    simp only [PyData.depth, PyData.depthAll]
    have h1 := E.hd a.1
    have h2 := E'.hd a.2
    omega
  eq := fun a b => by
    simp only [PyData.eqv, PyData.eqvAll, E.eq, E'.eq]
    rw [Bool.eq_iff_iff]
    simp [Prod.ext_iff]
def DE.t3 {γ : Type} {o : VP γ} [DecidableEq α] [DecidableEq β] [DecidableEq γ] {ok : α → Prop} {ok' : β → Prop} {ok2 : γ → Prop} (E : DE p ok) (E' : DE q ok') (E2 : DE o ok2) : DE (pT3 p q o) (fun x => ok x.1 ∧ ok' x.2.1 ∧ ok2 x.2.2) where
  enc := fun x => .tuple [E.enc x.1, E'.enc x.2.1, E2.enc x.2.2]
  dp := fun K F v a h => let ⟨l, u, w, z, e, h1, h2, h3, h4⟩ := h; by subst e; exact .tup (SqT.of h1) (.cons (E.dp K F _ _ h2) (.cons (E'.dp K F _ _ h3) (.cons (E2.dp K F _ _ h4) .nil)))
  sh := fun a h => by simp [PyData.canLay0, PyData.canLayAll0, E.sh _ h.1, E'.sh _ h.2.1, E2.sh _ h.2.2]
  d := max E.d (max E'.d E2.d) + 1
  hd := fun a => by
    simp only [PyData.depth, PyData.depthAll]
    have h1 := E.hd a.1
    have h2 := E'.hd a.2.1
    have h3 := E2.hd a.2.2
    omega
  eq := fun a b => by
    simp only [PyData.eqv, PyData.eqvAll, E.eq, E'.eq, E2.eq]
    rw [Bool.eq_iff_iff]
    simp [Prod.ext_iff]
def DE.opt [DecidableEq α] {ok : α → Prop} (E : DE p ok) (hn : ∀ a b, PyData.eqv (E.enc a) .none = false ∧ PyData.eqv .none (E.enc b) = false) : DE (pOpt p) (fun x => ∀ a, x = some a → ok a) where
  enc := fun x => match x with | none => .none | some a => E.enc a
  dp := fun K F v a h => by
    cases a with
    | none => cases h; exact .non
    | some a => exact E.dp K F v a h.1
  sh := fun a h => by
    cases a with
    | none => rfl
    | some a => exact E.sh a (h a rfl)
  d := E.d
  hd := fun a => by
    cases a with
    | none => exact Nat.zero_le _
    | some a => exact E.hd a
  eq := fun a b => by
    cases a with
    | none =>
      cases b with
      | none => rfl
      | some b => simp [(hn b b).2]
    | some a =>
      cases b with
      | none => simp [(hn a a).1]
      | some b => simp [E.eq]
theorem o_eqD [DecidableEq α] {ok : α → Prop} (E : DE p ok) (hE : E.d ≤ 64 := by decide) {u v : α} (ha : Vw a p u) (hb : Vw b p v) (h1 : ok u) (h2 : ok v) : Op2 (rEqD K) a b (vBl (decide (u = v))) := fun B F H x y fx fy os Q W p1 p2 q => by
  obtain ⟨y', ey, ry⟩ := hb F H fy _ W.sub p2
  obtain ⟨x', ex, rx⟩ := ha F H fx _ W.sub p1
  cases ex; cases ey
  have sh : ∀ z, ok z → SeqAt.shaped (E.enc z) = true := fun z hz => by
    unfold SeqAt.shaped
    rw [E.sh z hz, decide_eq_true (Nat.le_trans (E.hd z) hE)]; rfl
  exact ⟨E.enc u, E.enc v, E.dp K H _ _ rx, E.dp K H _ _ ry, sh u h1, sh v h2, q _ F H [] same_refl same_refl W.drop.drop ⟨rfl, _, rfl, by rw [E.eq]; rfl⟩⟩
theorem o_neD [DecidableEq α] {ok : α → Prop} (E : DE p ok) (hE : E.d ≤ 64 := by decide) {u v : α} (ha : Vw a p u) (hb : Vw b p v) (h1 : ok u) (h2 : ok v) : Op2 (rNeD K) a b (vBl (!decide (u = v))) := fun B F H x y fx fy os Q W p1 p2 q => by
  obtain ⟨y', ey, ry⟩ := hb F H fy _ W.sub p2
  obtain ⟨x', ex, rx⟩ := ha F H fx _ W.sub p1
  cases ex; cases ey
  have sh : ∀ z, ok z → SeqAt.shaped (E.enc z) = true := fun z hz => by
    unfold SeqAt.shaped
    rw [E.sh z hz, decide_eq_true (Nat.le_trans (E.hd z) hE)]; rfl
  exact ⟨E.enc u, E.enc v, E.dp K H _ _ rx, E.dp K H _ _ ry, sh u h1, sh v h2, q _ F H [] same_refl same_refl W.drop.drop ⟨rfl, _, rfl, by rw [E.eq]; rfl⟩⟩
theorem c_eqD (Y : Fa P w K mg base k) (i : Y.I) : OpR (Y.X i) (compareOp .Eq) (rEqD K) := by have h := op_eqD (X := Y.X i) (Y.hU i); rw [Y.hK i] at h; exact h
theorem c_neD (Y : Fa P w K mg base k) (i : Y.I) : OpR (Y.X i) (compareOp .NotEq) (rNeD K) := by have h := op_neD (X := Y.X i) (Y.hU i); rw [Y.hK i] at h; exact h

/-! ### owned lists that change -/
/-- a place that holds something owned -/
def PL (Y : Fa P w K mg base k) (e : Expr) (Γ : List Slot) (s : Slot) (up : Slot → List Slot) : Prop :=
  ∃ (t : TE) (Pv : L2.St → Hp → V → Prop), (∀ i, PE (Y.X i) e t) ∧ (∀ σ H H' v, Same H H' → Pv σ H v → Pv σ H' v) ∧
    (∀ (B : Bs) (F H : Hp) (os : List Addr) (σ : List (Option V)) (Q : VK), In B F H os σ Γ → (∀ v, Pv σ H v → Q v H) → t σ H Q) ∧
    ∀ (F H : Hp) (os : List Addr) (σ : List (Option V)) (v : V), Slots F H os σ Γ → Pv σ H v → ∃ fp r, os.Perm (fp ++ r) ∧ s.P F H fp (some v) ∧
      ∀ (F' H' : Hp) (fp' : List Addr) (s' : Slot), Same F F' → (∀ q ∈ r, H' q = H q) → s'.P F' H' fp' (some v) → ∃ os', Slots F' H' os' σ (up s') ∧ os'.Perm (fp' ++ r)
theorem pl_name (j : Nat) (hst : Stb Γ) (hs : Γ[j]? = some s := by rfl) (hso : ∀ F H fp o, s.P F H fp o → ∃ v, o = some v) (hN : ∀ i, (Y.X i).N[j]? = some x := by intro _; rfl)
    (hv : ∀ i, Vis (Y.X i).env.scope x := by intro _; first | exact Or.inl rfl | exact Or.inr (Or.inl rfl) | exact Or.inr (Or.inr rfl)) (hd : (x == ("__debug__" : Str)) = false := by decide) (hcd : (x == ("__classdict__" : Str)) = false := by decide) : PL Y (.Name x pos) Γ s (fun s' => Γ.set j s') := by
  refine ⟨_, fun σ H v => σ[j]? = some (some v), fun i => pe_var (hN i) (hv i) hd hcd, fun σ H H' v _ h => h, fun B F H os σ Q I q => ?_, fun F H os σ v S hv => ?_⟩
  · obtain ⟨o, fp, e, h⟩ := I.slot hs
    obtain ⟨v, rfl⟩ := hso F H fp o h
    exact ⟨v, e, q v e⟩
  · obtain ⟨o, fp, r, e, p, q, kk⟩ := S.at hs
    rw [hv] at e; cases e
    refine ⟨fp, r, q, p, fun F' H' fp' s' hF hk hs' => ?_⟩
    obtain ⟨os', h1, h2⟩ := kk hs' (fun s0 h0 fp0 o0 hf hp => s0.mm (hst s0 h0) hF (fun z hz => hk z (hf z hz)) hp)
    have es : σ.set j (some v) = σ := by
      obtain ⟨hj, e⟩ := List.getElem?_eq_some_iff.mp hv
      rw [← e]; exact List.set_getElem_self hj
    rw [es] at h1
    exact ⟨os', h1, h2⟩
theorem own_some {O : OP α} {u : α} : ∀ F H fp o, (own O u).P F H fp o → ∃ v, o = some v := fun F H fp o h => let ⟨v, e, _⟩ := h; ⟨v, e⟩
/-- what must be seen of the text of a call o.m(e) of a built-in's method -/
structure Bm1 (X : Cx) (o : Expr) (name : Str) (apos : Pos) (e : Expr) (cpos : Pos) : Prop where
  base : attributeBase o name X.env (eval o X.env) = eval o X.env
  few : ((backTo cpos (starEach [e] X.env)).all (fun x => !x.1) && (backToKw cpos (keywordEach [] X.env)).all (fun x => x.1.isSome) && decide (([e] : List Expr).length + ([] : List Keyword).length + (if ([] : List Keyword).isEmpty then 0 else 1) < 30)) = true
  line : (apos.endLine == cpos.line) = true
  st : starEach [e] X.env = (false, eval e X.env) :: starEach [] X.env
  pl : (backTo cpos (starEach [] X.env)).any (·.1) = false
/-- an owned object at l within a place is rewritten -/
theorem pl_write {F H : Hp} {os r : List Addr} {σ : List (Option V)} {l : Addr} {u : HO} {fy : List Addr} {s' : Slot} {v : V} {up : Slot → List Slot} (W : Wo B F H (fy ++ os)) (hp : os.Perm ([l] ++ r)) (hs' : s'.P F (upd H l u) [l] (some v))
    (kk : ∀ (F' H' : Hp) (fp' : List Addr) (s' : Slot), Same F F' → (∀ q ∈ r, H' q = H q) → s'.P F' H' fp' (some v) → ∃ os', Slots F' H' os' σ (up s') ∧ os'.Perm (fp' ++ r)) : Sta B F (upd H l u) σ (up s') := by
  have W1 : Wo B F H ([l] ++ r) := W.drop.perm hp
  have nr : ∀ q ∈ r, q ≠ l := fun q hq e => (List.nodup_append.mp W1.nd).2.2 l (by simp) q hq e.symm
  obtain ⟨os', h1, h2⟩ := kk F (upd H l u) [l] s' same_refl (fun q hq => upd_ne (nr q hq)) hs'
  exact ⟨os', (W1.write (by simp)).perm h2.symm, h1⟩
/-- xs.append(e) -/
theorem go_append {up : Slot → List Slot} {apos cpos : Pos} {u : α} (ho : PL Y eo Γ (own (oL p) xs) up) (he : XV Y e Γ (val p u)) (hz : xs.length < sizeLine) (hg : Go Y i rest D B (up (own (oL p) (xs ++ [u]))))
    (hb : Bm1 (Y.X i) eo "append" apos e cpos := by exact ⟨rfl, rfl, rfl, rfl, rfl⟩)
    (hs : swapsWith (.Call (.Attribute eo "append" apos) [e] [] cpos) none pos.line (Y.X i).env = pure false := by rfl) : Go Y i (.Expr (.Call (.Attribute eo "append" apos) [e] [] cpos) pos :: rest) D B Γ := by
  obtain ⟨t, Pv, pe, pst, rd, up'⟩ := ho
  obtain ⟨t2, pe2, rd2⟩ := he
  refine go_ps (ps_expr (pe_bm PySem.F.plainAttrs_list PySem.F.slot_list_append PySem.F.type_list_append mt_append (pe i) (pa_cons (pe2 i) pa_nil hb.st) hb.base hb.few hb.line hb.st hb.pl) hs) fun F H σ ⟨os, W, S⟩ => ?_
  refine rd B F H os σ _ (Sta.in W S) fun v hv => ?_
  obtain ⟨fp, r, hr, hp, _⟩ := up' F H os σ v S hv
  obtain ⟨v0, ev, l, vs, el, ef, h1, h2⟩ := hp
  cases ev; subst el; subst ef
  refine ⟨.inl ⟨rfl, vs, SqL.of h1⟩, rd2 B F H os σ _ (Sta.in W S) fun y F1 H1 fy f1 e1 W1 p1 => ?_⟩
  obtain ⟨fp1, r1, hr1, hp1, kk1⟩ := up' F1 H1 os σ _ (S.mono f1 e1) (pst _ _ _ _ e1 hv)
  obtain ⟨v1, ev1, l1, vs1, el1, ef1, g1, g2⟩ := hp1
  cases ev1; cases el1; subst ef1
  have ry := (val_P p1).2
  refine ⟨l, vs1, y, rfl, rfl, g1, by rw [Paired.length g2]; exact hz, ?_⟩
  exact hg F1 _ σ (pl_write W1 hr1 ⟨_, rfl, l, _, rfl, rfl, upd_same, Paired.app g2 (.cons ry .nil)⟩ kk1)
/-- xs[j] = e -/
theorem Paired.put {α β : Type} {G : α → β → Prop} {x : α} {y : β} (h : G x y) : ∀ {xs : List α} {ys : List β} (n : Nat), Paired G xs ys → Paired G (xs.set n x) (ys.set n y)
  | _, _, _, .nil => .nil
  | _, _, 0, .cons _ t => .cons h t
  | _, _, n + 1, .cons r t => .cons r (Paired.put h n t)
/-- the list behind xs[z] = u -/
def setI {α : Type} (xs : List α) (z : Int) (u : α) : Option (List α) := (ixN xs.length z).map fun j => xs.set j u
/-- what must be seen of the text of o[i] = e -/
structure Si (X : Cx) (o ei e : Expr) (pos' : Pos) (ln : Nat) : Prop where
  ha : ∀ v, assign (.Subscript o ei pos') X.env v = (do
      let ov ← holding [v] (eval o X.env)
      let iv ← holding [v, ov] (eval ei X.env)
      standAt pos'
      holding [v, ov, iv] (setItem ov iv v)
      release [v, ov, iv] [])
  hs : swapsWithSole [.Subscript o ei pos'] e ln X.env = pure false
  hw : swappedStores [.Subscript o ei pos'] e X.env = pure none
  h1 : (assignEach [.Subscript o ei pos'] X.env).map (·.2) = [assign (.Subscript o ei pos') X.env]
theorem go_setitem {up : Slot → List Slot} {pos' : Pos} {u : α} {z : Int} {xs' : List α} (ho : PL Y eo Γ (own (oL p) xs) up) (hi : XV Y eb Γ (vInt z)) (he : XV Y e Γ (val p u)) (hz : setI xs z u = some xs') (hg : Go Y i rest D B (up (own (oL p) xs')))
    (hsi : Si (Y.X i) eo eb e pos' pos.line := by exact ⟨fun _ => rfl, rfl, rfl, rfl⟩) : Go Y i (.Assign [.Subscript eo eb pos'] e pos :: rest) D B Γ := by
  obtain ⟨t, Pv, pe, pst, rd, up'⟩ := ho
  obtain ⟨t2, pe2, rd2⟩ := he
  obtain ⟨t3, pe3, rd3⟩ := hi
  refine go_ps (ps_asg (pe2 i) (pg_sub (pe i) (pe3 i) set_list hsi.ha) hsi.hs hsi.hw hsi.h1) fun F H σ ⟨os, W, S⟩ => ?_
  refine rd2 B F H os σ _ (Sta.in W S) fun y F1 H1 fy f1 e1 W1 p1 => ?_
  have I1 := (Sta.in W S).step f1 e1 W1
  refine rd B F1 H1 _ σ _ I1 fun v hv => ?_
  refine rd3 B F1 H1 _ σ _ I1 fun y2 F2 H2 fy2 f2 e2 W2 p2 => ?_
  obtain rfl := vint p2
  have ry := (val_P ((val p u).mono f2 e2 p1)).2
  obtain ⟨fp1, r1, hr1, hp1, kk1⟩ := up' F2 H2 os σ _ (S.mono (f1.trans f2) (e1.trans e2)) (pst _ _ _ _ e2 hv)
  obtain ⟨v1, ev1, l1, vs1, el1, ef1, g1, g2⟩ := hp1
  cases ev1; subst el1; subst ef1
  unfold setI at hz
  obtain ⟨j, hj, rfl⟩ := Option.map_eq_some_iff.mp hz
  refine ⟨l1, vs1, z, j, rfl, rfl, g1, by rw [Paired.length g2]; exact hj, ?_⟩
  refine hg F2 _ σ (pl_write (fy := fy2 ++ fy) (by rw [List.append_assoc]; exact W2) hr1 ⟨_, rfl, l1, _, rfl, rfl, upd_same, Paired.put ry j g2⟩ kk1)
end
end
end Ty

/-! Ty5 -/
namespace Ty
open PySem PySem.Spec L2
open PyProof.Rows (envOfC)

section
variable {P : Program} {w : World} {K : PySem.W.Frag} {mg : Str → Option Value} {base : Heap} {k : Nat}

/-! ### defs -/
/-- a pure def: on frozen arguments it gives what its mirror gives, and all else stands -/
def spP {ι ρ : Type} (As : ι → List Slot) (m : ι → Option ρ) (Sr : ρ → Slot) : Sp := fun vs H Q _ => ∃ (z : ι) (r : ρ) (F : Hp), m z = some r ∧ Same F H ∧ Slots F H [] (vs.map some) (As z) ∧
  ∀ v F' H' fp, Wo ⟨F, H, []⟩ F' H' fp → (Sr r).P F' H' fp (some v) → Q v H'
/-- the body's context -/
def fb (P : Program) (w : World) (K : PySem.W.Frag) (mg : Str → Option Value) (base : Heap) (N : List Str) (qual : Str) (st : Stmt) (f : Addr) (cdv : Value) (A : Around) (outer : List Env) (s : Shared) (H : Hp) (E : XK) (k : Nat) (hr : Room k (A.deeper (envOfC qual (defScope st) s.heap.objs.size f cdv))) (nd : N.Nodup) : Fa P w K mg base k where
  I := Unit
  X := fun _ => (cxOf CX0 P w K mg base N qual (defScope st) f cdv A outer s H E).nox
  hP := fun _ => rfl
  hw := fun _ => rfl
  hK := fun _ => rfl
  hM := fun _ => rfl
  hB := fun _ => rfl
  cm := true
  hC := fun _ => rfl
  hR := fun _ _ => hr
  hU := fun _ => hr.units
  W := fun _ _ _ _ => False
  tk := fun _ => takes0
  hN := fun _ => nd
  hO := fun _ => PassesOwn.never
/-- the ends of a def's body -/
def DF (B : Bs) (s : Slot) : Ends := { nx := fun _ H => Fi B s .non H, rt := Fi B s }
theorem slots_dead {F H : Hp} : ∀ n : Nat, Slots F H [] (List.replicate n none) (List.replicate n dead)
  | 0 => .nil
  | n + 1 => by
    rw [List.replicate_succ, List.replicate_succ]
    exact Slots.cons (fp := []) rfl (slots_dead n)
theorem wo_nil {F H : Hp} (h : Same F H) : Wo ⟨F, H, []⟩ F H [] := ⟨h, List.nodup_nil, fun _ z => (nomatch z), fun _ z => (nomatch z), fun _ _ h => h, fun _ _ h _ => h, fun _ _ h => .inl h, fun _ z => (nomatch z)⟩
theorem fn_pure {ι ρ : Type} {As : ι → List Slot} {m : ι → Option ρ} {Sr : ρ → Slot} {x qual : Str} {st : Stmt} {f : Addr} {fd : FuncData} {N ps : List Str} (Fn : Fun K x qual st f fd) (S : FnScope N ps (defScope st)) (hlen : ∀ z, (As z).length = ps.length)
    (body : ∀ (cdv : Value) (A : Around) (outer : List Env) (s : Shared) (H : Hp) (E : XK) (hr : Room k (A.deeper (envOfC qual (defScope st) s.heap.objs.size f cdv))) (z : ι) (r : ρ) (B : Bs), m z = some r →
      Go (fb P w K mg base N qual st f cdv A outer s H E k hr S.nd) () (defBody st) (DF B (Sr r)) B (As z ++ List.replicate (N.length - ps.length) dead)) : FnOk P w K mg base CX0 (k + 1) f fd ps (spP As m Sr) := by
  refine Fn.ok S (fun vs H Q E h => ?_) (fun cdv A outer s H vs Q E hr h => ?_)
  · obtain ⟨z, r, F, _, _, Sl, _⟩ := h
    have e := Sl.length
    rw [List.length_map] at e
    rw [e, hlen]
  · obtain ⟨z, r, F, hm, hS, Sl, q⟩ := h
    refine ⟨_, pss_cont, ?_⟩
    have go := body cdv A outer s H E hr z r ⟨F, H, []⟩ hm
    have S0 : Sta ⟨F, H, []⟩ F H (L2.start N vs) (As z ++ List.replicate (N.length - ps.length) dead) := by
      refine ⟨[], wo_nil hS, ?_⟩
      unfold L2.start
      have e := Sl.length
      rw [List.length_map, hlen] at e
      rw [e]
      exact Slots.append Sl (slots_dead _)
    exact cont_mono (go F H _ S0) (fun σ H' ⟨F', fp, W', p'⟩ => q .non F' H' fp W' p') (fun v H' ⟨F', fp, W', p'⟩ => q v F' H' fp W' p') (fun _ _ z => z.elim) (fun _ _ z => z.elim)
variable {Y : Fa P w K mg base k} {i : Y.I} {e ea eb eo tg iter elt : Expr} {es : List Expr} {rest body : List Stmt} {Γ Γ' Γ1 Γ2 : List Slot} {a b c r s : Slot} {pos : Pos} {B : Bs} {D : Ends} {x : Str} {p' : Pos}
/-- all of them own nothing -/
def NoOwn : List Slot → Prop
  | [] => True
  | s :: r => (∀ F H fp o, s.P F H fp o → fp = []) ∧ NoOwn r
theorem no_val {α : Type} {p : VP α} {u : α} : ∀ F H fp o, (val p u).P F H fp o → fp = [] := fun F H fp o h => h.1
theorem no_bor {α : Type} {p : VP α} {u : α} : ∀ F H fp o, (bor p u).P F H fp o → fp = [] := fun F H fp o h => h.1
theorem no_borL {α : Type} {p : VP α} {u : List α} : ∀ F H fp o, (borL p u).P F H fp o → fp = [] := fun F H fp o h => h.1
theorem NoOwn.nil {F H : Hp} : ∀ {As : List Slot} {fp : List Addr} {vs : List V}, NoOwn As → Slots F H fp (vs.map some) As → fp = []
  | [], _, [], _, S => by cases S; rfl
  | [], _, _ :: _, _, S => by have e := S.length; simp at e
  | _ :: _, _, [], _, S => by have e := S.length; simp at e
  | s :: As, fp, v :: vs, h, S => by
    rw [List.map_cons] at S
    obtain ⟨f1, f2, rfl, p, S2⟩ := Slots.cons_inv S
    rw [h.1 F H f1 _ p, NoOwn.nil h.2 S2]; rfl
/-- behind a pure call -/
theorem Wo.called {F H F' H' : Hp} {os fp : List Addr} (W : Wo B F H os) (W4 : Wo ⟨F, H, []⟩ F' H' fp) : Same F F' ∧ Same H H' ∧ Wo B F' H' (fp ++ os) := by
  have hH : Same H H' := fun a o e => W4.bH a o e (by simp)
  refine ⟨W4.bF, hH, ?_⟩
  have own_old : ∀ q ∈ os, F' q = none := fun q hq => by
    cases z : F' q with
    | none => rfl
    | some u =>
      obtain ⟨o, ho⟩ := W.oH q hq
      rcases W4.bN q u z with y | y | y
      · have y' : F q = some u := y
        rw [W.oF q hq] at y'; cases y'
      · have y' : H q = none := y
        rw [ho] at y'; cases y'
      · exact nomatch y
  refine ⟨W4.sub, List.nodup_append.mpr ⟨W4.nd, W.nd, fun q hq q' hq' e => ?_⟩, fun q hq => ?_, fun q hq => ?_, W.bF.trans W4.bF, fun q u e hb => hH q u (W.bH q u e hb), fun q u e => ?_, fun q hq => ?_⟩
  · subst e
    obtain ⟨o, ho⟩ := W.oH q hq'
    rcases W4.bO q hq with y | y
    · have y' : H q = none := y
      rw [ho] at y'; cases y'
    · exact nomatch y
  · rcases List.mem_append.mp hq with hq | hq
    · exact W4.oF q hq
    · exact own_old q hq
  · rcases List.mem_append.mp hq with hq | hq
    · exact W4.oH q hq
    · obtain ⟨o, ho⟩ := W.oH q hq
      exact ⟨o, hH q o ho⟩
  · rcases W4.bN q u e with y | y | y
    · exact W.bN q u y
    · exact .inr (W.bFree y)
    · exact nomatch y
  · rcases List.mem_append.mp hq with hq | hq
    · rcases W4.bO q hq with y | y
      · exact W.bFree y
      · exact nomatch y
    · exact W.bO q hq
/-- f(e, ..) of a pure def on frozen arguments -/
theorem x_call {ι ρ : Type} {As : ι → List Slot} {m : ι → Option ρ} {Sr : ρ → Slot} {args : List Slot} {z : ι} {q : ρ} {j : Nat} {f : Addr} {fd : FuncData} {ps : List Str} (Fn : FnOk P w K mg base CX0 j f fd ps (spP As m Sr)) (hj : j ≤ k) (hm : mg x = some (.ref f)) (hk : PySem.W.keepIn K (.ref f) = true) (hb : Binds K fd ps [])
    (ha : XA Y (e :: es) Γ args) (hargs : args = As z) (hno : NoOwn args) (hq : m z = some q) (hg : ∀ i, Gl (Y.X i) x := by intro _; rfl) (hdb : (x == ("__debug__" : Str)) = false := by decide)
    (he : ∀ i, starEach (e :: es) (Y.X i).env = (false, eval e (Y.X i).env) :: starEach es (Y.X i).env := by intro _; rfl) (hpl : ∀ i, (backTo pos (starEach es (Y.X i).env)).any (·.1) = false := by intro _; rfl) (hcm : Y.cm = true := by rfl) : XV Y (.Call (.Name x p') (e :: es) [] pos) Γ (Sr q) := by
  subst hargs
  obtain ⟨t, pa, rd⟩ := ha
  have FF : ∀ i, FnOk (Y.X i).prog (Y.X i).w (Y.X i).K (Y.X i).mg (Y.X i).base CX0 j f fd ps (spP As m Sr) := fun i => by rw [Y.hP i, Y.hw i, Y.hK i, Y.hM i, Y.hB i]; exact Fn
  refine ⟨_, fun i => pe_call (FF i) ((Y.hR hcm i).mono hj) (hg i) (by rw [Y.hM i]; exact hm) (by rw [Y.hK i]; exact hk) (by rw [Y.hK i]; exact hb) .nil pass0 (pa i) hdb (he i) (hpl i), fun B F H os σ Q I kk => ?_⟩
  refine rd B F H os σ _ I fun vs F1 H1 fp f1 e1 W1 S1 => ?_
  obtain rfl := hno.nil S1
  rw [List.append_nil]
  refine ⟨z, q, F1, hq, W1.sub, S1, fun v F2 H2 fp W2 p2 => ?_⟩
  obtain ⟨f2, e2, W3⟩ := W1.called W2
  exact kk v F2 H2 fp (f1.trans f2) (e1.trans e2) W3 p2
/-- .. where the arguments are looked at (frozen or owned) and the answer has no heap -/
theorem x_callF {ι ρ : Type} {As : ι → List Slot} {m : ι → Option ρ} {pr : VP ρ} {args : List Slot} {z : ι} {q : ρ} {j : Nat} {f : Addr} {fd : FuncData} {ps : List Str} (Fn : FnOk P w K mg base CX0 j f fd ps (spP As m (val pr))) (hfl : Flat pr) (hj : j ≤ k) (hm : mg x = some (.ref f)) (hk : PySem.W.keepIn K (.ref f) = true) (hb : Binds K fd ps [])
    (ha : XA Y (e :: es) Γ args) (hargs : ∀ F H (vs : List V), Same F H → Slots F H [] (vs.map some) args → Slots H H [] (vs.map some) (As z)) (hno : NoOwn args) (hq : m z = some q) (hg : ∀ i, Gl (Y.X i) x := by intro _; rfl) (hdb : (x == ("__debug__" : Str)) = false := by decide)
    (he : ∀ i, starEach (e :: es) (Y.X i).env = (false, eval e (Y.X i).env) :: starEach es (Y.X i).env := by intro _; rfl) (hpl : ∀ i, (backTo pos (starEach es (Y.X i).env)).any (·.1) = false := by intro _; rfl) (hcm : Y.cm = true := by rfl) : XV Y (.Call (.Name x p') (e :: es) [] pos) Γ (val pr q) := by
  obtain ⟨t, pa, rd⟩ := ha
  have FF : ∀ i, FnOk (Y.X i).prog (Y.X i).w (Y.X i).K (Y.X i).mg (Y.X i).base CX0 j f fd ps (spP As m (val pr)) := fun i => by rw [Y.hP i, Y.hw i, Y.hK i, Y.hM i, Y.hB i]; exact Fn
  refine ⟨_, fun i => pe_call (FF i) ((Y.hR hcm i).mono hj) (hg i) (by rw [Y.hM i]; exact hm) (by rw [Y.hK i]; exact hk) (by rw [Y.hK i]; exact hb) .nil pass0 (pa i) hdb (he i) (hpl i), fun B F H os σ Q I kk => ?_⟩
  refine rd B F H os σ _ I fun vs F1 H1 fp f1 e1 W1 S1 => ?_
  obtain rfl := hno.nil S1
  rw [List.append_nil]
  refine ⟨z, q, H1, hq, same_refl, hargs F1 H1 vs W1.sub S1, fun v F2 H2 fp W2 p2 => ?_⟩
  have hH : Same H1 H2 := fun a o e => W2.bH a o e (by simp)
  have W : Wo B F1 H1 os := W1
  have W3 : Wo B F1 H2 os := ⟨W.sub.trans hH, W.nd, W.oF, fun a ha => let ⟨o, ho⟩ := W.oH a ha; ⟨o, hH a o ho⟩, W.bF, fun a o e hb => hH a o (W.bH a o e hb), W.bN, W.bO⟩
  exact kk v F1 H2 [] f1 (e1.trans hH) W3 ⟨rfl, v, rfl, hfl _ _ _ _ (val_P p2).2⟩
theorem Slots.one {F H : Hp} {os : List Addr} {o : Option V} {σ : List (Option V)} {s : Slot} {Γ : List Slot} (h : Slots F H os (o :: σ) (s :: Γ)) (he : os = []) : s.P F H [] o ∧ Slots F H [] σ Γ := by
  cases h with
  | @cons fp os _ _ _ _ hp hr =>
    obtain ⟨e1, e2⟩ := List.append_eq_nil_iff.mp he
    subst e1; subst e2
    exact ⟨hp, hr⟩
/-- how the arguments that are looked at are read -/
inductive AV : List Slot → List Slot → Prop
  | nil : AV [] []
  | cons {α : Type} {s : Slot} {p : VP α} {u : α} {As Bs : List Slot} : Vw s p u → AV As Bs → AV (s :: As) (val p u :: Bs)
theorem AV.to {As Cs : List Slot} (h : AV As Cs) : ∀ F H (vs : List V), Same F H → Slots F H [] (vs.map some) As → Slots H H [] (vs.map some) Cs := by
  induction h with
  | nil =>
    intro F H vs hS Sl
    have e := Sl.length
    cases vs with
    | nil => exact .nil
    | cons v vs => simp at e
  | @cons α s p u As Cs hv _ ih =>
    intro F H vs hS Sl
    have e := Sl.length
    cases vs with
    | nil => simp at e
    | cons v vs =>
      rw [List.map_cons] at Sl
      obtain ⟨hp, hr⟩ := Sl.one rfl
      have i1 := ih F H vs hS hr
      obtain ⟨v', ev, rv⟩ := hv F H [] _ hS hp
      cases ev
      exact Slots.cons (fp := []) ⟨rfl, v, rfl, rv⟩ i1
end
end Ty

/-! Ty6 -/
namespace Ty
open PySem PySem.Spec L2
section
variable {P : Program} {w : World} {K : PySem.W.Frag} {mg : Str → Option Value} {base : Heap} {k : Nat}
/-! ### comprehensions -/
/-- the blocks of a comprehension, wherever they start -/
def Fa.blk (Y : Fa P w K mg base k) (scope : Scope) : Fa P w K mg base k where
  I := Y.I × Shared × Hp × Addr × List (Str × Addr) × List Addr
  X := fun j => (Y.X j.1).blk j.2.1 j.2.2.1 scope (compEnvC scope j.2.2.2.2.1 j.2.2.2.1 (Y.X j.1).env) j.2.2.2.2.2
  hP := fun j => Y.hP j.1
  hw := fun j => Y.hw j.1
  hK := fun j => Y.hK j.1
  hM := fun j => Y.hM j.1
  hB := fun j => Y.hB j.1
  cm := Y.cm
  hC := fun j => Y.hC j.1
  hR := fun h j => Y.hR h j.1
  hU := fun j => Y.hU j.1
  W := fun _ _ _ _ => False
  tk := fun _ => takes0
  hN := fun j => Y.hN j.1
  hO := fun j => PassesOwn.never
variable {Y : Fa P w K mg base k} {i : Y.I} {e ea eb eo tg iter elt : Expr} {es ifs : List Expr} {rest body : List Stmt} {Γ Γ' Γ1 Γ2 : List Slot} {a b c r s : Slot} {pos : Pos} {B : Bs} {D : Ends} {x : Str} {p' : Pos} {scope : Scope}
/-- readings from what runs them, for a whole family -/
def cE (Y : Fa P w K mg base k) (e : Expr) : TE := fun σ H Q => ∀ (i : Y.I) (pins : List (Addr × Obj)) (s : Shared), Inv (Y.X i) pins σ H s → wpAny (model (Y.X i).prog (Y.X i).w) (Y.X i).A (eval e (Y.X i).env) (EP (Y.X i) pins σ Q) (Y.X i).xe s
theorem pe_cE (i : Y.I) : PE (Y.X i) e (cE Y e) := ⟨fun pins s σ H Q I h => h i pins s I⟩
def cG (Y : Fa P w K mg base k) (tg : Expr) : TG := fun v σ H Q => ∀ (i : Y.I) (pins : List (Addr × Obj)) (s : Shared) (u : Value), Inv (Y.X i) pins σ H s → RelV v u → wpAny (model (Y.X i).prog (Y.X i).w) (Y.X i).A (assign tg (Y.X i).env u) (fun _ s' => ∃ σ' H', Inv (Y.X i) pins σ' H' s' ∧ Q σ' H') (Y.X i).xe s
theorem pg_cG (i : Y.I) : PG (Y.X i) tg (cG Y tg) := ⟨fun pins s σ H v u Q I r h => h i pins s u I r⟩
def cTs (Y : Fa P w K mg base k) (ifs : List Expr) : TT := fun σ H Q => ∀ (i : Y.I) (pins : List (Addr × Obj)) (s : Shared), Inv (Y.X i) pins σ H s →
  wpAny (model (Y.X i).prog (Y.X i).w) (Y.X i).A (forIn ifs true fun c r => if r = true then do let ok ← isTrue c (Y.X i).env (eval c (Y.X i).env); pure (ForInStep.yield ok) else pure (ForInStep.yield r)) (TP (Y.X i) pins σ Q) (Y.X i).xe s
theorem pts_cTs (i : Y.I) : PTs (Y.X i) ifs (cTs Y ifs) := ⟨fun pins s σ H Q I h => h i pins s I⟩
/-- the tests of a clause -/
def XTs (Y : Fa P w K mg base k) (ifs : List Expr) (Γ : List Slot) (b : Bool) : Prop :=
  ∃ t : TT, (∀ i, PTs (Y.X i) ifs t) ∧ ∀ (B : Bs) (F H : Hp) (os : List Addr) (σ : List (Option V)) (Q : Bool → Hp → Prop), In B F H os σ Γ → (∀ F' H', Same F F' → Same H H' → Wo B F' H' os → Q b H') → t σ H Q
theorem xts_nil : XTs Y [] Γ true := ⟨_, fun _ => pts_nil, fun B F H os σ Q I q => q F H same_refl same_refl I.W⟩
theorem xts_one {z : Bool} (h : XT Y e Γ z) : XTs Y [e] Γ z := let ⟨t, p, r⟩ := h; ⟨t, fun i => pts_one (p i), r⟩
/-- a clause with a test: none where it is left out -/
def fmO {α β : Type} : List α → (α → Option (Option β)) → Option (List β)
  | [], _ => some []
  | x :: xs, f => (f x).bind fun o => (fmO xs f).bind fun r => some (o.toList ++ r)
theorem wipe_get {σ : L2.St} : ∀ {vs : List Nat} {j : Nat}, (wipe σ vs)[j]? = if j ∈ vs ∧ j < σ.length then some none else σ[j]?
  | [], j => by simp [wipe]
  | v :: vs, j => by
    unfold wipe
    by_cases hj : v = j
    · subst hj
      by_cases hl : v < σ.length
      · rw [List.getElem?_set_self (by rw [wipe_length]; exact hl), if_pos ⟨List.mem_cons_self, hl⟩]
      · rw [if_neg (fun z => hl z.2), List.getElem?_eq_none (by rw [List.length_set, wipe_length]; omega), List.getElem?_eq_none (by omega)]
    · rw [List.getElem?_set_ne hj, wipe_get (vs := vs) (j := j)]
      have : (j ∈ v :: vs) ↔ j ∈ vs := by
        constructor
        · intro z
          rcases List.mem_cons.mp z with z | z
          · exact absurd z.symm hj
          · exact z
        · exact List.mem_cons_of_mem _
      simp only [this]
/-- slots at which the frame is not looked at -/
theorem Slots.ext {F H : Hp} : ∀ {os : List Addr} {σ σ' : List (Option V)} {Γ : List Slot}, Slots F H os σ Γ → σ'.length = σ.length → (∀ (j : Nat) (s : Slot), Γ[j]? = some s → s = dead ∨ σ'[j]? = σ[j]?) → Slots F H os σ' Γ
  | _, _, [], _, .nil, _, _ => .nil
  | _, _, _ :: _, _, .nil, e, _ => by simp at e
  | _, _, [], _, .cons _ _, e, _ => by simp at e
  | _, _, o' :: σ', _, .cons (s := s) (o := o) p r, e, h => by
    refine .cons ?_ (Slots.ext r (by simpa using e) fun j s hs => by have := h (j + 1) s (by simpa using hs); simpa using this)
    rcases h 0 s rfl with z | z
    · subst z; exact p
    · have : o' = o := by simpa using z
      rw [this]; exact p
theorem wipe_eq {σ σ' : L2.St} {vs ws : List Nat} (hw : ∀ j ∈ ws, j ∈ vs) (hl : σ'.length = (wipe σ vs).length) (h : ∀ j, j ∉ ws → σ'[j]? = (wipe σ vs)[j]?) : wipe σ' vs = wipe σ vs := by
  apply List.ext_getElem?
  intro j
  rw [wipe_get, wipe_get]
  rw [wipe_length] at hl
  by_cases hj : j ∈ vs
  · by_cases h2 : j < σ.length
    · rw [if_pos ⟨hj, by rw [hl]; exact h2⟩, if_pos ⟨hj, h2⟩]
    · rw [if_neg (fun z => h2 (by rw [← hl]; exact z.2)), if_neg (fun z => h2 z.2), List.getElem?_eq_none (by omega), List.getElem?_eq_none (by omega)]
  · rw [if_neg (fun z => hj z.1), if_neg (fun z => hj z.1), h j (fun z => hj (hw j z)), wipe_get, if_neg (fun z => hj z.1)]
/-- what a comprehension asks of its text -/
structure Lc (Y : Fa P w K mg base k) (iter : Expr) (scope : Scope) (own : List (Str × Nat)) : Prop where
  ok : ∀ i, BlkOk (Y.X i).N (Y.X i).env.scope scope own
  hs : ∀ i x, foldedSetIterable iter (Y.X i).env x = pure x
/-- the slots are not looked at -/
def DeadAt (Γ : List Slot) : List Nat → Prop
  | [] => True
  | j :: r => Γ[j]? = some dead ∧ DeadAt Γ r
theorem DeadAt.get {Γ : List Slot} : ∀ {l : List Nat}, DeadAt Γ l → ∀ j ∈ l, Γ[j]? = some dead
  | j :: r, h, x, hx => by
    rcases List.mem_cons.mp hx with rfl | hx
    · exact h.1
    · exact DeadAt.get h.2 x hx
/-- the reading of a comprehension -/
theorem lc_run {α β : Type} {xs : List α} {rs : α → Slot} {q : VP β} {f : α → Option (Option β)} {ys : List β} {own : List (Str × Nat)} (hz : xs.length ≤ sizeLine) (hf : fmO xs f = some ys) (hd0 : DeadAt Γ (own.map (·.2)))
    (hb : ∀ x o, x ∈ xs → f x = some o → ∃ ws Γ1, (ws.all fun j => (own.map (·.2)).contains j) = true ∧ XG (Y.blk scope) tg ws (rs x) Γ Γ1 ∧ XTs (Y.blk scope) ifs Γ1 o.isSome ∧ ∀ y, o = some y → XV (Y.blk scope) elt Γ1 (val q y))
    {wi : TI} (hw : ∀ (B : Bs) (F H : Hp) (os : List Addr) (σ : List (Option V)) (R : It → Hp → Prop), In B F H os σ Γ → (∀ J F' H', Same F F' → Same H H' → Wo B F' H' os → Wk True J F' H' (xs.map rs) → R J H') → wi σ H R)
    {F H : Hp} {os : List Addr} {σ : List (Option V)} {Q : VK} (I : In B F H os σ Γ) (kk : ∀ v F' H' fp, Same F F' → Same H H' → Wo B F' H' (fp ++ os) → (Ty.own (oL q) ys).P F' H' fp (some v) → Q v H') :
    tLc wi (cG (Y.blk scope) tg) (cTs (Y.blk scope) ifs) (cE (Y.blk scope) elt) (own.map (·.2)) σ H Q := by
  have hd := hd0.get
  refine hw B F H os σ _ I fun J F1 H1 f1 e1 W1 wk Dl hD => ?_
  obtain ⟨_, o2, r0, hperm, S0⟩ := I
  have S1 : Slots F1 H1 o2 (wipe σ (own.map (·.2))) Γ := (S0.mono f1 e1).ext (wipe_length _ _) fun j s hs => by
    by_cases hj : j ∈ own.map (·.2)
    · left
      have := hd j hj
      rw [hs] at this; exact Option.some.inj this
    · right
      rw [wipe_get, if_neg (fun z => hj z.1)]
  refine ⟨fun n m H' => n ≤ xs.length ∧ m = xs.length - n ∧ ∃ (F' : Hp) (vs : List V) (acc rr : List β), Wo B F' H' (Dl :: os) ∧ Same F1 F' ∧ Same H1 H' ∧ H' Dl = some (.lst vs) ∧ Paired (q.R F') vs acc ∧ acc.length ≤ n ∧ fmO (xs.drop n) f = some rr ∧ ys = acc ++ rr,
    ⟨xs.length - 0, Nat.zero_le _, rfl, F1, [], [], ys, W1.newO hD, same_refl, same_upd hD, upd_same, .nil, Nat.zero_le _, by simpa using hf, rfl⟩, ?_⟩
  rintro n m H' ⟨hn, rfl, F', vs, acc, rr, W', fF, fH, hDl, hp, hacc, hrr, hys⟩
  obtain ⟨w1, w2⟩ := wk F' H' fF (fun _ => fH) W'.sub
  by_cases hlt : n < xs.length
  · have hx : xs[n]? = some xs[n] := List.getElem?_eq_getElem hlt
    have hdrop : xs.drop n = xs[n] :: xs.drop (n + 1) := List.drop_eq_getElem_cons hlt
    rw [hdrop] at hrr
    unfold fmO at hrr
    obtain ⟨o, ho, hrr⟩ := Option.bind_eq_some_iff.mp hrr
    obtain ⟨r2, hr2, hrr⟩ := Option.bind_eq_some_iff.mp hrr
    obtain ⟨g1, g2⟩ := w2 n (rs xs[n]) (by rw [List.getElem?_map, hx]; rfl)
    refine .inr ⟨g1, fun H'' => n + 1 ≤ xs.length ∧ ∃ (F' : Hp) (vs : List V) (acc rr : List β), Wo B F' H'' (Dl :: os) ∧ Same F1 F' ∧ Same H1 H'' ∧ H'' Dl = some (.lst vs) ∧ Paired (q.R F') vs acc ∧ acc.length ≤ n + 1 ∧ fmO (xs.drop (n + 1)) f = some rr ∧ ys = acc ++ rr, ?_, ?_⟩
    · rintro H'' ⟨hn', rest⟩
      exact ⟨xs.length - (n + 1), by omega, hn', rfl, rest⟩
    · intro v H2 y
      obtain ⟨e2, push⟩ := g2 v H2 y
      obtain ⟨F2, f2, W2, p2⟩ := push B _ W'
      obtain ⟨ws, Γ1, hws0, ⟨_, g, pg, qg⟩, ⟨tt, ptt, rtt⟩, hel⟩ := hb xs[n] o (List.getElem_mem hlt) ho
      have hws : ∀ j ∈ ws, j ∈ own.map (·.2) := fun j hj => List.contains_iff_mem.mp (List.all_eq_true.mp hws0 j hj)
      intro j pins sh u Iv rv
      refine (pg j).run pins sh _ H2 v u _ Iv rv (qg F2 H2 [] o2 _ v _ W2.sub p2 (S1.mono (fF.trans f2) (fH.trans e2)) fun σ' os' d ⟨l', k'⟩ pp S' => ⟨wipe_eq hws l' k', ?_⟩)
      have I2 : In B F2 H2 (Dl :: os) σ' Γ1 := ⟨W2, os', Dl :: (d ++ r0), by
        have a1 : os.Perm ((d ++ os') ++ r0) := hperm.trans (List.Perm.append_right r0 (by simpa using pp))
        refine (List.Perm.cons Dl a1).trans ?_
        have a2 : (Dl :: ((d ++ os') ++ r0)).Perm (Dl :: (os' ++ (d ++ r0))) := List.Perm.cons Dl (by rw [← List.append_assoc]; exact List.Perm.append_right r0 List.perm_append_comm)
        exact a2.trans List.perm_middle.symm, S'⟩
      intro j2 pins2 s2 Iv2
      refine (ptt j2).run pins2 s2 σ' H2 _ Iv2 (rtt B F2 H2 _ σ' _ I2 fun F3 H3 f3 e3 W3 => ?_)
      cases o with
      | none =>
        show n + 1 ≤ xs.length ∧ _
        refine ⟨hlt, F3, vs, acc, r2, W3, (fF.trans f2).trans f3, (fH.trans e2).trans e3, e3 _ _ (e2 _ _ hDl), Paired.mon (fun _ _ r => q.mono (f2.trans f3) r) hp, by omega, hr2, ?_⟩
        have : r2 = rr := by simpa using hrr
        rw [hys, this]
      | some yv =>
        show cE (Y.blk scope) elt σ' H3 _
        obtain ⟨te, pte, rte⟩ := hel yv rfl
        intro j3 pins3 s3 Iv3
        refine (pte j3).run pins3 s3 σ' H3 _ Iv3 (rte B F3 H3 _ σ' _ (I2.step0 f3 e3 W3) fun yy F4 H4 fp4 f4 e4 W4 p4 => ?_)
        have hD4 : H4 Dl = some (.lst vs) := e4 _ _ (e3 _ _ (e2 _ _ hDl))
        have hlen := Paired.length hp
        refine ⟨vs, hD4, by omega, hlt, F4, vs ++ [yy], acc ++ [yv], r2, ?_, ((fF.trans f2).trans f3).trans f4, ?_, upd_same, Paired.app (Paired.mon (fun _ _ r => q.mono ((f2.trans f3).trans f4) r) hp) (.cons (val_P p4).2 .nil), by simp; omega, hr2, ?_⟩
        · exact W4.drop.write List.mem_cons_self
        · intro z u hu
          rw [upd_ne (ne_of_none hu hD)]
          exact ((fH.trans e2).trans e3).trans e4 z u hu
        · have : [yv] ++ r2 = rr := by simpa using hrr
          rw [hys, ← this, List.append_assoc]
  · have e : n = xs.length := by omega
    subst e
    refine .inl ⟨by simpa using w1, ?_⟩
    rw [List.drop_length] at hrr
    unfold fmO at hrr
    have : rr = [] := by simpa using hrr.symm
    subst this
    rw [List.append_nil] at hys
    subst hys
    exact kk _ F' H' [Dl] (f1.trans fF) (e1.trans fH) W' ⟨_, rfl, Dl, vs, rfl, rfl, hDl, hp⟩
/-- [elt for tg in iter if ..] -/
theorem x_lc {α β : Type} {xs : List α} {rs : α → Slot} {q : VP β} {f : α → Option (Option β)} {ys : List β} {own : List (Str × Nat)} (hi : XI Y tg iter Γ True (xs.map rs)) (L : Lc Y iter scope own) (hz : xs.length ≤ sizeLine) (hf : fmO xs f = some ys) (hd0 : DeadAt Γ (own.map (·.2)))
    (hb : ∀ x o, x ∈ xs → f x = some o → ∃ ws Γ1, (ws.all fun j => (own.map (·.2)).contains j) = true ∧ XG (Y.blk scope) tg ws (rs x) Γ Γ1 ∧ XTs (Y.blk scope) ifs Γ1 o.isSome ∧ ∀ y, o = some y → XV (Y.blk scope) elt Γ1 (val q y)) (hcm : Y.cm = true := by rfl) :
    XV Y (.ListComp elt [⟨tg, iter, ifs, 0⟩] scope pos) Γ (Ty.own (oL q) ys) := by
  obtain ⟨wi, pi, hw⟩ := hi
  exact ⟨_, fun i => pe_lc ((Y.hC i).trans hcm) (Y.hN i) (pi i) (L.ok i) (fun s H C cl fp => pg_cG (Y := Y.blk scope) (i, s, H, C, cl, fp)) (fun s H C cl fp => pts_cTs (Y := Y.blk scope) (i, s, H, C, cl, fp)) (fun s H C cl fp => pe_cE (Y := Y.blk scope) (i, s, H, C, cl, fp)) (L.hs i),
    fun B F H os σ Q I kk => lc_run hz hf hd0 hb hw I kk⟩
/-- x = [elt for tg in iter if ..], x a plain local -/
theorem go_setLc {α β : Type} {xs : List α} {rs : α → Slot} {q : VP β} {f : α → Option (Option β)} {ys : List β} {own : List (Str × Nat)} (j : Nat) {py cpos : Pos} (hi : XI Y tg iter Γ True (xs.map rs)) (L : Lc Y iter scope own) (hz : xs.length ≤ sizeLine) (hf : fmO xs f = some ys) (hd0 : DeadAt Γ (own.map (·.2)))
    (hb : ∀ x o, x ∈ xs → f x = some o → ∃ ws Γ1, (ws.all fun j => (own.map (·.2)).contains j) = true ∧ XG (Y.blk scope) tg ws (rs x) Γ Γ1 ∧ XTs (Y.blk scope) ifs Γ1 o.isSome ∧ ∀ y, o = some y → XV (Y.blk scope) elt Γ1 (val q y))
    (hg : Go Y i rest D B (Γ.set j (Ty.own (oL q) ys))) (hj : Nat.blt j Γ.length = true := by rfl) (hy : (Y.X i).N[j]? = some x := by rfl) (hyl : (Y.X i).env.scope.names.lookup x = some .local := by rfl)
    (hsw : swapsWith (.ListComp elt [⟨tg, iter, ifs, 0⟩] scope cpos) (some (.Name x py)) pos.line (Y.X i).env = pure true) (hcm : Y.cm = true := by rfl) : Go Y i (.Assign [.Name x py] (.ListComp elt [⟨tg, iter, ifs, 0⟩] scope cpos) pos :: rest) D B Γ := by
  obtain ⟨wi, pi, hw⟩ := hi
  refine go_ps (ps_setLc ((Y.hC i).trans hcm) (Y.hN i) hy hyl hsw (pi i) (L.ok i) (fun s H C cl fp => pg_cG (Y := Y.blk scope) (i, s, H, C, cl, fp)) (fun s H C cl fp => pts_cTs (Y := Y.blk scope) (i, s, H, C, cl, fp)) (fun s H C cl fp => pe_cE (Y := Y.blk scope) (i, s, H, C, cl, fp)) (L.hs i)) fun F H σ ⟨os, W, S⟩ => ?_
  refine lc_run hz hf hd0 hb hw (Sta.in W S) fun v F1 H1 fp f1 e1 W1 p1 => ?_
  obtain ⟨os', d, h1, h2⟩ := (S.mono f1 e1).put p1 (Nat.le_of_ble_eq_true hj)
  exact hg F1 H1 _ ⟨os', (W1.perm h2).drop, h1⟩
end
end Ty

/-! Ty7 -/
namespace Ty
open PySem PySem.Spec L2
open PyProof.Rows (envOfC)
section
variable {P : Program} {w : World} {K : PySem.W.Frag} {mg : Str → Option Value} {base : Heap} {k : Nat}
variable {Y : Fa P w K mg base k} {i : Y.I} {e ea eb eo tg iter elt : Expr} {es ifs : List Expr} {rest body : List Stmt} {Γ Γ' Γ1 Γ2 Δ Δ' : List Slot} {a b c r s s' : Slot} {pos : Pos} {B : Bs} {D : Ends} {x f : Str} {p' : Pos} {C : Addr} {ns : List Str}

/-! ### objects -/
/-- an owned instance: its attributes told by Δ -/
def obj (C : Addr) (ns : List Str) (Δ : List Slot) : Slot where
  P := fun F H fp o => ∃ (x dx : Addr) (vs : List V) (os : List Addr), o = some (.ref x) ∧ fp = x :: dx :: os ∧ H x = some (.ins C dx (ns.zip vs)) ∧ H dx = some (.own x) ∧ vs.length = ns.length ∧ Slots F H os (vs.map some) Δ
  mono := fun hF hH h => let ⟨x, dx, vs, os, e1, e2, h1, h2, h3, h4⟩ := h; ⟨x, dx, vs, os, e1, e2, hH _ _ h1, hH _ _ h2, h3, h4.mono hF hH⟩
  st := Stb Δ
  mm := fun hs {_ _ _ _ _ _} hF hH h => let ⟨x, dx, vs, os, e1, e2, h1, h2, h3, h4⟩ := h
    ⟨x, dx, vs, os, e1, e2, by rw [hH x (by rw [e2]; simp)]; exact h1, by rw [hH dx (by rw [e2]; simp)]; exact h2, h3, h4.mm hF hs fun q hq => hH q (by rw [e2]; simp [hq])⟩
/-- a frozen instance -/
def pObj {α : Type} (C : Addr) (ns : List Str) (sl : α → List Slot) : VP α where
  R := fun F v z => ∃ (x dx : Addr) (vs : List V), v = .ref x ∧ F x = some (.ins C dx (ns.zip vs)) ∧ vs.length = ns.length ∧ Slots F F [] (vs.map some) (sl z)
  mono := fun hF h => let ⟨x, dx, vs, e1, h1, h3, h4⟩ := h; ⟨x, dx, vs, e1, hF _ _ h1, h3, h4.mono hF hF⟩
/-- an owned instance that is looked at -/
def bobj (C : Addr) (ns : List Str) (Δ : List Slot) : Slot where
  P := fun F H fp o => fp = [] ∧ ∃ (x dx : Addr) (vs : List V) (os : List Addr), o = some (.ref x) ∧ H x = some (.ins C dx (ns.zip vs)) ∧ vs.length = ns.length ∧ Slots F H os (vs.map some) Δ
  mono := fun hF hH h => let ⟨e0, x, dx, vs, os, e1, h1, h3, h4⟩ := h; ⟨e0, x, dx, vs, os, e1, hH _ _ h1, h3, h4.mono hF hH⟩
  st := False
  mm := fun h => h.elim
theorem zip_lookup : ∀ {ns : List Str} {vs : List V} {j : Nat} {f : Str} {v : V}, ns.Nodup → vs.length = ns.length → ns[j]? = some f → vs[j]? = some v → (ns.zip vs).lookup f = some v
  | [], _, _, _, _, _, _, e, _ => by simp at e
  | n :: ns, [], _, _, _, _, h, _, _ => by simp at h
  | n :: ns, u :: vs, 0, f, v, nd, h, e, e2 => by
    simp at e e2; subst e; subst e2
    simp [List.lookup]
  | n :: ns, u :: vs, j + 1, f, v, nd, h, e, e2 => by
    have nd' := List.nodup_cons.mp nd
    have hm : f ∈ ns := List.mem_of_getElem? (show ns[j]? = some f by simpa using e)
    have hb : (f == n) = false := by simpa using fun z : f = n => nd'.1 (z ▸ hm)
    rw [List.zip_cons_cons, List.lookup_cons, hb]
    exact zip_lookup nd'.2 (by simpa using h) (by simpa using e) (by simpa using e2)
theorem zip_new : ∀ {ns : List Str} {vs : List V} {f : Str} {v : V}, vs.length = ns.length → f ∉ ns → putF f v (ns.zip vs) = (ns ++ [f]).zip (vs ++ [v])
  | [], [], f, v, _, _ => rfl
  | [], _ :: _, _, _, h, _ => by simp at h
  | n :: ns, [], _, _, h, _ => by simp at h
  | n :: ns, u :: vs, f, v, h, hf => by
    have hne : ¬ n = f := fun z => hf (by simp [z])
    rw [List.zip_cons_cons, putF, if_neg hne, zip_new (by simpa using h) (fun z => hf (List.mem_cons_of_mem _ z))]; rfl
/-- what is asked of a class for an attribute -/
structure At (K : PySem.W.Frag) (C : Addr) (f : Str) : Prop where
  cl : Cls K C
  no : NoAttr K C f
/-- an instance that may be read: each attribute's value told by Δ -/
def OV (s : Slot) (C : Addr) (ns : List Str) (Δ : List Slot) : Prop := ∀ F H fp o, Same F H → s.P F H fp o → ∃ (x dx : Addr) (vs : List V) (os : List Addr), o = some (.ref x) ∧ H x = some (.ins C dx (ns.zip vs)) ∧ vs.length = ns.length ∧ Slots F H os (vs.map some) Δ
theorem OV.obj : OV (obj C ns Δ) C ns Δ := fun F H fp o _ h => let ⟨x, dx, vs, os, e1, _, h1, _, h3, h4⟩ := h; ⟨x, dx, vs, os, e1, h1, h3, h4⟩
theorem OV.bobj : OV (bobj C ns Δ) C ns Δ := fun F H fp o _ h => let ⟨_, x, dx, vs, os, e1, h1, h3, h4⟩ := h; ⟨x, dx, vs, os, e1, h1, h3, h4⟩
theorem OV.val {α : Type} {sl : α → List Slot} {z : α} : OV (Ty.val (pObj C ns sl) z) C ns (sl z) := fun F H fp o hS h => let ⟨_, v, ev, x, dx, vs, e1, h1, h3, h4⟩ := h; ⟨x, dx, vs, [], by rw [ev, e1], hS _ _ h1, h3, h4.mono same_refl hS⟩
/-- e.f, the attribute's value frozen -/
theorem x_fld {α : Type} {p : VP α} {u : α} (j : Nat) (he : XV Y e Γ s) (ho : OV s C ns Δ) (hA : At K C f) (hj : Δ[j]? = some (val p u) := by rfl) (hn : ns[j]? = some f := by rfl) (nd : ns.Nodup := by decide +kernel) (hb : ∀ i, attributeBase e f (Y.X i).env (eval e (Y.X i).env) = eval e (Y.X i).env := by intro _; rfl) : XV Y (.Attribute e f pos) Γ (val p u) := by
  obtain ⟨t, pe, rd⟩ := he
  refine ⟨_, fun i => by have h := pe_fld (pos := pos) (pe i) (hb i); rw [Y.hK i] at h; exact h, fun B F H os σ Q I q => ?_⟩
  refine rd B F H os σ _ I fun v F1 H1 fp f1 e1 W1 p1 => ?_
  obtain ⟨x, dx, vs, o2, ev, h1, h2, h3⟩ := ho F1 H1 fp _ W1.sub p1
  cases ev
  obtain ⟨o, fp', r', e3, p3, _, _⟩ := h3.at hj
  obtain ⟨_, v', ev, rv⟩ := p3
  subst ev
  have e4 : vs[j]? = some v' := by
    rw [List.getElem?_map] at e3
    obtain ⟨y, hy, ey⟩ := Option.map_eq_some_iff.mp e3
    cases ey; exact hy
  exact ⟨x, C, dx, _, v', rfl, h1, hA.cl, hA.no, zip_lookup nd h2 hn e4, q v' F1 H1 [] f1 e1 W1.drop ⟨rfl, v', rfl, rv⟩⟩
/-- e.f, an owned list within, looked at -/
theorem x_fldL {α : Type} {p : VP α} {u : List α} (j : Nat) (he : XV Y e Γ s) (ho : OV s C ns Δ) (hA : At K C f) (hj : Δ[j]? = some (own (oL p) u) := by rfl) (hn : ns[j]? = some f := by rfl) (nd : ns.Nodup := by decide +kernel) (hb : ∀ i, attributeBase e f (Y.X i).env (eval e (Y.X i).env) = eval e (Y.X i).env := by intro _; rfl) : XV Y (.Attribute e f pos) Γ (borL p u) := by
  obtain ⟨t, pe, rd⟩ := he
  refine ⟨_, fun i => by have h := pe_fld (pos := pos) (pe i) (hb i); rw [Y.hK i] at h; exact h, fun B F H os σ Q I q => ?_⟩
  refine rd B F H os σ _ I fun v F1 H1 fp f1 e1 W1 p1 => ?_
  obtain ⟨x, dx, vs, o2, ev, h1, h2, h3⟩ := ho F1 H1 fp _ W1.sub p1
  cases ev
  obtain ⟨o, fp', r', e3, p3, _, _⟩ := h3.at hj
  obtain ⟨v', ev, l, ws, el, ef, g1, g2⟩ := p3
  subst ev
  have e4 : vs[j]? = some v' := by
    rw [List.getElem?_map] at e3
    obtain ⟨y, hy, ey⟩ := Option.map_eq_some_iff.mp e3
    cases ey; exact hy
  exact ⟨x, C, dx, _, v', rfl, h1, hA.cl, hA.no, zip_lookup nd h2 hn e4, q v' F1 H1 [] f1 e1 W1.drop ⟨rfl, l, ws, by rw [el], g1, g2⟩⟩
/-- an owned instance's name, looked at -/
theorem x_varO (j : Nat) (hs : Γ[j]? = some (obj C ns Δ) := by rfl) (hN : ∀ i, (Y.X i).N[j]? = some x := by intro _; rfl)
    (hv : ∀ i, Vis (Y.X i).env.scope x := by intro _; first | exact Or.inl rfl | exact Or.inr (Or.inl rfl) | exact Or.inr (Or.inr rfl)) (hd : (x == ("__debug__" : Str)) = false := by decide) (hcd : (x == ("__classdict__" : Str)) = false := by decide) : XV Y (.Name x pos) Γ (bobj C ns Δ) := by
  refine ⟨_, fun i => pe_var (hN i) (hv i) hd hcd, fun B F H os σ Q I q => ?_⟩
  obtain ⟨o, fp, e, y, dx, vs, o2, e1, e2, h1, h2, h3, h4⟩ := I.slot hs
  subst e1
  exact ⟨_, e, q _ F H [] same_refl same_refl I.W ⟨rfl, y, dx, vs, o2, rfl, h1, h3, h4⟩⟩
/-- o.f = e, a new attribute -/
theorem go_newfld {up : Slot → List Slot} {pos' : Pos} (ho : PL Y eo Γ (obj C ns Δ) up) (he : XV Y e Γ r) (hA : At K C f) (hst : Stb Δ) (hr : r.st) (hg : Go Y i rest D B (up (obj C (ns ++ [f]) (Δ ++ [r])))) (hn : ns.contains f = false := by decide +kernel) (hl : Nat.blt ns.length 1000 = true := by rfl)
    (hs : swapsWith e (some (.Attribute eo f pos')) pos.line (Y.X i).env = pure false := by rfl) : Go Y i (.Assign [.Attribute eo f pos'] e pos :: rest) D B Γ := by
  obtain ⟨t, Pv, pe, pst, rd, up'⟩ := ho
  obtain ⟨t2, pe2, rd2⟩ := he
  refine go_ps (ps_fld (pe i) (pe2 i) hs) fun F H σ ⟨os, W, S⟩ => ?_
  refine rd2 B F H os σ _ (Sta.in W S) fun y F1 H1 fy f1 e1 W1 p1 => ?_
  refine rd B F1 H1 _ σ _ ((Sta.in W S).step f1 e1 W1) fun v hv => ?_
  obtain ⟨fp, r2, hr2, hp2, kk⟩ := up' F1 H1 os σ v (S.mono f1 e1) hv
  obtain ⟨x, dx, vs, o3, ex, e2, g1, g2, g3, g4⟩ := hp2
  cases ex
  subst e2
  have W2 : Wo B F1 H1 (fy ++ ((x :: dx :: o3) ++ r2)) := W1.perm (List.Perm.append_left fy hr2)
  have nd2 := W2.nd
  have hx : ∀ q, q ∈ fy ∨ q ∈ dx :: o3 ∨ q ∈ r2 → q ≠ x := fun q hq e => by
    subst e
    have a1 := List.nodup_append.mp nd2
    rcases hq with hq | hq | hq
    · exact a1.2.2 q hq q (by simp) rfl
    · have a2 := List.nodup_append.mp a1.2.1
      exact (List.nodup_cons.mp a2.1).1 hq
    · have a2 := List.nodup_append.mp a1.2.1
      exact a2.2.2 q (by simp) q hq rfl
  rw [Y.hK i]
  refine ⟨x, C, dx, _, rfl, g1, hA.cl, hA.no, ?_, ?_⟩
  · rw [List.length_zip]
    have := Nat.le_of_ble_eq_true hl
    omega
  have hnf : f ∉ ns := fun z => by
    have := List.contains_iff_mem.mpr z
    rw [hn] at this; cases this
  rw [zip_new g3 hnf]
  have W3 : Wo B F1 (upd H1 x (.ins C dx ((ns ++ [f]).zip (vs ++ [y])))) (fy ++ ((x :: dx :: o3) ++ r2)) := W2.write (by simp)
  have hfy : ∀ q ∈ fy, q ≠ x := fun q hq => hx q (.inl hq)
  have g5 : Slots F1 (upd H1 x (.ins C dx ((ns ++ [f]).zip (vs ++ [y])))) o3 (vs.map some) Δ := g4.mm same_refl hst fun q hq => upd_ne (hx q (by simp [hq]))
  have p5 : r.P F1 (upd H1 x (.ins C dx ((ns ++ [f]).zip (vs ++ [y])))) fy (some y) := r.mm hr same_refl (fun q hq => upd_ne (hfy q hq)) p1
  have t6 := g5.append (Slots.cons p5 .nil)
  rw [List.append_nil, show vs.map some ++ [some y] = (vs ++ [y]).map some by simp] at t6
  have hdx : dx ≠ x := hx dx (by simp)
  obtain ⟨os2, v1, v2⟩ := kk F1 (upd H1 x (.ins C dx ((ns ++ [f]).zip (vs ++ [y])))) (x :: dx :: (o3 ++ fy)) (obj C (ns ++ [f]) (Δ ++ [r])) same_refl (fun q hq => upd_ne (hx q (by simp [hq]))) ⟨x, dx, vs ++ [y], o3 ++ fy, rfl, rfl, upd_same, by rw [upd_ne hdx]; exact g2, by simp [g3], t6⟩
  refine hg F1 _ σ ⟨os2, (W3.perm ?_).perm v2.symm, v1⟩
  have b1 : (fy ++ ((x :: dx :: o3) ++ r2)).Perm (x :: dx :: ((fy ++ o3) ++ r2)) := by
    have c1 : (fy ++ (x :: (dx :: (o3 ++ r2)))).Perm (x :: (fy ++ (dx :: (o3 ++ r2)))) := List.perm_middle
    have c2 : (fy ++ (dx :: (o3 ++ r2))).Perm (dx :: (fy ++ (o3 ++ r2))) := List.perm_middle
    have c3 := c1.trans (c2.cons x)
    rw [List.append_assoc]; exact c3
  refine b1.trans ?_
  exact ((List.Perm.append_right r2 List.perm_append_comm).cons dx).cons x
/-- all of them frozen values -/
def AllV : List Slot → Prop
  | [] => True
  | s :: r => (∃ (α : Type) (p : VP α) (u : α), s = Ty.val p u) ∧ AllV r
theorem AllV.no {F H : Hp} : ∀ {Γ : List Slot} {os : List Addr} {σ : List (Option V)}, AllV Γ → Slots F H os σ Γ → os = [] ∧ Slots F F [] σ Γ
  | [], _, _, _, S => by cases S; exact ⟨rfl, .nil⟩
  | s :: Γ, _, _, h, S => by
    cases S with
    | @cons fp os o σ _ _ p q =>
      obtain ⟨⟨α, p', u, rfl⟩, h2⟩ := h
      obtain ⟨e1, v, e2, rv⟩ := p
      obtain ⟨e3, t⟩ := AllV.no h2 q
      subst e1; subst e3
      exact ⟨rfl, Slots.cons (fp := []) ⟨rfl, v, e2, rv⟩ t⟩
/-- an owned instance frozen -/
theorem WkS.obj {α : Type} {sl : α → List Slot} {z : α} (hw : WkL Δ (sl z)) (hv : AllV (sl z)) : WkS (Ty.obj C ns Δ) (Ty.val (pObj C ns sl) z) := fun F H fp o hS h => by
  obtain ⟨x, dx, vs, os, e1, e2, h1, h2, h3, h4⟩ := h
  obtain ⟨xx, yy, hp, kk⟩ := h4.wk hS hw
  obtain ⟨rfl, _⟩ := hv.no (kk H hS same_refl fun _ _ => rfl)
  subst e2
  refine ⟨x :: dx :: os, [], by simp, fun F' hF hs hx => ⟨rfl, _, e1, x, dx, vs, rfl, by rw [hx x (by simp)]; exact h1, h3, (hv.no (kk F' hF hs fun q hq => hx q ?_)).2⟩⟩
  have := hp.mem_iff.mpr (by simpa using hq)
  simp [this]

/-! ### what is handed in is kept by name -/
/-- s, held at the value v -/
def hold (s : Slot) (v : V) : Slot where
  P := fun F H fp o => o = some v ∧ s.P F H fp o
  mono := fun hF hH h => ⟨h.1, s.mono hF hH h.2⟩
  st := s.st
  mm := fun hs {_ _ _ _ _ _} hF hH h => ⟨h.1, s.mm hs hF hH h.2⟩
theorem pl_hold {v0 : V} (j : Nat) (hst : Stb Γ) (hs : Γ[j]? = some (hold s v0) := by rfl) (hN : ∀ i, (Y.X i).N[j]? = some x := by intro _; rfl)
    (hv : ∀ i, Vis (Y.X i).env.scope x := by intro _; first | exact Or.inl rfl | exact Or.inr (Or.inl rfl) | exact Or.inr (Or.inr rfl)) (hd : (x == ("__debug__" : Str)) = false := by decide) (hcd : (x == ("__classdict__" : Str)) = false := by decide) : PL Y (.Name x pos) Γ s (fun s' => Γ.set j (hold s' v0)) := by
  refine ⟨_, fun σ H v => σ[j]? = some (some v), fun i => pe_var (hN i) (hv i) hd hcd, fun σ H H' v _ h => h, fun B F H os σ Q I q => ?_, fun F H os σ v S hv => ?_⟩
  · obtain ⟨o, fp, e, h⟩ := I.slot hs
    obtain ⟨rfl, _⟩ := h
    exact ⟨v0, e, q v0 e⟩
  · obtain ⟨o, fp, r, e, p, q, kk⟩ := S.at hs
    rw [hv] at e; cases e
    obtain ⟨e0, p⟩ := p
    refine ⟨fp, r, q, p, fun F' H' fp' s' hF hk hs' => ?_⟩
    obtain ⟨os', h1, h2⟩ := kk (s' := hold s' v0) ⟨e0, hs'⟩ (fun s0 h0 fp0 o0 hf hp => s0.mm (hst s0 h0) hF (fun z hz => hk z (hf z hz)) hp)
    have es : σ.set j (some v) = σ := by
      obtain ⟨hj, e⟩ := List.getElem?_eq_some_iff.mp hv
      rw [← e]; exact List.set_getElem_self hj
    rw [es] at h1
    exact ⟨os', h1, h2⟩
/-! ### defs that change their first argument -/
def spM {ι μ ρ : Type} (s0 : ι → Slot) (As : ι → List Slot) (m : ι → Option (μ × ρ)) (s1 : μ → Slot) (Sr : ρ → Slot) : Sp := fun vs H Q _ => ∃ (z : ι) (r : μ × ρ) (F : Hp) (fp : List Addr) (v0 : V) (ws : List V), vs = v0 :: ws ∧ m z = some r ∧ Wo ⟨F, H, fp⟩ F H fp ∧ (s0 z).P F H fp (some v0) ∧ Slots F H [] (ws.map some) (As z) ∧
  ∀ v F' H' f1 f2, Wo ⟨F, H, fp⟩ F' H' (f2 ++ f1) → (s1 r.1).P F' H' f1 (some v0) → (Sr r.2).P F' H' f2 (some v) → Q v H'
/-- the ends of such a body -/
def DM {μ ρ : Type} (B : Bs) (v0 : V) (s1 : μ → Slot) (Sr : ρ → Slot) (r : μ × ρ) : Ends where
  nx := fun _ H => ∃ F f1 f2, Wo B F H (f2 ++ f1) ∧ (s1 r.1).P F H f1 (some v0) ∧ (Sr r.2).P F H f2 (some .non)
  rt := fun v H => ∃ F f1 f2, Wo B F H (f2 ++ f1) ∧ (s1 r.1).P F H f1 (some v0) ∧ (Sr r.2).P F H f2 (some v)
theorem fn_mut {ι μ ρ : Type} {s0 : ι → Slot} {As : ι → List Slot} {m : ι → Option (μ × ρ)} {s1 : μ → Slot} {Sr : ρ → Slot} {x qual : Str} {st : Stmt} {f : Addr} {fd : FuncData} {N ps : List Str} (Fn : Fun K x qual st f fd) (S : FnScope N ps (defScope st)) (hlen : ∀ z, (As z).length + 1 = ps.length)
    (body : ∀ (cdv : Value) (A : Around) (outer : List Env) (s : Shared) (H : Hp) (E : XK) (hr : Room k (A.deeper (envOfC qual (defScope st) s.heap.objs.size f cdv))) (z : ι) (r : μ × ρ) (v0 : V) (B : Bs), m z = some r →
      Go (fb P w K mg base N qual st f cdv A outer s H E k hr S.nd) () (defBody st) (DM B v0 s1 Sr r) B (hold (s0 z) v0 :: As z ++ List.replicate (N.length - ps.length) dead)) : FnOk P w K mg base CX0 (k + 1) f fd ps (spM s0 As m s1 Sr) := by
  refine Fn.ok S (fun vs H Q E h => ?_) (fun cdv A outer s H vs Q E hr h => ?_)
  · obtain ⟨z, r, F, fp, v0, ws, rfl, _, _, _, Sl, _⟩ := h
    have e := Sl.length
    rw [List.length_map] at e
    rw [List.length_cons, e, hlen]
  · obtain ⟨z, r, F, fp, v0, ws, rfl, hm, hW, hp, Sl, q⟩ := h
    refine ⟨_, pss_cont, ?_⟩
    have go := body cdv A outer s H E hr z r v0 ⟨F, H, fp⟩ hm
    have S0 : Sta ⟨F, H, fp⟩ F H (L2.start N (v0 :: ws)) (hold (s0 z) v0 :: As z ++ List.replicate (N.length - ps.length) dead) := by
      refine ⟨fp, hW, ?_⟩
      unfold L2.start
      have e := Sl.length
      rw [List.length_map] at e
      rw [List.length_cons, e, hlen]
      have e1 := Slots.cons (s := hold (s0 z) v0) ⟨rfl, hp⟩ (Slots.append Sl (slots_dead (F := F) (H := H) (N.length - ps.length)))
      simpa using e1
    exact cont_mono (go F H _ S0) (fun σ H' ⟨F', f1, f2, W', p', q'⟩ => q .non F' H' f1 f2 W' p' q') (fun v H' ⟨F', f1, f2, W', p', q'⟩ => q v F' H' f1 f2 W' p' q') (fun _ _ z => z.elim) (fun _ _ z => z.elim)
/-- the body falls off its end -/
theorem go_nilM {μ ρ : Type} {v0 : V} {s1 : μ → Slot} {Sr : ρ → Slot} {r : μ × ρ} (j : Nat) (hs : Γ[j]? = some (hold (s1 r.1) v0) := by rfl) (hr : ∀ F H, (Sr r.2).P F H [] (some .non) := by intro _ _; exact ⟨rfl, _, rfl, rfl⟩) : Go Y i [] (DM B v0 s1 Sr r) B Γ :=
  go_nil fun σ H ⟨F, os, W, S⟩ => by
    obtain ⟨o, fp, r', e, p, q, _⟩ := S.at hs
    obtain ⟨rfl, p⟩ := p
    exact ⟨F, fp, [], (W.perm q).dropR, p, hr _ _⟩
/-- behind a call that changes what is at fp -/
theorem Wo.calledM {F H F' H' : Hp} {os fp r fp' : List Addr} (W : Wo B F H os) (hp : os.Perm (fp ++ r)) (W4 : Wo ⟨F, H, fp⟩ F' H' fp') : Same F F' ∧ (∀ q ∈ r, H' q = H q) ∧ Wo B F' H' (fp' ++ r) := by
  have W1 := W.perm hp
  have nd := List.nodup_append.mp W1.nd
  have hr : ∀ q ∈ r, q ∉ fp := fun q hq hf => nd.2.2 q hf q hq rfl
  have hH : ∀ q ∈ r, H' q = H q := fun q hq => by
    obtain ⟨o, ho⟩ := W1.oH q (List.mem_append_right _ hq)
    rw [ho]; exact W4.bH q o ho (hr q hq)
  have own_old : ∀ q ∈ r, F' q = none := fun q hq => by
    cases z : F' q with
    | none => rfl
    | some u =>
      obtain ⟨o, ho⟩ := W1.oH q (List.mem_append_right _ hq)
      rcases W4.bN q u z with y | y | y
      · have y' : F q = some u := y
        rw [W1.oF q (List.mem_append_right _ hq)] at y'; cases y'
      · have y' : H q = none := y
        rw [ho] at y'; cases y'
      · exact absurd y (hr q hq)
  refine ⟨W4.bF, hH, W4.sub, List.nodup_append.mpr ⟨W4.nd, nd.2.1, fun q hq q' hq' e => ?_⟩, fun q hq => ?_, fun q hq => ?_, W.bF.trans W4.bF, fun q u e hb => ?_, fun q u e => ?_, fun q hq => ?_⟩
  · subst e
    rcases W4.bO q hq with y | y
    · have y' : H q = none := y
      obtain ⟨o, ho⟩ := W1.oH q (List.mem_append_right _ hq')
      rw [ho] at y'; cases y'
    · exact hr q hq' y
  · rcases List.mem_append.mp hq with hq | hq
    · exact W4.oF q hq
    · exact own_old q hq
  · rcases List.mem_append.mp hq with hq | hq
    · exact W4.oH q hq
    · obtain ⟨o, ho⟩ := W1.oH q (List.mem_append_right _ hq)
      exact ⟨o, by rw [hH q hq]; exact ho⟩
  · by_cases hf : q ∈ fp
    · exfalso
      rcases W1.bO q (List.mem_append_left _ hf) with z | z
      · rw [z] at e; cases e
      · exact hb z
    · exact W4.bH q u (W.bH q u e hb) hf
  · rcases W4.bN q u e with y | y | y
    · exact W.bN q u y
    · exact .inr (W.bFree y)
    · exact .inr (W1.bO q (List.mem_append_left _ y))
  · rcases List.mem_append.mp hq with hq | hq
    · rcases W4.bO q hq with y | y
      · exact W.bFree y
      · exact W1.bO q (List.mem_append_left _ y)
    · exact W1.bO q (List.mem_append_right _ hq)
theorem Wo.here {F H : Hp} {os fp r : List Addr} (W : Wo B F H os) (hp : os.Perm (fp ++ r)) : Wo ⟨F, H, fp⟩ F H fp := (W.perm hp).dropR.self
/-- C(e, ..): a new instance -/
theorem x_make {ι μ ρ : Type} {s0 : ι → Slot} {As : ι → List Slot} {m : ι → Option (μ × ρ)} {s1 : μ → Slot} {Sr : ρ → Slot} {args : List Slot} {z : ι} {q : μ × ρ} {j : Nat} {g : Addr} {fd : FuncData} {ps : List Str}
    (Fn : FnOk P w K mg base CX0 j g fd ps (spM s0 As m s1 Sr)) (hj : j + 1 ≤ k) (M : Mk K C g) (hm : mg x = some (.ref C)) (hb : Binds K fd ps []) (ha : XA Y (e :: es) Γ args) (hargs : args = As z) (hno : NoOwn args) (h0 : s0 z = obj C [] []) (hq : m z = some q) (hr : Sr q.2 = vNon)
    (hg : ∀ i, Gl (Y.X i) x := by intro _; rfl) (hdb : (x == ("__debug__" : Str)) = false := by decide)
    (he : ∀ i, starEach (e :: es) (Y.X i).env = (false, eval e (Y.X i).env) :: starEach es (Y.X i).env := by intro _; rfl) (hpl : ∀ i, (backTo pos (starEach es (Y.X i).env)).any (·.1) = false := by intro _; rfl) (hcm : Y.cm = true := by rfl) : XV Y (.Call (.Name x p') (e :: es) [] pos) Γ (s1 q.1) := by
  subst hargs
  obtain ⟨t, pa, rd⟩ := ha
  have FF : ∀ i, FnOk (Y.X i).prog (Y.X i).w (Y.X i).K (Y.X i).mg (Y.X i).base CX0 j g fd ps (spM s0 As m s1 Sr) := fun i => by rw [Y.hP i, Y.hw i, Y.hK i, Y.hM i, Y.hB i]; exact Fn
  refine ⟨_, fun i => pe_make (by rw [Y.hK i]; exact M) (FF i) ((Y.hR hcm i).mono hj) (hg i) (by rw [Y.hM i]; exact hm) (by rw [Y.hK i]; exact hb) .nil pass0 (pa i) hdb (he i) (hpl i), fun B F H os σ Q I kk => ?_⟩
  refine rd B F H os σ _ I fun vs F1 H1 fp f1 e1 W1 S1 => ?_
  obtain rfl := hno.nil S1
  intro a dx ha hdx hne
  rw [List.append_nil]
  have hdx' : (upd H1 dx (.own a)) a = none := by rw [upd_ne (fun z => hne z.symm)]; exact ha
  have W1' : Wo B F1 H1 os := W1
  have W2 : Wo B F1 (upd (upd H1 dx (.own a)) a (.ins C dx [])) (a :: dx :: os) := (W1'.newO hdx).newO hdx'
  have e3 : Same H1 (upd (upd H1 dx (.own a)) a (.ins C dx [])) := (same_upd hdx).trans (same_upd hdx')
  refine ⟨z, q, F1, [a, dx], .ref a, vs, rfl, hq, W2.here (fp := [a, dx]) (r := os) (.refl _), ?_, S1.mono same_refl e3, fun v F2 H2 fp1 fp2 W3 p2 p3 => ?_⟩
  · rw [h0]
    exact ⟨a, dx, [], [], rfl, rfl, upd_same, by rw [upd_ne hne]; exact upd_same, rfl, .nil⟩
  · rw [hr] at p3
    obtain ⟨rfl, rv⟩ := val_P p3
    refine ⟨rv, ?_⟩
    obtain ⟨c1, c2, W4⟩ := Wo.calledM (os := a :: dx :: os) (fp := [a, dx]) (r := os) W2 (.refl _) W3
    refine kk _ F2 H2 fp1 (f1.trans c1) (e1.trans ?_) W4 p2
    intro b u hb
    refine W3.bH b u (e3 b u hb) ?_
    intro hm
    rcases List.mem_cons.mp hm with rfl | hm
    · rw [ha] at hb; cases hb
    · obtain rfl := List.mem_singleton.mp hm
      rw [hdx] at hb; cases hb
end
end Ty

/-! Ty8 -/
namespace Ty
open PySem PySem.Spec L2
open PyProof.Rows (envOfC)
section
variable {P : Program} {w : World} {K : PySem.W.Frag} {mg : Str → Option Value} {base : Heap} {k : Nat}
variable {Y : Fa P w K mg base k} {i : Y.I} {e ea eb eo ev tg iter elt : Expr} {es ifs : List Expr} {rest body : List Stmt} {Γ Γ' Γ1 Γ2 Δ Δ' : List Slot} {a b c r s s' : Slot} {pos : Pos} {B : Bs} {D : Ends} {x f : Str} {p' : Pos} {C : Addr} {ns : List Str}

/-! ### dicts -/
/-- a kind of key: ints, texts, or tuples of them -/
structure DQ (κ : Type) where
  pk : VP κ
  T : Type
  dT : DecidableEq T
  enc : κ → T
  inj : ∀ a b, enc a = enc b → a = b
  ho : List (T × V) → HO
  hinj : ∀ a b, ho a = ho b → a = b
  get : ∀ {F H : Hp} {a : Addr} {v : V} {k : κ} {kvs : List (T × V)}, Same F H → pk.R F v k → H a = some (ho kvs) → DGet H a v (valV kvs (enc k))
  put : ∀ {F H : Hp} {a : Addr} {v y : V} {k : κ} {kvs : List (T × V)}, Same F H → pk.R F v k → H a = some (ho kvs) → kvs.length < sizeLine → DPut H a v y (upd H a (ho (putK kvs (enc k) y)))
instance {κ : Type} (q : DQ κ) : DecidableEq q.T := q.dT
def dInt : DQ Int where
  pk := pInt
  T := Key
  dT := inferInstance
  enc := fun i => .inl i
  inj := fun a b h => Sum.inl.inj h
  ho := .dK
  hinj := fun a b h => by injection h
  get := fun _ hv h => by cases hv; exact DGet.k (k := .inl _) h
  put := fun _ hv h hl => by cases hv; exact DPut.k (k := .inl _) h hl
def dStr : DQ Str where
  pk := pStr
  T := Key
  dT := inferInstance
  enc := fun i => .inr i
  inj := fun a b h => Sum.inr.inj h
  ho := .dK
  hinj := fun a b h => by injection h
  get := fun _ hv h => by cases hv; exact DGet.k (k := .inr _) h
  put := fun _ hv h hl => by cases hv; exact DPut.k (k := .inr _) h hl
/-- keys that are tuples -/
def dTup {κ : Type} (pk : VP κ) (enc : κ → List Key) (inj : ∀ a b, enc a = enc b → a = b) (h : ∀ F v k, pk.R F v k → ∃ b, v = .ref b ∧ F b = some (.tup ((enc k).map kV))) : DQ κ where
  pk := pk
  T := List Key
  dT := inferInstance
  enc := enc
  inj := inj
  ho := .dT
  hinj := fun a b h => by injection h
  get := fun hS hv hd => by obtain ⟨b, rfl, hb⟩ := h _ _ _ hv; exact DGet.t hd (hS _ _ hb)
  put := fun hS hv hd hl => by obtain ⟨b, rfl, hb⟩ := h _ _ _ hv; exact DPut.t hd (hS _ _ hb) hl
def dII : DQ (Int × Int) := dTup (pT2 pInt pInt) (fun x => [.inl x.1, .inl x.2]) (fun a b h => by simp at h; exact Prod.ext h.1 h.2) fun F v k h => by
  obtain ⟨l, a, b, rfl, h1, h2, h3⟩ := h
  cases h2; cases h3
  exact ⟨l, rfl, h1⟩
theorem map_inl_inj : ∀ {a b : List Int}, a.map (fun i => (Sum.inl i : Key)) = b.map Sum.inl → a = b
  | [], [], _ => rfl
  | [], _ :: _, h => by simp at h
  | _ :: _, [], h => by simp at h
  | x :: a, y :: b, h => by
    simp only [List.map_cons, List.cons.injEq, Sum.inl.injEq] at h
    rw [h.1, map_inl_inj h.2]
def dInts : DQ (List Int) := dTup (pTup pInt) (fun x => x.map Sum.inl) (fun a b h => map_inl_inj h) fun F v k h => by
  obtain ⟨l, vs, rfl, h1, h2⟩ := h
  refine ⟨l, rfl, ?_⟩
  rw [h1, map_int_of h2, List.map_map]; rfl
section
variable {κ β α : Type} [DecidableEq κ]
def dget (kvs : List (κ × β)) (k : κ) : Option β := (kvs.find? fun kv => decide (kv.1 = k)).map (·.2)
def dput (kvs : List (κ × β)) (k : κ) (v : β) : List (κ × β) := if (kvs.any fun kv => decide (kv.1 = k)) = true then kvs.map (fun kv => if kv.1 = k then (kv.1, v) else kv) else kvs ++ [(k, v)]
variable {q : DQ κ} {p : VP β}
abbrev DRel (q : DQ κ) (p : VP β) (F : Hp) (vs : List (q.T × V)) (kvs : List (κ × β)) : Prop := Paired (fun a b => a.1 = q.enc b.1 ∧ p.R F a.2 b.2) vs kvs
theorem drel_mono {F F' : Hp} (hF : Same F F') {vs : List (q.T × V)} {kvs : List (κ × β)} (h : DRel q p F vs kvs) : DRel q p F' vs kvs := Paired.mon (fun _ _ r => ⟨r.1, p.mono hF r.2⟩) h
/-- an owned dict -/
def oD (q : DQ κ) (p : VP β) : OP (List (κ × β)) where
  P := fun F H fp v kvs => ∃ d vs, v = .ref d ∧ fp = [d] ∧ H d = some (q.ho vs) ∧ DRel q p F vs kvs
  mono := fun hF hH h => let ⟨d, vs, e, ef, h1, h2⟩ := h; ⟨d, vs, e, ef, hH _ _ h1, drel_mono hF h2⟩
  mm := fun hF hH h => let ⟨d, vs, e, ef, h1, h2⟩ := h; ⟨d, vs, e, ef, by rw [hH d (by rw [ef]; exact List.mem_cons_self)]; exact h1, drel_mono hF h2⟩
/-- a dict that is looked at -/
def borD (q : DQ κ) (p : VP β) (kvs : List (κ × β)) : Slot where
  P := fun F H fp o => fp = [] ∧ ∃ d vs, o = some (.ref d) ∧ H d = some (q.ho vs) ∧ DRel q p F vs kvs
  mono := fun hF hH h => let ⟨ef, d, vs, e, h1, h2⟩ := h; ⟨ef, d, vs, e, hH _ _ h1, drel_mono hF h2⟩
  st := False
  mm := fun h => h.elim
/-- a frozen dict -/
def pD (q : DQ κ) (p : VP β) : VP (List (κ × β)) where
  R := fun F v kvs => ∃ d vs, v = .ref d ∧ F d = some (q.ho vs) ∧ DRel q p F vs kvs
  mono := fun hF h => let ⟨d, vs, e, h1, h2⟩ := h; ⟨d, vs, e, hF _ _ h1, drel_mono hF h2⟩
def DV (s : Slot) (q : DQ κ) (p : VP β) (kvs : List (κ × β)) : Prop := ∀ F H fp o, Same F H → s.P F H fp o → ∃ d vs, o = some (.ref d) ∧ H d = some (q.ho vs) ∧ DRel q p F vs kvs
theorem DV.own {kvs : List (κ × β)} : DV (Ty.own (oD q p) kvs) q p kvs := fun F H fp o _ h => let ⟨v, e, d, vs, ev, _, h1, h2⟩ := h; ⟨d, vs, by rw [e, ev], h1, h2⟩
theorem DV.bor {kvs : List (κ × β)} : DV (borD q p kvs) q p kvs := fun F H fp o _ h => let ⟨_, d, vs, e, h1, h2⟩ := h; ⟨d, vs, e, h1, h2⟩
theorem DV.val {kvs : List (κ × β)} : DV (Ty.val (pD q p) kvs) q p kvs := fun F H fp o hS h => let ⟨_, v, e, d, vs, ev, h1, h2⟩ := h; ⟨d, vs, by rw [e, ev], hS _ _ h1, h2⟩
theorem WkS.dict {kvs : List (κ × β)} : WkS (Ty.own (oD q p) kvs) (Ty.val (pD q p) kvs) := fun F H fp o _ h => by
  obtain ⟨v, e, l, vs, el, ef, h1, h2⟩ := h
  subst ef
  exact ⟨[l], [], rfl, fun F' hF hs hx => ⟨rfl, v, e, l, vs, el, by rw [hx l List.mem_cons_self]; exact h1, drel_mono hF h2⟩⟩
end
/-- {k: v}, the key a tuple -/
def tDisp1T (tk tv : TE) : TE := fun σ H Q => ∀ p, H p = none → tk σ (upd H p (.dT [])) fun x H1 => tv σ H1 fun y H2 => ∃ b ks, x = .ref b ∧ H2 p = some (.dT []) ∧ H2 b = some (.tup (ks.map kV)) ∧ Q (.ref p) (upd H2 p (.dT [(ks, y)]))
/-! ### None -/
/-! ### isinstance(e, T) -/
def pTy : VP String := ⟨fun _ v t => v = .ty t, fun _ h => h⟩
theorem x_ty {T : String} (hm : mg x = none) (hv : bootBuiltins x = some (.type T)) (hg : ∀ i, Gl (Y.X i) x := by intro _; rfl) (hn : x ≠ "__name__" := by decide) (hd : (x == ("__debug__" : Str)) = false := by decide) : XV Y (.Name x pos) Γ (val pTy T) :=
  ⟨_, fun i => pe_bltn (v := .ty T) (hg i) (by rw [Y.hM]; exact hm) hv rfl hn hd, fun B F H os σ Q I q => q _ F H [] same_refl same_refl I.W ⟨rfl, _, rfl, rfl⟩⟩
/-- a value's type -/
def TyV (K : PySem.W.Frag) (s : Slot) (T : String) : Prop := ∀ F H fp o, Same F H → s.P F H fp o → ∃ v, o = some v ∧ TyX K H v (.type T)
theorem LV.ty {α : Type} {s : Slot} {p : VP α} {xs : List α} (h : LV s p xs) : TyV K s "list" := fun F H fp o hS hp => let ⟨l, vs, e, h1, _⟩ := h F H fp o hS hp; ⟨_, e, .base (.lst h1)⟩
theorem TV.ty {α : Type} {s : Slot} {p : VP α} {xs : List α} (h : TV s p xs) : TyV K s "tuple" := fun F H fp o hS hp => let ⟨l, vs, e, h1, _⟩ := h F H fp o hS hp; ⟨_, e, .base (.tup h1)⟩
theorem TyV.int {i : Int} : TyV K (vInt i) "int" := fun F H fp o hS hp => let ⟨_, v, e, r⟩ := hp; ⟨v, e, by cases r; exact .base (.int i)⟩
theorem TyV.bl {i : Bool} : TyV K (vBl i) "bool" := fun F H fp o hS hp => let ⟨_, v, e, r⟩ := hp; ⟨v, e, by cases r; exact .base (.bl i)⟩
theorem TyV.str {i : Str} : TyV K (vStr i) "str" := fun F H fp o hS hp => let ⟨_, v, e, r⟩ := hp; ⟨v, e, by cases r; exact .base (.str i)⟩
theorem TyV.non : TyV K vNon "NoneType" := fun F H fp o hS hp => let ⟨_, v, e, r⟩ := hp; ⟨v, e, by cases r; exact .base .non⟩
theorem c_isi (Y : Fa P w K mg base k) (i : Y.I) : CallR (Y.X i) (.builtin "isinstance") (rIsi K) := by have h := call_isi (X := Y.X i); rw [Y.hK i] at h; exact h
theorem o_isi {T T' : String} {z : Bool} (hs : TyV K s T) (hz : kitB T T' = some z) : OpA (rIsi K) [s, val pTy T'] (vBl z) := opA2 fun B F H x y fx fy os Q W p1 p2 kk => by
  obtain ⟨v, ev, ty⟩ := hs F H fx _ W.sub p1
  cases ev
  obtain ⟨_, r2⟩ := val_P p2
  cases r2
  exact ⟨x, _, _, .type T', z, rfl, .ty T', ty, kit_ty hz, kk _ F H [] same_refl same_refl W.drop.drop ⟨rfl, _, rfl, rfl⟩⟩

/-! ### reversed(list) -/
/-! ### methods of frozen instances -/
end
end Ty

/-! Ty9 -/
namespace Ty
open PySem PySem.Spec L2
open PyProof.Rows (envOfC)
section
variable {P : Program} {w : World} {K : PySem.W.Frag} {mg : Str → Option Value} {base : Heap} {k : Nat}
variable {Y : Fa P w K mg base k} {i : Y.I} {e ea eb eo ev tg iter elt : Expr} {es ifs : List Expr} {rest body : List Stmt} {Γ Γ' Γ1 Γ2 Δ Δ' : List Slot} {a b c r s s' : Slot} {pos : Pos} {B : Bs} {D : Ends} {x f : Str} {p' : Pos} {scope : Scope}
/-! ### small helpers of mirrors -/
def guardO {α : Type} (c : Prop) [Decidable c] (x : Option α) : Option α := if c then x else none
theorem guardO_some {α : Type} {c : Prop} [Decidable c] {x : Option α} {y : α} (h : guardO c x = some y) : c ∧ x = some y := by
  unfold guardO at h
  by_cases hc : c
  · rw [if_pos hc] at h; exact ⟨hc, h⟩
  · rw [if_neg hc] at h; cases h
def lcO {α β : Type} (xs : List α) (f : α → Option (Option β)) : Option (List β) := guardO (xs.length ≤ sizeLine) (fmO xs f)
def rangeO (lo hi : Int) : Option (List Int) := guardO (-(2 ^ 62) ≤ lo ∧ lo < 2 ^ 62 ∧ -(2 ^ 62) ≤ hi ∧ hi < 2 ^ 62) (some (rangeL lo hi))
/-! ### lists of owned things -/
def lstS (Γs : List Slot) : Slot where
  P := fun F H fp o => ∃ l vs os, o = some (.ref l) ∧ fp = l :: os ∧ H l = some (.lst vs) ∧ Slots F H os (vs.map some) Γs
  mono := fun hF hH h => let ⟨l, vs, os, e1, e2, h1, h2⟩ := h; ⟨l, vs, os, e1, e2, hH _ _ h1, h2.mono hF hH⟩
  st := Stb Γs
  mm := fun hs {_ _ _ _ _ _} hF hH h => let ⟨l, vs, os, e1, e2, h1, h2⟩ := h
    ⟨l, vs, os, e1, e2, by rw [hH l (by rw [e2]; simp)]; exact h1, h2.mm hF hs fun q hq => hH q (by rw [e2]; simp [hq])⟩
theorem slots_paired {F H : Hp} {α : Type} {q : VP α} : ∀ {vs : List V} {xs : List α} {os : List Addr}, Slots F H os (vs.map some) (xs.map (Ty.val q)) → os = [] ∧ Paired (q.R F) vs xs
  | [], [], _, S => by cases S; exact ⟨rfl, .nil⟩
  | [], _ :: _, _, S => by have e := S.length; simp at e
  | _ :: _, [], _, S => by have e := S.length; simp at e
  | v :: vs, x :: xs, _, S => by
    rw [List.map_cons, List.map_cons] at S
    obtain ⟨f1, f2, rfl, p, S2⟩ := Slots.cons_inv S
    obtain ⟨rfl, r⟩ := val_P p
    obtain ⟨rfl, t⟩ := slots_paired S2
    exact ⟨rfl, .cons r t⟩
theorem wkL_map {α : Type} {g : α → Slot} {q : VP α} (h : ∀ x, WkS (g x) (Ty.val q x)) : ∀ xs : List α, WkL (xs.map g) (xs.map (Ty.val q))
  | [] => .nil
  | x :: xs => .cons (h x) (wkL_map h xs)
theorem WkS.lstS {α : Type} {g : α → Slot} {q : VP α} {xs : List α} (h : ∀ x, WkS (g x) (Ty.val q x)) : WkS (Ty.lstS (xs.map g)) (Ty.val (pL q) xs) := fun F H fp o hS hp => by
  obtain ⟨l, vs, os, e1, e2, h1, h2⟩ := hp
  obtain ⟨xx, yy, hperm, kk⟩ := h2.wk hS (wkL_map h xs)
  obtain ⟨rfl, _⟩ := slots_paired (kk H hS same_refl fun _ _ => rfl)
  subst e2
  refine ⟨l :: os, [], by simp, fun F' hF hs hx => ⟨rfl, _, e1, l, vs, rfl, by rw [hx l (by simp)]; exact h1, (slots_paired (kk F' hF hs fun q hq => hx q ?_)).2⟩⟩
  have := hperm.mem_iff.mpr (by simpa using hq)
  simp [this]
/-- read as data of the whole heap -/
theorem paired_bor {F H : Hp} (hS : Same F H) {α : Type} {g : α → Slot} {q : VP α} (h : ∀ x, Vw (g x) q x) : ∀ {vs : List V} {xs : List α} {os : List Addr}, Slots F H os (vs.map some) (xs.map g) → Paired (q.R H) vs xs
  | [], [], _, _ => .nil
  | [], _ :: _, _, S => by have e := S.length; simp at e
  | _ :: _, [], _, S => by have e := S.length; simp at e
  | v :: vs, x :: xs, _, S => by
    rw [List.map_cons, List.map_cons] at S
    obtain ⟨f1, f2, rfl, p, S2⟩ := Slots.cons_inv S
    obtain ⟨v', ev, rv⟩ := h x F H f1 _ hS p
    cases ev
    exact .cons rv (paired_bor hS h S2)
theorem Vw.lstS {α : Type} {g : α → Slot} {q : VP α} {xs : List α} (h : ∀ x, Vw (g x) q x) : Vw (Ty.lstS (xs.map g)) (pL q) xs := fun F H fp o hS hp => by
  obtain ⟨l, vs, os, e1, e2, h1, h2⟩ := hp
  exact ⟨_, e1, l, vs, rfl, h1, paired_bor hS h h2⟩
theorem LV.look {α : Type} {s : Slot} {p : VP α} {xs : List α} (h : LV s p xs) : Vw s (pL p) xs := h.vw
theorem XV.flat {α : Type} {p : VP α} {u : α} (h : XV Y e Γ (bor p u)) (hf : Flat p) : XV Y e Γ (val p u) := h.as fun F H fp o _ ⟨e1, v, e2, r⟩ => ⟨e1, v, e2, hf _ _ _ _ r⟩
/-- len of what is looked at -/
theorem SV.bor {α : Type} {p : VP α} {xs : List α} (hf : Flat p) : SV K (Ty.bor (pL p) xs) p xs := fun F H fp o hS h => let ⟨_, v, e, l, vs, ev, h1, h2⟩ := h; ⟨l, vs, by rw [e, ev], SqL.of h1, Paired.mon (fun _ _ r => hf _ _ _ _ r) h2⟩
/-- an int of which the heap takes no notice -/
def XS (Y : Fa P w K mg base k) (e : Expr) (Γ : List Slot) (z : Int) : Prop :=
  ∃ t : TE, (∀ i, PE (Y.X i) e t) ∧ ∀ (B : Bs) (F H : Hp) (os : List Addr) (σ : List (Option V)) (Q : VK), In B F H os σ Γ → Q (.int z) H → t σ H Q
end
end Ty

/-! Ty10 -/
namespace Ty
open PySem PySem.Spec L2
open PyProof.Rows (envOfC)
theorem condT {α : Type} {c : Bool} {a b : Option α} {y : α} (hc : c = true) (h : (bif c then a else b) = some y) : a = some y := by subst hc; exact h
theorem condF {α : Type} {c : Bool} {a b : Option α} {y : α} (hc : c = false) (h : (bif c then a else b) = some y) : b = some y := by subst hc; exact h
def flK {ρ S β : Type} (o : Option (Fl ρ S)) (kn : S → Option β) (kr : ρ → Option β) : Option β := o.bind fun
  | .next s => kn s
  | .brk s => kn s
  | .ret r => kr r
theorem flK_some {ρ S β : Type} {o : Option (Fl ρ S)} {kn : S → Option β} {kr : ρ → Option β} {b : β} (h : flK o kn kr = some b) : ∃ out, o = some out ∧ (∀ s, (out = .next s ∨ out = .brk s) → kn s = some b) ∧ (∀ r, out = .ret r → kr r = some b) := by
  unfold flK at h
  obtain ⟨out, h1, h2⟩ := Option.bind_eq_some_iff.mp h
  refine ⟨out, h1, ?_, ?_⟩
  · rintro s (rfl | rfl) <;> exact h2
  · rintro r rfl; exact h2
theorem stb_map {α : Type} {g : α → Slot} (h : ∀ x, (g x).st) : ∀ xs : List α, Stb (xs.map g)
  | [] => Stb.nil
  | x :: xs => Stb.cons (h x) (stb_map h xs)
theorem stb_set {Γ : List Slot} {s : Slot} {j : Nat} (h : Stb Γ) (hs : s.st) : Stb (Γ.set j s) := fun x hx => by
  rcases List.mem_or_eq_of_mem_set hx with h1 | h1
  · exact h x h1
  · rw [h1]; exact hs
section
variable {P : Program} {w : World} {K : PySem.W.Frag} {mg : Str → Option Value} {base : Heap} {k : Nat}
variable {Y : Fa P w K mg base k} {i : Y.I} {e ea eb eo ev tg iter elt : Expr} {es ifs : List Expr} {rest body : List Stmt} {Γ Γ' Γ1 Γ2 Δ Δ' : List Slot} {a b c r s s' : Slot} {pos : Pos} {B : Bs} {D : Ends} {x f : Str} {p' : Pos} {scope : Scope}
theorem Nx.wk {σ : L2.St} {H : Hp} (h : Nx B Γ σ H) (hw : WkL Γ Γ') : Nx B Γ' σ H := h.elim fun F S => S.wk hw
theorem go_forK {α T ρ β : Type} {xs : List α} {rs : α → Slot} (Γf : T → List Slot) (Sr : ρ → Slot) {s0 : T} {f : α → T → Option (Fl ρ T)} {kn : T → Option β} {kr : ρ → Option β} {b : β}
    (hi : XI Y tg iter Γ False (xs.map rs)) (h0 : WkL Γ (Γf s0)) (hm : flK (forF xs s0 f) kn kr = some b)
    (hb : ∀ B1 x s out, x ∈ xs → f x s = some out → (∀ r, out = .ret r → kr r = some b) → (∀ F H os, Wo B1 F H os → Wo B F H os) → ∃ ws Γ1, XG Y tg ws (rs x) (Γf s) Γ1 ∧ Go Y i body (LE B1 Γf Sr out) B1 Γ1)
    (hr : ∀ s, kn s = some b → Go Y i rest D B (Γf s)) (hret : ∀ r, kr r = some b → ∀ v H, Fi B (Sr r) v H → D.rt v H)
    (hs : ∀ x, foldedSetIterable iter (Y.X i).env x = pure x := by intro _; rfl) (hcm : Y.cm = true := by rfl) : Go Y i (.For tg iter body [] pos :: rest) D B Γ := by
  obtain ⟨o, h1, h2, h3⟩ := flK_some hm
  exact go_for Γf hi h0 h1 (fun B1 x s out hx hf hh hl => hb B1 x s out hx hf (fun r e => h3 r (hh r e)) hl) (fun s hs => hr s (h2 s hs)) (fun r e => hret r (h3 r e)) hs hcm
/-! ### and, or, a if c else b whose right side may fail -/
theorem xw_orP {z u : Bool} {m2 : Option Bool} (h : XT Y ea Γ z) (hu : (bif z then some true else m2) = some u) (h2 : ∀ z', m2 = some z' → XW Y (.BoolOp .Or (eb :: es) pos) Γ z') : XW Y (.BoolOp .Or (ea :: eb :: es) pos) Γ u := by
  cases z with
  | false => exact xw_or h (fun _ => h2 u hu) rfl
  | true =>
    have : true = u := by simpa using hu
    subst this
    exact xw_or (z' := true) h (fun q => by cases q) rfl
theorem x_andP {z u : Bool} {m2 : Option Bool} (h : XV Y ea Γ (vBl z)) (hu : (bif z then m2 else some false) = some u) (h2 : ∀ z', m2 = some z' → XV Y (.BoolOp .And (eb :: es) pos) Γ (vBl z')) : XV Y (.BoolOp .And (ea :: eb :: es) pos) Γ (vBl u) := by
  cases z with
  | true => exact x_and h (fun _ => h2 u hu) rfl
  | false =>
    have : false = u := by simpa using hu
    subst this
    exact x_and (z' := false) h (fun q => by cases q) rfl
theorem x_neg {z : Int} (h : XV Y e Γ (vInt z)) : XV Y (.UnaryOp .USub e pos) Γ (vInt (-z)) := x_un (fun _ => un_neg) (fun B F H x fx os Q W p1 q => by
  obtain rfl := vint p1
  exact ⟨z, rfl, q _ F H [] same_refl same_refl W.drop ⟨rfl, _, rfl, rfl⟩⟩) h
end
end Ty

/-! Ty11 -/
namespace Ty
open PySem PySem.Spec L2
open PyProof.Rows (envOfC)
def letO {α β : Type} (a : α) (f : α → Option β) : Option β := f a
theorem letO_some {α β : Type} {a : α} {f : α → Option β} {r : β} (h : letO a f = some r) : ∃ x, a = x ∧ f x = some r := ⟨a, rfl, h⟩
theorem WkL.at {s s' : Slot} : ∀ {Γ : List Slot} {j : Nat}, WkS s s' → Γ[j]? = some s → WkL Γ (Γ.set j s')
  | [], _, _, e => by simp at e
  | _ :: _, 0, h, e => by simp at e; subst e; exact .cons h .refl
  | _ :: _, j + 1, h, e => .cons .refl (WkL.at h (by simpa using e))
theorem le_line {n : Nat} (h : Nat.ble n 1000 = true) : n ≤ sizeLine := Nat.le_trans (Nat.le_of_ble_eq_true h) (by rw [sizeLine_eq]; decide)
section
variable {P : Program} {w : World} {K : PySem.W.Frag} {mg : Str → Option Value} {base : Heap} {k : Nat}
variable {Y : Fa P w K mg base k} {i : Y.I} {e ea eb eo ev tg iter elt : Expr} {es ifs : List Expr} {rest body : List Stmt} {Γ Γ' Γ1 Γ2 Δ Δ' : List Slot} {a b c r s s' : Slot} {pos : Pos} {B : Bs} {D : Ends} {x f : Str} {p' : Pos} {scope : Scope}
theorem XV.eqV {α : Type} {p : VP α} {a b : α} (h : XV Y e Γ (val p a)) (hx : a = b) : XV Y e Γ (val p b) := hx ▸ h
theorem XV.eqO {α : Type} {p : OP α} {a b : α} (h : XV Y e Γ (own p a)) (hx : a = b) : XV Y e Γ (own p b) := hx ▸ h
theorem XV.frz {α : Type} {p : VP α} {xs : List α} (h : XV Y e Γ (own (oL p) xs)) : XV Y e Γ (val (pL p) xs) := h.wk WkS.list
theorem lc_el {α : Type} {q : VP α} {y : α} (h : XV Y elt Γ (val q y)) : XTs Y [] Γ (some y).isSome ∧ ∀ z, some y = some z → XV Y elt Γ (val q z) := ⟨xts_nil, fun z hz => by cases hz; exact h⟩
theorem lc_if {α : Type} {q : VP α} {c : Bool} {m : Option (Option α)} {o : Option α} (hc : XT Y e Γ c) (hm : (bif c then m else some none) = some o) (h : m = some o → ∃ y, o = some y ∧ XV Y elt Γ (val q y)) : XTs Y [e] Γ o.isSome ∧ ∀ z, o = some z → XV Y elt Γ (val q z) := by
  cases c with
  | true =>
    obtain ⟨y, rfl, hx⟩ := h hm
    exact ⟨xts_one hc, fun z hz => by cases hz; exact hx⟩
  | false =>
    have : none = o := by simpa using hm
    subst this
    exact ⟨xts_one hc, fun z hz => by cases hz⟩
theorem c_min2 (Y : Fa P w K mg base k) (hcm : Y.cm = true := by rfl) (i : Y.I) : CallR (Y.X i) (.builtin "min") (fun xs H Q => ∃ i j, xs = [.int i, .int j] ∧ Q (.int (if j < i then j else i)) H) := call_min2 ((Y.hC i).trans hcm)
/-- enumerate(xs), its pairs as data -/
theorem xi_enum' {α : Type} {p : VP α} {xs : List α} {p' tpos : Pos} {elts : List Expr} {kk : Nat} (hm : mg "enumerate" = none) (h : XV Y e Γ (val (pL p) xs)) (hg : ∀ i, Gl (Y.X i) "enumerate" := by intro _; rfl) (hs : ∀ i, starEach [e] (Y.X i).env = [(false, eval e (Y.X i).env)] := by intro _; rfl) :
    XI Y (.Tuple elts kk tpos) (.Call (.Name "enumerate" p') [e] [] pos) Γ False (((xs.zipIdx).map fun (x : α × Nat) => ((x.2 : Int), x.1)).map (val (pT2 pInt p))) := by
  rw [List.map_map]
  exact xi_enum hm h hg hs
end
end Ty

/-! Ty18 -/
/-! errors with fields: class X(Y), Y above ValueError, X.__init__ says super().__init__(..), then self.f = f -/
namespace Ty
open PySem PySem.Spec L2
open PyProof.Rows
/-- a field of an error -/
inductive XF where
  | i (n : Int)
  | s (x : Str)
  deriving DecidableEq
def XF.v : XF → V
  | .i n => .int n
  | .s x => .str x
abbrev veI : String := "ValueError.__init__"
/-- a def that closes over __class__, which is C -/
structure FunS (K : PySem.W.Frag) (P : Program) (x qual : Str) (st : Stmt) (f : Addr) (fd : FuncData) (C : Addr) : Prop where
  ex : ∃ (oc : Value) (od : Option Addr) (kV doc pm : Value) (an : Option Addr) (cda : Addr) (ct : Value) (osl : Array (Option Value)) (cc : Addr) (oc2 : Value) (od2 : Option Addr) (vs2 : Array Value) (sl2 : Array (Option Value)) (file : Str) (tf : Tok) (oc3 : Value) (od3 : Option Addr) (sl3 : Array (Option Value)),
    fd = PySem.W.fnX x qual (defArgs st) (defBody st) (defScope st) [("__class__", cc)] .none kV doc pm an (.ref cda) ct ∧
    K.lookup f = some ⟨oc, od, .func fd, osl⟩ ∧ PySem.W.codeIn K (.ref cda) qual = true ∧
    K.lookup cda = some ⟨oc2, od2, .fields vs2, sl2⟩ ∧ vs2[2]? = some (.str file tf) ∧ ((P.main.file : Str) == file) = true ∧
    K.lookup cc = some ⟨oc3, od3, .cell (some (.ref C)), sl3⟩
/-- what of the class and the world makes super() what it is -/
structure SupC (K : PySem.W.Frag) (P : Program) (mg : Str → Option Value) (C : Addr) : Prop where
  su : mg "super" = none
  an : PySem.W.nsIn K cStatics "thirdparty.any" = some none
  hm : PySem.W.ks_superIn K C C "__init__" = some (some (.builtin veI))
  hV : PySem.W.subIn K (.ref C) (.type "ValueError") = some true
  hs : PySem.W.mroIn K C (.ref C) = some true
  ht : (P.main.scope.names.lookup ("super" : Str)).isSome = false
structure ScS (ps : List Str) (sc : Scope) : Prop where
  kind : sc.kind = .function
  co : sc.isCoroutine = false
  gen : sc.isGenerator = false
  nd : ps.Nodup
  par : ∀ x ∈ ps, sc.names.lookup x = some .local
  nocell : ∀ x ∈ sc.names, x.2 ≠ .cell
  free : ∀ x ∈ sc.names, x.2 = .free → x.1 = "__class__"
  cls : sc.names.lookup ("__class__" : Str) = some .free
  sup : sc.names.lookup ("super" : Str) = some .globalImplicit
abbrev enS (qual : Str) (sc : Scope) (L f : Addr) (cd : Value) (cc : Addr) : Env := PySem.W.envX qual sc L f cd [("__class__", cc)]
/-- what must be seen of the text super().__init__(ej) -/
structure TxS (qual : Str) (sc : Scope) (ej : Expr) (p0 p1 p2 p3 p4 : Pos) : Prop where
  hi : ∀ L f cd cc, interactive (enS qual sc L f cd cc) = false
  hs : ∀ L f cd cc, swapsWith (.Call (.Attribute (.Call (.Name "super" p0) [] [] p1) "__init__" p2) [ej] [] p3) none p4.line (enS qual sc L f cd cc) = pure false
  he : ∀ L f cd cc, ∃ pl : Sem Bool, eval (.Call (.Attribute (.Call (.Name "super" p0) [] [] p1) "__init__" p2) [ej] [] p3) (enS qual sc L f cd cc) = (do
      let ov ← attributeBase (.Call (.Name "super" p0) [] [] p1) "__init__" (enS qual sc L f cd cc) (eval (.Call (.Name "super" p0) [] [] p1) (enS qual sc L f cd cc))
      standAt p2.atName
      let (f', first) ← holding [ov] (getMethod ov "__init__" pl)
      callWith p3 f' first (backTo p3 (starEach [ej] (enS qual sc L f cd cc))) [])
  st : ∀ L f cd cc, starEach [ej] (enS qual sc L f cd cc) = (false, eval ej (enS qual sc L f cd cc)) :: starEach [] (enS qual sc L f cd cc)
  pl : ∀ L f cd cc, (backTo p3 (starEach [] (enS qual sc L f cd cc))).any (·.1) = false
/-- the context of such a body -/
def cxS (P : Program) (w : World) (K : PySem.W.Frag) (mg : Str → Option Value) (base : Heap) (N : List Str) (qual : Str) (sc : Scope) (f : Addr) (cd : Value) (cc : Addr) (A : Around) (outer : List Env) (s : Shared) (H : Hp) : Cx :=
  let env := enS qual sc s.heap.objs.size f cd cc
  { prog := P, w := w, K := K, mg := mg, base := base, A := A.deeper env, N := N, s_0 := s, H_0 := H, env := env, outer := outer, stack := env :: outer, ex := [], fn := fun _ => false, calm := true, pn := [], xe := fun _ _ => False }
section
variable {X : Cx} {pins : List (Addr × Obj)} {σ : L2.St} {H : Hp} {s : Shared} {a C u : Addr} {us : List Value} {Q : Value → Shared → Prop}
end
section
variable {P : Program} {w : World} {K : PySem.W.Frag} {mg : Str → Option Value} {base : Heap}
end
end Ty

/-! Ty12 -/
namespace Ty
open PySem PySem.Spec L2
open PyProof.Rows
/-! ### defs that may raise -/
/-- an error of an own class: its name and its fields -/
abbrev Exn := String × List XF
inductive Rx (ρ : Type) where
  | ok (r : ρ)
  | ex (e : Exn)
def exK {α β : Type} (o : Option (Rx α)) (ke : Exn → Option β) (kk : α → Option β) : Option β := o.bind fun
  | .ok r => kk r
  | .ex e => ke e
theorem exK_some {α β : Type} {o : Option (Rx α)} {ke : Exn → Option β} {kk : α → Option β} {b : β} (h : exK o ke kk = some b) : (∃ e, o = some (.ex e) ∧ ke e = some b) ∨ ∃ r, o = some (.ok r) ∧ kk r = some b := by
  unfold exK at h
  obtain ⟨x, h1, h2⟩ := Option.bind_eq_some_iff.mp h
  cases x with
  | ok r => exact .inr ⟨r, h1, h2⟩
  | ex e => exact .inl ⟨e, h1, h2⟩
/-- how an error is told: its class, its dict -/
abbrev ExT := Exn → Value → Option Addr → Hp → Prop
def slRx {ρ : Type} (Sr : ρ → Slot) : Rx ρ → Slot
  | .ok r => Sr r
  | .ex _ => { P := fun _ _ _ _ => False, mono := fun _ _ h => h, st := True, mm := fun _ {_ _ _ _ _ _} _ _ h => h }
section
variable {P : Program} {w : World} {K : PySem.W.Frag} {mg : Str → Option Value} {base : Heap} {k : Nat}
def spX {ι ρ : Type} (As : ι → List Slot) (m : ι → Option (Rx ρ)) (Sr : ρ → Slot) (X : ExT) : Sp := fun vs H Q E => ∃ (z : ι) (r : Rx ρ) (F : Hp), m z = some r ∧ Same F H ∧ Slots F H [] (vs.map some) (As z) ∧
  (∀ v F' H' fp, Wo ⟨F, H, []⟩ F' H' fp → (slRx Sr r).P F' H' fp (some v) → Q v H') ∧
  ∀ e, r = .ex e → ∀ cls d F' H', Wo ⟨F, H, []⟩ F' H' [] → X e cls d F' → E cls d H'
def fbX (P : Program) (w : World) (K : PySem.W.Frag) (mg : Str → Option Value) (base : Heap) (N : List Str) (qual : Str) (st : Stmt) (f : Addr) (cdv : Value) (A : Around) (outer : List Env) (s : Shared) (H : Hp) (E : XK) (k : Nat) (hr : Room k (A.deeper (envOfC qual (defScope st) s.heap.objs.size f cdv))) (nd : N.Nodup) : Fa P w K mg base k where
  I := Unit
  X := fun _ => cxOf (L2.CX P w) P w K mg base N qual (defScope st) f cdv A outer s H E
  hP := fun _ => rfl
  hw := fun _ => rfl
  hK := fun _ => rfl
  hM := fun _ => rfl
  hB := fun _ => rfl
  cm := true
  hC := fun _ => rfl
  hR := fun _ _ => hr
  hU := fun _ => hr.units
  W := fun cls d _ H => E cls d H
  tk := fun _ => takes_of rfl rfl rfl rfl
  hN := fun _ => nd
  hO := fun _ => passes_of rfl
/-- what a body's wish of errors is: at the entry B nothing owned; r: how the def ends -/
def Wish (Wx : WX) (B : Bs) (Γ : List Slot) (X : ExT) (e : Exn) : Prop := ∀ cls d σ F H os, In B F H os σ Γ → X e cls d F → Wx cls d σ H
variable {Y : Fa P w K mg base k} {i : Y.I} {e ea eb eo ev tg iter elt : Expr} {es ifs : List Expr} {rest body : List Stmt} {Γ Γ' Γ1 Γ2 Δ Δ' As : List Slot} {a b c r s s' : Slot} {pos : Pos} {B : Bs} {D : Ends} {x f : Str} {p' : Pos} {C : Addr} {EX : ExT} {ex : Exn}
/-- e raises ex -/
def XXe (Y : Fa P w K mg base k) (e : Expr) (Γ : List Slot) (EX : ExT) (ex : Exn) : Prop :=
  ∃ t : TE, (∀ i, PE (Y.X i) e t) ∧ ∀ (B : Bs) (F H : Hp) (os : List Addr) (σ : List (Option V)) (Q : VK), In B F H os σ Γ →
    (∀ cls d F' H' fp, Same F F' → Same H H' → Wo B F' H' (fp ++ os) → EX ex cls d F' → Y.W cls d σ H') → t σ H Q
def XAe (Y : Fa P w K mg base k) (es : List Expr) (Γ : List Slot) (EX : ExT) (ex : Exn) : Prop :=
  ∃ t : TA, (∀ i, PA (Y.X i) es t) ∧ ∀ (B : Bs) (F H : Hp) (os : List Addr) (σ : List (Option V)) (Q : List V → Hp → Prop), In B F H os σ Γ →
    (∀ cls d F' H' fp, Same F F' → Same H H' → Wo B F' H' (fp ++ os) → EX ex cls d F' → Y.W cls d σ H') → t σ H Q
theorem Wish.lift {Wx : WX} {B1 : Bs} (h : Wish Wx B Γ EX ex) (hB : ∀ F H os, Wo B1 F H os → Wo B F H os) : Wish Wx B1 Γ EX ex := fun cls d σ F H os I hx => h cls d σ F H os ⟨hB _ _ _ I.W, I.S⟩ hx
/-! statements whose head raises -/
theorem wish_now (hw : Wish Y.W B Γ EX ex) {F H : Hp} {os : List Addr} {σ : List (Option V)} (I : In B F H os σ Γ) : ∀ cls d F' H' fp, Same F F' → Same H H' → Wo B F' H' (fp ++ os) → EX ex cls d F' → Y.W cls d σ H' := fun cls d F' H' fp f e W hx => hw cls d σ F' H' _ (I.step f e W) hx
/-- raise e -/
def XMk (Y : Fa P w K mg base k) (e : Expr) (Γ : List Slot) (EX : ExT) (ex : Exn) : Prop :=
  ∃ t : L2.St → Hp → XK → Prop, (∀ i, PMk (Y.X i) e t) ∧ ∀ (B : Bs) (F H : Hp) (os : List Addr) (σ : List (Option V)) (Q : XK), In B F H os σ Γ →
    (∀ cls d F' H' fp, Same F F' → Same H H' → Wo B F' H' (fp ++ os) → EX ex cls d F' → Q cls d H') → t σ H Q
theorem go_raise (h : XMk Y e Γ EX ex) (hw : Wish Y.W B Γ EX ex) (hcm : Y.cm = true := by rfl) : Go Y i (.Raise (some e) none pos :: rest) D B Γ := by
  obtain ⟨t, p, rd⟩ := h
  refine go_ps (ps_raise ((Y.hC i).trans hcm) (Y.tk i) (p i)) fun F H σ ⟨os, W, S⟩ => ?_
  exact rd B F H os σ _ (Sta.in W S) (wish_now hw (Sta.in W S))
/-- X('text'), X an own class without own __init__ -/
theorem xm_own {bmB : List Value} {Bn newId initId : String} {m : Str} {j : Nat} {p2 : Pos} (F : ExcBaseFacts Bn newId initId bmB) (q : PySem.W.excIn K C bmB newId = true) (gC : mg x = some (.ref C)) (kC : PySem.W.keepIn K (.ref C) = true) (h1 : PySem.W.subIn K (.ref C) (.type "BaseException") = some true) (h2 : PySem.W.typeIn K (.ref C) = some (.type "type")) (hE : ∀ F, EX ex (.ref C) none F)
    (hg : ∀ i, Gl (Y.X i) x := by intro _; rfl) (hdb : (x == ("__debug__" : Str)) = false := by decide) : XMk Y (.Call (.Name x p') [.Constant (.str m) j p2] [] pos) Γ EX ex :=
  ⟨_, fun i => pmk_own F (by rw [Y.hK i]; exact q) (by rw [Y.hM i]; exact gC) (by rw [Y.hK i]; exact kC) (raises_own (by rw [Y.hK i]; exact h1) (by rw [Y.hK i]; exact h2)) (hg i) hdb,
    fun B F H os σ Q I kk => kk _ none F H [] same_refl same_refl I.W (hE F)⟩
end
end Ty

/-! Ty13 -/
namespace Ty
open PySem PySem.Spec L2
open PyProof.Rows
section
variable {P : Program} {w : World} {K : PySem.W.Frag} {mg : Str → Option Value} {base : Heap} {k : Nat}
/-- a try's body, its wish Wt -/
def Fa.tr (Y : Fa P w K mg base k) (Wt : WX) : Fa P w K mg base k where
  I := { q : Y.I × List (Addr × Obj) × (Value → Shared → Prop) // Takes ((Y.X q.1).tr q.2.1 q.2.2) Wt ∧ PassesOwn (model (Y.X q.1).prog (Y.X q.1).w) (Y.X q.1).A (Y.X q.1).env q.2.2 }
  X := fun j => (Y.X j.1.1).tr j.1.2.1 j.1.2.2
  hP := fun j => Y.hP j.1.1
  hw := fun j => Y.hw j.1.1
  hK := fun j => Y.hK j.1.1
  hM := fun j => Y.hM j.1.1
  hB := fun j => Y.hB j.1.1
  cm := Y.cm
  hC := fun j => Y.hC j.1.1
  hR := fun h j => Y.hR h j.1.1
  hU := fun j => Y.hU j.1.1
  W := Wt
  tk := fun j => j.2.1
  hN := fun j => Y.hN j.1.1
  hO := fun j => j.2.2
/-- an except suite: the exception at a -/
def Fa.suite (Y : Fa P w K mg base k) (a : Addr) (cls : Value) (d : Option Addr) : Fa P w K mg base k where
  I := { q : Y.I × Obj × List (Addr × Obj) // Zc cls d q.2.1 ∧ ∃ vs, q.2.1.data = .fields vs }
  X := fun j => (Y.X j.1.1).suite a ((a, j.1.2.1) :: j.1.2.2)
  hP := fun j => Y.hP j.1.1
  hw := fun j => Y.hw j.1.1
  hK := fun j => Y.hK j.1.1
  hM := fun j => Y.hM j.1.1
  hB := fun j => Y.hB j.1.1
  cm := false
  hC := fun _ => rfl
  hR := fun h => by cases h
  hU := fun j => Y.hU j.1.1
  W := fun _ _ _ _ => False
  tk := fun _ => takes0
  hN := fun j => Y.hN j.1.1
  hO := fun _ => PassesOwn.never
variable {Y : Fa P w K mg base k} {i : Y.I} {e ea eb eo ev tg iter elt : Expr} {es ifs : List Expr} {rest body suite : List Stmt} {b₀ : Stmt} {Γ Γ' Γ1 Γ2 Γh Δ Δ' As : List Slot} {a b c r s s' : Slot} {pos pos' np : Pos} {B : Bs} {D : Ends} {x n f : Str} {p' : Pos} {C : Addr} {EX : ExT} {ex : Exn}
/-- the exception that a suite holds -/
def pRef (a : Addr) : VP Unit := ⟨fun _ v _ => v = .ref a, fun _ h => h⟩
abbrev exS (a : Addr) : Slot := val (pRef a) ()
def tsC (Y : Fa P w K mg base k) (i : Y.I) (sts : List Stmt) : Addr → Value → Option Addr → TS := fun a cls d D σ H => ∀ (oe : Obj) (pn : List (Addr × Obj)), Zc cls d oe → (∃ vs, oe.data = .fields vs) → cont ((Y.X i).suite a ((a, oe) :: pn)) sts D σ H
def tbC (Y : Fa P w K mg base k) (i : Y.I) (sts : List Stmt) : WX → TS := fun Wt D σ H => ∀ (pn : List (Addr × Obj)) (xe : Value → Shared → Prop), Takes ((Y.X i).tr pn xe) Wt → PassesOwn (model (Y.X i).prog (Y.X i).w) (Y.X i).A (Y.X i).env xe → cont ((Y.X i).tr pn xe) sts D σ H
/-- the ends of a suite: the exception's name goes -/
def DS (D : Ends) (jn : Nat) : Ends := { nx := fun σ H => D.nx (σ.set jn none) H, rt := D.rt, bk := fun σ H => D.bk (σ.set jn none) H, ct := fun σ H => D.ct (σ.set jn none) H }
theorem go_try_as {cv : Value} (jn : Nat) (hc : Names (Y.X i) x cv)
    (hb : ∀ j : (Y.tr (wAs K cv jn (tsC Y i (b₀ :: suite)) Y.W { D with nx := cont (Y.X i) rest D })).I, j.1.1 = i → Go (Y.tr (wAs K cv jn (tsC Y i (b₀ :: suite)) Y.W { D with nx := cont (Y.X i) rest D })) j body { D with nx := cont (Y.X i) rest D } B Γ)
    (hs : (Y.X i).stack = (Y.X i).env :: (Y.X i).outer := by rfl) (hf : (Y.X i).env.frame = some (Y.X i).env.locals := by rfl) (hi : (Y.X i).N[jn]? = some n := by rfl) (hln : (Y.X i).env.kindOf n = some .local := by rfl) :
    Go Y i (.Try body [.ExceptHandler (some (.Name x np)) (some n) (b₀ :: suite) pos'] [] [] pos :: rest) D B Γ := by
  refine go_ps (ps_try_as (tb := tbC Y i body) (ts := tsC Y i (b₀ :: suite)) hs hf (Y.hN i) hi hln hc (Y.tk i) (fun W pn xe tk po => ⟨fun pins s σ H D I h => h pn xe tk po pins s I⟩) (fun a oe cls d pn hz hf => ⟨fun pins s σ H D I h => h oe pn hz hf pins s I⟩)) fun F H σ S => ?_
  rw [Y.hK i]
  intro pn xe tk po
  exact hb ⟨(i, pn, xe), tk, po⟩ rfl F H σ S
theorem go_try_only {cv : Value} (hc : Names (Y.X i) x cv)
    (hb : ∀ j : (Y.tr (wOnly K cv (tsC Y i (b₀ :: suite)) Y.W { D with nx := cont (Y.X i) rest D })).I, j.1.1 = i → Go (Y.tr (wOnly K cv (tsC Y i (b₀ :: suite)) Y.W { D with nx := cont (Y.X i) rest D })) j body { D with nx := cont (Y.X i) rest D } B Γ)
    (hs : (Y.X i).stack = (Y.X i).env :: (Y.X i).outer := by rfl) (hf : (Y.X i).env.frame = some (Y.X i).env.locals := by rfl) :
    Go Y i (.Try body [.ExceptHandler (some (.Name x np)) none (b₀ :: suite) pos'] [] [] pos :: rest) D B Γ := by
  refine go_ps (ps_try_only (tb := tbC Y i body) (ts := tsC Y i (b₀ :: suite)) hs hf hc (Y.tk i) (fun W pn xe tk po => ⟨fun pins s σ H D I h => h pn xe tk po pins s I⟩) (fun a oe cls d pn hz hf => ⟨fun pins s σ H D I h => h oe pn hz hf pins s I⟩)) fun F H σ S => ?_
  rw [Y.hK i]
  intro pn xe tk po
  exact hb ⟨(i, pn, xe), tk, po⟩ rfl F H σ S
/-- a state read otherwise: what was frozen stays -/
theorem Sta.wkF {F H : Hp} {σ : L2.St} (S : Sta B F H σ Γ) (w : WkL Γ Γ') : ∃ F', Same F F' ∧ Sta B F' H σ Γ' := by
  obtain ⟨os, W, S1⟩ := S
  obtain ⟨x, y, e, kk⟩ := S1.wk W.sub w
  obtain ⟨F', W', hF, hx⟩ := (W.perm e).freeze
  exact ⟨F', hF, y, W', kk F' hF W'.sub hx⟩
/-- the error is caught: from there the suite -/
theorem wish_as {cv : Value} {jn : Nat} {sts : List Stmt} {Wout : WX} {Γd : List Slot} (hex : ∀ cls d F, EX ex cls d F → PySem.W.exmOne K cls cv = some true) (hw : WkL Γ Γd) (hj : Nat.blt jn Γd.length = true)
    (h : ∀ a cls d F, EX ex cls d F → ∃ p : VP Unit, p.R F (.ref a) () ∧ ∀ j : (Y.suite a cls d).I, j.1.1 = i → Go (Y.suite a cls d) j sts (DS D jn) B (Γd.set jn (val p ()))) : Wish (wAs K cv jn (tsC Y i sts) Wout D) B Γ EX ex := by
  rintro cls d σ F H os ⟨W, o2, r0, hp, S⟩ hx
  refine ⟨true, hex cls d F hx, fun _ a ha oe pn hz hf => ?_, fun z => by cases z⟩
  have S0 : Sta B F H σ Γ := ⟨o2, (W.perm hp).dropR, S⟩
  obtain ⟨F', hF, o3, W3, S3⟩ := S0.wkF hw
  obtain ⟨p, hpR, hgo⟩ := h a cls d F hx
  obtain ⟨o4, d4, S4, p4⟩ := S3.put (r := val p ()) (fp := []) (o := some (.ref a)) ⟨rfl, _, rfl, p.mono hF hpR⟩ (Nat.le_of_ble_eq_true hj)
  exact hgo ⟨(i, oe, pn), hz, hf⟩ rfl F' H _ ⟨o4, (W3.perm (by simpa using p4)).drop, S4⟩
theorem wish_only {cv : Value} {sts : List Stmt} {Wout : WX} {Γd : List Slot} (hex : ∀ cls d F, EX ex cls d F → PySem.W.exmOne K cls cv = some true) (hw : WkL Γ Γd)
    (h : ∀ a cls d F (j : (Y.suite a cls d).I), EX ex cls d F → j.1.1 = i → Go (Y.suite a cls d) j sts D B Γd) : Wish (wOnly K cv (tsC Y i sts) Wout D) B Γ EX ex := by
  rintro cls d σ F H os ⟨W, o2, r0, hp, S⟩ hx
  refine ⟨true, hex cls d F hx, fun _ a ha oe pn hz hf => ?_, fun z => by cases z⟩
  have S0 : Sta B F H σ Γ := ⟨o2, (W.perm hp).dropR, S⟩
  obtain ⟨F', S3⟩ := S0.wk hw
  exact h a cls d F ⟨(i, oe, pn), hz, hf⟩ hx rfl F' H _ S3
/-- behind the try's body: what follows the try -/
theorem go_end {Y2 : Fa P w K mg base k} {j : Y2.I} (h : Go Y i rest D B Γ) : Go Y2 j [] { D with nx := cont (Y.X i) rest D } B Γ := go_nil fun σ H ⟨F, S⟩ => h F H σ S
/-- an own class's name as a value -/
theorem x_cls (hm : mg x = some (.ref C)) (hg : ∀ i, Gl (Y.X i) x := by intro _; rfl) (hd : (x == ("__debug__" : Str)) = false := by decide) : XV Y (.Name x pos) Γ (val (pRef C) ()) :=
  x_glob (v := .ref C) hm rfl (fun _ => rfl) hg hd
/-- isinstance(e, X), e what the suite holds, without a dict -/
theorem x_isE {a Dc : Addr} {b : Bool} (hm : mg "isinstance" = none) (hE : ExcC K Dc) (hk : PySem.W.kitOne K (.ref Dc) (.ref C) = some b) (h1 : XV (Y.suite a (.ref Dc) none) ea Γ (exS a)) (h2 : XV (Y.suite a (.ref Dc) none) eb Γ (val (pRef C) ()))
    (hg : ∀ i, Gl ((Y.suite a (.ref Dc) none).X i) "isinstance" := by intro _; rfl)
    (hs2 : ∀ i, starEach [eb] ((Y.suite a (.ref Dc) none).X i).env = (false, eval eb ((Y.suite a (.ref Dc) none).X i).env) :: starEach [] ((Y.suite a (.ref Dc) none).X i).env := by intro _; rfl)
    (hs : ∀ i, starEach [ea, eb] ((Y.suite a (.ref Dc) none).X i).env = (false, eval ea ((Y.suite a (.ref Dc) none).X i).env) :: starEach [eb] ((Y.suite a (.ref Dc) none).X i).env := by intro _; rfl)
    (hpl : ∀ i, (backTo pos (starEach [eb] ((Y.suite a (.ref Dc) none).X i).env)).any (·.1) = false := by intro _; rfl) : XV (Y.suite a (.ref Dc) none) (.Call (.Name "isinstance" p') [ea, eb] [] pos) Γ (vBl b) := by
  have hc : ∀ j, CallR ((Y.suite a (.ref Dc) none).X j) (.builtin "isinstance") (rIsE K Dc a) := fun j => by
    have h := call_isE (X := Y.X j.1.1) (a := a) (D := Dc) (pn := j.1.2.2) (by rw [Y.hK]; exact hE) j.2.1 j.2.2
    rw [Y.hK] at h
    exact h
  refine x_callB hc hm (by decide +kernel) (c := vBl b) (opA2 fun B F H x y fx fy os Q W p1 p2 q => ?_) (xa2 h1 h2 hs2 hs) hg (he := hs) (hpl := hpl)
  obtain ⟨_, r1⟩ := val_P p1
  obtain ⟨_, r2⟩ := val_P p2
  cases r1; cases r2
  exact ⟨.ref C, .ref C, b, rfl, fun u hu => hu, hk, q _ F H [] same_refl same_refl W.drop.drop ⟨rfl, _, rfl, rfl⟩⟩
end
end Ty

/-! Ty14 -/
namespace Ty
open PySem PySem.Spec L2
open PyProof.Rows
section
variable {P : Program} {w : World} {K : PySem.W.Frag} {mg : Str → Option Value} {base : Heap} {k : Nat}
variable {Y : Fa P w K mg base k} {i : Y.I} {e ea eb eo ev tg iter elt : Expr} {es ifs : List Expr} {rest body suite : List Stmt} {Γ Γ' As : List Slot} {a b c r s s' : Slot} {pos kpos : Pos} {B : Bs} {D : Ends} {x n f : Str} {p' : Pos} {C : Addr} {EX : ExT} {ex : Exn} {kws : List Keyword}
/-! ### keywords -/
def XK' (Y : Fa P w K mg base k) (kws : List Keyword) (Γ As : List Slot) : Prop :=
  ∃ t : TA, (∀ i, PK (Y.X i) kws t) ∧ ∀ (B : Bs) (F H : Hp) (os : List Addr) (σ : List (Option V)) (Q : List V → Hp → Prop), In B F H os σ Γ →
    (∀ vs F' H' fp, Same F F' → Same H H' → Wo B F' H' (fp ++ os) → Slots F' H' fp (vs.map some) As → Q vs H') → t σ H Q
/-- the positional values, then the keywords' in the order of the parameters -/
def gK (n m : Nat) : List Value → List Value → List Value := fun us ws => if us.length = n ∧ ws.length = m then us ++ ws else []
def gKV (n m : Nat) : List V → List V → List V := fun us ws => if us.length = n ∧ ws.length = m then us ++ ws else []
def tCallKS (na nb : Nat) (sp : Sp) (E : L2.St → XK) (t tk : TA) : TE := fun σ H Q => t σ H fun vs H1 => tk σ H1 fun zs H2 => sp (gKV na nb vs zs) H2 Q (E σ)
end
end Ty

/-! Ty15 -/
/-! set(xs) of a list of ints, sorted of it -/
namespace Ty
section
open PySem PySem.W PySem.Calls PySem.Spec L2 PyProof.Rows
variable {P : Program} {w : World} {A : Around} {E : Value → Shared → Prop} {s : Shared}
abbrev nSet (w : World) : Obj := { cls := .type "set", dict := none, data := .set #[] 0 (.fresh 0 0 (!w.params.followText "set-order")) }
theorem call_setL {l : Addr} {items : Array Value} (ns : List Int) {Q : Value → Shared → Prop} (hh : A.handled = none) (hl : s.heap.IsList l items) (hit : IntsAre items.toList ns) (hb : ns.length + 1 < scanBound)
    (h : ∀ (h' : Heap) (tk c : Nat), SetR w h' s.heap.objs.size (fun j => decide (j ∈ ns)) c → c ≤ ns.length → (∀ b o, s.heap.get? b = some o → h'.get? b = some o) → Q (.ref s.heap.objs.size) { s with heap := h', toks := tk }) :
    wpAny (model P w) A (call (.type "set") [.ref l]) Q E s := by
  have szl : items.size = ns.length := by have q := IntsAre.length hit; rwa [Array.length_toList] at q
  obtain ⟨c, tl, mro⟩ := F.called_set.mro
  have a1 := F.called_set.made; have a2 := F.called_set.sub; have a3 := F.called_set.notType; have a4 := F.called_set.canCreate; have a5 := F.typeCall_set_1 (.ref l)
  refine wpAny_call (codeAny_of_tree ?_); show wpAny _ _ (callAny (.type "set") _) _ _ _
  refine wpAny_pure ⟨Code.quiet_builtin _ (by decide +kernel), codeAny_builtin F.entry_type_call ?_⟩; rw [Around.under_plain (weight_type_call_type "set" [.ref l] []) rfl]
  repeat (any_goals (first | assumption | wp_step))
  have S0 : (s.heap.push (nSet w)).get? s.heap.objs.size = some (nSet w) := Heap.get?_push_size _ rfl
  refine codeAny_mono (code_set_led1 (.ref l) (E := E) (Q₁ := fun ob t => ob = .ref s.heap.objs.size ∧ t = { s with heap := s.heap.push (nSet w) }) ⟨rfl, rfl⟩) fun r s₁ hr => ?_
  match r, hr with
  | .error e, hr => exact hr
  | .ok .next, hr => exact hr.elim
  | .ok .brk, hr => exact hr.elim
  | .ok .cont, hr => exact hr.elim
  | .ok (.ret ob), hr =>
    obtain ⟨rfl, rfl⟩ := hr
    have T0 : Shared.TypeIs { s with heap := s.heap.push (nSet w) } (.ref s.heap.objs.size) "set" := ⟨_, S0, rfl⟩
    have b1 := F.called_set.init.lookup; have b2 := F.called_set.init.bind (.ref s.heap.objs.size)
    repeat (any_goals (first | assumption | wp_step))
    refine codeAny_mono (codeAny_call_builtin (R := wants (fun r t => r = .none ∧ ∃ h' tk c, t = { s with heap := h', toks := tk } ∧ SetR w h' s.heap.objs.size (fun j => decide (j ∈ ns)) c ∧ c ≤ ns.length ∧ ∀ b o, s.heap.get? b = some o → h'.get? b = some o) E) F.called_set.init.plain F.entry_set_init (check_set_init_1 T0 ?_)) fun r₂ s₂ hr₂ => ?_
    · obtain ⟨⟨oc, od, odt, osl⟩, ho, hc, nl, hd⟩ := hl
      simp only at hc hd; subst hc; subst hd
      have ho1 : (s.heap.push (nSet w)).get? l = some { cls := .type "list", dict := od, data := .seq items nl, slots := osl } := Heap.get?_push_of_some _ ho
      have d1 := F.sub_list_set; have d2 := F.sub_list_frozenset
      have d3 : (Value.type "list" == Value.type "dict") = false := by decide
      have L1 : (s.heap.push (nSet w)).IsList l items := ⟨_, ho1, rfl, nl, rfl⟩
      unfold Builtin.«set.__init__» noKeywords Builtin.Frozenset.updateFrom; generalize hPI : pyIter = PI
      wp_walk
      subst hPI
      refine wpAny_pyIter_list L1 (wpAny_bind (wpAny_runValue ?_))
      have lt0 : l < s.heap.objs.size := Heap.lt_size ho
      have hh3 : A.in1.in1.in1.handled = none := by simp [hh]
      have ne1 : l ≠ (s.heap.push (nSet w)).objs.size := by rw [Heap.size_push]; exact Nat.ne_of_lt (Nat.lt_succ_of_lt lt0)
      have ne2 : s.heap.objs.size ∉ [(s.heap.push (nSet w)).objs.size, l] := by
        rw [Heap.size_push]; simp only [List.mem_cons, List.mem_singleton, List.not_mem_nil, or_false, not_or]; exact ⟨Nat.ne_of_lt (Nat.lt_succ_self _), Nat.ne_of_gt lt0⟩
      have vals : ∀ (i : Nat) (v : Value), items[i]? = some v → ∃ k t, ns[i]? = some k ∧ v = .int k t := fun i v hv => by
        have hi : i < ns.length := by rw [← szl]; exact (Array.getElem?_eq_some_iff.mp hv).1
        obtain ⟨t, e⟩ := IntsAre.int_at hit i v (by rw [Array.getElem?_toList]; exact hv)
        exact ⟨ns[i], t, List.getElem?_eq_getElem hi, by rw [e, List.getD_eq_getElem?_getD, List.getElem?_eq_getElem hi] <;> rfl⟩
      refine set_update_ints ((Walks.list hh3 _ l ne1 items).toS) s.heap.objs.size ne2 ns szl hb vals (items.size - 0) 0 _ (by omega) (Nat.zero_le _) ⟨⟨_, Heap.get?_push_size _ rfl, rfl, rfl⟩, L1.push _⟩ ⟨0, Nat.le_refl 0, setR_new_at (Heap.get?_push_of_some _ S0)⟩ fun t c2 mv hc2 hS2 => ?_
      obtain ⟨h2, g2, d2', tk2, os2⟩ := t
      obtain rfl : g2 = s.gens := mv.gens
      obtain rfl : d2' = s.drawn := mv.drawn
      obtain rfl : os2 = s.os := mv.os
      show wpAny _ _ _ _ _ _
      refine wpAny_pure ?_; show wpAny _ _ (ret Value.none) _ _ _
      refine wpAny_pure ⟨rfl, h2, tk2, c2, rfl, hS2, by rw [← szl]; exact hc2, fun b o e => ?_⟩
      have lb : b < s.heap.objs.size := Heap.lt_size e
      refine mv.heap b o ?_ (Heap.get?_push_of_some _ (Heap.get?_push_of_some _ e))
      simp only [List.mem_cons, List.mem_singleton, List.not_mem_nil, or_false, not_or]
      refine ⟨Nat.ne_of_lt lb, ?_⟩
      rw [Heap.size_push]; exact Nat.ne_of_lt (Nat.lt_succ_of_lt lb)
    · match r₂, hr₂ with
      | .error e, hr₂ => exact hr₂
      | .ok .next, hr₂ => exact hr₂.elim
      | .ok .brk, hr₂ => exact hr₂.elim
      | .ok .cont, hr₂ => exact hr₂.elim
      | .ok (.ret r), hr₂ =>
        obtain ⟨rfl, h2, tk2, c2, rfl, hS2, hc2, k2⟩ := hr₂
        repeat (any_goals (first | assumption | wp_step))
        exact h _ _ _ hS2 hc2 k2
end
end Ty

/-! Ty16 -/
namespace Ty
open PySem PySem.Spec L2
/-! ### ints in order, each once -/
def insD (k : Int) : List Int → List Int
  | [] => [k]
  | x :: r => if k < x then k :: x :: r else if k = x then x :: r else x :: insD k r
def sortD (xs : List Int) : List Int := xs.foldr insD []
theorem mem_insD {k y : Int} : ∀ {l : List Int}, y ∈ insD k l ↔ y = k ∨ y ∈ l
  | [] => by simp [insD]
  | x :: r => by
    unfold insD
    by_cases h1 : k < x
    · rw [if_pos h1]; simp
    · rw [if_neg h1]
      by_cases h2 : k = x
      · rw [if_pos h2]; subst h2; simp
      · rw [if_neg h2, List.mem_cons, mem_insD, List.mem_cons]
        constructor
        · rintro (h | h | h)
          · exact .inr (.inl h)
          · exact .inl h
          · exact .inr (.inr h)
        · rintro (h | h | h)
          · exact .inr (.inl h)
          · exact .inl h
          · exact .inr (.inr h)
theorem pw_insD {k : Int} : ∀ {l : List Int}, l.Pairwise (· < ·) → (insD k l).Pairwise (· < ·)
  | [], _ => by simp [insD]
  | x :: r, h => by
    obtain ⟨h1, h2⟩ := List.pairwise_cons.mp h
    unfold insD
    by_cases g1 : k < x
    · rw [if_pos g1]
      refine List.pairwise_cons.mpr ⟨fun y hy => ?_, h⟩
      rcases List.mem_cons.mp hy with rfl | hy
      · exact g1
      · exact Int.lt_trans g1 (h1 y hy)
    · rw [if_neg g1]
      by_cases g2 : k = x
      · rw [if_pos g2]; exact h
      · rw [if_neg g2]
        refine List.pairwise_cons.mpr ⟨fun y hy => ?_, pw_insD h2⟩
        rcases mem_insD.mp hy with rfl | hy
        · omega
        · exact h1 y hy
theorem mem_sortD {y : Int} : ∀ {xs : List Int}, y ∈ sortD xs ↔ y ∈ xs
  | [] => by simp [sortD]
  | x :: xs => by
    show y ∈ insD x (sortD xs) ↔ _
    rw [mem_insD, mem_sortD, List.mem_cons]
theorem pw_sortD : ∀ xs : List Int, (sortD xs).Pairwise (· < ·)
  | [] => List.Pairwise.nil
  | x :: xs => pw_insD (pw_sortD xs)
theorem pw_unique : ∀ {l l' : List Int}, l.Pairwise (· < ·) → l'.Pairwise (· < ·) → (∀ y, y ∈ l ↔ y ∈ l') → l = l'
  | [], [], _, _, _ => rfl
  | [], x :: r, _, _, h => absurd ((h x).mpr List.mem_cons_self) (by simp)
  | x :: r, [], _, _, h => absurd ((h x).mp List.mem_cons_self) (by simp)
  | x :: r, z :: q, h1, h2, h => by
    obtain ⟨a1, a2⟩ := List.pairwise_cons.mp h1
    obtain ⟨b1, b2⟩ := List.pairwise_cons.mp h2
    have e : x = z := by
      have c1 := (h x).mp List.mem_cons_self
      have c2 := (h z).mpr List.mem_cons_self
      rcases List.mem_cons.mp c1 with e | c1
      · exact e
      · rcases List.mem_cons.mp c2 with e | c2
        · exact e.symm
        · have d1 := b1 x c1
          have d2 := a1 z c2
          omega
    subst e
    congr 1
    refine pw_unique a2 b2 fun y => ⟨fun hy => ?_, fun hy => ?_⟩
    · rcases List.mem_cons.mp ((h y).mp (List.mem_cons_of_mem _ hy)) with e | hy'
      · subst e; exact absurd (a1 y hy) (Int.lt_irrefl _)
      · exact hy'
    · rcases List.mem_cons.mp ((h y).mpr (List.mem_cons_of_mem _ hy)) with e | hy'
      · subst e; exact absurd (b1 y hy) (Int.lt_irrefl _)
      · exact hy'
section
variable {P : Program} {w : World} {K : PySem.W.Frag} {mg : Str → Option Value} {base : Heap} {k : Nat}
variable {Y : Fa P w K mg base k} {i : Y.I} {e ea eb eo ev tg iter elt : Expr} {Γ : List Slot} {s : Slot} {ns : List Int}
def rSetI (K : PySem.W.Frag) (w : World) : List V → Hp → VK → Prop := fun xs H Q => ∃ (l : Addr) (ns : List Int), xs = [.ref l] ∧ SqL K H l (ns.map V.int) ∧ ns.length < 64 ∧ ∀ p n, H p = none → n ≤ ns.length → Q (.ref p) (upd H p (SetO w p (fun j => decide (j ∈ ns)) n))
theorem cr_setI {X : Cx} (hc : X.calm = true) : CallR X (.type "set") (rSetI X.K X.w) := by
  intro pins s σ H xs us Q I r h
  obtain ⟨l, ns, rfl, hs, h64, q⟩ := h
  obtain ⟨its, rv, pl, hz⟩ := I.list hs
  rw [Vals.ref1 r]
  refine call_setL ns (I.ok.hd hc) pl.isList (by simpa using rv.ints) (by unfold scanBound; omega) fun h' tk c R hc' kp => ?_
  exact ⟨.ref _, upd H s.heap.objs.size (SetO X.w s.heap.objs.size (fun j => decide (j ∈ ns)) c), I.laid (t' := tk) (fun b u e => kp b u e) (Nat.le_refl _) (setO_new R), rfl, q _ c (I.hok.fresh (Nat.le_refl _)) hc'⟩
theorem c_sortSet (Y : Fa P w K mg base k) (hcm : Y.cm = true := by rfl) (i : Y.I) : CallR (Y.X i) (.builtin "sorted") (rSortedSet w) := by have h := cr_sortedSet (X := Y.X i) ((Y.hC i).trans hcm); rw [Y.hw i] at h; exact h
/-- a set of ints, owned -/
def setS (w : World) (ns : List Int) : Slot where
  P := fun F H fp o => ∃ a n, o = some (.ref a) ∧ fp = [a] ∧ H a = some (SetO w a (fun j => decide (j ∈ ns)) n) ∧ n < 64
  mono := fun _ hH h => let ⟨a, n, e1, e2, h1, h2⟩ := h; ⟨a, n, e1, e2, hH _ _ h1, h2⟩
  st := True
  mm := fun _ {_ _ _ _ _ _} _ hH h => let ⟨a, n, e1, e2, h1, h2⟩ := h; ⟨a, n, e1, e2, by rw [hH a (by rw [e2]; simp)]; exact h1, h2⟩
theorem o_sortSet : OpA (rSortedSet w) [setS w ns] (own (oL pInt) (sortD ns)) := opA1 fun B F H v fx os Q W pv q => by
  obtain ⟨a, n, ev, ef, h1, h2⟩ := pv
  cases ev
  refine ⟨a, _, n, rfl, h1, h2, fun ms p hpw hm hl hp => ?_⟩
  have e : ms = sortD ns := pw_unique hpw (pw_sortD ns) fun y => by rw [hm y, mem_sortD]; simp
  subst e
  exact newL W.drop hp (paired_map_int _) q
end
end Ty

/-! Ty17 -/
namespace Ty
open PySem PySem.Spec L2
section
variable {P : Program} {w : World} {K : PySem.W.Frag} {mg : Str → Option Value} {base : Heap} {k : Nat}
variable {Y : Fa P w K mg base k} {i : Y.I} {e ea eb eo ev tg iter elt : Expr} {Γ : List Slot} {s : Slot} {pos p1 p2 : Pos}
theorem exm_mk {C : Addr} {cls : Value} {b : Bool} (h1 : PySem.W.subIn K (.ref C) (.type "BaseException") = some true) (hi : PySem.W.isClsIn K C = true) (ht : PySem.W.typeIn K (.ref C) = some (.type "type")) (hs : PySem.W.subIn K cls (.ref C) = some b) : PySem.W.exmOne K cls (.ref C) = some b := by
  unfold PySem.W.isClsIn at hi
  unfold PySem.W.exmOne PySem.W.kitCls
  rw [h1]
  show (if ((PySem.W.clsIn K C).isSome && PySem.W.typeIn K (.ref C) == some (.type "type")) = true then PySem.W.subIn K cls (.ref C) else none) = some b
  rw [hi, ht, hs]; rfl
theorem kit_mk {C Dc : Addr} {b : Bool} (hne : (Value.ref Dc == Value.ref C) = false) (hi : PySem.W.isClsIn K C = true) (ht : PySem.W.typeIn K (.ref C) = some (.type "type")) (hs : PySem.W.subIn K (.ref Dc) (.ref C) = some b) : PySem.W.kitOne K (.ref Dc) (.ref C) = some b := by
  unfold PySem.W.isClsIn at hi
  unfold PySem.W.kitOne PySem.W.kitCls
  rw [hne]
  show (if ((PySem.W.clsIn K C).isSome && PySem.W.typeIn K (.ref C) == some (.type "type")) = true then PySem.W.subIn K (.ref Dc) (.ref C) else none) = some b
  rw [hi, ht, hs]; rfl
/-! ### list(range(..)), tuple(range(..)) -/
/-! ### values of any make -/
def pDa (K : PySem.W.Frag) : VP PyData := ⟨fun F v d => Dp K F v d, fun hF h => Dp.mono hF h⟩
theorem XV.data {α : Type} [DecidableEq α] {p : VP α} {ok : α → Prop} {u : α} (E : DE p ok) (h : XV Y e Γ (val p u)) : XV Y e Γ (val (pDa K) (E.enc u)) := h.as fun F H fp o _ ⟨e1, v, e2, r⟩ => ⟨e1, v, e2, E.dp K F v u r⟩
theorem paired_dpAll {F : Hp} : ∀ {vs : List V} {ds : List PyData}, DpAll K F vs ds → Paired ((pDa K).R F) vs ds
  | _, _, .nil => .nil
  | _, _, .cons r t => .cons r (paired_dpAll t)
/-- an item of such a list -/
def pdIx : PyData → Int → Option PyData
  | .list ds, z => atI ds z
  | _, _ => none
def pdLen : PyData → Option Int
  | .list ds => some (ds.length : Int)
  | _ => none
theorem SV.data {ds : List PyData} : SV K (Ty.val (pDa K) (.list ds)) (pDa K) ds := fun F H fp o hS h => by
  obtain ⟨_, v, e, r⟩ := h
  cases (show Dp K F v (.list ds) from r) with
  | lst h1 h2 => exact ⟨_, _, e, Same.seq hS h1, paired_dpAll h2⟩
theorem o_eqP {a b : Slot} {u v : PyData} (ha : Vw a (pDa K) u) (hb : Vw b (pDa K) v) (h1 : SeqAt.shaped u = true) (h2 : SeqAt.shaped v = true) : Op2 (rEqD K) a b (vBl (PyData.eqv u v)) := fun B F H x y fx fy os Q W p1 p2 q => by
  obtain ⟨x', ex, rx⟩ := ha F H fx _ W.sub p1
  obtain ⟨y', ey, ry⟩ := hb F H fy _ W.sub p2
  cases ex; cases ey
  exact ⟨u, v, rx, ry, h1, h2, q _ F H [] same_refl same_refl W.drop.drop ⟨rfl, _, rfl, rfl⟩⟩
/-- what isinstance(d, list) says -/
def pdTy : PyData → Option String
  | .none => some "NoneType"
  | .bool _ => some "bool"
  | .int _ => some "int"
  | .str _ => some "str"
  | .list _ => some "list"
  | .tuple _ => some "tuple"
  | _ => none
theorem TyV.data {d : PyData} {T : String} (h : pdTy d = some T) : TyV K (Ty.val (pDa K) d) T := fun F H fp o hS hp => by
  obtain ⟨_, v, e, r⟩ := hp
  refine ⟨v, e, ?_⟩
  have r2 : Dp K H v d := Dp.mono hS r
  cases r2 with
  | non => cases h; exact .base .non
  | bl b => cases h; exact .base (.bl b)
  | int b => cases h; exact .base (.int b)
  | str b => cases h; exact .base (.str b)
  | lst h1 h2 =>
    cases h
    rcases h1 with (h1 | ⟨o, h1⟩) | ⟨o, its, n, h1, h3, _⟩
    · exact .base (.lst h1)
    · exact .base (.frz h1)
    · exact .kList h1 h3
  | tup h1 h2 =>
    cases h
    rcases h1 with (h1 | ⟨o, h1⟩) | ⟨o, its, n, h1, h3, _⟩
    · exact .base (.tup h1)
    · exact .fTuple h1
    · exact .kTuple h1 h3
end
end Ty

/-! Ty19a -/
namespace Ty
open PySem PySem.Spec L2
open PyProof.Rows
/-! ### what the __init__ of an error with fields promises -/
def XF.ok : XF → Prop
  | .i n => n.natAbs < 2 ^ 64
  | .s x => x.length ≤ 1000
instance (f : XF) : Decidable f.ok := by unfold XF.ok; cases f <;> infer_instance
/-- the dict of such an error -/
abbrev xfd (ns : List Str) (fs : List XF) : List (Str × V) := (ns.zip (fs.map XF.v)).reverse
def spE (C : Addr) (ns : List Str) : Sp := fun vs H Q _ => ∃ (a : Addr) (fs : List XF), vs = .ref a :: fs.map XF.v ∧ fs.length = ns.length ∧ (∀ f ∈ fs, f.ok) ∧ H a = some (exo a C none) ∧
  ∀ dx, H dx = none → dx ≠ a → Q .non (upd (upd H dx (exd dx (xfd ns fs))) a (exo a C (some dx)))
/-- a part of the message f'..': a constant, or a field's value -/
inductive FP (ns : List Str) : Expr → Prop
  | c {t : Str} {j : Nat} {p : Pos} (h : Nat.ble t.length 1000 = true) : FP ns (.Constant (.str t) j p)
  | v {x : Str} {p q : Pos} (i : Nat) (h : ns[i]? = some x) (h1 : (x == ("__debug__" : Str)) = false) (h2 : (x == ("__classdict__" : Str)) = false) : FP ns (.FormattedValue (.Name x p) (-1) none q)
inductive FPs (ns : List Str) : List Expr → Prop
  | nil : FPs ns []
  | cons {e : Expr} {es : List Expr} : FP ns e → FPs ns es → FPs ns (e :: es)
section
variable {X : Cx} {ns : List Str} {fs : List XF} {sc : Scope}
/-- the frame holds the fields -/
def Hd (fs : List XF) (σ : L2.St) : Prop := ∀ (i : Nat) (f : XF), fs[i]? = some f → σ[i + 1]? = some (some f.v)
end
section
variable {P : Program} {w : World} {K : PySem.W.Frag} {mg : Str → Option Value} {base : Heap}
/-- what must be seen of self.f = f -/
def AsOk (qual : Str) (sc : Scope) (f : Str) (r0 r1 r2 r3 : Pos) : Prop := ∀ L g cd cc, swapsWith (.Name f r2) (some (.Attribute (.Name "self" r0) f r1)) r3.line (enS qual sc L g cd cc) = pure false
end
end Ty

/-! Ty19 -/
namespace Ty
open PySem PySem.Spec L2
open PyProof.Rows
def XF.slot : XF → Slot
  | .i n => vInt n
  | .s x => vStr x
/-- an error of the class at C with these fields: how it is told -/
def exFd (C : Addr) (ns : List Str) (e : Exn) (cls : Value) (d : Option Addr) (F : Hp) : Prop := cls = .ref C ∧ ∃ dd, d = some dd ∧ F dd = some (.xd (xfd ns e.2))
section
variable {P : Program} {w : World} {K : PySem.W.Frag} {mg : Str → Option Value} {base : Heap} {k : Nat}
variable {Y : Fa P w K mg base k} {i : Y.I} {e ea eb eo ev tg iter elt : Expr} {es ifs : List Expr} {rest body suite : List Stmt} {b₀ : Stmt} {Γ Γ' Γ1 Γ2 Γh Δ Δ' As : List Slot} {a b c r s s' : Slot} {pos pos' np : Pos} {B : Bs} {D : Ends} {x n f : Str} {p' : Pos} {C : Addr} {EX : ExT} {ex : Exn}
/-- what a suite holds: an error with a dict -/
def pExc (a dd : Addr) (fs : List (Str × V)) : VP Unit := ⟨fun F v _ => v = .ref a ∧ F dd = some (.xd fs), fun hF h => ⟨h.1, hF _ _ h.2⟩⟩
/-- isinstance(n, c) in the suite, n with a dict -/
def rIsD (K : PySem.W.Frag) (Dc a dd : Addr) : List V → Hp → VK → Prop := fun xs H Q => ∃ (c : V) (cv : Value) (b : Bool) (fs : List (Str × V)), xs = [.ref a, c] ∧ (∀ u, RelV c u → u = cv) ∧ PySem.W.kitOne K (.ref Dc) cv = some b ∧ H dd = some (.xd fs) ∧ Q (.bl b) H
end
end Ty

/-! Ty20 -/
/-! expressions that change a place: xs.pop(), xs.pop(i); xs.extend(ys), xs.index(x); an owned local handed on; properties -/
namespace Ty
open PySem PySem.Spec L2
section
variable {P : Program} {w : World} {K : PySem.W.Frag} {mg : Str → Option Value} {base : Heap} {k : Nat}
variable {Y : Fa P w K mg base k} {i : Y.I} {e ea eb eo ev tg iter elt : Expr} {es ifs : List Expr} {rest body : List Stmt} {Γ Γ' Γ1 Γ2 Δ Δ' As : List Slot} {a b c r s s' : Slot} {pos pos' : Pos} {B : Bs} {D : Ends} {x f : Str} {p' : Pos} {C : Addr} {ns : List Str} {α : Type} {p : VP α} {xs : List α}
/-- e gives a value told by r and leads from Γ to Γ' -/
def XM (Y : Fa P w K mg base k) (e : Expr) (Γ : List Slot) (r : Slot) (Γ' : List Slot) : Prop :=
  ∃ t : TE, (∀ i, PE (Y.X i) e t) ∧ ∀ (B : Bs) (F H : Hp) (os : List Addr) (σ : List (Option V)) (Q : VK), Wo B F H os → Slots F H os σ Γ →
    (∀ v F' H' fp os', Wo B F' H' (fp ++ os') → Slots F' H' os' σ Γ' → r.P F' H' fp (some v) → Q v H') → t σ H Q
theorem XM.of (h : XV Y e Γ r) : XM Y e Γ r Γ := by
  obtain ⟨t, p, rd⟩ := h
  exact ⟨t, p, fun B F H os σ Q W S kk => rd B F H os σ Q (Sta.in W S) fun v F' H' fp f1 e1 W1 p1 => kk v F' H' fp os W1 (S.mono f1 e1) p1⟩
theorem go_setM (j : Nat) {py : Pos} (he : XM Y e Γ r Γ') (hg : Go Y i rest D B (Γ'.set j r)) (hj : Nat.blt j Γ'.length = true := by rfl) (hi : (Y.X i).N[j]? = some x := by rfl) (hx : Loc (Y.X i).env.scope x := by first | exact Or.inl rfl | exact Or.inr rfl)
    (hs : swapsWith e (some (.Name x py)) pos.line (Y.X i).env = pure false := by rfl) (hf : (Y.X i).fn x = true ∨ (Y.X i).env.scope.names.lookup x = some .local := by first | exact Or.inl rfl | exact Or.inr rfl) : Go Y i (.Assign [.Name x py] e pos :: rest) D B Γ := by
  obtain ⟨t, p, rd⟩ := he
  refine go_ps (ps_set (Y.hN i) hi hx (p i) hs hf) fun F H σ ⟨os, W, S⟩ => ?_
  refine rd B F H os σ _ W S fun v F1 H1 fp os1 W1 S1 p1 => ?_
  obtain ⟨os', d, h1, h2⟩ := S1.put p1 (Nat.le_of_ble_eq_true hj)
  exact hg F1 H1 _ ⟨os', (W1.perm h2).drop, h1⟩
/-- e as a statement -/
theorem go_exprM (he : XM Y e Γ r Γ') (hg : Go Y i rest D B Γ') (hs : swapsWith e none pos.line (Y.X i).env = pure false := by rfl) : Go Y i (.Expr e pos :: rest) D B Γ := by
  obtain ⟨t, p, rd⟩ := he
  refine go_ps (ps_expr (p i) hs) fun F H σ ⟨os, W, S⟩ => ?_
  exact rd B F H os σ _ W S fun v F1 H1 fp os1 W1 S1 p1 => hg F1 H1 σ ⟨os1, W1.drop, S1⟩
/-- what must be seen of the text of a call o.m() -/
structure Bm0 (X : Cx) (o : Expr) (name : Str) (apos cpos : Pos) : Prop where
  base : attributeBase o name X.env (eval o X.env) = eval o X.env
  line : (apos.endLine == cpos.line) = true
/-- an owned local handed back -/
theorem go_retV (j : Nat) (hs : Γ[j]? = some s) (hso : ∀ F H fp o, s.P F H fp o → ∃ v, o = some v) (hd : ∀ v H, Fi B s v H → D.rt v H) (hN : ∀ i, (Y.X i).N[j]? = some x := by intro _; rfl) (hv : Vis (Y.X i).env.scope x := by first | exact Or.inl rfl | exact Or.inr (Or.inl rfl))
    (hdb : (x == ("__debug__" : Str)) = false := by decide) (hcd : (x == ("__classdict__" : Str)) = false := by decide) : Go Y i (.Return (some (.Name x p')) pos :: rest) D B Γ := by
  refine go_ps (ps_ret (pe_var (hN i) hv hdb hcd)) fun F H σ ⟨os, W, S⟩ => ?_
  obtain ⟨o, fp, rr, e1, h0, hp, _⟩ := S.at hs
  obtain ⟨v, rfl⟩ := hso F H fp o h0
  exact ⟨v, e1, hd v H ⟨F, fp, (W.perm hp).dropR, h0⟩⟩
/-- y = x, x owned: x is not looked at again -/
theorem x_move (j : Nat) (hs : Γ[j]? = some s) (hso : ∀ F H fp o, s.P F H fp o → ∃ v, o = some v) (hst : Stb Γ) (hN : ∀ i, (Y.X i).N[j]? = some x := by intro _; rfl) (hv : ∀ i, Vis (Y.X i).env.scope x := by intro _; first | exact Or.inl rfl | exact Or.inr (Or.inl rfl) | exact Or.inr (Or.inr rfl))
    (hdb : (x == ("__debug__" : Str)) = false := by decide) (hcd : (x == ("__classdict__" : Str)) = false := by decide) : XM Y (.Name x pos) Γ s (Γ.set j dead) := by
  refine ⟨_, fun i => pe_var (hN i) (hv i) hdb hcd, fun B F H os σ Q W S kk => ?_⟩
  obtain ⟨o, fp, rr, e1, h0, hp, hk⟩ := S.at hs
  obtain ⟨v, rfl⟩ := hso F H fp o h0
  refine ⟨v, e1, ?_⟩
  obtain ⟨os', S2, hp2⟩ := hk (F' := F) (H' := H) (fp' := []) (o' := some v) (s' := dead) rfl (fun _ _ _ _ _ q => q)
  have es : σ.set j (some v) = σ := by
    obtain ⟨hj, z⟩ := List.getElem?_eq_some_iff.mp e1
    rw [← z]; exact List.set_getElem_self hj
  rw [es] at S2
  exact kk v F H fp os' (W.perm (hp.trans (List.Perm.append_left fp (by simpa using hp2.symm)))) S2 h0
/-- the first place of u -/
def idxL [DecidableEq α] (xs : List α) (u : α) : Option Nat := xs.findIdx? fun x => decide (x = u)
/-- o.f, a property of a frozen instance -/
theorem x_prop {β ρ : Type} {pa : VP β} {m : β → Option ρ} {Sr : ρ → Slot} {z : β} {q : ρ} {j : Nat} {pp g : Addr} {fd : FuncData} {ps : List Str} (Fn : FnOk P w K mg base CX0 j g fd ps (spP (fun z => [val pa z]) m Sr)) (hj : j + 1 ≤ k) (hc : Cls K C) (hp : PropOf K C f pp g) (hb : Binds K fd ps [])
    (he : XV Y e Γ (val pa z)) (hpo : ∀ F v, pa.R F v z → ∃ x dx fs, v = .ref x ∧ F x = some (.ins C dx fs)) (hq : m z = some q) (hab : ∀ i, attributeBase e f (Y.X i).env (eval e (Y.X i).env) = eval e (Y.X i).env := by intro _; rfl) (hcm : Y.cm = true := by rfl) : XV Y (.Attribute e f pos) Γ (Sr q) := by
  obtain ⟨t, pe, rd⟩ := he
  have FF : ∀ i, FnOk (Y.X i).prog (Y.X i).w (Y.X i).K (Y.X i).mg (Y.X i).base CX0 j g fd ps (spP (fun z => [val pa z]) m Sr) := fun i => by rw [Y.hP i, Y.hw i, Y.hK i, Y.hM i, Y.hB i]; exact Fn
  refine ⟨_, fun i => pe_prop (pe i) (by rw [Y.hK]; exact hc) (by rw [Y.hK]; exact hp) (FF i) ((Y.hR hcm i).mono hj) (by rw [Y.hK i]; exact hb) .nil (pass0 (X := (Y.X i).nox)) (hab i), fun B F H os σ Q I kk => ?_⟩
  refine rd B F H os σ _ I fun v F1 H1 fp f1 e1 W1 p1 => ?_
  obtain ⟨rfl, hR⟩ := val_P p1
  obtain ⟨x, dx, fs, rfl, hx⟩ := hpo F1 v hR
  refine ⟨x, dx, fs, rfl, W1.sub _ _ hx, z, q, F1, hq, W1.sub, Slots.cons (fp := []) ⟨rfl, _, rfl, hR⟩ .nil, fun v2 F2 H2 fp2 W2 p2 => ?_⟩
  obtain ⟨f2, e2, W3⟩ := Wo.called (os := os) W1 W2
  exact kk v2 F2 H2 fp2 (f1.trans f2) (e1.trans e2) W3 p2
theorem pObj_ref {β : Type} {sl : β → List Slot} {z : β} : ∀ (F : Hp) v, (pObj C ns sl).R F v z → ∃ x dx fs, v = .ref x ∧ F x = some (.ins C dx fs) := fun F v h => let ⟨x, dx, vs, e1, h1, _⟩ := h; ⟨x, dx, _, e1, h1⟩
end
end Ty

/-! Ty21 -/
/-! min(xs), max(xs), min(xs, default=d), max(xs, default=d) of a list of ints -/
namespace Ty
open PySem PySem.Spec L2
open PyProof.Rows

section
variable {prog : Program} {w : World} {A : Around} {E : Value → Shared → Prop} {R : Result → Shared → Prop} {it0 : Addr} {fps wrs : List Addr} {cnt : Nat} {Pi : Nat → Value → Prop} {Si : Nat → Heap → Prop} {kws : List (Str × Value)}
end

section
variable {prog : Program} {w : World} {A : Around} {E : Value → Shared → Prop} {R : Result → Shared → Prop} {it0 : Addr} {fps wrs : List Addr} {cnt : Nat} {Pi : Nat → Value → Prop} {Si : Nat → Heap → Prop} {kws : List (Str × Value)}
end
end Ty

/-! Ty22 -/
namespace Ty
open PySem PySem.Spec L2
def mnL : List Int → Option Int
  | [] => none
  | x :: r => some (r.foldl (fun a b => if b < a then b else a) x)
def mxL : List Int → Option Int
  | [] => none
  | x :: r => some (r.foldl (fun a b => if a < b then b else a) x)
theorem mx_fold (r : List Int) : ∀ x : Int, (r.foldl (fun a b => if a < b then b else a) x = x ∨ r.foldl (fun a b => if a < b then b else a) x ∈ r) ∧ x ≤ r.foldl (fun a b => if a < b then b else a) x ∧ ∀ y ∈ r, y ≤ r.foldl (fun a b => if a < b then b else a) x := by
  induction r with
  | nil => intro x; simp
  | cons z r ih =>
    intro x
    obtain ⟨h1, h2, h3⟩ := ih (if x < z then z else x)
    rw [List.foldl_cons]
    generalize List.foldl (fun a b => if a < b then b else a) (if x < z then z else x) r = m at *
    by_cases h : x < z
    · rw [if_pos h] at h1 h2
      refine ⟨.inr ?_, by omega, fun y hy => ?_⟩
      · rcases h1 with h1 | h1
        · rw [h1]; exact List.mem_cons_self
        · exact List.mem_cons_of_mem _ h1
      · rcases List.mem_cons.mp hy with rfl | hy
        · exact h2
        · exact h3 y hy
    · rw [if_neg h] at h1 h2
      refine ⟨?_, h2, fun y hy => ?_⟩
      · rcases h1 with h1 | h1
        · exact .inl h1
        · exact .inr (List.mem_cons_of_mem _ h1)
      · rcases List.mem_cons.mp hy with rfl | hy
        · omega
        · exact h3 y hy
theorem mxL_spec {xs : List Int} {m : Int} (h : mxL xs = some m) : m ∈ xs ∧ ∀ y ∈ xs, y ≤ m := by
  cases xs with
  | nil => cases h
  | cons x r =>
    cases h
    obtain ⟨h1, h2, h3⟩ := mx_fold r x
    refine ⟨?_, fun y hy => ?_⟩
    · rcases h1 with h1 | h1
      · rw [h1]; exact List.mem_cons_self
      · exact List.mem_cons_of_mem _ h1
    · rcases List.mem_cons.mp hy with rfl | hy
      · exact h2
      · exact h3 y hy
theorem mxL_of {xs : List Int} {m : Int} (h : m ∈ xs) (h2 : ∀ y ∈ xs, y ≤ m) : mxL xs = some m := by
  cases e : mxL xs with
  | none => cases xs with
    | nil => cases h
    | cons x r => cases e
  | some q =>
    obtain ⟨a, b⟩ := mxL_spec e
    have := h2 q a
    have := b m h
    congr 1; omega
/-- the readings -/
def rMnD (K : PySem.W.Frag) : List V → List V → Hp → VK → Prop := fun vs zs H Q => ∃ (a : Addr) (ns : List Int) (d : V), vs = [V.ref a] ∧ zs = [d] ∧ SqL K H a (ns.map V.int) ∧ (ns = [] → Q d H) ∧ ∀ m, mnL ns = some m → Q (.int m) H
def rMxD (K : PySem.W.Frag) : List V → List V → Hp → VK → Prop := fun vs zs H Q => ∃ (a : Addr) (ns : List Int) (d : V), vs = [V.ref a] ∧ zs = [d] ∧ SqL K H a (ns.map V.int) ∧ (ns = [] → Q d H) ∧ ∀ m, mxL ns = some m → Q (.int m) H
section
variable {X : Cx}
end
section
variable {P : Program} {w : World} {K : PySem.W.Frag} {mg : Str → Option Value} {base : Heap} {k : Nat}
variable {Y : Fa P w K mg base k} {i : Y.I} {e ea eb eo ev tg iter elt : Expr} {es ifs : List Expr} {rest body : List Stmt} {Γ Γ' Γ1 Γ2 Δ Δ' As : List Slot} {a b c r s s' : Slot} {pos pos' kpos p2 : Pos} {B : Bs} {D : Ends} {x f : Str} {p' : Pos} {C : Addr} {ns : List Int} {α : Type} {p : VP α} {xs : List α}
theorem c_max1 (Y : Fa P w K mg base k) (hcm : Y.cm = true := by rfl) (i : Y.I) : CallR (Y.X i) (.builtin "max") (rMax K) := by have h := cr_max (X := Y.X i) ((Y.hC i).trans hcm); rw [Y.hK i] at h; exact h
theorem o_max1 {m : Int} (hs : SV K s pInt ns) (hz : mxL ns = some m) : OpA (rMax K) [s] (vInt m) := opA1 fun B F H v fx os Q W pv q => by
  obtain ⟨l, vs, ev, h1, h2⟩ := hs F H fx _ W.sub pv
  cases ev
  obtain rfl := map_int_of h2
  refine ⟨l, ns, rfl, h1, ?_, fun m' h3 h4 => ?_⟩
  · cases ns with
    | nil => cases hz
    | cons _ _ => exact Nat.succ_pos _
  · rw [mxL_of h3 h4] at hz; cases hz
    exact q _ F H [] same_refl same_refl W.drop ⟨rfl, _, rfl, rfl⟩
/-! ### slices -/
def cutL (xs : List α) (lo hi : Option Int) : List α := (xs.drop (HT.sIx xs.length 0 lo)).take (HT.sIx xs.length xs.length hi - HT.sIx xs.length 0 lo)
def XO (Y : Fa P w K mg base k) (e : Option Expr) (Γ : List Slot) (o : Option Int) : Prop :=
  ∃ t : TO, (∀ i, PO (Y.X i) e t) ∧ ∀ (B : Bs) (F H : Hp) (os : List Addr) (σ : List (Option V)) (Q : Option Int → Hp → Prop), In B F H os σ Γ → (∀ F' H', Same F F' → Same H H' → Wo B F' H' os → Q o H') → t σ H Q
theorem xo_none : XO Y none Γ none := ⟨_, fun _ => po_none, fun B F H os σ Q I q => q F H same_refl same_refl I.W⟩
theorem xo_some {z : Int} (h : XV Y e Γ (vInt z)) : XO Y (some e) Γ (some z) := by
  obtain ⟨t, p, rd⟩ := h
  refine ⟨_, fun i => po_some (p i), fun B F H os σ Q I q => ?_⟩
  refine rd B F H os σ _ I fun v F1 H1 fp f1 e1 W1 p1 => ?_
  obtain ⟨rfl, rv⟩ := val_P p1
  cases rv
  exact ⟨z, rfl, q F1 H1 f1 e1 W1⟩
theorem paired_cut {β γ : Type} {G : β → γ → Prop} : ∀ {xs : List β} {ys : List γ} (m n : Nat), Paired G xs ys → Paired G ((xs.drop m).take n) ((ys.drop m).take n)
  | _, _, m, n, .nil => by simp only [List.drop_nil, List.take_nil]; exact .nil
  | _ :: xs, _ :: ys, 0, 0, .cons r t => by simp only [List.take_zero]; exact .nil
  | _ :: xs, _ :: ys, 0, n + 1, .cons r t => by
    have h := paired_cut 0 n t
    rw [List.drop_zero, List.drop_zero] at h
    exact .cons r h
  | _ :: xs, _ :: ys, m + 1, n, .cons r t => paired_cut m n t
theorem x_slc {lo hi : Option Expr} {l h' : Option Int} (he : XV Y e Γ s) (hs : SV K s p xs) (hl : XO Y lo Γ l) (hh : XO Y hi Γ h') : XV Y (.Subscript e (.Slice lo hi none p2) pos) Γ (own (oL p) (cutL xs l h')) := by
  obtain ⟨t, pe, rd⟩ := he
  obtain ⟨tl, pl, rdl⟩ := hl
  obtain ⟨th, ph, rdh⟩ := hh
  refine ⟨_, fun i => pe_slice (by have z := sl_list (X := Y.X i); rw [Y.hK i] at z; exact z) (pe i) (pl i) (ph i), fun B F H os σ Q I q => ?_⟩
  refine rd B F H os σ _ I fun v F1 H1 fp f1 e1 W1 p1 => ?_
  refine rdl B F1 H1 _ σ _ (I.step f1 e1 W1) fun F2 H2 f2 e2 W2 => ?_
  refine rdh B F2 H2 _ σ _ ((I.step f1 e1 W1).step0 f2 e2 W2) fun F3 H3 f3 e3 W3 => ?_
  obtain ⟨a, vs, ev, h1, h2⟩ := hs F3 H3 fp _ W3.sub (s.mono (f2.trans f3) (e2.trans e3) p1)
  cases ev
  refine ⟨a, vs, rfl, h1, fun n hn => ?_⟩
  refine q _ F3 _ [n] ((f1.trans f2).trans f3) (((e1.trans e2).trans e3).trans (same_upd hn)) (W3.drop.newO hn) ⟨_, rfl, n, _, rfl, rfl, upd_same, ?_⟩
  unfold cutV cutL
  rw [Paired.length h2]
  exact paired_cut _ _ h2
/-! ### texts -/
end
end Ty

/-! Ty23 -/
namespace Ty
open PySem PySem.Spec L2
section
variable {P : Program} {w : World} {K : PySem.W.Frag} {mg : Str → Option Value} {base : Heap} {k : Nat}
variable {Y : Fa P w K mg base k} {i : Y.I} {e ea eb eo ev tg iter elt : Expr} {Γ Γ' : List Slot} {a b c r s s' : Slot} {pos p1 p2 : Pos}
end
/-! ### an error's fields read -/
def xfI (e : Exn) (n : Nat) : Option Int := match e.2[n]? with | some (.i z) => some z | _ => none
def xfS (e : Exn) (n : Nat) : Option Str := match e.2[n]? with | some (.s z) => some z | _ => none
theorem ok2 {f g : XF} (h : f.ok) (h2 : g.ok) : ∀ x ∈ [f, g], x.ok := fun x hx => by
  rcases List.mem_cons.mp hx with rfl | hx
  · exact h
  · rw [List.mem_singleton.mp hx]; exact h2
end Ty
namespace Ty
open PySem PySem.Spec L2
section
variable {P : Program} {w : World} {K : PySem.W.Frag} {mg : Str → Option Value} {base : Heap} {k : Nat}
variable {Y : Fa P w K mg base k} {ev : Expr} {Γ : List Slot} {pos : Pos}
end
end Ty

/-! Ty24 -/
/-! owned things handed on: within displays, to a def that changes them; lists of things of several kinds; xs.insert; texts walked; pairs walked -/
namespace Ty
open PySem PySem.Spec L2
open PyProof.Rows (envOfC)
section
variable {P : Program} {w : World} {K : PySem.W.Frag} {mg : Str → Option Value} {base : Heap} {k : Nat}
variable {Y : Fa P w K mg base k} {i : Y.I} {e ea eb eo ev tg iter elt : Expr} {es ifs : List Expr} {rest body : List Stmt} {Γ Γ' Γ1 Γ2 Δ Δ' As : List Slot} {a b c r s s' : Slot} {pos pos' : Pos} {B : Bs} {D : Ends} {x f : Str} {p' p2 : Pos} {C : Addr} {ns : List Str} {α β : Type} {p : VP α} {q : VP β} {xs : List α}
/-! ### what may be handed on -/
def XN (Y : Fa P w K mg base k) (e : Expr) (Γ : List Slot) (r : Slot) (Γ' : List Slot) : Prop :=
  ∃ t : TE, (∀ i, PE (Y.X i) e t) ∧ ∀ (B : Bs) (F H : Hp) (os rr : List Addr) (σ : List (Option V)) (Q : VK), Wo B F H (rr ++ os) → Slots F H os σ Γ →
    (∀ v F' H' fp os', Same F F' → Same H H' → Wo B F' H' (fp ++ (rr ++ os')) → Slots F' H' os' σ Γ' → r.P F' H' fp (some v) → Q v H') → t σ H Q
def XNA (Y : Fa P w K mg base k) (es : List Expr) (Γ As Γ' : List Slot) : Prop :=
  ∃ t : TA, (∀ i, PA (Y.X i) es t) ∧ ∀ (B : Bs) (F H : Hp) (os rr : List Addr) (σ : List (Option V)) (Q : List V → Hp → Prop), Wo B F H (rr ++ os) → Slots F H os σ Γ →
    (∀ vs F' H' fp os', Same F F' → Same H H' → Wo B F' H' (fp ++ (rr ++ os')) → Slots F' H' os' σ Γ' → Slots F' H' fp (vs.map some) As → Q vs H') → t σ H Q
theorem XN.of (h : XV Y e Γ r) : XN Y e Γ r Γ := by
  obtain ⟨t, p, rd⟩ := h
  exact ⟨t, p, fun B F H os rr σ Q W S kk => rd B F H _ σ Q ⟨W, os, rr, List.perm_append_comm, S⟩ fun v F' H' fp f1 e1 W1 p1 => kk v F' H' fp os f1 e1 W1 (S.mono f1 e1) p1⟩
theorem XN.m (h : XN Y e Γ r Γ') : XM Y e Γ r Γ' := by
  obtain ⟨t, p, rd⟩ := h
  exact ⟨t, p, fun B F H os σ Q W S kk => rd B F H os [] σ Q W S fun v F' H' fp os' _ _ W1 S1 p1 => kk v F' H' fp os' W1 S1 p1⟩
/-! ### a def that is handed owned things -/
def spO {ι ρ : Type} (As : ι → List Slot) (m : ι → Option ρ) (Sr : ρ → Slot) : Sp := fun vs H Q _ => ∃ (z : ι) (r : ρ) (F : Hp) (fp : List Addr), m z = some r ∧ Wo ⟨F, H, fp⟩ F H fp ∧ Slots F H fp (vs.map some) (As z) ∧
  ∀ v F' H' f2, Wo ⟨F, H, fp⟩ F' H' f2 → (Sr r).P F' H' f2 (some v) → Q v H'
/-! ### a list of things of several kinds, frozen -/
def pH (sl : α → List Slot) : VP α where
  R := fun F v z => ∃ l vs, v = .ref l ∧ F l = some (.lst vs) ∧ Slots F F [] (vs.map some) (sl z)
  mono := fun hF h => let ⟨l, vs, e1, h1, h2⟩ := h; ⟨l, vs, e1, hF _ _ h1, h2.mono hF hF⟩
theorem WkS.lstH {sl : α → List Slot} {z : α} (hw : WkL Δ (sl z)) (hv : AllV (sl z)) : WkS (Ty.lstS Δ) (Ty.val (pH sl) z) := fun F H fp o hS hp => by
  obtain ⟨l, vs, os, e1, e2, h1, h2⟩ := hp
  obtain ⟨xx, yy, hperm, kk⟩ := h2.wk hS hw
  obtain ⟨rfl, _⟩ := hv.no (kk H hS same_refl fun _ _ => rfl)
  subst e2
  refine ⟨l :: os, [], by simp, fun F' hF hs hx => ⟨rfl, _, e1, l, vs, rfl, by rw [hx l (by simp)]; exact h1, (hv.no (kk F' hF hs fun q hq => hx q ?_)).2⟩⟩
  have := hperm.mem_iff.mpr (by simpa using hq)
  simp [this]
/-- looked at as data -/
inductive VwL : List Slot → List Slot → Prop
  | nil : VwL [] []
  | cons {γ : Type} {s : Slot} {p : VP γ} {u : γ} {As Bs : List Slot} : Vw s p u → VwL As Bs → VwL (s :: As) (val p u :: Bs)
theorem VwL.to {As Cs : List Slot} (h : VwL As Cs) : ∀ F H os (vs : List V), Same F H → Slots F H os (vs.map some) As → Slots H H [] (vs.map some) Cs := by
  induction h with
  | nil =>
    intro F H os vs hS Sl
    have e := Sl.length
    cases vs with
    | nil => exact .nil
    | cons v vs => simp at e
  | @cons γ s p u As Cs hv _ ih =>
    intro F H os vs hS Sl
    have e := Sl.length
    cases vs with
    | nil => simp at e
    | cons v vs =>
      rw [List.map_cons] at Sl
      obtain ⟨f1, f2, rfl, hp, hr⟩ := Slots.cons_inv Sl
      have i1 := ih F H f2 vs hS hr
      obtain ⟨v', ev, rv⟩ := hv F H f1 _ hS hp
      cases ev
      exact Slots.cons (fp := []) ⟨rfl, v, rfl, rv⟩ i1
theorem Vw.lstH {sl : α → List Slot} {z : α} (h : VwL Δ (sl z)) : Vw (Ty.lstS Δ) (pH sl) z := fun F H fp o hS hp => by
  obtain ⟨l, vs, os, e1, e2, h1, h2⟩ := hp
  exact ⟨_, e1, l, vs, rfl, h1, h.to F H os vs hS h2⟩
/-! ### xs.insert(n, e) -/
structure Bm2 (X : Cx) (o : Expr) (name : Str) (apos : Pos) (e e2 : Expr) (cpos : Pos) : Prop where
  base : attributeBase o name X.env (eval o X.env) = eval o X.env
  few : ((backTo cpos (starEach [e, e2] X.env)).all (fun x => !x.1) && (backToKw cpos (keywordEach [] X.env)).all (fun x => x.1.isSome) && decide (([e, e2] : List Expr).length + ([] : List Keyword).length + (if ([] : List Keyword).isEmpty then 0 else 1) < 30)) = true
  line : (apos.endLine == cpos.line) = true
  st : starEach [e, e2] X.env = (false, eval e X.env) :: starEach [e2] X.env
  st2 : starEach [e2] X.env = (false, eval e2 X.env) :: starEach [] X.env
  pl : (backTo cpos (starEach [e2] X.env)).any (·.1) = false
/-! ### texts -/
/-- a text of one sign -/
def pSg : VP Nat := ⟨fun _ v c => v = .str ⟨#[c]⟩, fun _ h => h⟩
theorem Eqv.bl : Eqv pBl := fun F v a h => by
  cases h
  refine ⟨rfl, fun F' v' a' h' => ?_⟩
  cases h'
  cases a <;> cases a' <;> rfl
end
end Ty

/-! Ty25 -/
/-! an __init__ that may raise; methods that read ints of an instance that is not yet whole; tuples of things of several kinds -/
namespace Ty
open PySem PySem.Spec L2
open PyProof.Rows
section
variable {X : Cx} {CX : CXT} {k : Nat} {f C : Addr} {fd : FuncData} {ps : List Str} {sp : Sp} {E : L2.St → XK} {x m : Str} {p pos apos : Pos} {e o : Expr} {es : List Expr} {ta : TE} {t : TA}
def tMakeS (C : Addr) (sp : Sp) (E : L2.St → XK) (t : TA) : TE := fun σ H Q => t σ H fun vs H1 => ∀ x dx, H1 x = none → H1 dx = none → dx ≠ x →
  sp (.ref x :: vs) (upd (upd H1 dx (.own x)) x (.ins C dx [])) (fun v H2 => v = .non ∧ Q (.ref x) H2) (E σ)
end
/-- nothing is so -/
def noS : Slot := { P := fun _ _ _ _ => False, mono := fun _ _ h => h, st := True, mm := fun _ {_ _ _ _ _ _} _ _ h => h }
theorem no_noS {B : Bs} {v : V} {H : Hp} (h : Fi B noS v H) : False := let ⟨_, _, _, h⟩ := h; h
section
variable {P : Program} {w : World} {K : PySem.W.Frag} {mg : Str → Option Value} {base : Heap} {k : Nat}
/-- an __init__ that may raise -/
def spMX {ι μ : Type} (C : Addr) (As : ι → List Slot) (m : ι → Option (Rx (μ × Unit))) (s1 : μ → Slot) (X : ExT) : Sp := fun vs H Q E => ∃ (z : ι) (r : Rx (μ × Unit)) (F : Hp) (fp : List Addr) (v0 : V) (ws : List V), vs = v0 :: ws ∧ m z = some r ∧ Wo ⟨F, H, fp⟩ F H fp ∧ (obj C [] []).P F H fp (some v0) ∧ Slots F H [] (ws.map some) (As z) ∧
  (∀ q, r = .ok q → ∀ F' H' f1, Wo ⟨F, H, fp⟩ F' H' f1 → (s1 q.1).P F' H' f1 (some v0) → Q .non H') ∧ ∀ e, r = .ex e → ∀ cls d F' H', Wo ⟨F, H, fp⟩ F' H' [] → X e cls d F' → E cls d H'
@[reducible] def DMX {μ : Type} (B : Bs) (v0 : V) (s1 : μ → Slot) (r : Rx (μ × Unit)) : Ends where
  nx := fun _ H => ∃ q F f1, r = .ok q ∧ Wo B F H f1 ∧ (s1 q.1).P F H f1 (some v0)
  rt := fun _ _ => False
variable {Y : Fa P w K mg base k} {i : Y.I} {e ea eb eo ev tg iter elt : Expr} {es ifs : List Expr} {rest body : List Stmt} {Γ Γ' Γ1 Γ2 Δ Δ' As : List Slot} {a b c r s s' : Slot} {pos pos' : Pos} {B : Bs} {D : Ends} {x f : Str} {p' p2 : Pos} {C : Addr} {ns : List Str} {α β : Type} {p : VP α} {q : VP β} {xs : List α} {EX : ExT} {ex : Exn}
/-! ### ints of an instance -/
def pFl (C : Addr) (fs : List Str) : VP (List Int) where
  R := fun F v z => ∃ (x dx : Addr) (ps : List (Str × V)), v = .ref x ∧ F x = some (.ins C dx ps) ∧ ∀ (i : Nat) f n, fs[i]? = some f → z[i]? = some n → ps.lookup f = some (.int n)
  mono := fun hF h => let ⟨x, dx, ps, e1, h1, h2⟩ := h; ⟨x, dx, ps, e1, hF _ _ h1, h2⟩
inductive FlS (ns : List Str) (Δ : List Slot) : List Str → List Int → Prop
  | nil : FlS ns Δ [] []
  | cons {f : Str} {n : Int} {fs : List Str} {z : List Int} (j : Nat) (h1 : ns[j]? = some f) (h2 : Δ[j]? = some (vInt n)) (t : FlS ns Δ fs z) : FlS ns Δ (f :: fs) (n :: z)
theorem FlS.look {ns : List Str} {Δ : List Slot} {fs : List Str} {z : List Int} {F H : Hp} {os : List Addr} {vs : List V} (h : FlS ns Δ fs z) (nd : ns.Nodup) (hl : vs.length = ns.length) (S : Slots F H os (vs.map some) Δ) : ∀ (i : Nat) f n, fs[i]? = some f → z[i]? = some n → (ns.zip vs).lookup f = some (.int n) := by
  induction h with
  | nil => intro i f n e; simp at e
  | @cons f0 n0 fs z j h1 h2 t ih =>
    intro i f n e1 e2
    cases i with
    | succ i => exact ih i f n (by simpa using e1) (by simpa using e2)
    | zero =>
      simp at e1 e2
      subst e1; subst e2
      obtain ⟨o, fp, r, e3, p3, _, _⟩ := S.at h2
      obtain ⟨_, v', ev, rv⟩ := p3
      subst ev
      cases rv
      rw [List.getElem?_map] at e3
      obtain ⟨y, hy, ey⟩ := Option.map_eq_some_iff.mp e3
      cases ey
      exact zip_lookup nd hl h1 hy
/-! ### tuples of things of several kinds -/
def pHT (sl : α → List Slot) : VP α where
  R := fun F v z => ∃ l vs, v = .ref l ∧ F l = some (.tup vs) ∧ Slots F F [] (vs.map some) (sl z)
  mono := fun hF h => let ⟨l, vs, e1, h1, h2⟩ := h; ⟨l, vs, e1, hF _ _ h1, h2.mono hF hF⟩
end
end Ty

/-! Ty26 -/
/-! several except clauses that name the error -/
namespace Ty
open PySem PySem.Spec L2 PyProof.Rows
abbrev TsH := Addr → Value → Option Addr → TS
/-- clauses 'except x as n: ..' one after the other, with what they wish -/
inductive ClsAs (X : Cx) (D : Ends) (Wo : WX) : List ExceptHandler → WX → Prop
  | nil : ClsAs X D Wo [] Wo
  | cons {x n : Str} {c : Value} {i : Nat} {ts : TsH} {b₀ : Stmt} {suite : List Stmt} {np q : Pos} {hs : List ExceptHandler} {W : WX} (hc : Names X x c) (hi : X.N[i]? = some n) (hl : X.env.kindOf n = some .local)
      (hsu : ∀ (a : Addr) (oe : Obj) (cls : Value) (d : Option Addr) (pn : List (Addr × Obj)), Zc cls d oe → (∃ vs, oe.data = .fields vs) → PSs (X.suite a ((a, oe) :: pn)) (b₀ :: suite) (ts a cls d)) (r : ClsAs X D Wo hs W) :
      ClsAs X D Wo (.ExceptHandler (some (.Name x np)) (some n) (b₀ :: suite) q :: hs) (wAs X.K c i ts W D)
section
variable {X : Cx} {body : List Stmt} {h0 : ExceptHandler} {hr : List ExceptHandler} {pos : Pos} {tb : WX → TS} {Wout : WX} {Wf : Ends → WX}
end
section
variable {P : Program} {w : World} {K : PySem.W.Frag} {mg : Str → Option Value} {base : Heap} {k : Nat}
variable {Y : Fa P w K mg base k} {i : Y.I} {rest body s1 s2 : List Stmt} {b1 b2 : Stmt} {Γ : List Slot} {pos q1 q2 np1 np2 : Pos} {B : Bs} {D : Ends} {x1 x2 n1 n2 : Str}
/-- the wish of a try of two clauses -/
abbrev W2 (Y : Fa P w K mg base k) (i : Y.I) (c1 c2 : Value) (j1 j2 : Nat) (t1 t2 : List Stmt) (D : Ends) : WX := wAs K c1 j1 (tsC Y i t1) (wAs K c2 j2 (tsC Y i t2) Y.W D) D
end
end Ty

/-! Ty27 -/
/-! == and != by an own __eq__; isinstance with an own class -/
namespace Ty
open PySem PySem.Spec L2 PyProof.Rows
section
variable {X : Cx} {CX : CXT} {n : Nat} {f C : Addr} {fd : FuncData} {ps : List Str} {sp : Sp} {E : XK} {pins : List (Addr × Obj)} {σ : L2.St} {H : Hp} {s : Shared}
/-- what an instance of C is compared with -/
inductive Oth (K : PySem.W.Frag) (C : Addr) (H : Hp) : V → Prop
  | ins {a dx : Addr} {fs : List (Str × V)} (h : H a = some (.ins C dx fs)) : Oth K C H (.ref a)
  | int {i : Int} (h : PySem.W.subIn K (.type "int") (.ref C) = some false) : Oth K C H (.int i)
theorem Oth.looks (I : Inv X pins σ H s) {y : V} {u : Value} (o : Oth X.K C H y) (r : RelV y u) : ∃ tb, PySem.W.Looks (model X.prog X.w) s.heap (typeOf u) tb ∧ PySem.W.notFirst X.K C tb = true := by
  cases o with
  | ins h =>
    cases r
    obtain ⟨mB, J, _⟩ := ins_get I.hok h
    obtain ⟨od, J, _⟩ := J.look
    exact ⟨_, J.type, by simp [PySem.W.notFirst]⟩
  | int h =>
    obtain ⟨t, rfl⟩ := r
    exact ⟨.type "int", fun A Q E s k q => wpAny_typeOf (show s.TypeIs (.int _ t) "int" from rfl) q, by simp [PySem.W.notFirst, h]⟩
def rOwn (K : PySem.W.Frag) (C : Addr) (sp : Sp) (E : XK) (g : Bool → Bool) : R2 := fun x y H Q => ∃ (a dx : Addr) (fs : List (Str × V)), x = .ref a ∧ H a = some (.ins C dx fs) ∧ Oth K C H y ∧ sp [x, y] H (fun v H' => ∃ b, v = .bl b ∧ Q (.bl (g b)) H') E
section
variable {M : Model} {prog : Program} {w : World} {A : Around} {E : Value → Shared → Prop} {s : Shared} {K : PySem.W.Frag} {x C f : Addr} {ox : Obj} {od : Option Obj} {b : Value}
end
end
section
variable {P : Program} {w : World} {K : PySem.W.Frag} {mg : Str → Option Value} {base : Heap} {k : Nat}
variable {Y : Fa P w K mg base k} {Γ : List Slot} {a b s : Slot} {C C' : Addr} {ns : List Str} {α β : Type} {q : VP β} {f : Addr} {fd : FuncData} {ps : List Str} {As : α × β → List Slot} {m : α × β → Option Bool} {j : Nat}
abbrev E0' : XK := fun _ _ _ => False
/-- what may stand on the right -/
def OthV (K : PySem.W.Frag) (C : Addr) (q : VP β) (z : β) : Prop := ∀ H v, q.R H v z → Oth K C H v
theorem OthV.obj {sl : β → List Slot} {z : β} : OthV K C (pObj C ns sl) z := fun H v h => by
  obtain ⟨x, dx, vs, rfl, h1, _⟩ := h
  exact .ins h1
theorem OthV.int {z : Int} (h : PySem.W.subIn K (.type "int") (.ref C) = some false) : OthV K C pInt z := fun H v e => by
  cases e
  exact .int h
/-! ### isinstance with an own class -/
def TyX' (K : PySem.W.Frag) (s : Slot) (t : Value) : Prop := ∀ F H fp o, Same F H → s.P F H fp o → ∃ v, o = some v ∧ TyX K H v t
structure IsC (K : PySem.W.Frag) (C : Addr) : Prop where
  cl : Cls K C
  ha : PySem.W.findIn K (.ref C) "__class__" = some (some (.builtin "object.__class__"))
  hn : PySem.W.specialIn K (.builtin "object.__class__") "__get__" = some (some (.builtin "getset_descriptor.__get__"))
  ht : PySem.W.takesIn K (.builtin "object.__class__") = some true
  hm : PySem.W.mroIn K C (.type "object") = some true
theorem TyX'.obj (c : IsC K C) {sl : α → List Slot} {z : α} : TyX' K (val (pObj C ns sl) z) (.ref C) := fun F H fp o hS h => by
  obtain ⟨_, v, e, x, dx, vs, rfl, h1, _⟩ := h
  exact ⟨_, e, .base (.ins (hS _ _ h1) c.cl c.ha c.hn c.ht c.hm)⟩
theorem TyX'.bobj (c : IsC K C) {Δ : List Slot} : TyX' K (bobj C ns Δ) (.ref C) := fun F H fp o hS h => by
  obtain ⟨_, x, dx, vs, os, e, h1, _⟩ := h
  exact ⟨_, e, .base (.ins h1 c.cl c.ha c.hn c.ht c.hm)⟩
theorem TyX'.of {T : String} (h : TyV K s T) : TyX' K s (.type T) := h
end
end Ty

/-! Ty28 -/
/-! lists of several kinds unpacked; data of any make walked and displayed; wide division; errors within subscripts -/
namespace Ty
open PySem PySem.Spec L2
section
variable {P : Program} {w : World} {K : PySem.W.Frag} {mg : Str → Option Value} {base : Heap} {k : Nat}
variable {Y : Fa P w K mg base k} {i : Y.I} {e ea eb eo ev tg iter elt : Expr} {es ifs : List Expr} {rest body : List Stmt} {Γ Γ' Γ1 Γ2 Δ Δ' As : List Slot} {a b c r s s' : Slot} {pos pos' : Pos} {B : Bs} {D : Ends} {x f : Str} {p' p2 : Pos} {C : Addr} {ns : List Str} {α β : Type} {p : VP α} {q : VP β} {xs : List α} {EX : ExT} {ex : Exn}
/-! ### data -/
def pdItems : PyData → Option (List PyData)
  | .list ds => some ds
  | _ => none
/-- an item of a list or of a tuple -/
def pdAt : PyData → Int → Option PyData
  | .list ds, z => atI ds z
  | .tuple ds, z => atI ds z
  | _, _ => none
def pdIsT : PyData → Bool
  | .tuple _ => true
  | _ => false
theorem sameT {H H' : Hp} {a : Addr} {vs : List V} (e : Same H H') (h : SqT K H a vs) : SqT K H' a vs := by
  rcases h with h | h
  · refine .inl ?_
    rcases h with h | ⟨o, h⟩
    · exact .inl (e _ _ h)
    · exact .inr ⟨o, e _ _ h⟩
  · exact .inr h
theorem TV.data {ds : List PyData} : ∀ F H fp o, Same F H → (Ty.val (pDa K) (.tuple ds)).P F H fp o → ∃ l vs, o = some (.ref l) ∧ SqT K H l vs ∧ Paired ((pDa K).R F) vs ds := fun F H fp o hS h => by
  obtain ⟨_, v, e, r⟩ := h
  cases (show Dp K F v (.tuple ds) from r) with
  | tup h1 h2 => exact ⟨_, _, e, sameT hS h1, paired_dpAll h2⟩
/-! ### errors within -/
/-! ### // by great numbers -/
end
end Ty

/-! Ty29 -/
/-! lending: an owned list is handed to a def that only looks at it, and is owned again behind the call -/
namespace Ty
open PySem PySem.Spec L2
open PyProof.Rows (envOfC)
/-- all of F but its lists is in F' -/
def Kp (F F' : Hp) : Prop := ∀ a o, F a = some o → (∀ vs, o ≠ .lst vs) → F' a = some o
/-- what leans on no frozen list -/
def NLp {α : Type} (p : VP α) : Prop := ∀ F F' v a, Kp F F' → p.R F v a → p.R F' v a
def NLs (s : Slot) : Prop := ∀ F F' H fp o, Kp F F' → s.P F H fp o → s.P F' H fp o
def NLl (Γ : List Slot) : Prop := ∀ s ∈ Γ, NLs s
theorem NLp.flat {α : Type} {p : VP α} (h : Flat p) : NLp p := fun F F' v a _ r => h F F' v a r
theorem NLp.int : NLp pInt := .flat Flat.int
theorem NLp.bl : NLp pBl := .flat Flat.bl
theorem NLp.str : NLp pStr := .flat Flat.str
theorem paired_nl {α : Type} {p : VP α} {F F' : Hp} (h : NLp p) (k : Kp F F') : ∀ {vs : List V} {xs : List α}, Paired (p.R F) vs xs → Paired (p.R F') vs xs
  | _, _, .nil => .nil
  | _, _, .cons r t => .cons (h F F' _ _ k r) (paired_nl h k t)
theorem NLp.tup {α : Type} {p : VP α} (h : NLp p) : NLp (pTup p) := fun F F' v a k ⟨l, vs, e, h1, h2⟩ => ⟨l, vs, e, k _ _ h1 (by intro _ z; cases z), paired_nl h k h2⟩
theorem NLp.t2 {α β : Type} {p : VP α} {q : VP β} (h : NLp p) (h' : NLp q) : NLp (pT2 p q) := fun F F' v a k ⟨l, x, y, e, h1, h2, h3⟩ => ⟨l, x, y, e, k _ _ h1 (by intro _ z; cases z), h _ _ _ _ k h2, h' _ _ _ _ k h3⟩
theorem NLp.t3 {α β γ : Type} {p : VP α} {q : VP β} {r : VP γ} (h : NLp p) (h' : NLp q) (h'' : NLp r) : NLp (pT3 p q r) := fun F F' v a k ⟨l, x, y, z, e, h1, h2, h3, h4⟩ => ⟨l, x, y, z, e, k _ _ h1 (by intro _ z; cases z), h _ _ _ _ k h2, h' _ _ _ _ k h3, h'' _ _ _ _ k h4⟩
theorem NLs.val {α : Type} {p : VP α} {a : α} (h : NLp p) : NLs (Ty.val p a) := fun F F' H fp o k ⟨e, v, ev, r⟩ => ⟨e, v, ev, h _ _ _ _ k r⟩
theorem NLs.oL {α : Type} {p : VP α} {xs : List α} (h : NLp p) : NLs (own (Ty.oL p) xs) := fun F F' H fp o k ⟨v, ev, l, vs, e, ef, h1, h2⟩ => ⟨v, ev, l, vs, e, ef, h1, paired_nl h k h2⟩
theorem NLl.nil : NLl [] := fun _ h => nomatch h
theorem NLl.cons {s : Slot} {Γ : List Slot} (h : NLs s) (r : NLl Γ) : NLl (s :: Γ) := fun x hx => by
  rcases List.mem_cons.mp hx with rfl | hx
  · exact h
  · exact r x hx
theorem NLl.map {α : Type} {g : α → Slot} {xs : List α} (h : ∀ x, NLs (g x)) : NLl (xs.map g) := fun s hs => by
  obtain ⟨x, _, rfl⟩ := List.mem_map.mp hs
  exact h x
theorem NLl.slots {F F' H : Hp} (k : Kp F F') {os : List Addr} {σ : List (Option V)} {Γ : List Slot} (S : Slots F H os σ Γ) : NLl Γ → Slots F' H os σ Γ := by
  induction S with
  | nil => exact fun _ => .nil
  | cons p _ ih => exact fun h => .cons (h _ List.mem_cons_self _ _ _ _ _ k p) (ih fun s hs => h s (List.mem_cons_of_mem _ hs))
theorem NLs.lst {Δ : List Slot} (h : NLl Δ) : NLs (lstS Δ) := fun F F' H fp o k ⟨l, vs, os, e1, e2, h1, h2⟩ => ⟨l, vs, os, e1, e2, h1, h.slots k h2⟩
theorem NLs.obj {C : Addr} {ns : List Str} {Δ : List Slot} (h : NLl Δ) : NLs (Ty.obj C ns Δ) := fun F F' H fp o k ⟨x, dx, vs, os, e1, e2, h1, h2, h3, h4⟩ => ⟨x, dx, vs, os, e1, e2, h1, h2, h3, h.slots k h4⟩
/-- what is owned is lists alone -/
def OnlyL (s : Slot) : Prop := ∀ F H fp o, s.P F H fp o → ∀ a ∈ fp, ∃ vs, H a = some (.lst vs)
theorem OnlyL.oL {α : Type} {p : VP α} {xs : List α} : OnlyL (own (Ty.oL p) xs) := fun F H fp o ⟨v, ev, l, vs, e, ef, h1, h2⟩ a ha => by
  rw [ef] at ha
  rw [List.mem_singleton.mp ha]
  exact ⟨vs, h1⟩
theorem onlyL_slots {F H : Hp} {os : List Addr} {σ : List (Option V)} {Γ : List Slot} (S : Slots F H os σ Γ) : (∀ s ∈ Γ, OnlyL s) → ∀ a ∈ os, ∃ vs, H a = some (.lst vs) := by
  induction S with
  | nil => exact fun _ a ha => nomatch ha
  | cons p _ ih =>
    intro h a ha
    rcases List.mem_append.mp ha with ha | ha
    · exact h _ List.mem_cons_self _ _ _ _ p a ha
    · exact ih (fun s hs => h s (List.mem_cons_of_mem _ hs)) a ha
theorem OnlyL.lst {Δ : List Slot} (h : ∀ s ∈ Δ, OnlyL s) : OnlyL (lstS Δ) := fun F H fp o ⟨l, vs, os, e1, e2, h1, h2⟩ a ha => by
  rw [e2] at ha
  rcases List.mem_cons.mp ha with rfl | ha
  · exact ⟨vs, h1⟩
  · exact onlyL_slots h2 h a ha
theorem OnlyL.map {α : Type} {g : α → Slot} {xs : List α} (h : ∀ x, OnlyL (g x)) : ∀ s ∈ xs.map g, OnlyL s := fun s hs => by
  obtain ⟨x, _, rfl⟩ := List.mem_map.mp hs
  exact h x
def EXL (EX : ExT) : Prop := ∀ ex cls d F F', Kp F F' → EX ex cls d F → EX ex cls d F'
section
variable {P : Program} {w : World} {K : PySem.W.Frag} {mg : Str → Option Value} {base : Heap} {k : Nat}
variable {Y : Fa P w K mg base k} {e : Expr} {es : List Expr} {Γ : List Slot} {s s' r : Slot} {EX : ExT} {ex : Exn}
end
end Ty

/-! Ty30 -/
/-! a loop over an owned list of owned lists that changes each of them -/
namespace Ty
open PySem PySem.Spec L2
open PyProof.Rows (envOfC)
/-- an owned list of owned things, its address and theirs known -/
def lstAt (l : Addr) (vs : List V) (Γs : List Slot) : Slot where
  P := fun F H fp o => ∃ os, o = some (.ref l) ∧ fp = l :: os ∧ H l = some (.lst vs) ∧ Slots F H os (vs.map some) Γs
  mono := fun hF hH h => let ⟨os, e1, e2, h1, h2⟩ := h; ⟨os, e1, e2, hH _ _ h1, h2.mono hF hH⟩
  st := Stb Γs
  mm := fun hs {_ _ _ _ _ _} hF hH h => let ⟨os, e1, e2, h1, h2⟩ := h
    ⟨os, e1, e2, by rw [hH l (by rw [e2]; simp)]; exact h1, h2.mm hF hs fun q hq => hH q (by rw [e2]; simp [hq])⟩
section
variable {P : Program} {w : World} {K : PySem.W.Frag} {mg : Str → Option Value} {base : Heap} {k : Nat}
variable {Y : Fa P w K mg base k} {i : Y.I} {e ea eb eo ev tg iter elt : Expr} {es ifs : List Expr} {rest body : List Stmt} {Γ Γ' Γ1 Γ2 Δ Δ' : List Slot} {a b c r s s' : Slot} {pos : Pos} {B : Bs} {D : Ends} {x g f : Str} {p' : Pos}
end
end Ty

/-! Ty31 -/
/-! one of an owned display; an owned thing put at the end of an owned list -/
namespace Ty
open PySem PySem.Spec L2
open PyProof.Rows (envOfC)
section
variable {P : Program} {w : World} {K : PySem.W.Frag} {mg : Str → Option Value} {base : Heap} {k : Nat}
variable {Y : Fa P w K mg base k} {i : Y.I} {e ea eb eo ev tg iter elt : Expr} {es ifs : List Expr} {rest body : List Stmt} {Γ Γ' Γ1 Γ2 Δ Δ' : List Slot} {a b c r s s' : Slot} {pos : Pos} {B : Bs} {D : Ends} {x g f : Str} {p' : Pos}
end
end Ty

/-! Ty32 -/
/-! more ints of which the heap takes no notice -/
namespace Ty
open PySem PySem.Spec L2
open PyProof.Rows (envOfC)
section
variable {P : Program} {w : World} {K : PySem.W.Frag} {mg : Str → Option Value} {base : Heap} {k : Nat}
variable {Y : Fa P w K mg base k} {i : Y.I} {e ea eb eo : Expr} {Γ : List Slot} {s : Slot} {pos p' pn : Pos} {x : Str}
end
end Ty

/-! Ty33 -/
/-! an owned thing put into an owned list of owned things -/
namespace Ty
open PySem PySem.Spec L2
open PyProof.Rows (envOfC)
theorem Slots.putAt {F H : Hp} {os : List Addr} {σ : List (Option V)} {Δ : List Slot} {j : Nat} {s : Slot} {fp : List Addr} {v : V} (S : Slots F H os σ Δ) (hj : j < Δ.length) (p : s.P F H fp (some v)) : ∃ d os', Slots F H os' (σ.set j (some v)) (Δ.set j s) ∧ (fp ++ os).Perm (d ++ os') := by
  obtain ⟨o, f1, r, e, q, hp, kk⟩ := S.at (i := j) (s := Δ[j]) (List.getElem?_eq_getElem hj)
  obtain ⟨os', h1, h2⟩ := kk (F' := F) (H' := H) (fp' := fp) (o' := some v) (s' := s) p fun _ _ _ _ _ h => h
  refine ⟨f1, os', h1, ?_⟩
  refine (List.Perm.append_left fp hp).trans ?_
  refine List.Perm.trans ?_ (List.Perm.append_left f1 h2.symm)
  rw [← List.append_assoc, ← List.append_assoc]
  exact List.Perm.append_right r List.perm_append_comm
section
variable {P : Program} {w : World} {K : PySem.W.Frag} {mg : Str → Option Value} {base : Heap} {k : Nat}
variable {Y : Fa P w K mg base k} {i : Y.I} {e ea eb eo ev tg iter elt : Expr} {es ifs : List Expr} {rest body : List Stmt} {Γ Γ' Γ1 Γ2 Δ Δ' : List Slot} {a b c r s s' : Slot} {pos : Pos} {B : Bs} {D : Ends} {x g f : Str} {p' : Pos}
/-- what is looked at, its items without a heap -/
theorem XV.bl {α : Type} {p : VP α} {xs : List α} (h : XV Y e Γ (bor (pL p) xs)) (hf : Flat p) : XV Y e Γ (borL p xs) := h.as fun F H fp o _ ⟨e1, v, e2, l, vs, ev, h1, h2⟩ => ⟨e1, l, vs, by rw [e2, ev], h1, Paired.mon (fun _ _ r => hf _ _ _ _ r) h2⟩
end
end Ty

/-! Ty34 -/
/-! an own == said plainly; what leans on no list -/
namespace Ty
open PySem PySem.Spec L2
open PyProof.Rows (envOfC)
section
variable {P : Program} {w : World} {K : PySem.W.Frag} {mg : Str → Option Value} {base : Heap} {k : Nat}
variable {Y : Fa P w K mg base k} {Γ : List Slot} {a b s : Slot} {C C' : Addr} {ns : List Str} {α β : Type} {q : VP β} {f : Addr} {fd : FuncData} {ps : List Str} {As : α × β → List Slot} {m : α × β → Option Bool} {j : Nat}
end
/-- a def that may raise, where it does not -/
def okR {α : Type} (o : Option (Rx α)) : Option α := o.bind fun
  | .ok a => some a
  | .ex _ => none
section
variable {P : Program} {w : World} {K : PySem.W.Frag} {mg : Str → Option Value} {base : Heap} {k : Nat}
variable {Y : Fa P w K mg base k} {i : Y.I} {Γ : List Slot} {pos p' pn : Pos} {x : Str}
end
section
variable {P : Program} {w : World} {K : PySem.W.Frag} {mg : Str → Option Value} {base : Heap} {k : Nat}
variable {Y : Fa P w K mg base k} {i : Y.I} {tg iter elt : Expr} {ifs : List Expr} {Γ : List Slot} {pos : Pos} {scope : Scope}
end
theorem Kp.xd {F F' : Hp} (h : Kp F F') {a : Addr} {d : HO} (e : F a = some d) (hd : ∀ vs, d ≠ .lst vs) : F' a = some d := h a d e hd
end Ty

/-! Ty35 -/
/-! dicts whose keys are tuples within tuples -/
namespace Ty
open PySem PySem.Spec L2
mutual
/-- v is such a key, its tuples in H -/
inductive NkR (H : Hp) : NestedKey → V → Prop
  | non : NkR H .none .non
  | int (i : Int) : NkR H (.num i) (.int i)
  | str (x : Str) : NkR H (.text x) (.str x)
  | tup {l : Addr} {vs : List V} {ks : List NestedKey} : H l = some (.tup vs) → NkA H ks vs → NkR H (.tup ks) (.ref l)
inductive NkA (H : Hp) : List NestedKey → List V → Prop
  | nil : NkA H [] []
  | cons {k : NestedKey} {v : V} {ks : List NestedKey} {vs : List V} : NkR H k v → NkA H ks vs → NkA H (k :: ks) (v :: vs)
end
mutual
theorem NkR.mono {H H' : Hp} (h : ∀ l vs, H l = some (.tup vs) → H' l = some (.tup vs)) : ∀ (k : NestedKey) (v : V), NkR H k v → NkR H' k v
  | .none, _, hx => by cases hx; exact .non
  | .num i, _, hx => by cases hx; exact .int i
  | .text x, _, hx => by cases hx; exact .str x
  | .tup ks, _, hx => by
    cases hx with
    | tup e r => exact .tup (h _ _ e) (NkA.mono h ks _ r)
theorem NkA.mono {H H' : Hp} (h : ∀ l vs, H l = some (.tup vs) → H' l = some (.tup vs)) : ∀ (ks : List NestedKey) (vs : List V), NkA H ks vs → NkA H' ks vs
  | [], _, hx => by cases hx; exact .nil
  | k :: ks, _, hx => by
    cases hx with
    | cons a b => exact .cons (NkR.mono h k _ a) (NkA.mono h ks _ b)
end
mutual
theorem nk_is {P : Program} {w : World} {H : Hp} {h : Heap} (ok : HOk P w H h) : ∀ (k : NestedKey) (v : V) (u : Value), NkR H k v → RelV v u → NestedIs h k u
  | .none, _, u, hx, r => by
    cases hx
    rw [show u = Value.none from r]
    exact .none
  | .num i, _, u, hx, r => by
    cases hx
    obtain ⟨t, rfl⟩ := (show ∃ t, u = Value.int i t from r)
    exact .int i t
  | .text x, _, u, hx, r => by
    cases hx
    obtain ⟨t, rfl⟩ := (show ∃ t, u = Value.str x t from r)
    exact .text x t
  | .tup ks, _, u, hx, r => by
    cases hx with
    | @tup l vs _ e q =>
      rw [show u = Value.ref l from r]
      obtain ⟨_, its, rv, ob, e1, e2, n, e3⟩ := ok l _ e
      exact .tup e1 e2 e3 (by simpa using nka_is ok ks vs its q rv)
theorem nka_is {P : Program} {w : World} {H : Hp} {h : Heap} (ok : HOk P w H h) : ∀ (ks : List NestedKey) (vs : List V) (us : List Value), NkA H ks vs → Vals vs us → NestedAll h ks us
  | [], _, us, hx, r => by
    cases hx
    cases r
    exact .nil
  | k :: ks, _, us, hx, r => by
    cases hx with
    | cons a b =>
      cases r with
      | cons r1 r2 => exact .cons (nk_is ok k _ _ a r1) (nka_is ok ks _ _ b r2)
end
def pNK : VP NestedKey where
  R := fun F v k => NkR F k v ∧ k.depth ≤ 8 ∧ ∃ l, v = .ref l
  mono := fun hF h => ⟨NkR.mono (fun l vs e => hF _ _ e) _ _ h.1, h.2⟩
/-! ### the dict -/
abbrev NDX := List (NestedKey × Addr × V)
def ndo (P : Program) (w : World) (d : Addr) (xs : NDX) : HO := .ext fun h => xs.length ≤ sizeLine ∧ (d == sysModules) = false ∧ ∃ ys : List (NestedKey × Addr × Value),
  Paired (fun (x : NestedKey × Addr × V) (y : NestedKey × Addr × Value) => x.1 = y.1 ∧ x.2.1 = y.2.1 ∧ RelV x.2.2 y.2.2) xs ys ∧
  ∃ o es ep, h.get? d = some o ∧ o.ExactDict ∧ o.data = .dict es ep ∧ es.toList = ys.map (entryOfKey (nestedKind P w)) ∧ (ys.map (·.1)).Nodup
abbrev NRl (xs : NDX) (ys : List (NestedKey × Addr × Value)) : Prop := Paired (fun (x : NestedKey × Addr × V) (y : NestedKey × Addr × Value) => x.1 = y.1 ∧ x.2.1 = y.2.1 ∧ RelV x.2.2 y.2.2) xs ys
abbrev Kys (H : Hp) (xs : NDX) : Prop := ∀ x ∈ xs, pNK.R H (.ref x.2.1) x.1
theorem key_is {P : Program} {w : World} {H : Hp} {h : Heap} (ok : HOk P w H h) {k : NestedKey} {b : Addr} (r : pNK.R H (.ref b) k) : (nestedKind P w).is h k b := ⟨nk_is ok k _ _ r.1 rfl, r.2.1⟩
theorem nd_keys {P : Program} {w : World} {H : Hp} {h : Heap} (ok : HOk P w H h) : ∀ {xs : NDX} {ys : List (NestedKey × Addr × Value)}, NRl xs ys → Kys H xs → ∀ y ∈ ys, (nestedKind P w).is h y.1 y.2.1 := by
  intro xs ys r
  induction r with
  | nil => intro _ y hy; cases hy
  | @cons x y xs ys r _ ih =>
    intro hk z hz
    rcases List.mem_cons.mp hz with rfl | hz
    · rw [← r.1, ← r.2.1]
      exact key_is ok (hk x List.mem_cons_self)
    · exact ih (fun x hx => hk x (List.mem_cons_of_mem _ hx)) z hz
theorem nd_of {P : Program} {w : World} {H : Hp} {h : Heap} (ok : HOk P w H h) {d : Addr} {xs : NDX} (e : H d = some (ndo P w d xs)) (hk : Kys H xs) :
    xs.length ≤ sizeLine ∧ (d == sysModules) = false ∧ ∃ ys, NRl xs ys ∧ h.DictOfH (nestedKind P w) d ys := by
  have x : ObjOk P w H h d (ndo P w d xs) := ok d _ e
  unfold ndo at x
  obtain ⟨⟨z, hd, ys, r, o, es, ep, e1, e2, e3, e4, e5⟩, _, _⟩ := x
  exact ⟨z, hd, ys, r, o, es, ep, e1, e2, e3, e4, nd_keys ok r hk, e5⟩
theorem nd_new {P : Program} {w : World} {H : Hp} {h : Heap} {d : Addr} {xs : NDX} {ys : List (NestedKey × Addr × Value)} (z : xs.length ≤ sizeLine) (hd : (d == sysModules) = false) (r : NRl xs ys) (dd : h.DictOfH (nestedKind P w) d ys) : ObjOk P w H h d (ndo P w d xs) := by
  obtain ⟨o, es, ep, e1, e2, e3, e4, _, e5⟩ := dd
  unfold ndo
  refine ⟨⟨z, hd, ys, r, o, es, ep, e1, e2, e3, e4, e5⟩, ⟨o, e1⟩, fun h1 h2 p k => ?_⟩
  obtain ⟨z, hd, ys, r, o, es, ep, e1, e2, e3, e4, e5⟩ := p
  exact ⟨z, hd, ys, r, o, es, ep, k _ e1, e2, e3, e4, e5⟩
def atN (xs : NDX) (k : NestedKey) : Option V := (xs.find? fun x => decide (x.1 = k)).map (·.2.2)
def putN (xs : NDX) (k : NestedKey) (a : Addr) (v : V) : NDX := if (atN xs k).isSome = true then xs.map (fun x => if x.1 = k then (x.1, x.2.1, v) else x) else xs ++ [(k, a, v)]
theorem at_rel {xs : NDX} {ys : List (NestedKey × Addr × Value)} (r : NRl xs ys) (k : NestedKey) : RelO (atN xs k) ((atKey ys k).map (·.2)) := by
  induction r with
  | nil => exact True.intro
  | @cons x y xs ys r _ ih =>
    by_cases h : y.1 = k
    · have h' : x.1 = k := r.1.trans h
      have e1 : atN (x :: xs) k = some x.2.2 := by simp [atN, List.find?_cons, h']
      have e2 : (atKey (y :: ys) k).map (·.2) = some y.2.2 := by simp [atKey, List.find?_cons, h]
      rw [e1, e2]
      exact r.2.2
    · have h' : ¬ x.1 = k := fun z => h (r.1.symm.trans z)
      have e1 : atN (x :: xs) k = atN xs k := by simp [atN, List.find?_cons, h']
      have e2 : atKey (y :: ys) k = atKey ys k := by simp [atKey, List.find?_cons, h]
      rw [e1, e2]
      exact ih
theorem put_rel {xs : NDX} {ys : List (NestedKey × Addr × Value)} (r : NRl xs ys) (k : NestedKey) (a : Addr) {v : V} {u : Value} (rv : RelV v u) : NRl (putN xs k a v) (storedH ys k a u) := by
  have hs := (at_rel r k).isSome_eq
  rw [Option.isSome_map] at hs
  unfold putN storedH
  rw [hs]
  split
  · rename_i hh; clear hh hs
    induction r with
    | nil => exact .nil
    | @cons x y xs ys r _ ih =>
      rw [List.map_cons, List.map_cons]
      refine .cons ?_ ih
      unfold putAt
      by_cases h : y.1 = k
      · rw [if_pos h, if_pos (r.1.trans h)]
        exact ⟨r.1, r.2.1, rv⟩
      · rw [if_neg h, if_neg fun z => h (r.1.symm.trans z)]
        exact r
  · exact Paired.app r (.cons ⟨rfl, rfl, rv⟩ .nil)
theorem putN_len (xs : NDX) (k : NestedKey) (a : Addr) (v : V) : (putN xs k a v).length ≤ xs.length + 1 := by
  unfold putN
  split <;> simp
/-! ### reading and writing -/
def NGet (P : Program) (w : World) (H : Hp) (d : Addr) (y : V) (r : Option V) : Prop := ∃ xs k b, H d = some (ndo P w d xs) ∧ Kys H xs ∧ y = .ref b ∧ pNK.R H y k ∧ r = atN xs k
section
variable {X : Cx} {pins : List (Addr × Obj)} {σ : St} {H : Hp} {s : Shared} {d : Addr} {y v : V} {u r : Value} {o : Option V} {A : Around} {E : Value → Shared → Prop}
theorem n_setItem {xs : NDX} {k : NestedKey} {b : Addr} {Q : Unit → Shared → Prop} (hu : A.units + 9 < cLine) (I : Inv X pins σ H s) (e : H d = some (ndo X.prog X.w d xs)) (hk : Kys H xs) (hy : pNK.R H (.ref b) k) (l : xs.length < sizeLine) (rv : RelV v r)
    (h : ∀ s', Inv X pins σ (upd H d (ndo X.prog X.w d (putN xs k b v))) s' → Q () s') : wpAny (model X.prog X.w) A (setItem (.ref d) (.ref b) r) Q E s := by
  obtain ⟨z, hd, ys, rel, dd⟩ := nd_of I.hok e hk
  have hz : ys.length ≤ sizeLine := by rw [← Paired.length rel]; exact z
  have hl : (putN xs k b v).length ≤ sizeLine := by have := putN_len xs k b v; omega
  refine wpAny_setItem_heap (knd := nestedKind X.prog X.w) (hsz := hz) (show A.units + 1 + 8 < cLine by omega) (key_is I.hok hy) dd fun h' dd' hs => h _ ?_
  have he : ∃ q, h'.get? d = some q := let ⟨q, _, _, hq, _⟩ := dd'; ⟨q, hq⟩
  exact d_write I (by rw [e]; unfold ndo; exact True.intro) hs he (nd_new hl hd (put_rel rel k b rv) dd')
end
def tNGet (P : Program) (w : World) (td ty : TE) : TE := fun σ H Q => td σ H fun x H1 => ty σ H1 fun y H2 => ∃ a v, x = .ref a ∧ NGet P w H2 a y (some v) ∧ Q v H2
def tNIn (P : Program) (w : World) (ty td : TE) : TE := fun σ H Q => ty σ H fun y H1 => td σ H1 fun x H2 => ∃ a o, x = .ref a ∧ NGet P w H2 a y o ∧ Q (.bl o.isSome) H2
def tNNotIn (P : Program) (w : World) (ty td : TE) : TE := fun σ H Q => ty σ H fun y H1 => td σ H1 fun x H2 => ∃ a o, x = .ref a ∧ NGet P w H2 a y o ∧ Q (.bl (!o.isSome)) H2
def sNPut (P : Program) (w : World) (td ty tv : TE) : TS := fun D σ H => tv σ H fun v H1 => td σ H1 fun x H2 => ty σ H2 fun y H3 => ∃ a xs k b, x = .ref a ∧ H3 a = some (ndo P w a xs) ∧ Kys H3 xs ∧ y = .ref b ∧ pNK.R H3 y k ∧ xs.length < sizeLine ∧ D.nx σ (upd H3 a (ndo P w a (putN xs k b v)))
def tNNew (P : Program) (w : World) : TE := fun _ H Q => ∀ p, H p = none → Q (.ref p) (upd H p (ndo P w p []))
section
variable {X : Cx} {o i e value : Expr} {pos pos' tpos : Pos} {td ty tv : TE}
theorem ps_nput (hu : X.A.units + 9 < cLine) (ho : PE X o td) (hi : PE X i ty) (hv : PE X value tv) (hs : swapsWith value (some (.Subscript o i pos')) pos.line X.env = pure false) :
    PS X (.Assign [.Subscript o i pos'] value pos) (sNPut X.prog X.w td ty tv) := by
  refine ⟨fun pins s σ H D I h => ?_⟩
  refine wpAny_Assign_Subscript (thn (hv.run pins s σ H _ I h) fun r s1 ⟨v, H1, I1, rv, q1⟩ => thn (ho.run pins s1 σ H1 _ I1 q1) fun u s2 ⟨x, H2, I2, rx, q2⟩ => thn (hi.run pins s2 σ H2 _ I2 q2) fun iv s3 ⟨y, H3, I3, ry, a, xs, k, b, ex, e, hk, ey, hy, l, q3⟩ => ?_) hs
  subst ex ey
  obtain rfl : u = Value.ref a := rx
  obtain rfl : iv = Value.ref b := ry
  exact n_setItem hu I3 e hk hy l rv fun s4 I4 => ⟨σ, _, I4, q3⟩
theorem pe_nnew : PE X (.Dict [] [] pos) (tNNew X.prog X.w) := ⟨fun pins s σ H Q I h =>
  wpAny_Dict_empty ⟨.ref s.heap.objs.size, _, I.laid (a := s.heap.objs.size) (o := ndo X.prog X.w s.heap.objs.size []) (t' := s.toks) (fun _ _ q => Heap.get?_push_of_some _ q) (Nat.le_refl _)
    (nd_new (Nat.zero_le _) (beq_eq_false_iff_ne.mpr (Ne.symm (Nat.ne_of_lt I.big))) .nil (Heap.DictOfH.new s.heap)), rfl, h _ (I.hok.fresh (Nat.le_refl _))⟩⟩
end
def rLenN (P : Program) (w : World) : List V → Hp → VK → Prop := fun vs H Q => ∃ (p : Addr) (xs : NDX), vs = [.ref p] ∧ H p = some (ndo P w p xs) ∧ Kys H xs ∧ Q (.int ((xs.length : Nat) : Int)) H
/-! ### typed -/
section
variable {β : Type} {P : Program} {w : World} {p : VP β}
abbrev NRel (p : VP β) (F : Hp) (xs : NDX) (kvs : List (NestedKey × β)) : Prop := Paired (fun (x : NestedKey × Addr × V) (kv : NestedKey × β) => x.1 = kv.1 ∧ pNK.R F (.ref x.2.1) x.1 ∧ p.R F x.2.2 kv.2) xs kvs
theorem NRel.keys {F : Hp} {xs : NDX} {kvs : List (NestedKey × β)} (h : NRel p F xs kvs) : Kys F xs := by
  induction h with
  | nil => intro x hx; cases hx
  | cons r _ ih =>
    intro x hx
    rcases List.mem_cons.mp hx with rfl | hx
    · exact r.2.1
    · exact ih x hx
theorem nrel_mono {F F' : Hp} (hF : Same F F') {xs : NDX} {kvs : List (NestedKey × β)} (h : NRel p F xs kvs) : NRel p F' xs kvs := Paired.mon (fun _ _ r => ⟨r.1, pNK.mono hF r.2.1, p.mono hF r.2.2⟩) h
theorem nget_of {F : Hp} {xs : NDX} {kvs : List (NestedKey × β)} (h : NRel p F xs kvs) (k : NestedKey) : (∀ u, dget kvs k = some u → ∃ v, atN xs k = some v ∧ p.R F v u) ∧ (atN xs k).isSome = (dget kvs k).isSome := by
  induction h with
  | nil => exact ⟨fun u hu => (nomatch hu), rfl⟩
  | @cons x kv xs kvs r _ ih =>
    by_cases e : kv.1 = k
    · have e' : x.1 = k := r.1.trans e
      have e1 : atN (x :: xs) k = some x.2.2 := by simp [atN, List.find?_cons, e']
      have e2 : dget (kv :: kvs) k = some kv.2 := by simp [dget, List.find?_cons, e]
      rw [e1, e2]
      exact ⟨fun u hu => ⟨_, rfl, by cases hu; exact r.2.2⟩, rfl⟩
    · have e' : ¬ x.1 = k := fun z => e (r.1.symm.trans z)
      have e1 : atN (x :: xs) k = atN xs k := by simp [atN, List.find?_cons, e']
      have e2 : dget (kv :: kvs) k = dget kvs k := by simp [dget, List.find?_cons, e]
      rw [e1, e2]
      exact ih
theorem any_isSome (kvs : List (NestedKey × β)) (k : NestedKey) : (kvs.any fun kv => decide (kv.1 = k)) = (dget kvs k).isSome := by
  induction kvs with
  | nil => rfl
  | cons a r ih =>
    by_cases e : a.1 = k
    · simp [dget, List.find?_cons, e]
    · simpa [dget, List.find?_cons, e] using ih
theorem nrel_put {F : Hp} {xs : NDX} {kvs : List (NestedKey × β)} (h : NRel p F xs kvs) (k : NestedKey) {a : Addr} {v : V} {u : β} (hk : pNK.R F (.ref a) k) (hv : p.R F v u) : NRel p F (putN xs k a v) (dput kvs k u) := by
  have hs := (nget_of h k).2
  unfold putN dput
  rw [any_isSome, hs]
  split
  · clear hs
    rename_i hh; clear hh
    induction h with
    | nil => exact .nil
    | @cons x kv xs kvs r _ ih =>
      rw [List.map_cons, List.map_cons]
      refine .cons ?_ ih
      by_cases e : kv.1 = k
      · rw [if_pos e, if_pos (r.1.trans e)]
        exact ⟨r.1, r.2.1, hv⟩
      · rw [if_neg e, if_neg fun z => e (r.1.symm.trans z)]
        exact r
  · exact Paired.app h (.cons ⟨rfl, hk, hv⟩ .nil)
/-- an owned dict -/
def oN (P : Program) (w : World) (p : VP β) : OP (List (NestedKey × β)) where
  P := fun F H fp v kvs => ∃ d xs, v = .ref d ∧ fp = [d] ∧ H d = some (ndo P w d xs) ∧ NRel p F xs kvs
  mono := fun hF hH h => let ⟨d, vs, e, ef, h1, h2⟩ := h; ⟨d, vs, e, ef, hH _ _ h1, nrel_mono hF h2⟩
  mm := fun hF hH h => let ⟨d, vs, e, ef, h1, h2⟩ := h; ⟨d, vs, e, ef, by rw [hH d (by rw [ef]; exact List.mem_cons_self)]; exact h1, nrel_mono hF h2⟩
def borN (P : Program) (w : World) (p : VP β) (kvs : List (NestedKey × β)) : Slot where
  P := fun F H fp o => fp = [] ∧ ∃ d xs, o = some (.ref d) ∧ H d = some (ndo P w d xs) ∧ NRel p F xs kvs
  mono := fun hF hH h => let ⟨ef, d, vs, e, h1, h2⟩ := h; ⟨ef, d, vs, e, hH _ _ h1, nrel_mono hF h2⟩
  st := False
  mm := fun h => h.elim
def pN (P : Program) (w : World) (p : VP β) : VP (List (NestedKey × β)) where
  R := fun F v kvs => ∃ d xs, v = .ref d ∧ F d = some (ndo P w d xs) ∧ NRel p F xs kvs
  mono := fun hF h => let ⟨d, vs, e, h1, h2⟩ := h; ⟨d, vs, e, hF _ _ h1, nrel_mono hF h2⟩
theorem WkS.nd {kvs : List (NestedKey × β)} : WkS (Ty.own (oN P w p) kvs) (Ty.val (pN P w p) kvs) := fun F H fp o _ h => by
  obtain ⟨v, e, l, vs, el, ef, h1, h2⟩ := h
  subst ef
  exact ⟨[l], [], rfl, fun F' hF hs hx => ⟨rfl, v, e, l, vs, el, by rw [hx l List.mem_cons_self]; exact h1, nrel_mono hF h2⟩⟩
end
section
variable {P : Program} {w : World} {K : PySem.W.Frag} {mg : Str → Option Value} {base : Heap} {k : Nat} {β : Type} {p : VP β}
variable {Y : Fa P w K mg base k} {i : Y.I} {e ea eb eo ev tg iter elt : Expr} {es ifs : List Expr} {rest body : List Stmt} {Γ Γ' Γ1 Γ2 Δ Δ' : List Slot} {a b c r s s' : Slot} {pos : Pos} {B : Bs} {D : Ends} {x f : Str} {p' : Pos} {C : Addr} {ns : List Str}
theorem x_varN {kvs : List (NestedKey × β)} (j : Nat) (hs : Γ[j]? = some (Ty.own (oN P w p) kvs) := by rfl) (hN : ∀ i, (Y.X i).N[j]? = some x := by intro _; rfl)
    (hv : ∀ i, Vis (Y.X i).env.scope x := by intro _; first | exact Or.inl rfl | exact Or.inr (Or.inl rfl) | exact Or.inr (Or.inr rfl)) (hd : (x == ("__debug__" : Str)) = false := by decide) (hcd : (x == ("__classdict__" : Str)) = false := by decide) : XV Y (.Name x pos) Γ (borN P w p kvs) := by
  refine ⟨_, fun i => pe_var (hN i) (hv i) hd hcd, fun B F H os σ Q I q => ?_⟩
  obtain ⟨o, fp, e, v, ev, l, vs, el, _, h1, h2⟩ := I.slot hs
  subst ev; subst el
  exact ⟨_, e, q _ F H [] same_refl same_refl I.W ⟨rfl, l, vs, rfl, h1, h2⟩⟩
theorem Fa.u9 (Y : Fa P w K mg base k) (i : Y.I) : (Y.X i).A.units + 9 < cLine := by have := Y.hU i; omega
theorem Kys.mono {F H : Hp} {xs : NDX} (hF : Same F H) (h : Kys F xs) : Kys H xs := fun x hx => pNK.mono hF (h x hx)
theorem x_nnew : XV Y (.Dict [] [] pos) Γ (own (oN P w p) ([] : List (NestedKey × β))) :=
  ⟨_, fun i => by have h := pe_nnew (X := Y.X i) (pos := pos); rw [Y.hP i, Y.hw i] at h; exact h, fun B F H os σ Q I kk l hl => kk _ F _ [l] same_refl (same_upd hl) (I.W.newO hl) ⟨_, rfl, l, [], rfl, rfl, upd_same, .nil⟩⟩
/-- d[k] = v -/
theorem go_nput {up : Slot → List Slot} {pos' : Pos} {kvs : List (NestedKey × β)} {z : NestedKey} {u : β} (ho : PL Y eo Γ (Ty.own (oN P w p) kvs) up) (hi : XV Y eb Γ (val pNK z)) (he : XV Y e Γ (val p u)) (hz : kvs.length < sizeLine) (hg : Go Y i rest D B (up (Ty.own (oN P w p) (dput kvs z u))))
    (hs : swapsWith e (some (.Subscript eo eb pos')) pos.line (Y.X i).env = pure false := by rfl) : Go Y i (.Assign [.Subscript eo eb pos'] e pos :: rest) D B Γ := by
  obtain ⟨t, Pv, pe, pst, rd, up'⟩ := ho
  obtain ⟨t2, pe2, rd2⟩ := he
  obtain ⟨t3, pe3, rd3⟩ := hi
  refine go_ps (t := sNPut P w t t3 t2) (by have h := ps_nput (X := Y.X i) (Y.u9 i) (pe i) (pe3 i) (pe2 i) hs; rw [Y.hP i, Y.hw i] at h; exact h) fun F H σ ⟨os, W, S⟩ => ?_
  refine rd2 B F H os σ _ (Sta.in W S) fun y F1 H1 fy f1 e1 W1 p1 => ?_
  have I1 := (Sta.in W S).step f1 e1 W1
  refine rd B F1 H1 _ σ _ I1 fun v hv => ?_
  refine rd3 B F1 H1 _ σ _ I1 fun y2 F2 H2 fy2 f2 e2 W2 p2 => ?_
  have ry := (val_P ((val p u).mono f2 e2 p1)).2
  obtain ⟨fp1, r1, hr1, hp1, kk1⟩ := up' F2 H2 os σ _ (S.mono (f1.trans f2) (e1.trans e2)) (pst _ _ _ _ e2 hv)
  obtain ⟨v1, ev1, l1, vs1, el1, ef1, g1, g2⟩ := hp1
  cases ev1; subst el1; subst ef1
  have r2 := (val_P p2).2
  obtain ⟨b, eb⟩ := r2.2.2
  subst eb
  refine ⟨l1, vs1, z, b, rfl, g1, Kys.mono W2.sub g2.keys, rfl, pNK.mono W2.sub r2, by rw [Paired.length g2]; exact hz, ?_⟩
  exact hg F2 _ σ (pl_write (fy := fy2 ++ fy) (by rw [List.append_assoc]; exact W2) hr1 ⟨_, rfl, l1, _, rfl, rfl, upd_same, nrel_put g2 z r2 ry⟩ kk1)
end
/-! ### data as keys -/
structure NE {α : Type} (p : VP α) where
  enc : α → NestedKey
  d : Nat
  rel : ∀ F v a, p.R F v a → NkR F (enc a) v
  dep : ∀ a, (enc a).depth ≤ d
def NE.int : NE pInt := ⟨.num, 0, fun F v a h => by cases h; exact .int a, fun _ => Nat.le_refl _⟩
theorem nka_of {α : Type} {p : VP α} (E : NE p) {F : Hp} {vs : List V} {xs : List α} (h : Paired (p.R F) vs xs) : NkA F (xs.map E.enc) vs := by
  induction h with
  | nil => exact .nil
  | cons r _ ih => exact .cons (E.rel _ _ _ r) ih
theorem depAll {α : Type} {p : VP α} (E : NE p) : ∀ xs : List α, NestedKey.depthAll (xs.map E.enc) ≤ E.d
  | [] => Nat.zero_le _
  | x :: xs => by
    rw [List.map_cons, NestedKey.depthAll]
    exact Nat.max_le.mpr ⟨E.dep x, depAll E xs⟩
def NE.tup {α : Type} {p : VP α} (E : NE p) : NE (pTup p) where
  enc := fun xs => .tup (xs.map E.enc)
  d := E.d + 1
  rel := fun F v a ⟨l, vs, e, h1, h2⟩ => by subst e; exact .tup h1 (nka_of E h2)
  dep := fun a => by rw [NestedKey.depth]; exact Nat.succ_le_succ (depAll E a)
def NE.t2 {α β : Type} {p : VP α} {q : VP β} (E : NE p) (E' : NE q) : NE (pT2 p q) where
  enc := fun x => .tup [E.enc x.1, E'.enc x.2]
  d := max E.d E'.d + 1
  rel := fun F v a ⟨l, u, w, e, h1, h2, h3⟩ => by subst e; exact .tup h1 (.cons (E.rel _ _ _ h2) (.cons (E'.rel _ _ _ h3) .nil))
  dep := fun a => by
    have h1 := E.dep a.1
    have h2 := E'.dep a.2
    simp only [NestedKey.depth, NestedKey.depthAll]
    omega
section
variable {P : Program} {w : World} {K : PySem.W.Frag} {mg : Str → Option Value} {base : Heap} {k : Nat}
variable {Y : Fa P w K mg base k} {e : Expr} {Γ : List Slot}
theorem XV.nkT {α : Type} {p : VP α} (E : NE p) (hd : E.d ≤ 7) {xs : List α} (h : XV Y e Γ (val (pTup p) xs)) : XV Y e Γ (val pNK (E.tup.enc xs)) := h.as fun F H fp o _ ⟨e1, v, e2, r⟩ => ⟨e1, v, e2, E.tup.rel F v xs r, Nat.le_trans (E.tup.dep xs) (Nat.succ_le_succ hd), let ⟨l, _, e, _⟩ := r; ⟨l, e⟩⟩
theorem XV.nk2 {α β : Type} {p : VP α} {q : VP β} (E : NE p) (E' : NE q) (hd : E.d ≤ 7) (hd' : E'.d ≤ 7) {x : α × β} (h : XV Y e Γ (val (pT2 p q) x)) : XV Y e Γ (val pNK ((NE.t2 E E').enc x)) := h.as fun F H fp o _ ⟨e1, v, e2, r⟩ => ⟨e1, v, e2, (NE.t2 E E').rel F v x r, Nat.le_trans ((NE.t2 E E').dep x) (by show max E.d E'.d + 1 ≤ 8; omega), let ⟨l, _, _, e, _⟩ := r; ⟨l, e⟩⟩
end
end Ty

/-! Ty36 -/
/-! repr: defs whose caller has no repr under way -/
namespace Ty
open PySem PySem.Spec L2
open PyProof.Rows
/-- as FnOk, called where no repr is under way -/
structure FnG (P : Program) (w : World) (K : PySem.W.Frag) (mg : Str → Option Value) (base : Heap) (k : Nat) (f : Addr) (fd : FuncData) (ps : List Str) (sp : Sp) : Prop where
  len : ∀ vs H Q E, sp vs H Q E → vs.length = ps.length
  run : ∀ (A : Around) (outer : List Env) (s : Shared) (H : Hp) (args : Args) (us : List Value) (vs : List V) (Q : VK) (E : XK), A.guards = some [] → Room k A → Env0 P w K mg base A outer s H → BindsTo s fd args (ps.zip us) → Vals vs us → sp vs H Q E →
    codeAny (model P w) A (.call (.ref f) args) (CR CX0 outer P w H s Q E) s
theorem FnG.imp {P : Program} {w : World} {K : PySem.W.Frag} {mg : Str → Option Value} {base : Heap} {k : Nat} {f : Addr} {fd : FuncData} {ps : List Str} {sp sp' : Sp} (F : FnG P w K mg base k f fd ps sp) (h : ∀ vs H Q E, sp' vs H Q E → sp vs H Q E) : FnG P w K mg base k f fd ps sp' :=
  ⟨fun vs H Q E q => F.len vs H Q E (h _ _ _ _ q), fun A outer s H args us vs Q E hga hr he hb hv q => F.run A outer s H args us vs Q E hga hr he hb hv (h _ _ _ _ q)⟩
section
variable {P : Program} {w : World} {K : PySem.W.Frag} {mg : Str → Option Value} {base : Heap} {k : Nat}
theorem fnG_run {x qual : Str} {st : Stmt} {f : Addr} {fd : FuncData} {N ps : List Str} {sp : Sp} (Fn : Fun K x qual st f fd) (S : FnScope N ps (defScope st)) (len : ∀ vs H Q E, sp vs H Q E → vs.length = ps.length)
    (hbody : ∀ (cdv : Value) (A : Around) (outer : List Env) (s : Shared) (H : Hp) (vs : List V) (Q : VK) (E : XK), A.guards = some [] → Room k (A.deeper (envOfC qual (defScope st) s.heap.objs.size f cdv)) → sp vs H Q E →
      ∃ t, PSs (cxOf CX0 P w K mg base N qual (defScope st) f cdv A outer s H E).nox (defBody st) t ∧ t { nx := fun _ H' => Q .non H', rt := Q } (L2.start N vs) H) : FnG P w K mg base (k + 1) f fd ps sp := by
  obtain ⟨o1, o2, v1, v2, v3, o3, cdv, v4, sl1, rfl, look, code⟩ := Fn.ex
  constructor
  · exact len
  intro A outer s H args us vs Q E gd room e0 bind rv hsp
  have n0 := len _ _ _ _ hsp
  have inK : K.In s.heap := PySem.W.Frag.In.keeps e0.mod.kin fun b o e => (e0.bs b o e).1
  have noL : s.heap.NoLimit := Heap.NoLimit.keeps e0.mod.nolimit fun b o e => (e0.bs b o e).1
  obtain ⟨t, tp, tq⟩ := hbody cdv A outer s H vs Q E gd (room.deeper _) hsp
  have kinds : ∀ y ∈ ps.zip us, (defScope st).names.lookup y.1 = some .local ∨ ((defScope st).names.lookup y.1 = some .cell ∧ ((cellsFrom (s.heap.objs.size + 1) (defScope st).names []).lookup y.1).isSome = true) := by
    rintro ⟨nm, val⟩ hy
    exact (S.par nm (List.of_mem_zip hy).1).imp id fun q => ⟨q, PySem.W.cellsFrom_some _ _ _ (.inl q)⟩
  refine codeAny_call_function room.depth (inK _ _ look) rfl S.co S.gen rfl (PySem.W.codeRec_of inK code) (bind _ _ _ _ (wpAny_newFunctionEnv_cells S.kind kinds fun env he s1 xx => ?_))
  cases he
  refine ⟨noL.keeps xx.toInCall.keep, codeAny_func ?_⟩
  have I0 : Inv (cxOf CX0 P w K mg base N qual (defScope st) f cdv A outer s H E) [] (L2.start N vs) H s1 := inv_start S room.hd e0 n0 rv xx
  refine wpAny_mono (tp.nox.run [] s1 (L2.start N vs) H _ I0 tq) ?_ fun er s' z => z
  intro fl s' z
  cases fl with
  | next =>
    obtain ⟨σ2, H2, J, q⟩ := z
    exact ⟨V.non, H2, J.os, J.bare, J.base, J.hok, rfl, q⟩
  | ret u =>
    obtain ⟨v, σ2, H2, J, rr, q⟩ := z
    exact ⟨v, H2, J.os, J.bare, J.base, J.hok, rr, q⟩
  | brk =>
    obtain ⟨_, _, _, q⟩ := z
    cases q
  | cont =>
    obtain ⟨_, _, _, q⟩ := z
    cases q
theorem fn_pureG {ι ρ : Type} {As : ι → List Slot} {m : ι → Option ρ} {Sr : ρ → Slot} {x qual : Str} {st : Stmt} {f : Addr} {fd : FuncData} {N ps : List Str} (Fn : Fun K x qual st f fd) (S : FnScope N ps (defScope st)) (hlen : ∀ z, (As z).length = ps.length)
    (body : ∀ (cdv : Value) (A : Around) (outer : List Env) (s : Shared) (H : Hp) (E : XK) (hga : A.guards = some []) (hr : Room k (A.deeper (envOfC qual (defScope st) s.heap.objs.size f cdv))) (z : ι) (r : ρ) (B : Bs), m z = some r →
      Go (fb P w K mg base N qual st f cdv A outer s H E k hr S.nd) () (defBody st) (DF B (Sr r)) B (As z ++ List.replicate (N.length - ps.length) dead)) : FnG P w K mg base (k + 1) f fd ps (spP As m Sr) := by
  refine fnG_run Fn S (fun vs H Q E h => ?_) (fun cdv A outer s H vs Q E hga hr h => ?_)
  · obtain ⟨z, r, F, _, _, Sl, _⟩ := h
    have e := Sl.length
    rw [List.length_map] at e
    rw [e, hlen]
  · obtain ⟨z, r, F, hm, hS, Sl, q⟩ := h
    refine ⟨_, pss_cont, ?_⟩
    have go := body cdv A outer s H E hga hr z r ⟨F, H, []⟩ hm
    have S0 : Sta ⟨F, H, []⟩ F H (L2.start N vs) (As z ++ List.replicate (N.length - ps.length) dead) := by
      refine ⟨[], wo_nil hS, ?_⟩
      unfold L2.start
      have e := Sl.length
      rw [List.length_map, hlen] at e
      rw [e]
      exact Slots.append Sl (slots_dead _)
    exact cont_mono (go F H _ S0) (fun σ H' ⟨F', fp, W', p'⟩ => q .non F' H' fp W' p') (fun v H' ⟨F', fp, W', p'⟩ => q v F' H' fp W' p') (fun _ _ z => z.elim) (fun _ _ z => z.elim)
end
section
variable {X : Cx} {k : Nat} {f : Addr} {fd : FuncData} {ps : List Str} {sp : Sp} {E : XK} {x : Str} {p pos : Pos} {e : Expr} {es : List Expr} {t : TA}
theorem pe_callG (Fn : FnG X.prog X.w X.K X.mg X.base k f fd ps sp) (hga : X.A.guards = some []) (hr : Room k X.A) (hg : Gl X x) (hm : X.mg x = some (.ref f)) (hk : PySem.W.keepIn X.K (.ref f) = true) (hb : Binds X.K fd ps []) (hx : Passes CX0 X E)
    (ha : PA X (e :: es) t) (hdb : (x == ("__debug__" : Str)) = false := by decide) (he : starEach (e :: es) X.env = (false, eval e X.env) :: starEach es X.env := by rfl) (hpl : (backTo pos (starEach es X.env)).any (·.1) = false := by rfl) :
    PE X (.Call (.Name x p) (e :: es) [] pos) (tCall sp [] E t) := by
  constructor
  intro pins s σ H Q I h
  refine wpAny_Call_Name_kw (ld_glob I hg hm (PySem.W.callWith_K (h₀ := X.base) I.ok.mod.kin hk (thn (ha.run pos pins s σ H _ I h) ?_) he hpl) hdb)
  rintro us s1 ⟨vs, H1, I1, rv, q⟩
  refine ⟨I1.kIn, ?_⟩
  rw [List.append_nil] at q
  have n1 : us.length = ps.length := by rw [← rv.length]; exact Fn.len _ _ _ _ q
  have hb1 := hb s1 us I1.kIn (by simpa using n1)
  rw [List.append_nil] at hb1
  refine wpAny_call (codeAny_mono (Fn.run X.A X.stack s1 H1 ⟨us, []⟩ us vs Q E hga hr I1.env0 hb1 rv q) fun r s' z => ?_)
  rcases r with e | fl
  · exact hx pins σ H1 s1 e s' I1 z
  · cases fl with
    | ret u => exact I1.after z
    | next => cases z
    | brk => cases z
    | cont => cases z
end
section
variable {P : Program} {w : World} {K : PySem.W.Frag} {mg : Str → Option Value} {base : Heap} {k : Nat}
variable {Y : Fa P w K mg base k} {i : Y.I} {e ea eb : Expr} {es : List Expr} {Γ : List Slot} {a b c s : Slot} {pos : Pos} {B : Bs} {D : Ends} {x : Str} {p' : Pos}
theorem x_callG {ι ρ : Type} {As : ι → List Slot} {m : ι → Option ρ} {Sr : ρ → Slot} {args : List Slot} {z : ι} {q : ρ} {j : Nat} {f : Addr} {fd : FuncData} {ps : List Str} (Fn : FnG P w K mg base j f fd ps (spP As m Sr)) (hga : ∀ i, (Y.X i).A.guards = some []) (hj : j ≤ k) (hm : mg x = some (.ref f)) (hk : PySem.W.keepIn K (.ref f) = true) (hb : Binds K fd ps [])
    (ha : XA Y (e :: es) Γ args) (hargs : args = As z) (hno : NoOwn args) (hq : m z = some q) (hg : ∀ i, Gl (Y.X i) x := by intro _; rfl) (hdb : (x == ("__debug__" : Str)) = false := by decide)
    (he : ∀ i, starEach (e :: es) (Y.X i).env = (false, eval e (Y.X i).env) :: starEach es (Y.X i).env := by intro _; rfl) (hpl : ∀ i, (backTo pos (starEach es (Y.X i).env)).any (·.1) = false := by intro _; rfl) (hcm : Y.cm = true := by rfl) : XV Y (.Call (.Name x p') (e :: es) [] pos) Γ (Sr q) := by
  subst hargs
  obtain ⟨t, pa, rd⟩ := ha
  have FF : ∀ i, FnG (Y.X i).prog (Y.X i).w (Y.X i).K (Y.X i).mg (Y.X i).base j f fd ps (spP As m Sr) := fun i => by rw [Y.hP i, Y.hw i, Y.hK i, Y.hM i, Y.hB i]; exact Fn
  refine ⟨_, fun i => pe_callG (FF i) (hga i) ((Y.hR hcm i).mono hj) (hg i) (by rw [Y.hM i]; exact hm) (by rw [Y.hK i]; exact hk) (by rw [Y.hK i]; exact hb) pass0 (pa i) hdb (he i) (hpl i), fun B F H os σ Q I kk => ?_⟩
  refine rd B F H os σ _ I fun vs F1 H1 fp f1 e1 W1 S1 => ?_
  obtain rfl := hno.nil S1
  rw [List.append_nil]
  refine ⟨z, q, F1, hq, W1.sub, S1, fun v F2 H2 fp2 W2 p2 => ?_⟩
  obtain ⟨f2, e2, W3⟩ := Wo.called (os := os) W1 W2
  exact kk v F2 H2 fp2 (f1.trans f2) (e1.trans e2) W3 p2
/-! ### repr of data -/
def pdIsR : PyData → Bool
  | .int _ => true
  | .list _ => true
  | .tuple _ => true
  | _ => false
def rRepr (K : PySem.W.Frag) : List V → Hp → VK → Prop := fun xs H Q => ∃ v d, xs = [v] ∧ Dp K H v d ∧ ((∃ i, v = .int i) ∨ ∃ a, v = .ref a) ∧ d.showable = true ∧ d.hasDict = false ∧ d.depth ≤ 40 ∧ d.shown.length ≤ sizeLine ∧ Q (.str d.shown) H
theorem call_reprD {X : Cx} (hga : X.A.guards = some []) (hu : X.A.units + 64 < cLine) : CallR X (.builtin "repr") (rRepr X.K) := by
  intro pins s σ H xs us Q I r h
  obtain ⟨v, d, rfl, hd, hv, h1, h2, h3, h4, q⟩ := h
  obtain ⟨u, rfl, rx⟩ := vals1 r
  rcases hv with ⟨j, rfl⟩ | ⟨a, rfl⟩
  · cases hd
    refine SkE.call_repr_int pins s σ H _ _ Q I (.cons rx .nil) ⟨j, rfl, by simpa [PyData.showable] using h1, ?_⟩
    simpa [PyData.shown] using q
  · have eu : u = .ref a := rx
    subst eu
    obtain ⟨as, rd⟩ := Dp.reads I d _ _ hd rx
    refine repr_of_reads' rd h1 (fun z => by rw [h2] at z; cases z) hga (by omega) (fun b o e => e) (fun h' t tk hk => ?_) h4
    exact ⟨.str d.shown, H, I.kept hk, ⟨t, rfl⟩, q⟩
theorem c_repr (Y : Fa P w K mg base k) (hga : ∀ i, (Y.X i).A.guards = some []) (i : Y.I) : CallR (Y.X i) (.builtin "repr") (rRepr K) := by have h := call_reprD (hga i) (Y.hU i); rw [Y.hK i] at h; exact h
def ReprOk (d : PyData) : Prop := (pdIsR d = true ∧ d.showable = true) ∧ d.hasDict = false ∧ d.depth ≤ 40 ∧ d.shown.length ≤ sizeLine
instance (d : PyData) : Decidable (ReprOk d) := by unfold ReprOk; infer_instance
theorem o_repr {d : PyData} (h : ReprOk d) : OpA (rRepr K) [val (pDa K) d] (vStr d.shown) := opA1 fun B F H v fx os Q W pv q => by
  obtain ⟨rfl, r⟩ := val_P pv
  have r' : Dp K H v d := Dp.mono W.sub r
  refine ⟨v, d, rfl, r', ?_, h.1.2, h.2.1, h.2.2.1, h.2.2.2, q _ F H [] same_refl same_refl W ⟨rfl, _, rfl, rfl⟩⟩
  have h0 := h.1.1
  cases r' with
  | non => cases h0
  | bl b => cases h0
  | int j => exact .inl ⟨j, rfl⟩
  | str x => cases h0
  | lst _ _ => exact .inr ⟨_, rfl⟩
  | tup _ _ => exact .inr ⟨_, rfl⟩
end
/-! ### lists of several kinds, as data -/
inductive DSl (K : PySem.W.Frag) : List Slot → List PyData → Prop
  | nil : DSl K [] []
  | cons {α : Type} [DecidableEq α] {p : VP α} {ok : α → Prop} {a : α} {Γ : List Slot} {ds : List PyData} (E : DE p ok) (r : DSl K Γ ds) : DSl K (val p a :: Γ) (E.enc a :: ds)
theorem DSl.all {K : PySem.W.Frag} {F H : Hp} {Γ : List Slot} {ds : List PyData} (h : DSl K Γ ds) : ∀ {vs : List V} {fp : List Addr}, Slots F H fp (vs.map some) Γ → DpAll K F vs ds := by
  induction h with
  | nil =>
    intro vs fp S
    cases vs with
    | nil => exact .nil
    | cons _ _ => have := S.length; simp at this
  | cons E _ ih =>
    intro vs fp S
    cases vs with
    | nil => have := S.length; simp at this
    | cons v vs =>
      obtain ⟨f1, f2, rfl, pv, pr⟩ := Slots.cons_inv S
      exact .cons (E.dp K F v _ (val_P pv).2) (ih pr)
section
variable {P : Program} {w : World} {K : PySem.W.Frag} {mg : Str → Option Value} {base : Heap} {k : Nat}
variable {Y : Fa P w K mg base k} {e : Expr} {Γ : List Slot}
theorem XV.dataH {α : Type} {sl : α → List Slot} {z : α} {ds : List PyData} (D : DSl K (sl z) ds) (h : XV Y e Γ (val (pH sl) z)) : XV Y e Γ (val (pDa K) (.list ds)) := h.as fun F H fp o _ ⟨e1, v, e2, l, vs, ev, h1, h2⟩ => ⟨e1, v, e2, by subst ev; exact .lst (SqL.of h1) (D.all h2)⟩
end

/-! ### the law, called where no repr is under way -/
end Ty

/-! Ty37 -/
/-! tuples: tuple + tuple, slices, enumerate(tuple) -/
namespace PySem
open Sem (wp)
open AutoSeq1 (wpAny_loadPart')
section
variable {prog : Program} {w : World} {A : Around} {E : Value → Shared → Prop} {s : Shared}
end
end PySem
namespace Ty
open PySem PySem.Spec L2
open PyProof.Rows
def ItET (K : PySem.W.Frag) (a : Addr) : It :=
  ⟨fun i H => ∃ (xs : List V) (x : V), SqT K H a xs ∧ xs[i]? = some x, fun i H v H' => ∃ T x, v = .ref T ∧ H T = none ∧ H' = upd H T (.tup [.int (i : Nat), x]) ∧ ∀ xs, SqT K H a xs → xs[i]? = some x, fun i H => ∃ xs : List V, SqT K H a xs ∧ xs.length ≤ i⟩
def iEnumT (K : PySem.W.Frag) (ta : TA) : TI := fun σ H R => ta σ H fun vs H1 => ∃ a xs, vs = [.ref a] ∧ SqT K H1 a xs ∧ R (ItET K a) H1
section
variable {P : Program} {w : World} {K : PySem.W.Frag} {mg : Str → Option Value} {base : Heap} {k : Nat} {Y : Fa P w K mg base k} {Γ : List Slot} {e ea eb iter tg : Expr} {pos : Pos}
variable {α : Type} {p : VP α} {xs ys : List α}
/-- tuple + tuple -/
theorem o_catT (hz : xs.length + ys.length ≤ sizeLine) : Op2 (rCatA K) (val (pTup p) xs) (val (pTup p) ys) (val (pTup p) (xs ++ ys)) := fun B F H x y fx fy os Q W p1 p2 q => by
  obtain ⟨rfl, l2, vs2, e2, g2, r2⟩ := val_P p2
  obtain ⟨rfl, l1, vs1, e1, g1, r1⟩ := val_P p1
  subst e1; subst e2
  have W0 : Wo B F H os := W
  refine ⟨l1, l2, vs1, vs2, rfl, rfl, SqT.of (W.sub _ _ g1), SqT.of (W.sub _ _ g2), by rw [Paired.length r1, Paired.length r2]; exact hz, fun h => ?_, fun _ h => ?_, fun _ _ p' hp => ?_⟩
  · subst h
    cases r1
    exact q _ F H [] same_refl same_refl W0 ⟨rfl, _, rfl, l2, vs2, rfl, g2, r2⟩
  · subst h
    cases r2
    rw [List.append_nil] at q
    exact q _ F H [] same_refl same_refl W0 ⟨rfl, _, rfl, l1, vs1, rfl, g1, r1⟩
  · exact newF (r := val (pTup p) (xs ++ ys)) W0 hp (fun F' f e => ⟨rfl, _, rfl, p', _, rfl, e, Paired.mon (fun _ _ r => p.mono f r) (Paired.app r1 r2)⟩) q
theorem op_catT (Y : Fa P w K mg base k) (i : Y.I) : OpR (Y.X i) (binaryOp .Add) (rCatA K) := by have h := op_catA (X := Y.X i); rw [Y.hK i] at h; exact h
end
end Ty

/-! Ty55 -/
/-! max(xs, key=lambda x: ..): the builtin's loop over an invariant of the state -/
namespace Ty
open PySem PySem.Spec L2
open PyProof.Rows
section
variable {prog : Program} {w : World} {A : Around} {E : Value → Shared → Prop} {l q I S : Addr} {n : Nat} {Pv : Nat → Value → Prop} {R : Result → Shared → Prop} {Q : Value → Shared → Prop} {J : Shared → Prop}
end
end Ty

/-! Ty56 -/
/-! a lambda of one parameter, made and called; max(xs, key=lambda x: ..) -/
namespace Ty
open PySem PySem.Spec L2
open PyProof.Rows
open LamX
/-! ### the lambda's frame -/
structure LamS1 (sc scope : Scope) (p : Str) : Prop where
  kind : scope.kind = .function
  co : scope.isCoroutine = false
  gen : scope.isGenerator = false
  own : ∀ y ∈ scope.names, y.2 ≠ .cell ∧ (y.2 = .local → y.1 = p)
  par : scope.names.lookup p = some .local
  free : ∀ y ∈ scope.names, y.2 = .free → sc.names.lookup y.1 = some .cell ∨ sc.names.lookup y.1 = some .free
def lamC1 (X : Cx) (A : Around) (scope : Scope) (f c' : Addr) (p : Str) (s : Shared) (H : Hp) : Cx where
  prog := X.prog
  w := X.w
  K := X.K
  mg := X.mg
  base := X.base
  A := A.deeper (lamEnv X scope s.heap.objs.size f c')
  N := X.N ++ [p]
  s_0 := s
  H_0 := H
  env := lamEnv X scope s.heap.objs.size f c'
  outer := X.stack
  stack := lamEnv X scope s.heap.objs.size f c' :: X.stack
  ex := []
  fn := fun _ => false
  calm := true
  pn := []
  xe := fun _ _ => False
section
variable {X : Cx} {pins : List (Addr × Obj)} {σ : L2.St} {H : Hp} {s : Shared}
theorem lam_begin {A : Around} {scope : Scope} {f c' : Addr} {p : Str} {h₁ : Heap} {tk : Nat} {v : V} {u : Value} (I : Inv X pins σ H s) (L : LamS1 X.env.scope scope p) (hp : p ∉ X.N) (hf : A.frames = some X.stack) (hd : A.handled = none) (rv : RelV v u)
    (hns : h₁.Ns s.heap.objs.size fun y => ([(p, u)] : List (Str × Value)).reverse.lookup y) (kp : ∀ b o, s.heap.get? b = some o → h₁.get? b = some o) :
    Inv (lamC1 X A scope f c' p s H) [] (σ ++ [some v]) H { s with heap := h₁, toks := tk } := by
  have e0 := I.env0
  have hfree : ∀ y ∈ scope.names, y.2 = .free → ∃ c, X.env.cells.lookup y.1 = some c := fun y hy e => (L.free y hy e).elim (fun z => I.ok.has _ (.inl z)) fun z => I.ok.has _ (.inr z)
  have cm : ∀ {y c}, (cloFrom X.env.cells scope.names []).lookup y = some c → X.env.cells.lookup y = some c := fun {y c} e => by
    rcases cloFrom_mem (PySem.mem_of_lookup e) with hm | ⟨h1, h2⟩
    · cases hm
    · obtain ⟨c1, hc⟩ := hfree _ h1 rfl
      have hc : X.env.cells.lookup y = some c1 := hc
      have e2 : c = c1 := by rw [h2, hc]; rfl
      rw [e2]; exact hc
  have look : ∀ {y}, scope.names.lookup y = some .free → ∃ c, (cloFrom X.env.cells scope.names []).lookup y = some c := fun {y} hl => by
    have hy : (y, NameKind.free) ∈ scope.names := PySem.mem_of_lookup hl
    exact mem_lookup (cloFrom_has (cells := X.env.cells) (acc := []) hy)
  have cellK : ∀ {c : Addr} {v : Option Value}, s.heap.IsCell c v → h₁.IsCell c v := fun ⟨o, ho, hd⟩ => ⟨o, kp _ _ ho, hd⟩
  have noA : ∀ b : Addr, b ∉ (lamC1 X A scope f c' p s H).ex := fun b z => absurd (show b ∈ ([] : List Addr) from z) (by simp)
  have hlen : σ.length = X.N.length := I.len
  refine ⟨⟨e0.mod, L.kind, rfl, rfl, Nat.le_refl _, fun y z c e1 e2 => I.ok.inj y z c (cm e1) (cm e2), fun y hy => ?_, fun y c z _ => ?_, fun _ => hd, Around.frames_deeper hf, .inr ⟨rfl, rfl⟩, fun b z => absurd z (noA b), e0.bs, e0.bsz, fun b _ _ => noA b,
      fun b z => absurd z (noA b), e0.funs, e0.frf⟩,
    rfl, e0.bare, Un.kept kp, ⟨_, hns, fun i y v' e1 e2 e3 => ?_⟩, fun y c e => ?_, e0.hok.fresh (Nat.le_refl _), fun y c e => ?_, fun q hq => absurd (show q ∈ ([] : List (Addr × Obj)) ++ [] from hq) (by simp), e0.hok.kept kp, ?_⟩
  · have hy : scope.names.lookup y = some .cell ∨ scope.names.lookup y = some .free := hy
    rcases hy with hy | hy
    · exact absurd rfl (L.own _ (PySem.mem_of_lookup hy)).1
    · exact look hy
  · have z : false = true := z
    cases z
  · have e1 : (X.N ++ [p])[i]? = some y := e1
    have e3 : Vis scope y := e3
    by_cases hi : i < X.N.length
    · rw [List.getElem?_append_left hi] at e1
      rw [List.getElem?_append_left (by rw [hlen]; exact hi)] at e2
      rcases e3 with k | k | k
      · have z : y = p := (L.own _ (PySem.mem_of_lookup k)).2 rfl
        rw [z] at e1
        exact absurd (List.mem_of_getElem? e1) hp
      · exact absurd rfl (L.own _ (PySem.mem_of_lookup k)).1
      · obtain ⟨m, hn, hl⟩ := I.loc
        have hvis : Vis X.env.scope y := (L.free _ (PySem.mem_of_lookup k) rfl).elim (fun k => .inr (.inl k)) (fun k => .inr (.inr k))
        obtain ⟨w', r, q⟩ := hl i y v' e1 e2 hvis
        obtain ⟨c2, h2⟩ := look k
        refine ⟨w', r, .inr ⟨.inr k, c2, h2, ?_⟩⟩
        have c1 := cm h2
        rcases q with ⟨k', _⟩ | ⟨_, c3, e', z⟩
        · have k' : X.env.scope.names.lookup y = some .local := k'
          rcases L.free _ (PySem.mem_of_lookup k) rfl with k2 | k2 <;> rw [show X.env.scope.names.lookup y = _ from k2] at k' <;> cases k'
        · rw [c1] at e'
          cases e'
          exact cellK z
    · have hi2 : i = X.N.length := by
        have := (List.getElem?_eq_some_iff.mp e1).1
        simp at this; omega
      subst hi2
      rw [List.getElem?_append_right (Nat.le_refl _)] at e1
      rw [List.getElem?_append_right (by rw [hlen]; exact Nat.le_refl _)] at e2
      have e1' : p = y := by simpa using e1
      have e2' : v = v' := by simpa [hlen] using e2
      subst e1'; subst e2'
      exact ⟨u, rv, .inl ⟨L.par, by simp⟩⟩
  · obtain ⟨w', z⟩ := I.cell y c (cm e)
    exact ⟨w', cellK z⟩
  · exact I.freeC y c (cm e)
  · show (σ ++ [some v]).length = (X.N ++ [p]).length
    simp [hlen]
/-- f(u), f the lambda's object -/
theorem lam_call {scope : Scope} {params : Arguments} {body : Expr} {f c' : Addr} {p : Str} {v : V} {u pm ctv : Value} {tb : TE} {Q : VK} {A : Around} (I : Inv X pins σ H s) (L : LamS1 X.env.scope scope p) (hp : p ∉ X.N) (hA : A.frames = some X.stack) (hd : A.handled = none) (hdp : A.depth < recursionLimit) (rv : RelV v u)
    (hf : s.heap.get? f = some (PySem.W.kla_obj "<lambda>" (X.env.qual ++ "<lambda>") params body scope (cloFrom X.env.cells scope.names []) pm c' ctv)) (hc : H c' = some (CodeO c' (X.env.qual ++ "<lambda>")))
    (hbind : bindArgs (PySem.W.kla_fn "<lambda>" (X.env.qual ++ "<lambda>") params body scope (cloFrom X.env.cells scope.names []) pm (.ref c') ctv) ⟨[u], []⟩ = pure [(p, u)])
    (hbody : PE (lamC1 X A scope f c' p s H) body tb) (ht : tb (σ ++ [some v]) H Q) :
    wpAny (model X.prog X.w) A (call (.ref f) [u]) (fun r s' => CE X.stack X.prog X.w H s Q r s') (fun _ _ => False) s := by
  obtain ⟨⟨oc, vs, t, hoc, hdc, hvc⟩, _, _⟩ := I.hok c' _ hc
  refine wpAny_call ?_
  refine PySem.W.kla_callFunE hdp hf rfl L.co L.gen rfl ⟨c', oc, vs, t, rfl, hoc, hdc, hvc⟩ ?_
  rw [hbind]
  refine wpAny_pure (wpAny_newFunctionEnv (fun y hy => (L.own y hy).1) (fun y hy => by rw [List.mem_singleton.mp hy]; exact L.par) (fun h₁ hns hsb => ⟨I.nolimit.fresh _ hsb, ?_⟩) L.kind)
  show codeAny _ _ (.expr body (lamEnv X scope s.heap.objs.size f c')) _ _
  have kp : ∀ b o, s.heap.get? b = some o → h₁.get? b = some o := fun b o e => hsb.extBut b o (Nat.ne_of_lt (Heap.lt_size e)) (Heap.get?_push_of_some _ e)
  have J := lam_begin (A := A) (f := f) (c' := c') (tk := s.toks + 1) I L hp hA hd rv hns kp
  refine PySem.W.kla_codeExpr (wpAny_mono (hbody.run [] _ _ H Q J ht) (fun r s' hq => ?_) fun e s' hq => hq.elim)
  obtain ⟨w', H', J', r', q'⟩ := hq
  exact ⟨w', H', J'.os, J'.bare, J'.base, J'.hok, r', q'⟩
/-- the lambda is made: its code object is new, or found in the table -/
theorem lam_make3 {c P : Addr} {params : Arguments} {body : Expr} {scope : Scope} {pos : Pos} {ps : Array Value} {R : Addr → Prop} {E : Value → Shared → Prop} {Q : Value → Shared → Prop} (I : Inv X pins σ H s) (TB : TabB X.base X.mg c P) (hcode : X.env.code = .ref c)
    (hP : H P = some (.tbl ps)) (ht : TriplesOk ps.toList) (hR : ∀ c, R c → H c = some (CodeO c (X.env.qual ++ "<lambda>"))) (ha : ∀ (pos : Pos) (cv : Value), codeAmong pos ps.toList = some cv → ∃ c, cv = .ref c ∧ R c) (hdef : defaultsOf params X.env = ([], [])) (hfree : ∀ y ∈ scope.names, y.2 = .free → ∃ c, X.env.cells.lookup y.1 = some c)
    (h : ∀ (f c' : Addr) (pm ctv : Value) (H1 : Hp) (s' : Shared), Inv X pins σ H1 s' → ((H1 = H ∧ H c' = some (CodeO c' (X.env.qual ++ "<lambda>"))) ∨ (H c' = none ∧ ∃ ps' : Array Value, H1 = upd (upd H P (.tbl ps')) c' (CodeO c' (X.env.qual ++ "<lambda>")) ∧ TriplesOk ps'.toList ∧ ∀ (pos : Pos) (cv : Value), codeAmong pos ps'.toList = some cv → ∃ c, cv = .ref c ∧ (c = c' ∨ R c))) →
      s'.heap.get? f = some (PySem.W.kla_obj "<lambda>" (X.env.qual ++ "<lambda>") params body scope (cloFrom X.env.cells scope.names []) pm c' ctv) → H1 f = none → f ∉ frs X.stack → Q (.ref f) s') :
    wpAny (model X.prog X.w) X.A (eval (.Lambda params body scope pos) X.env) Q E s := by
  refine PySem.W.kla_eval hdef ?_
  have bP : s.heap.BuiltinsAt X.mg P := TB.bm.keeps I.bk
  have hP' : s.heap.get? P = some { cls := .none, data := .fields ps } := I.hok P _ hP
  have nofr : ∀ f, s.heap.objs.size ≤ f → f ∉ frs X.stack := fun f hf z => by
    rcases List.mem_cons.mp (I.stkSub _ z) with e | e
    · have h1 := I.lt
      rw [← e] at h1
      exact Nat.lt_irrefl _ (Nat.lt_of_lt_of_le h1 hf)
    · exact I.nofs hf e
  cases hc : codeAmong pos ps.toList with
  | none =>
    refine PySem.W.kla_makeFunction (mg := X.mg) (c := c) (P := P) (ps := ps) (closure_ok hfree) I.ok.glob (I.mod.glob.keeps I.bk) hcode (TB.code.keeps I.bk) hP' ht hc TB.gP bP fun c' ctv h' tk hx hge hlt hrec htb => ?_
    obtain ⟨c2, oc, vs, t, e2, hoc, hd, hv⟩ := hrec
    cases e2
    have nC : H c' = none := I.hok.fresh hge
    have I1 := inv_table (t' := tk) (more := #[rawInt pos.line, rawInt pos.col, .ref c']) (h' := h'.push (PySem.W.kla_obj "<lambda>" (X.env.qual ++ "<lambda>") params body scope (cloFrom X.env.cells scope.names []) ((X.mg "__name__").getD .none) c' ctv)) I hP
      (fun b o hb e => Heap.get?_push_of_some _ (hx b o hb e)) (Heap.get?_push_of_some _ htb) hge ⟨oc, vs, t, Heap.get?_push_of_some _ hoc, hd, hv⟩
    have eL : (ps ++ #[rawInt pos.line, rawInt pos.col, .ref c']).toList = ps.toList ++ [rawInt pos.line, rawInt pos.col, .ref c'] := by simp
    have hsz : s.heap.objs.size ≤ h'.objs.size := Nat.le_trans hge (Nat.le_of_lt hlt)
    refine h h'.objs.size c' ((X.mg "__name__").getD .none) ctv _ _ I1 (.inr ⟨nC, _, rfl, by rw [eL]; exact PySem.TriplesOk_snoc _ _ _ _ ht, fun p' cv hcv => ?_⟩) (Heap.get?_push_size _ rfl) ?_ (nofr _ hsz)
    · rw [eL] at hcv
      rcases among_app _ ht hcv with z | z
      · obtain ⟨c0, e1, e2⟩ := ha p' cv z
        exact ⟨c0, e1, .inr e2⟩
      · exact ⟨c', z, .inl rfl⟩
    · have n1 : h'.objs.size ≠ c' := Nat.ne_of_gt hlt
      have n2 : h'.objs.size ≠ P := Nat.ne_of_gt (Nat.lt_of_lt_of_le (Heap.lt_size hP') hsz)
      rw [upd_ne n1, upd_ne n2]
      exact I.hok.fresh hsz
  | some cv =>
    obtain ⟨c', e, hco⟩ := ha pos cv hc
    subst e
    refine PySem.W.kla_makeFunctionHit (mg := X.mg) (c := c) (P := P) (ps := ps) (closure_ok hfree) I.ok.glob (I.mod.glob.keeps I.bk) hcode (TB.code.keeps I.bk) hP' ht hc bP fun ctv h' tk hx hsz => ?_
    have I1 : Inv X pins σ H { s with heap := h'.push (PySem.W.kla_obj "<lambda>" (X.env.qual ++ "<lambda>") params body scope (cloFrom X.env.cells scope.names []) ((X.mg "__name__").getD .none) c' ctv), toks := tk } := I.kept fun b o e => Heap.get?_push_of_some _ (hx b o e)
    exact h h'.objs.size c' ((X.mg "__name__").getD .none) ctv H _ I1 (.inl ⟨rfl, hR _ hco⟩) (Heap.get?_push_size _ rfl) (I.hok.fresh hsz) (nofr _ hsz)
end
/-! ### the first of the greatest -/
def fmx (g : Int → Int) : List Int → Option Int
  | [] => none
  | x :: xs => some (xs.foldl (fun b y => if g b < g y then y else b) x)
/-! ### max(e, key=lambda p: body) -/
/-- the codes that the table tells -/
def Cds (ps : Array Value) (q : Str) (R : Addr → Prop) : Prop := TriplesOk ps.toList ∧ ∀ (pos : Pos) (cv : Value), codeAmong pos ps.toList = some cv → ∃ c, cv = .ref c ∧ R c
def MaxLam (K : PySem.W.Frag) (P : Addr) (q : Str) (tb : TE) (σ : L2.St) (Q : VK) : VK := fun v H0 => ∃ (a : Addr) (ns : List Int) (ps : Array Value) (R : Addr → Prop) (JH : Addr → Hp → Prop) (g : Int → Int) (m : Int),
  v = .ref a ∧ SqL K H0 a (ns.map V.int) ∧ H0 P = some (.tbl ps) ∧ (∀ c, R c → H0 c = some (CodeO c q)) ∧ Cds ps q R ∧ fmx g ns = some m ∧
  (∀ (c' : Addr) (H1 : Hp), ((H1 = H0 ∧ H0 c' = some (CodeO c' q)) ∨ (H0 c' = none ∧ ∃ ps' : Array Value, H1 = upd (upd H0 P (.tbl ps')) c' (CodeO c' q) ∧ Cds ps' q (fun c => c = c' ∨ R c))) → JH c' H1) ∧
  (∀ (c' : Addr) (H2 : Hp), JH c' H2 → H2 c' = some (CodeO c' q) ∧ SqL K H2 a (ns.map V.int) ∧ ∀ n ∈ ns, tb (σ ++ [some (.int n)]) H2 (fun v H3 => v = .int (g n) ∧ JH c' H3)) ∧
  ∀ (c' : Addr) (H3 : Hp), JH c' H3 → Q (.int m) H3
def tMaxLam (K : PySem.W.Frag) (P : Addr) (q : Str) (te tb : TE) : TE := fun σ H Q => te σ H (MaxLam K P q tb σ Q)
/-- an address of our own, out of the frames' reach -/
structure Apart (X : Cx) (pins : List (Addr × Obj)) (b : Addr) : Prop where
  new : X.s_0.heap.objs.size ≤ b
  loc : b ≠ X.env.locals
  cel : ∀ x c, X.env.cells.lookup x = some c → c ≠ b
  pin : ∀ p ∈ X.pn ++ pins, p.1 ≠ b
  frs : b ∉ frs X.stack
section
variable {X : Cx} {pins : List (Addr × Obj)} {σ : L2.St} {H : Hp} {s : Shared}
theorem Apart.of (I : Inv X pins σ H s) {b : Addr} (h : s.heap.objs.size ≤ b) : Apart X pins b := by
  have hl := I.lt
  refine ⟨Nat.le_trans I.sz h, fun z => ?_, fun x c e z => ?_, fun p hp z => ?_, fun z => ?_⟩
  · rw [z] at h; exact absurd (Nat.lt_of_lt_of_le hl h) (Nat.lt_irrefl _)
  · obtain ⟨v, o, ho, _⟩ := I.cell x c e
    have := Heap.lt_size ho
    rw [z] at this; exact absurd (Nat.lt_of_lt_of_le this h) (Nat.lt_irrefl _)
  · obtain ⟨e, _⟩ := I.pin p hp
    have := Heap.lt_size e
    rw [z] at this; exact absurd (Nat.lt_of_lt_of_le this h) (Nat.lt_irrefl _)
  · rcases List.mem_cons.mp (I.stkSub _ z) with e | e
    · rw [e] at h; exact absurd (Nat.lt_of_lt_of_le hl h) (Nat.lt_irrefl _)
    · exact I.nofs h e
/-- untracked objects of ours are written -/
theorem Inv.apart (I : Inv X pins σ H s) {S T : Addr} {h' : Heap} {t' : Nat} (aS : Apart X pins S) (aT : Apart X pins T) (hS : H S = none) (hT : H T = none) (k : ∀ b o, b ≠ S → b ≠ T → s.heap.get? b = some o → h'.get? b = some o) : Inv X pins σ H { s with heap := h', toks := t' } := by
  have ne : ∀ b, b ∉ [S, T] → b ≠ S ∧ b ≠ T := fun b hb => by simpa using hb
  refine I.step (g' := s.gens) (d' := s.drawn) (ch := [S, T]) (fun b hb => ?_) (fun b o _ _ hc e n => k b o (ne b hc).1 (ne b hc).2 e) (fun b o _ _ hc e n => ⟨o.slots, k b o (ne b hc).1 (ne b hc).2 e⟩) (fun b o _ _ n => n) (fun b o hc e => ⟨o, k b o (ne b hc).1 (ne b hc).2 e⟩)
    (fun b xs e => e) (fun b o u e => e) (fun b ps e => ⟨#[], by simpa using e⟩) (fun m hn => ?_) (fun b u e => (I.hok b u e).stay (fun d v hd q => ?_) (fun _ q => q) fun _ _ q => q) I.bare
  · have : Apart X pins b := by
      rcases List.mem_cons.mp hb with e | e
      · rw [e]; exact aS
      · rw [List.mem_singleton.mp e]; exact aT
    exact ⟨.inr this.new, this.loc, this.cel, this.pin⟩
  · obtain ⟨ob, es, ep, ho, r⟩ := hn
    exact ⟨ob, es, ep, k _ ob (fun z => aS.loc z.symm) (fun z => aT.loc z.symm) ho, r⟩
  · have nn : H d ≠ none := by
      rcases hd with z | z
      · rw [z, e]; simp
      · rw [z]; simp
    exact k d v (fun z => nn (by rw [z]; exact hS)) (fun z => nn (by rw [z]; exact hT)) q
end
end Ty

/-! Ty57 -/
/-! the table of a def that makes a lambda: owned by the frame, in a slot of its own -/
namespace Ty
open PySem PySem.Spec L2
open PyProof.Rows
open LamX
theorem Cds.mono {ps : Array Value} {q : Str} {R R' : Addr → Prop} (h : Cds ps q R) (k : ∀ c, R c → R' c) : Cds ps q R' := ⟨h.1, fun pos cv e => let ⟨c, e1, e2⟩ := h.2 pos cv e; ⟨c, e1, k c e2⟩⟩
/-- the slot: the table at P, owned; the codes that it tells are frozen -/
def gT (P : Addr) (q : Str) : Slot where
  P := fun F H fp _ => fp = [P] ∧ ∃ ps : Array Value, H P = some (.tbl ps) ∧ Cds ps q (fun c => F c = some (CodeO c q))
  mono := fun hF hH h => let ⟨e, ps, h1, h2⟩ := h; ⟨e, ps, hH _ _ h1, h2.mono fun c z => hF _ _ z⟩
  st := True
  mm := fun _ {_ _ _ _ _ _} hF hH h => let ⟨e, ps, h1, h2⟩ := h; ⟨e, ps, by rw [hH _ (by rw [e]; simp)]; exact h1, h2.mono fun c z => hF _ _ z⟩
section
variable {P : Program} {w : World} {K : PySem.W.Frag} {mg : Str → Option Value} {base : Heap} {k : Nat}
/-- the frames of a lambda made in Y's frames -/
def Fa.lam (Y : Fa P w K mg base k) (scope : Scope) (p : Str) (hp : ∀ i, p ∉ (Y.X i).N) : Fa P w K mg base 0 where
  I := { z : Y.I × Around × Shared × Hp × Addr × Addr // Room 0 (z.2.1.deeper (lamEnv (Y.X z.1) scope z.2.2.1.heap.objs.size z.2.2.2.2.1 z.2.2.2.2.2)) }
  X := fun z => lamC1 (Y.X z.1.1) z.1.2.1 scope z.1.2.2.2.2.1 z.1.2.2.2.2.2 p z.1.2.2.1 z.1.2.2.2.1
  hP := fun z => Y.hP z.1.1
  hw := fun z => Y.hw z.1.1
  hK := fun z => Y.hK z.1.1
  hM := fun z => Y.hM z.1.1
  hB := fun z => Y.hB z.1.1
  cm := true
  hC := fun _ => rfl
  hR := fun _ z => z.2
  hU := fun z => z.2.units
  W := fun _ _ _ _ => False
  tk := fun _ => LamX.takes0
  hN := fun z => List.nodup_append.mpr ⟨Y.hN z.1.1, by simp, fun a ha b hb => by rw [List.mem_singleton.mp hb]; exact fun e => hp z.1.1 (e ▸ ha)⟩
  hO := fun _ => PassesOwn.never
variable {Y : Fa P w K mg base k} {i : Y.I} {e ea eb elt : Expr} {es : List Expr} {rest : List Stmt} {Γ Γ' Γ1 : List Slot} {a b r s : Slot} {pos : Pos} {B : Bs} {D : Ends} {x : Str} {p' : Pos}
theorem Rd.upd {H : Hp} {l P : Addr} {u : HO} {ps : Array Value} {ps' : Array Value} (hP : H P = some (.tbl ps)) (h : Rd H l u) (hu : ∀ q, u ≠ .tbl q) : Rd (upd H P (.tbl ps')) l u := by
  rcases h with h | ⟨o, h⟩
  · exact .inl ((upd_ne (fun z => by rw [z, hP] at h; exact hu ps (Option.some.inj h).symm)).trans h)
  · exact .inr ⟨o, (upd_ne (fun z => by rw [z, hP] at h; cases h)).trans h⟩
theorem SqL.updT {H : Hp} {l P : Addr} {xs : List V} {ps ps' : Array Value} (hP : H P = some (.tbl ps)) (h : SqL K H l xs) : SqL K (upd H P (.tbl ps')) l xs := by
  rcases h with h | h
  · exact .inl (Rd.upd hP h fun q z => by cases z)
  · exact .inr h
/-- what stands behind a change of the table and a new code -/
theorem Slots.tbl {F H : Hp} {os : List Addr} {σ : L2.St} {P c' : Addr} {q : Str} {ps' : Array Value} (j : Nat) (W : Wo B F H os) (S : Slots F H os σ Γ) (hs : Γ[j]? = some (gT P q)) (hst : Stb Γ) (hc : H c' = none) (hcd : Cds ps' q (fun c => c = c' ∨ F c = some (CodeO c q))) :
    ∃ F1 os', Same F F1 ∧ F1 c' = some (CodeO c' q) ∧ Wo B F1 (upd (upd H P (.tbl ps')) c' (CodeO c' q)) os' ∧ Slots F1 (upd (upd H P (.tbl ps')) c' (CodeO c' q)) os' σ Γ := by
  obtain ⟨o, fp, r0, eo, ⟨efp, ps, hP, _⟩, hperm, back⟩ := S.at hs
  subst efp
  have W1 := W.perm hperm
  have nd := W1.nd
  have W2 : Wo B F (upd H P (.tbl ps')) ([P] ++ r0) := W1.write (by simp)
  have hc1 : upd H P (.tbl ps') c' = none := by rw [upd_ne (fun z => by rw [z, hP] at hc; cases hc)]; exact hc
  have W3 := W2.newF (o := CodeO c' q) hc1
  have hF : Same F (upd F c' (CodeO c' q)) := same_upd (W.free hc).1
  obtain ⟨os', S', hp'⟩ := back (F' := upd F c' (CodeO c' q)) (H' := upd (upd H P (.tbl ps')) c' (CodeO c' q)) (fp' := [P]) (o' := o) (s' := gT P q) ⟨rfl, ps', by rw [upd_ne (fun z => by rw [← z, hP] at hc; cases hc), upd_same], hcd.mono fun c z => by
      rcases z with z | z
      · rw [z, upd_same]
      · exact hF _ _ z⟩ (fun s0 h0 fp0 o0 hsub p0 => s0.mm (hst s0 h0) hF (fun a ha => by
        have ha' := hsub a ha
        have n1 : a ≠ P := fun z => by rw [z] at ha'; exact (List.nodup_cons.mp nd).1 ha'
        obtain ⟨u, hu⟩ := W1.oH a (List.mem_cons_of_mem _ ha')
        have n2 : a ≠ c' := fun z => by rw [z, hc] at hu; cases hu
        rw [upd_ne n2, upd_ne n1]) p0)
  have es : σ.set j o = σ := by
    obtain ⟨hj, z⟩ := List.getElem?_eq_some_iff.mp eo
    rw [← z]; exact List.set_getElem_self hj
  have eG : Γ.set j (gT P q) = Γ := by
    obtain ⟨hj, z⟩ := List.getElem?_eq_some_iff.mp hs
    rw [← z]; exact List.set_getElem_self hj
  rw [es, eG] at S'
  exact ⟨_, os', hF, upd_same, W3.perm hp'.symm, S'⟩
end
end Ty

/-! Ty38 -/
/-! calls of methods that change their object, within expressions -/
namespace Ty
open PySem PySem.Spec L2
section
variable {P : Program} {w : World} {K : PySem.W.Frag} {mg : Str → Option Value} {base : Heap} {k : Nat}
variable {Y : Fa P w K mg base k} {i : Y.I} {e ea eb eo ev tg iter elt : Expr} {es ifs : List Expr} {rest body orelse : List Stmt} {Γ Γ' Γ1 Γ2 Δ Δ' As : List Slot} {a b c r s s' : Slot} {pos pos' : Pos} {B : Bs} {D : Ends} {x f : Str} {p' : Pos} {C : Addr} {ns : List Str} {α : Type} {p : VP α} {xs : List α}
/-! tests that change something -/
def XMT (Y : Fa P w K mg base k) (e : Expr) (Γ : List Slot) (z : Bool) (Γ' : List Slot) : Prop :=
  ∃ t : TT, (∀ i, PT (Y.X i) e t) ∧ ∀ (B : Bs) (F H : Hp) (os : List Addr) (σ : List (Option V)) (Q : Bool → Hp → Prop), Wo B F H os → Slots F H os σ Γ →
    (∀ F' H' os', Wo B F' H' os' → Slots F' H' os' σ Γ' → Q z H') → t σ H Q
/-! a slot at a known value and heap -/
def fixS (s : Slot) (v : V) (fp0 : List Addr) (H0 : Hp) : Slot where
  P := fun F H fp o => o = some v ∧ fp = fp0 ∧ (∀ a ∈ fp0, ∃ u, H0 a = some u ∧ H a = some u) ∧ s.P F H fp o
  mono := fun hF hH h => ⟨h.1, h.2.1, fun a ha => let ⟨u, e1, e2⟩ := h.2.2.1 a ha; ⟨u, e1, hH _ _ e2⟩, s.mono hF hH h.2.2.2⟩
  st := s.st
  mm := fun hs {_ _ _ _ _ _} hF hH h => ⟨h.1, h.2.1, fun a ha => let ⟨u, e1, e2⟩ := h.2.2.1 a ha; ⟨u, e1, by rw [hH a (by rw [h.2.1]; exact ha)]; exact e2⟩, s.mm hs hF hH h.2.2.2⟩
/-- the list of a field at its known place, looked at -/
def lstB (fp0 : List Addr) (Δ : List Slot) : Slot where
  P := fun F H fp o => fp = [] ∧ ∃ (l : Addr) (vs : List V) (os : List Addr), o = some (.ref l) ∧ fp0 = l :: os ∧ H l = some (.lst vs) ∧ Slots F H os (vs.map some) Δ
  mono := fun hF hH h => let ⟨e, l, vs, os, e1, e2, h1, h2⟩ := h; ⟨e, l, vs, os, e1, e2, hH _ _ h1, h2.mono hF hH⟩
  st := False
  mm := fun h => h.elim
def borA {α : Type} (fp0 : List Addr) (p : VP α) (xs : List α) : Slot where
  P := fun F H fp o => fp = [] ∧ ∃ (l : Addr) (vs : List V), o = some (.ref l) ∧ l ∈ fp0 ∧ H l = some (.lst vs) ∧ Paired (p.R F) vs xs
  mono := fun hF hH h => let ⟨e, l, vs, e1, e2, h1, h2⟩ := h; ⟨e, l, vs, e1, e2, hH _ _ h1, Paired.mon (fun _ _ r => p.mono hF r) h2⟩
  st := False
  mm := fun h => h.elim
/-- a frame that keeps the places fp0 as H0 tells them -/
def PinL (Γ : List Slot) (fp0 : List Addr) (H0 : Hp) : Prop := ∀ F H os σ, Slots F H os σ Γ → ∀ a ∈ fp0, ∃ u, H0 a = some u ∧ H a = some u
theorem PinL.self {fp0 : List Addr} {H0 : Hp} {v v0 : V} (j n : Nat) (hs : Γ[j]? = some (hold (obj C ns Δ) v0)) (hn : Δ[n]? = some (fixS s v fp0 H0)) : PinL Γ fp0 H0 := fun F H os σ S a ha => by
  obtain ⟨o, fp, r, e1, p1, _, _⟩ := S.at hs
  obtain ⟨_, x, dx, vs, o2, _, _, _, _, _, h4⟩ := p1
  obtain ⟨o', fp', r', e3, p3, _, _⟩ := h4.at hn
  exact p3.2.2.1 a ha
def XIp (Y : Fa P w K mg base k) (tg iter : Expr) (Γ : List Slot) (fp0 : List Addr) (H0 : Hp) (rs : List Slot) : Prop :=
  ∃ wi : TI, (∀ i, PI (Y.X i) tg iter wi) ∧ ∀ (B : Bs) (F H : Hp) (os : List Addr) (σ : List (Option V)) (R : It → Hp → Prop), In B F H os σ Γ →
    (∀ J F' H', Same F F' → Same H H' → Wo B F' H' os → (∀ F1 H1, Same F' F1 → (∀ a ∈ fp0, ∃ u, H0 a = some u ∧ H1 a = some u) → Same F1 H1 → J.stop rs.length H1 ∧
      ∀ (n : Nat) (r : Slot), rs[n]? = some r → J.go n H1 ∧ ∀ v H2, J.yld n H1 v H2 → Same H1 H2 ∧ ∀ (B : Bs) (os : List Addr), Wo B F1 H1 os → ∃ F2, Same F1 F2 ∧ Wo B F2 H2 os ∧ r.P F2 H2 [] (some v)) → R J H') → wi σ H R
end
end Ty

/-! Ty39 -/
/-! methods that change their object and hand a value back -/
namespace Ty
open PySem PySem.Spec L2
section
variable {P : Program} {w : World} {K : PySem.W.Frag} {mg : Str → Option Value} {base : Heap} {k : Nat}
variable {Y : Fa P w K mg base k} {i : Y.I} {e ea eb eo ev tg iter elt : Expr} {es ifs : List Expr} {rest body orelse : List Stmt} {Γ Γ' Γ1 Γ2 Δ Δ' As : List Slot} {a b c r s s' : Slot} {pos pos' : Pos} {B : Bs} {D : Ends} {x f : Str} {p' : Pos} {C : Addr} {ns : List Str} {α : Type} {p : VP α} {xs : List α}
/-- the object at v0 and the value handed back -/
def mS {μ ρ : Type} (v0 : V) (s1 : μ → Slot) (Sr : ρ → Slot) (r : μ × ρ) : Slot where
  P := fun F H fp o => ∃ f1 f2, fp = f2 ++ f1 ∧ (s1 r.1).P F H f1 (some v0) ∧ (Sr r.2).P F H f2 o
  mono := fun hF hH h => let ⟨f1, f2, e, p1, p2⟩ := h; ⟨f1, f2, e, (s1 r.1).mono hF hH p1, (Sr r.2).mono hF hH p2⟩
  st := False
  mm := fun h => h.elim
/-! ### a list or a tuple -/
def pSq {α : Type} (p : VP α) : VP (List α) where
  R := fun F v xs => (pL p).R F v xs ∨ (pTup p).R F v xs
  mono := fun hF h => h.elim (fun h => .inl ((pL p).mono hF h)) (fun h => .inr ((pTup p).mono hF h))
theorem XV.sqL (h : XV Y e Γ (val (pL p) xs)) : XV Y e Γ (val (pSq p) xs) := h.as fun F H fp o _ hp => by
  obtain ⟨e1, v, e2, r⟩ := hp
  exact ⟨e1, v, e2, .inl r⟩
theorem XV.sqT (h : XV Y e Γ (val (pTup p) xs)) : XV Y e Γ (val (pSq p) xs) := h.as fun F H fp o _ hp => by
  obtain ⟨e1, v, e2, r⟩ := hp
  exact ⟨e1, v, e2, .inr r⟩
end
end Ty

/-! Ty40 -/
/-! fields looked at, pins taken away, sets of a list or tuple -/
namespace Ty
open PySem PySem.Spec L2
section
variable {P : Program} {w : World} {K : PySem.W.Frag} {mg : Str → Option Value} {base : Heap} {k : Nat}
variable {Y : Fa P w K mg base k} {i : Y.I} {e ea eb eo ev tg iter elt : Expr} {es ifs : List Expr} {rest body orelse : List Stmt} {Γ Γ' Γ1 Γ2 Δ Δ' As : List Slot} {a b c r s s' : Slot} {pos pos' : Pos} {B : Bs} {D : Ends} {x f : Str} {p' : Pos} {C : Addr} {ns : List Str} {α : Type} {p : VP α} {xs : List α}
/-! ### set of a list or a tuple of ints -/
def rSetSq (K : PySem.W.Frag) (w : World) : List V → Hp → VK → Prop := fun xs H Q => ∃ (l : Addr) (ns : List Int), xs = [.ref l] ∧ (SqL K H l (ns.map V.int) ∨ SqT K H l (ns.map V.int)) ∧ ns.length < 64 ∧ ∀ p n, H p = none → n ≤ ns.length → Q (.ref p) (upd H p (SetO w p (fun j => decide (j ∈ ns)) n))
theorem cr_setSq {X : Cx} (hc : X.calm = true) : CallR X (.type "set") (rSetSq X.K X.w) := by
  intro pins s σ H xs us Q I r h
  obtain ⟨l, ns, rfl, hs, h64, q⟩ := h
  rcases hs with hs | hs
  · exact cr_setI hc pins s σ H _ us Q I r ⟨l, ns, rfl, hs, h64, q⟩
  · obtain ⟨its, rv, pl, hz⟩ := I.tuple hs
    rw [Vals.ref1 r]
    refine call_set_tupI ns (I.ok.hd hc) pl (by simpa using rv.ints) (by unfold scanBound; omega) fun h' tk c R hc' kp => ?_
    exact ⟨.ref _, upd H s.heap.objs.size (SetO X.w s.heap.objs.size (fun j => decide (j ∈ ns)) c), I.laid (t' := tk) (fun b u e => kp b u e) (Nat.le_refl _) (setO_new R), rfl, q _ c (I.hok.fresh (Nat.le_refl _)) hc'⟩
theorem c_setSq (Y : Fa P w K mg base k) (hcm : Y.cm = true := by rfl) (i : Y.I) : CallR (Y.X i) (.type "set") (rSetSq K w) := by have h := cr_setSq (X := Y.X i) ((Y.hC i).trans hcm); rw [Y.hK i, Y.hw i] at h; exact h
theorem o_setSq {ms : List Int} (hz : ms.length < 64) : OpA (rSetSq K w) [val (pSq pInt) ms] (setS w ms) := opA1 fun B F H v fx os Q W pv q => by
  obtain ⟨rfl, hr⟩ := val_P pv
  have key : ∃ l vs, v = V.ref l ∧ (SqL K H l vs ∨ SqT K H l vs) ∧ Paired (pInt.R F) vs ms := by
    rcases hr with ⟨l, vs, e, h1, h2⟩ | ⟨l, vs, e, h1, h2⟩
    · exact ⟨l, vs, e, .inl (SqL.of (W.sub _ _ h1)), h2⟩
    · exact ⟨l, vs, e, .inr (SqT.of (W.sub _ _ h1)), h2⟩
  obtain ⟨l, vs, ev, h1, h2⟩ := key
  subst ev
  have e := map_int_of h2
  subst e
  exact ⟨l, ms, rfl, h1, hz, fun p n hp hn => q _ F _ [p] same_refl (same_upd hp) (W.drop.newO hp) ⟨p, n, rfl, rfl, upd_same, by omega⟩⟩
end
end Ty

/-! Ty41 -/
/-! sorted of a list or a tuple of ints -/
namespace SrtO
open PySem PyProof.Rows Srt
section
variable {prog : Program} {w : World} {A : Around} {E : Value → Shared → Prop} {s : Shared}
theorem collect_tup {l : Addr} {vs : List Value} {Q : List Value → Shared → Prop} (hl : s.heap.IsTuple l vs.toArray)
    (h : Q vs { s with heap := (s.heap.push (seqObj "list" #[] 0)).update s.heap.objs.size (Obj.mapSeq (· ++ vs.toArray)) }) (hsz : vs.length ≤ sizeLine) :
    wpAny (model prog w) A (collect (.ref l)) Q E s := by
  obtain ⟨o, ho, hc, n, hd⟩ := id hl
  unfold collect
  refine wpAny_bind (wpAny_runValue (codeAny_builtin entry_proto_collect' ?_))
  show wpAny _ _ (do again (.builtin "list.__iadd__" ⟨[← newList [], .ref l], []⟩)) _ _ s
  refine wpAny_bind (wpAny_newList (wpAny_pure ⟨Code.quiet_builtin _ (by decide +kernel), codeAny_builtin entry_list_iadd' ?_⟩))
  show wpAny _ _ (Builtin.List.listExtendWith (.ref s.heap.objs.size) (.ref l) (.ref s.heap.objs.size)) _ _ { s with heap := s.heap.push (seqObj "list" #[] 0) }
  unfold Builtin.List.listExtendWith
  have ho' : (s.heap.push (seqObj "list" #[] 0)).get? l = some o := Heap.get?_push_of_some _ ho
  refine wpAny_bind (wpAny_typeOf (T := "tuple") ⟨o, ho', hc⟩ ?_)
  have ht : (Value.type "tuple" == Value.type "tuple") = true := by rfl
  rw [if_pos (by rw [ht]; simp)]
  refine wpAny_bind (listItems_at ho' hd ?_)
  refine wpAny_bind (listItems_at (xs := #[]) (n := 0) (Heap.get?_push_size _ rfl) rfl ?_)
  rw [if_neg (by simp)]
  refine wpAny_bind (listUpdate_at (xs := #[]) (n := 0) (Heap.get?_push_size _ rfl) rfl ?_ (Nat.zero_le _) (by show (#[] ++ vs.toArray).size ≤ sizeLine + 1; simp only [Array.size_append, List.size_toArray, List.length_nil]; omega))
  refine wpAny_pure ?_
  show wpAny (model prog w) A (do
      let o ← load s.heap.objs.size
      match o.data with
      | .seq xs _ => pure xs.toList
      | _ => unsupported "internal:collect") Q E { s with heap := (s.heap.push (seqObj "list" #[] 0)).update s.heap.objs.size (Obj.mapSeq (· ++ vs.toArray)) }
  refine wpAny_bind (wpAny_load (get?_update_seq (Heap.get?_push_size _ rfl) _) ?_)
  show wpAny _ _ (pure ((#[] : Array Value) ++ vs.toArray).toList) Q E _
  rw [show ((#[] : Array Value) ++ vs.toArray).toList = vs by simp]
  exact wpAny_pure h
theorem sorted_ordT {l : Addr} {vs : List Value} {ltv : Value → Value → Bool} {Q : Value → Shared → Prop} (O : Swo ltv) (hl : s.heap.IsTuple l vs.toArray) (hz : vs.length ≤ sizeLine)
    (hS : 2 ≤ vs.length → ∀ (h₁ : Heap) (a : Addr), h₁.get? a = some (seqObj "list" vs.toArray 0) → (∀ b o, s.heap.get? b = some o → b ≠ a ∧ h₁.get? b = some o) → SortableO prog w A.in1.in1 { s with heap := h₁ } a vs ltv)
    (h : ∀ out : List Value, Srtd ltv out → Stb ltv out vs → Q (.ref (s.heap.objs.size + 1)) { s with heap := sortedAll s.heap vs out.toArray }) :
    wpAny (model prog w) A (call (.builtin "sorted") [.ref l]) Q E s := by
  refine Calls.call_function_entry kind_sorted plain_sorted entry_sorted (args_sorted1 _) ?_
  unfold Builtin.«sorted»
  refine wpAny_bind (m := checkCount "sorted" 1 1 _) (wpAny_pure ?_)
  refine wpAny_bind (collect_tup hl ?_ hz)
  refine wpAny_bind (wpAny_newList ?_ hz)
  have hsz : ((s.heap.push (seqObj "list" #[] 0)).update s.heap.objs.size (Obj.mapSeq (· ++ vs.toArray))).objs.size = s.heap.objs.size + 1 := by
    rw [Heap.size_update, size_push']
  have hoL : (((s.heap.push (seqObj "list" #[] 0)).update s.heap.objs.size (Obj.mapSeq (· ++ vs.toArray))).push (seqObj "list" vs.toArray 0)).get? (s.heap.objs.size + 1) = some (seqObj "list" vs.toArray 0) := by
    rw [← hsz]; exact Heap.get?_push_size _ rfl
  have keep : ∀ b o, s.heap.get? b = some o → b ≠ s.heap.objs.size + 1 ∧ (((s.heap.push (seqObj "list" #[] 0)).update s.heap.objs.size (Obj.mapSeq (· ++ vs.toArray))).push (seqObj "list" vs.toArray 0)).get? b = some o := fun b o q => by
    have hlt : b < s.heap.objs.size := Heap.lt_size q
    refine ⟨Nat.ne_of_lt (Nat.lt_succ_of_lt hlt), Heap.get?_push_of_some _ ?_⟩
    rw [Heap.get?_update_ne _ _ _ _ (Nat.ne_of_lt hlt)]
    exact Heap.get?_push_of_some _ q
  show wpAny _ _ _ _ _ { s with heap := ((s.heap.push (seqObj "list" #[] 0)).update s.heap.objs.size (Obj.mapSeq (· ++ vs.toArray))).push (seqObj "list" vs.toArray 0) }
  rw [hsz]
  refine wpAny_bind (wpAny_holding (wpAny_call_entry slot_list_sort ⟨_, hoL, rfl⟩ entry_list_sort (list_sort_ord O hoL hz (fun h2 => hS h2 _ _ hoL keep) fun out hs hb => ⟨_, rfl, ?_⟩) (args_list_sort _)))
  exact wpAny_pure ⟨_, rfl, h out hs hb⟩
end
end SrtO
namespace Ty
open PySem PySem.Spec L2
/-! ### the sorted list -/
def insI (x : Int) : List Int → List Int
  | [] => [x]
  | y :: ys => if x ≤ y then x :: y :: ys else y :: insI x ys
def sortL : List Int → List Int
  | [] => []
  | x :: xs => insI x (sortL xs)
theorem insI_perm (x : Int) : ∀ ys, (insI x ys).Perm (x :: ys)
  | [] => .refl _
  | y :: ys => by
    unfold insI
    split
    · exact .refl _
    · exact ((insI_perm x ys).cons y).trans (.swap _ _ _)
theorem insI_pw (x : Int) : ∀ {ys : List Int}, ys.Pairwise (· ≤ ·) → (insI x ys).Pairwise (· ≤ ·)
  | [], _ => List.pairwise_singleton _ _
  | y :: ys, h => by
    obtain ⟨h1, h2⟩ := List.pairwise_cons.mp h
    unfold insI
    split
    · rename_i hle
      refine List.pairwise_cons.mpr ⟨fun z hz => ?_, h⟩
      rcases List.mem_cons.mp hz with rfl | hz
      · exact hle
      · exact Int.le_trans hle (h1 z hz)
    · rename_i hgt
      refine List.pairwise_cons.mpr ⟨fun z hz => ?_, insI_pw x h2⟩
      rcases List.mem_cons.mp ((insI_perm x ys).mem_iff.mp hz) with rfl | hz
      · omega
      · exact h1 z hz
theorem sortL_perm : ∀ xs, (sortL xs).Perm xs
  | [] => .refl _
  | x :: xs => (insI_perm x _).trans ((sortL_perm xs).cons x)
theorem sortL_pw : ∀ xs, (sortL xs).Pairwise (· ≤ ·)
  | [] => List.Pairwise.nil
  | x :: xs => insI_pw x (sortL_pw xs)
theorem pw_uniq : ∀ {xs ys : List Int}, xs.Perm ys → xs.Pairwise (· ≤ ·) → ys.Pairwise (· ≤ ·) → xs = ys
  | [], ys, h, _, _ => (List.Perm.eq_nil h.symm).symm
  | x :: xs, [], h, _, _ => absurd h.length_eq (by simp)
  | x :: xs, y :: ys, h, h1, h2 => by
    obtain ⟨a1, a2⟩ := List.pairwise_cons.mp h1
    obtain ⟨b1, b2⟩ := List.pairwise_cons.mp h2
    have e : x = y := by
      have m1 : x ∈ y :: ys := h.mem_iff.mp List.mem_cons_self
      have m2 : y ∈ x :: xs := h.mem_iff.mpr List.mem_cons_self
      rcases List.mem_cons.mp m1 with e | q
      · exact e
      · rcases List.mem_cons.mp m2 with e | r
        · exact e.symm
        · have := b1 x q
          have := a1 y r
          omega
    subst e
    rw [pw_uniq h.cons_inv a2 b2]
def rSortSq (K : PySem.W.Frag) : List V → Hp → VK → Prop := fun vs H Q => ∃ (a : Addr) (ns : List Int), vs = [V.ref a] ∧ (SqL K H a (ns.map V.int) ∨ SqT K H a (ns.map V.int)) ∧ ∀ p, H p = none → Q (.ref p) (upd H p (.lst ((sortL ns).map V.int)))
theorem cr_sortSq {X : Cx} : CallR X (.builtin "sorted") (rSortSq X.K) := by
  intro pins s σ H vs us Q I r h
  obtain ⟨a, ns, rfl, hs, q⟩ := h
  rcases hs with hs | hs
  · refine cr_sortedI pins s σ H _ us Q I r ⟨a, ns, rfl, hs, fun ys p h1 h2 hp => ?_⟩
    rw [pw_uniq (h1.trans (sortL_perm ns).symm) h2 (sortL_pw ns)]
    exact q p hp
  · obtain ⟨its, rv, hl, hz⟩ := I.tuple hs
    rw [Vals.ref1 r]
    have hi := rv.ints
    refine SrtO.sorted_ordT SrtO.swo_int (show s.heap.IsTuple a its.toArray from hl) (by rw [← rv.length]; exact hz) (fun h2 h₁ a' _ _ => SrtO.ints_sortable hi h2) fun out h1 h2 => ?_
    obtain ⟨k1, k2, k3⟩ := SrtO.ints_out hi h1 h2
    obtain ⟨ep, he'⟩ := PyProof.Rows.sortedAll_at s.heap its out.toArray
    have e : out.map SrtO.iv = sortL ns := pw_uniq (k2.trans (sortL_perm ns).symm) k3 (sortL_pw ns)
    rw [← e] at q
    have hlen : ((out.map SrtO.iv).map V.int).length ≤ sizeLine := by
      rw [List.length_map, k2.length_eq]
      rw [List.length_map] at hz
      exact hz
    exact ⟨.ref _, upd H (s.heap.objs.size + 1) (.lst ((out.map SrtO.iv).map V.int)), I.laid (t' := s.toks) (fun _ _ => PyProof.Rows.sortedAll_old) (Nat.le_succ _) ⟨hlen, out, ep, vals_of_ints k1, he'⟩, rfl, q _ (I.hok.fresh (Nat.le_succ _))⟩
section
variable {P : Program} {w : World} {K : PySem.W.Frag} {mg : Str → Option Value} {base : Heap} {k : Nat}
theorem c_sortSq (Y : Fa P w K mg base k) (i : Y.I) : CallR (Y.X i) (.builtin "sorted") (rSortSq K) := by have h := cr_sortSq (X := Y.X i); rw [Y.hK i] at h; exact h
theorem paired_int_map : ∀ xs : List Int, ∀ F : Hp, Paired (pInt.R F) (xs.map V.int) xs
  | [], _ => .nil
  | x :: xs, F => .cons rfl (paired_int_map xs F)
theorem o_sortSq {ms : List Int} : OpA (rSortSq K) [val (pSq pInt) ms] (own (oL pInt) (sortL ms)) := opA1 fun B F H v fx os Q W pv q => by
  obtain ⟨rfl, hr⟩ := val_P pv
  have key : ∃ l vs, v = V.ref l ∧ (SqL K H l vs ∨ SqT K H l vs) ∧ Paired (pInt.R F) vs ms := by
    rcases hr with ⟨l, vs, e, h1, h2⟩ | ⟨l, vs, e, h1, h2⟩
    · exact ⟨l, vs, e, .inl (SqL.of (W.sub _ _ h1)), h2⟩
    · exact ⟨l, vs, e, .inr (SqT.of (W.sub _ _ h1)), h2⟩
  obtain ⟨l, vs, ev, h1, h2⟩ := key
  subst ev
  have e := map_int_of h2
  subst e
  exact ⟨l, ms, rfl, h1, fun p hp => newL W.drop hp (paired_int_map _ F) q⟩
end
end Ty

/-! Ty42 -/
/-! comparisons whose left side changes something; lists as tests; pinned lists walked with numbers or from behind -/
namespace Ty
open PySem PySem.Spec L2
section
variable {X : Cx}
end
section
variable {P : Program} {w : World} {K : PySem.W.Frag} {mg : Str → Option Value} {base : Heap} {k : Nat}
variable {Y : Fa P w K mg base k} {i : Y.I} {e ea eb eo ev tg iter elt : Expr} {es ifs : List Expr} {rest body orelse : List Stmt} {Γ Γ' Γ1 Γ2 Δ Δ' As : List Slot} {a b c r s s' : Slot} {pos pos' : Pos} {B : Bs} {D : Ends} {x f : Str} {p' : Pos} {C : Addr} {ns : List Str} {α : Type} {p : VP α} {xs : List α}
theorem SV.borA {fp0 : List Addr} : SV K (borA fp0 p xs) p xs := fun F H fp o hS h => by
  obtain ⟨_, l, vs, e, _, h1, h2⟩ := h
  exact ⟨l, vs, e, SqL.of h1, h2⟩
end
end Ty

/-! Ty43 -/
/-! self.m(e), e changes self; a method that changes self and two lists -/
namespace Ty
open PySem PySem.Spec L2
open PyProof.Rows (envOfC)
section
variable {P : Program} {w : World} {K : PySem.W.Frag} {mg : Str → Option Value} {base : Heap} {k : Nat}
variable {Y : Fa P w K mg base k} {i : Y.I} {e ea eb eo ev tg iter elt : Expr} {es ifs : List Expr} {rest body orelse : List Stmt} {Γ Γ' Γ1 Γ2 Δ Δ' As : List Slot} {a b c r s s' : Slot} {pos pos' : Pos} {B : Bs} {D : Ends} {x f : Str} {p' : Pos} {C : Addr} {ns : List Str} {α : Type} {p : VP α} {xs : List α}
end
end Ty

/-! Ty44 -/
/-! a method that changes self and two lists that it is handed: self.m(a, b, xs, ys) -/
namespace Ty
open PySem PySem.Spec L2
open PyProof.Rows (envOfC)
section
variable {P : Program} {w : World} {K : PySem.W.Frag} {mg : Str → Option Value} {base : Heap} {k : Nat}
/-- self and its two lists are changed -/
def spC {ι μ ρ : Type} (s0 s3 s4 a1 a2 : ι → Slot) (m : ι → Option (μ × ρ)) (t0 t3 t4 : μ → Slot) (Sr : ρ → Slot) : Sp := fun vs H Q _ => ∃ (z : ι) (r : μ × ρ) (F : Hp) (f0 f3 f4 : List Addr) (v0 v1 v2 v3 v4 : V), vs = [v0, v1, v2, v3, v4] ∧ m z = some r ∧ Wo ⟨F, H, f0 ++ (f3 ++ f4)⟩ F H (f0 ++ (f3 ++ f4)) ∧
  (s0 z).P F H f0 (some v0) ∧ (a1 z).P F H [] (some v1) ∧ (a2 z).P F H [] (some v2) ∧ (s3 z).P F H f3 (some v3) ∧ (s4 z).P F H f4 (some v4) ∧
  ∀ v F' H' g0 g3 g4 f2, Wo ⟨F, H, f0 ++ (f3 ++ f4)⟩ F' H' (f2 ++ (g0 ++ (g3 ++ g4))) → (t0 r.1).P F' H' g0 (some v0) → (t3 r.1).P F' H' g3 (some v3) → (t4 r.1).P F' H' g4 (some v4) → (Sr r.2).P F' H' f2 (some v) → Q v H'
/-- what is left: self, the lists, the value -/
def cPS {μ ρ : Type} (v0 v3 v4 : V) (t0 t3 t4 : μ → Slot) (Sr : ρ → Slot) (r : μ × ρ) : Slot where
  P := fun F H fp o => ∃ g0 g3 g4 f2, fp = f2 ++ (g0 ++ (g3 ++ g4)) ∧ (t0 r.1).P F H g0 (some v0) ∧ (t3 r.1).P F H g3 (some v3) ∧ (t4 r.1).P F H g4 (some v4) ∧ (Sr r.2).P F H f2 o
  mono := fun hF hH h => let ⟨g0, g3, g4, f2, e, p0, p3, p4, p2⟩ := h; ⟨g0, g3, g4, f2, e, (t0 r.1).mono hF hH p0, (t3 r.1).mono hF hH p3, (t4 r.1).mono hF hH p4, (Sr r.2).mono hF hH p2⟩
  st := False
  mm := fun h => h.elim
def DC {μ ρ : Type} (B : Bs) (v0 v3 v4 : V) (t0 t3 t4 : μ → Slot) (Sr : ρ → Slot) (r : μ × ρ) : Ends where
  nx := fun _ _ => False
  rt := fun v H => Fi B (cPS v0 v3 v4 t0 t3 t4 Sr r) v H
variable {Y : Fa P w K mg base k} {i : Y.I} {e ea eb eo ev tg iter elt : Expr} {es ifs : List Expr} {rest body orelse : List Stmt} {Γ Γ' Γ1 Γ2 Δ Δ' As : List Slot} {a b c r s s' : Slot} {pos pos' : Pos} {B : Bs} {D : Ends} {x f : Str} {p' : Pos} {C : Addr} {ns : List Str} {α : Type} {p : VP α} {xs : List α}
theorem Stb.set {s : Slot} {j : Nat} (h : Stb Γ) (hs : s.st) : Stb (Γ.set j s) := stb_set h hs
end
end Ty

/-! Ty45 -/
namespace Ty
open PySem PySem.Spec L2
theorem Vw.hold {α : Type} {s : Slot} {p : VP α} {u : α} {v : V} (h : Vw s p u) : Vw (Ty.hold s v) p u := fun F H fp o hS q => h F H fp o hS q.2
section
variable {P : Program} {w : World} {K : PySem.W.Frag} {mg : Str → Option Value} {base : Heap} {k : Nat}
variable {Y : Fa P w K mg base k} {i : Y.I} {e ea eb eo ev tg iter elt : Expr} {es ifs : List Expr} {rest body orelse : List Stmt} {Γ Γ' Γ1 Γ2 Δ Δ' As : List Slot} {a b c r s s' : Slot} {pos pos' : Pos} {B : Bs} {D : Ends} {x f : Str} {p' : Pos} {C : Addr} {ns : List Str} {α : Type} {p : VP α} {xs : List α}
theorem XM.wk (h : XM Y e Γ a Γ') (hw : WkS a b) : XM Y e Γ b Γ' := by
  obtain ⟨t, p, rd⟩ := h
  refine ⟨t, p, fun B F H os σ Q W S q => rd B F H os σ _ W S fun v F1 H1 fp os1 W1 S1 p1 => ?_⟩
  obtain ⟨x, y, e, kk⟩ := hw F1 H1 fp _ W1.sub p1
  subst e
  rw [List.append_assoc] at W1
  obtain ⟨F', W', hF, hx⟩ := W1.freeze
  exact q v F' H1 y os1 W' (S1.mono hF same_refl) (kk F' hF W'.sub hx)
theorem XM.sqL (h : XM Y e Γ (own (oL p) xs) Γ') : XM Y e Γ (val (pSq p) xs) Γ' := (h.wk WkS.list).wk (WkS.val fun F v r => .inl r)
end
end Ty

/-! Ty58 -/
/-! defs whose frames own a table: their promises, their calls, what they hand back -/
namespace Ty
open PySem PySem.Spec L2
open PyProof.Rows (envOfC)
def FiT (B : Bs) (Pt : Addr) (tq : Str) (s : Slot) : VK := fun v H => ∃ F fp, Wo B F H (fp ++ [Pt]) ∧ (gT Pt tq).P F H [Pt] none ∧ s.P F H fp (some v)
def DT (B : Bs) (Pt : Addr) (tq : Str) (s : Slot) : Ends := { nx := fun _ H => FiT B Pt tq s .non H, rt := FiT B Pt tq s }
structure FunC (K : PySem.W.Frag) (x qual : Str) (st : Stmt) (f : Addr) (fd : FuncData) (c : Addr) : Prop where
  ex : ∃ (oc : Value) (od : Option Addr) (kV doc pm : Value) (an : Option Addr) (ct : Value) (osl : Array (Option Value)),
    fd = PySem.W.fnOf x qual (defArgs st) (defBody st) (defScope st) .none kV doc pm an (.ref c) ct ∧ K.lookup f = some ⟨oc, od, .func fd, osl⟩ ∧ PySem.W.codeIn K (.ref c) qual = true
section
variable {P : Program} {w : World} {K : PySem.W.Frag} {mg : Str → Option Value} {base : Heap} {k : Nat}
def spPT {ι ρ : Type} (Pt : Addr) (tq : Str) (As : ι → List Slot) (m : ι → Option ρ) (Sr : ρ → Slot) : Sp := fun vs H Q _ => ∃ (z : ι) (r : ρ) (F : Hp), m z = some r ∧ Wo ⟨F, H, [Pt]⟩ F H [Pt] ∧ (gT Pt tq).P F H [Pt] none ∧ Slots F H [] (vs.map some) (As z) ∧ ∀ v H', FiT ⟨F, H, [Pt]⟩ Pt tq (Sr r) v H' → Q v H'
def spXT {ι ρ : Type} (Pt : Addr) (tq : Str) (As : ι → List Slot) (m : ι → Option (Rx ρ)) (Sr : ρ → Slot) (X : ExT) : Sp := fun vs H Q E => ∃ (z : ι) (r : Rx ρ) (F : Hp), m z = some r ∧ Wo ⟨F, H, [Pt]⟩ F H [Pt] ∧ (gT Pt tq).P F H [Pt] none ∧ Slots F H [] (vs.map some) (As z) ∧
  (∀ v H', FiT ⟨F, H, [Pt]⟩ Pt tq (slRx Sr r) v H' → Q v H') ∧ ∀ e, r = .ex e → ∀ cls d F' H', Wo ⟨F, H, [Pt]⟩ F' H' [Pt] → (gT Pt tq).P F' H' [Pt] none → X e cls d F' → E cls d H'
theorem start_T {Pt : Addr} {tq : Str} {F H : Hp} {N ps : List Str} {vs : List V} {As : List Slot} {n : Nat} (hn : N.length = ps.length + (n + 1)) (hl : As.length = ps.length) (W : Wo ⟨F, H, [Pt]⟩ F H [Pt]) (g : (gT Pt tq).P F H [Pt] none) (S : Slots F H [] (vs.map some) As) :
    Sta ⟨F, H, [Pt]⟩ F H (L2.start N vs) (As ++ List.replicate n dead ++ [gT Pt tq]) := by
  refine ⟨[Pt], W, ?_⟩
  unfold L2.start
  have e := S.length
  rw [List.length_map, hl] at e
  rw [e, hn, Nat.add_sub_cancel_left, List.replicate_succ', ← List.append_assoc]
  have := Slots.append (Slots.append S (slots_dead (F := F) (H := H) n)) (Slots.cons g .nil)
  simpa using this
theorem fn_pureT {ι ρ : Type} {Pt : Addr} {tq : Str} {As : ι → List Slot} {m : ι → Option ρ} {Sr : ρ → Slot} {x qual : Str} {st : Stmt} {f : Addr} {fd : FuncData} {N ps : List Str} (n : Nat) (Fn : Fun K x qual st f fd) (S : FnScope N ps (defScope st)) (hlen : ∀ z, (As z).length = ps.length) (hn : N.length = ps.length + (n + 1))
    (body : ∀ (cdv : Value) (A : Around) (outer : List Env) (s : Shared) (H : Hp) (E : XK) (hr : Room k (A.deeper (envOfC qual (defScope st) s.heap.objs.size f cdv))) (z : ι) (r : ρ) (B : Bs), m z = some r →
      Go (fb P w K mg base N qual st f cdv A outer s H E k hr S.nd) () (defBody st) (DT B Pt tq (Sr r)) B (As z ++ List.replicate n dead ++ [gT Pt tq])) : FnOk P w K mg base CX0 (k + 1) f fd ps (spPT Pt tq As m Sr) := by
  refine Fn.ok S (fun vs H Q E h => ?_) (fun cdv A outer s H vs Q E hr h => ?_)
  · obtain ⟨z, r, F, _, _, _, Sl, _⟩ := h
    have e := Sl.length
    rw [List.length_map] at e
    rw [e, hlen]
  · obtain ⟨z, r, F, hm, hW, g, Sl, q⟩ := h
    refine ⟨_, pss_cont, ?_⟩
    exact cont_mono (body cdv A outer s H E hr z r ⟨F, H, [Pt]⟩ hm F H _ (start_T hn (hlen z) hW g Sl)) (fun σ H' h' => q .non H' h') (fun v H' h' => q v H' h') (fun _ _ z => z.elim) (fun _ _ z => z.elim)
variable {Y : Fa P w K mg base k} {i : Y.I} {e ea eb elt tg iter : Expr} {es : List Expr} {rest : List Stmt} {Γ Γ' Γ1 : List Slot} {a b r s : Slot} {pos : Pos} {B : Bs} {D : Ends} {x : Str} {p' : Pos} {EX : ExT} {ex : Exn} {Pt : Addr} {tq : Str}
theorem fiT_of {F H : Hp} {fp os : List Addr} {σ : L2.St} {v : V} (jt : Nat) (ht : Γ[jt]? = some (gT Pt tq)) (W : Wo B F H (fp ++ os)) (S : Slots F H os σ Γ) (p : s.P F H fp (some v)) : FiT B Pt tq s v H := by
  obtain ⟨o, f1, r0, _, ⟨e1, g⟩, hp, _⟩ := S.at ht
  subst e1
  have W1 := W.perm (List.Perm.append_left fp hp)
  rw [← List.append_assoc] at W1
  exact ⟨F, fp, W1.dropR, ⟨rfl, g⟩, p⟩
theorem go_retT (jt : Nat) (h : XV Y e Γ s) (hd : ∀ v H, FiT B Pt tq s v H → D.rt v H) (ht : Γ[jt]? = some (gT Pt tq) := by rfl) : Go Y i (.Return (some e) pos :: rest) D B Γ := by
  obtain ⟨t, pe, rd⟩ := h
  refine go_ps (ps_ret (pe i)) fun F H σ ⟨os, W, S⟩ => ?_
  exact rd B F H os σ _ (Sta.in W S) fun v F1 H1 fp f1 e1 W1 p1 => hd v H1 (fiT_of jt ht W1 (S.mono f1 e1) p1)
theorem go_retMT (jt : Nat) (h : XM Y e Γ s Γ') (hd : ∀ v H, FiT B Pt tq s v H → D.rt v H) (ht : Γ'[jt]? = some (gT Pt tq) := by rfl) : Go Y i (.Return (some e) pos :: rest) D B Γ := by
  obtain ⟨t, pe, rd⟩ := h
  refine go_ps (ps_ret (pe i)) fun F H σ ⟨os, W, S⟩ => ?_
  exact rd B F H os σ _ W S fun v F1 H1 fp os1 W1 S1 p1 => hd v H1 (fiT_of jt ht W1 S1 p1)
/-- an error behind changes -/
def XXm (Y : Fa P w K mg base k) (e : Expr) (Γ : List Slot) (EX : ExT) (ex : Exn) (Γ' : List Slot) : Prop :=
  ∃ t : TE, (∀ i, PE (Y.X i) e t) ∧ ∀ (B : Bs) (F H : Hp) (os : List Addr) (σ : List (Option V)) (Q : VK), Wo B F H os → Slots F H os σ Γ →
    (∀ cls d F' H' os', Wo B F' H' os' → Slots F' H' os' σ Γ' → EX ex cls d F' → Y.W cls d σ H') → t σ H Q
/-- what a call that changes the table leaves -/
theorem Slots.afterT {F H F2 H2 : Hp} {os fp2 : List Addr} {σ : L2.St} (jt : Nat) (W : Wo B F H os) (S : Slots F H os σ Γ) (ht : Γ[jt]? = some (gT Pt tq)) (hst : Stb Γ) (W2 : Wo ⟨F, H, [Pt]⟩ F2 H2 (fp2 ++ [Pt])) (g2 : (gT Pt tq).P F2 H2 [Pt] none) :
    ∃ os', Wo B F2 H2 (fp2 ++ os') ∧ Slots F2 H2 os' σ Γ := by
  obtain ⟨o, f1, r0, eo, ⟨e1, g⟩, hp, back⟩ := S.at ht
  subst e1
  obtain ⟨c1, c2, W3⟩ := Wo.calledM W hp W2
  obtain ⟨os', S', hp'⟩ := back (F' := F2) (H' := H2) (fp' := [Pt]) (o' := o) (s' := gT Pt tq) g2 (fun s0 h0 fp0 o0 hsub p0 => s0.mm (hst s0 h0) c1 (fun a ha => c2 a (hsub a ha)) p0)
  have es : σ.set jt o = σ := by
    obtain ⟨hj, z⟩ := List.getElem?_eq_some_iff.mp eo
    rw [← z]; exact List.set_getElem_self hj
  have eG : Γ.set jt (gT Pt tq) = Γ := by
    obtain ⟨hj, z⟩ := List.getElem?_eq_some_iff.mp ht
    rw [← z]; exact List.set_getElem_self hj
  rw [es, eG] at S'
  rw [List.append_assoc] at W3
  exact ⟨os', W3.perm (List.Perm.append_left fp2 hp'.symm), S'⟩
theorem Slots.hereT {F H : Hp} {os : List Addr} {σ : L2.St} (jt : Nat) (W : Wo B F H os) (S : Slots F H os σ Γ) (ht : Γ[jt]? = some (gT Pt tq)) : Wo ⟨F, H, [Pt]⟩ F H [Pt] ∧ (gT Pt tq).P F H [Pt] none := by
  obtain ⟨o, f1, r0, eo, ⟨e1, g⟩, hp, _⟩ := S.at ht
  subst e1
  exact ⟨Wo.here W hp, rfl, g⟩
theorem xm_callT {ι ρ : Type} {As : ι → List Slot} {m : ι → Option ρ} {Sr : ρ → Slot} {args : List Slot} {z : ι} {q : ρ} {j : Nat} {f : Addr} {fd : FuncData} {ps : List Str} (jt : Nat) (Fn : FnOk P w K mg base CX0 j f fd ps (spPT Pt tq As m Sr)) (hj : j ≤ k) (hm : mg x = some (.ref f)) (hk : PySem.W.keepIn K (.ref f) = true) (hb : Binds K fd ps [])
    (ha : XA Y (e :: es) Γ args) (hargs : args = As z) (hno : NoOwn args) (hst : Stb Γ) (hq : m z = some q) (ht : Γ[jt]? = some (gT Pt tq) := by rfl) (hg : ∀ i, Gl (Y.X i) x := by intro _; rfl) (hdb : (x == ("__debug__" : Str)) = false := by decide)
    (he : ∀ i, starEach (e :: es) (Y.X i).env = (false, eval e (Y.X i).env) :: starEach es (Y.X i).env := by intro _; rfl) (hpl : ∀ i, (backTo pos (starEach es (Y.X i).env)).any (·.1) = false := by intro _; rfl) (hcm : Y.cm = true := by rfl) : XM Y (.Call (.Name x p') (e :: es) [] pos) Γ (Sr q) Γ := by
  subst hargs
  obtain ⟨t, pa, rd⟩ := ha
  have FF : ∀ i, FnOk (Y.X i).prog (Y.X i).w (Y.X i).K (Y.X i).mg (Y.X i).base CX0 j f fd ps (spPT Pt tq As m Sr) := fun i => by rw [Y.hP i, Y.hw i, Y.hK i, Y.hM i, Y.hB i]; exact Fn
  refine ⟨_, fun i => pe_call (FF i) ((Y.hR hcm i).mono hj) (hg i) (by rw [Y.hM i]; exact hm) (by rw [Y.hK i]; exact hk) (by rw [Y.hK i]; exact hb) .nil pass0 (pa i) hdb (he i) (hpl i), fun B F H os σ Q W S kk => ?_⟩
  refine rd B F H os σ _ (Sta.in W S) fun vs F1 H1 fp f1 e1 W1 S1 => ?_
  obtain rfl := hno.nil S1
  rw [List.append_nil]
  have S0 := S.mono f1 e1
  obtain ⟨Wh, gh⟩ := Slots.hereT jt (B := B) (by simpa using W1) S0 ht
  refine ⟨z, q, F1, hq, Wh, gh, S1, fun v H2 ⟨F2, fp2, W2, g2, p2⟩ => ?_⟩
  obtain ⟨os', W3, S3⟩ := Slots.afterT jt (B := B) (by simpa using W1) S0 ht hst W2 g2
  exact kk v F2 H2 fp2 os' W3 S3 p2
theorem xm_callXT {ι ρ : Type} {As : ι → List Slot} {m : ι → Option (Rx ρ)} {Sr : ρ → Slot} {args : List Slot} {z : ι} {q : ρ} {j : Nat} {f : Addr} {fd : FuncData} {ps : List Str} (jt : Nat) (Fn : FnOk P w K mg base (L2.CX P w) j f fd ps (spXT Pt tq As m Sr EX)) (hj : j ≤ k) (hm : mg x = some (.ref f)) (hk : PySem.W.keepIn K (.ref f) = true) (hb : Binds K fd ps [])
    (ha : XA Y (e :: es) Γ args) (hargs : args = As z) (hno : NoOwn args) (hst : Stb Γ) (hq : m z = some (.ok q)) (ht : Γ[jt]? = some (gT Pt tq) := by rfl) (hg : ∀ i, Gl (Y.X i) x := by intro _; rfl) (hdb : (x == ("__debug__" : Str)) = false := by decide)
    (he : ∀ i, starEach (e :: es) (Y.X i).env = (false, eval e (Y.X i).env) :: starEach es (Y.X i).env := by intro _; rfl) (hpl : ∀ i, (backTo pos (starEach es (Y.X i).env)).any (·.1) = false := by intro _; rfl) (hcm : Y.cm = true := by rfl) : XM Y (.Call (.Name x p') (e :: es) [] pos) Γ (Sr q) Γ := by
  subst hargs
  obtain ⟨t, pa, rd⟩ := ha
  have FF : ∀ i, FnOk (Y.X i).prog (Y.X i).w (Y.X i).K (Y.X i).mg (Y.X i).base (L2.CX (Y.X i).prog (Y.X i).w) j f fd ps (spXT Pt tq As m Sr EX) := fun i => by rw [Y.hP i, Y.hw i, Y.hK i, Y.hM i, Y.hB i]; exact Fn
  refine ⟨_, fun i => pe_callS (FF i) ((Y.hR hcm i).mono hj) (hg i) (by rw [Y.hM i]; exact hm) (by rw [Y.hK i]; exact hk) (by rw [Y.hK i]; exact hb) (E := WE Y.W) (fun σ => passAt (Y.tk i) σ) (pa i) hdb (he i) (hpl i), fun B F H os σ Q W S kk => ?_⟩
  refine rd B F H os σ _ (Sta.in W S) fun vs F1 H1 fp f1 e1 W1 S1 => ?_
  obtain rfl := hno.nil S1
  have S0 := S.mono f1 e1
  obtain ⟨Wh, gh⟩ := Slots.hereT jt (B := B) (by simpa using W1) S0 ht
  refine ⟨z, .ok q, F1, hq, Wh, gh, S1, fun v H2 ⟨F2, fp2, W2, g2, p2⟩ => ?_, fun e he => by cases he⟩
  obtain ⟨os', W3, S3⟩ := Slots.afterT jt (B := B) (by simpa using W1) S0 ht hst W2 g2
  exact kk v F2 H2 fp2 os' W3 S3 p2
theorem xxm_callT {ι ρ : Type} {As : ι → List Slot} {m : ι → Option (Rx ρ)} {Sr : ρ → Slot} {args : List Slot} {z : ι} {j : Nat} {f : Addr} {fd : FuncData} {ps : List Str} (jt : Nat) (Fn : FnOk P w K mg base (L2.CX P w) j f fd ps (spXT Pt tq As m Sr EX)) (hj : j ≤ k) (hm : mg x = some (.ref f)) (hk : PySem.W.keepIn K (.ref f) = true) (hb : Binds K fd ps [])
    (ha : XA Y (e :: es) Γ args) (hargs : args = As z) (hno : NoOwn args) (hst : Stb Γ) (hq : m z = some (.ex ex)) (ht : Γ[jt]? = some (gT Pt tq) := by rfl) (hg : ∀ i, Gl (Y.X i) x := by intro _; rfl) (hdb : (x == ("__debug__" : Str)) = false := by decide)
    (he : ∀ i, starEach (e :: es) (Y.X i).env = (false, eval e (Y.X i).env) :: starEach es (Y.X i).env := by intro _; rfl) (hpl : ∀ i, (backTo pos (starEach es (Y.X i).env)).any (·.1) = false := by intro _; rfl) (hcm : Y.cm = true := by rfl) : XXm Y (.Call (.Name x p') (e :: es) [] pos) Γ EX ex Γ := by
  subst hargs
  obtain ⟨t, pa, rd⟩ := ha
  have FF : ∀ i, FnOk (Y.X i).prog (Y.X i).w (Y.X i).K (Y.X i).mg (Y.X i).base (L2.CX (Y.X i).prog (Y.X i).w) j f fd ps (spXT Pt tq As m Sr EX) := fun i => by rw [Y.hP i, Y.hw i, Y.hK i, Y.hM i, Y.hB i]; exact Fn
  refine ⟨_, fun i => pe_callS (FF i) ((Y.hR hcm i).mono hj) (hg i) (by rw [Y.hM i]; exact hm) (by rw [Y.hK i]; exact hk) (by rw [Y.hK i]; exact hb) (E := WE Y.W) (fun σ => passAt (Y.tk i) σ) (pa i) hdb (he i) (hpl i), fun B F H os σ Q W S kk => ?_⟩
  refine rd B F H os σ _ (Sta.in W S) fun vs F1 H1 fp f1 e1 W1 S1 => ?_
  obtain rfl := hno.nil S1
  have S0 := S.mono f1 e1
  obtain ⟨Wh, gh⟩ := Slots.hereT jt (B := B) (by simpa using W1) S0 ht
  refine ⟨z, .ex ex, F1, hq, Wh, gh, S1, fun v H2 ⟨F2, fp2, W2, g2, p2⟩ => p2.elim, fun e he cls d F2 H2 W2 g2 hx => ?_⟩
  cases he
  obtain ⟨os', W3, S3⟩ := Slots.afterT (fp2 := []) jt (B := B) (by simpa using W1) S0 ht hst (by simpa using W2) g2
  exact kk cls d F2 H2 os' (by simpa using W3) S3 hx
end
end Ty

/-! Ty59 -/
/-! a comprehension whose element changes the table -/
namespace Ty
open PySem PySem.Spec L2
section
variable {P : Program} {w : World} {K : PySem.W.Frag} {mg : Str → Option Value} {base : Heap} {k : Nat}
variable {Y : Fa P w K mg base k} {i : Y.I} {e ea eb eo tg iter elt : Expr} {es ifs : List Expr} {rest body : List Stmt} {Γ Γ' Γ1 Γ2 : List Slot} {a b c r s : Slot} {pos : Pos} {B : Bs} {D : Ends} {x : Str} {p' : Pos} {scope : Scope}
end
end Ty

/-! Ty60 -/
/-! the law's def with a table, and the end -/
namespace Ty
open PySem PySem.Spec L2
open PyProof.Rows
open LamX (TabB)
section
variable {P : Program} {w : World} {K : PySem.W.Frag} {mg : Str → Option Value} {base : Heap} {k : Nat}
def spLT {ι ρ : Type} (Pt : Addr) (tq : Str) (As : ι → List Slot) (m : ι → Option ρ) (Sr : ρ → Slot) : Sp := fun vs H Q _ => ∃ (z : ι) (r : ρ) (F : Hp), m z = some r ∧ Wo ⟨F, H, [Pt]⟩ F H [Pt] ∧ (gT Pt tq).P F H [Pt] none ∧ Slots F H [] (vs.map some) (As z) ∧
  ∀ v F' H' fp, Wo ⟨F, H, [Pt]⟩ F' H' fp → (Sr r).P F' H' fp (some v) → Q v H'
theorem fn_pureGT {ι ρ : Type} {Pt : Addr} {tq : Str} {As : ι → List Slot} {m : ι → Option ρ} {Sr : ρ → Slot} {x qual : Str} {st : Stmt} {f : Addr} {fd : FuncData} {N ps : List Str} (n : Nat) (Fn : Fun K x qual st f fd) (S : FnScope N ps (defScope st)) (hlen : ∀ z, (As z).length = ps.length) (hn : N.length = ps.length + (n + 1))
    (body : ∀ (cdv : Value) (A : Around) (outer : List Env) (s : Shared) (H : Hp) (E : XK) (hga : A.guards = some []) (hr : Room k (A.deeper (envOfC qual (defScope st) s.heap.objs.size f cdv))) (z : ι) (r : ρ) (B : Bs), m z = some r →
      Go (fb P w K mg base N qual st f cdv A outer s H E k hr S.nd) () (defBody st) (DF B (Sr r)) B (As z ++ List.replicate n dead ++ [gT Pt tq])) : FnG P w K mg base (k + 1) f fd ps (spLT Pt tq As m Sr) := by
  refine fnG_run Fn S (fun vs H Q E h => ?_) (fun cdv A outer s H vs Q E hga hr h => ?_)
  · obtain ⟨z, r, F, _, _, _, Sl, _⟩ := h
    have e := Sl.length
    rw [List.length_map] at e
    rw [e, hlen]
  · obtain ⟨z, r, F, hm, hW, g, Sl, q⟩ := h
    refine ⟨_, pss_cont, ?_⟩
    exact cont_mono (body cdv A outer s H E hga hr z r ⟨F, H, [Pt]⟩ hm F H _ (start_T hn (hlen z) hW g Sl)) (fun σ H' ⟨F', fp, W', p'⟩ => q .non F' H' fp W' p') (fun v H' ⟨F', fp, W', p'⟩ => q v F' H' fp W' p') (fun _ _ z => z.elim) (fun _ _ z => z.elim)
theorem top_T {Pt a : Addr} {tq : Str} {H : Hp} {ns : List Int} (hP : H Pt = some (.tbl #[])) (hS : SqL K H a (ns.map V.int)) : ∃ F : Hp, Wo ⟨F, H, [Pt]⟩ F H [Pt] ∧ (gT Pt tq).P F H [Pt] none ∧ SqL K F a (ns.map V.int) := by
  let F : Hp := fun b => if b = Pt then none else H b
  have hF : ∀ b, b ≠ Pt → F b = H b := fun b hb => if_neg hb
  have hF0 : F Pt = none := if_pos rfl
  refine ⟨F, ⟨fun b o e => ?_, by simp, fun b hb => ?_, fun b hb => ?_, fun _ _ h => h, fun _ _ h _ => h, fun _ _ h => .inl h, fun _ h => .inr h⟩, ⟨rfl, #[], hP, True.intro, fun pos cv hc => ?_⟩, ?_⟩
  · by_cases hb : b = Pt
    · rw [hb, hF0] at e; cases e
    · rw [hF b hb] at e; exact e
  · rw [List.mem_singleton.mp hb]; exact hF0
  · rw [List.mem_singleton.mp hb]; exact ⟨_, hP⟩
  · have z : codeAmong pos [] = some cv := hc
    simp [codeAmong] at z
  · rcases hS with (h | ⟨o, h⟩) | h
    · exact .inl (.inl ((hF a (fun z => by rw [z, hP] at h; cases h)).trans h))
    · exact .inl (.inr ⟨o, (hF a (fun z => by rw [z, hP] at h; cases h)).trans h⟩)
    · exact .inr h
end
theorem law_callGT {P : Program} {w : World} {K : PySem.W.Frag} {mg mb : Str → Option Value} {k : Nat} {fa a c Pt : Addr} {fd : FuncData} {x : Str} {sp : Sp} {s₁ : Shared} {vs : List Value} {ns : List Int}
    (KX : K.In s₁.heap) (hns : s₁.heap.Ns mainGlobals mg) (hb : s₁.heap.Ns builtinsNs mb) (hbb : ∀ x : Str, x ≠ "__name__" → mb x = bootBuiltins x) (hlim : s₁.heap.NoLimit) (hg : s₁.gens = #[])
    (hT : s₁.heap.get? Pt = some { cls := .none, data := .fields #[] }) (nT : K.lookup Pt = none) (C : PySem.W.CodeHd s₁.heap c Pt)
    (hbm : ∃ (bm : Addr) (ob : Obj), mg "__builtins__" = some (.ref bm) ∧ bm ≠ builtinsNs ∧ s₁.heap.get? bm = some ob ∧ ob.cls = .type "module" ∧ ob.dict = some builtinsNs ∧ ob.data = .plain)
    (ha : s₁.heap.get? a = some { cls := .type "list", data := .seq vs.toArray }) (hi : IntsAre vs ns) (hl : ns.length ≤ sizeLine) (hr : Room k callerA)
    (F : ∀ base : Heap, K.In base → base.Ns mainGlobals mg → TabB base mg c Pt → FnG P w K mg base k fa fd [x] sp) (hbind : ∀ (s : Shared) (u : Value), BindsTo s fd ⟨[u], []⟩ [(x, u)])
    (hsp : ∀ H : Hp, H Pt = some (.tbl #[]) → SqL K H a (ns.map V.int) → sp [.ref a] H (fun v _ => v = .bl true) fun _ _ _ => False) :
    codeAny (model P w) callerA (.call (.ref fa) ⟨[.ref a], []⟩) (fun r s' => r = .ok (.ret (.bool true)) ∧ OldK s₁.heap s'.heap ∧ s'.os = s₁.os ∧ AllBare s'.gens) s₁ := by
  have rv := vals_ints hi
  have lenV := hi.length
  have aT : a ≠ Pt := fun z => by
    rw [z, hT] at ha
    cases congrArg Obj.data (Option.some.inj ha)
  suffices core : ∀ H : Hp, H Pt = some (.tbl #[]) → (∀ b, H b = none ∨ b = Pt ∨ ∃ o xs, H b = some (.frz o (.lst xs))) → SqL K H a (ns.map V.int) → HOk P w H s₁.heap → (∀ b, H b ≠ none → b = a ∨ b = Pt) → (H a ≠ none → K.lookup a = none) →
      codeAny (model P w) callerA (.call (.ref fa) ⟨[.ref a], []⟩) (fun r s' => r = .ok (.ret (.bool true)) ∧ OldK s₁.heap s'.heap ∧ s'.os = s₁.os ∧ AllBare s'.gens) s₁ by
    by_cases hk : K.lookup a = none
    · let H0 : Hp := fun b => if b = a then some (.frz { cls := .type "list", data := .seq vs.toArray } (.lst (ns.map V.int))) else if b = Pt then some (.tbl #[]) else none
      have at_a : H0 a = some (.frz { cls := .type "list", data := .seq vs.toArray } (.lst (ns.map V.int))) := if_pos rfl
      have at_P : H0 Pt = some (.tbl #[]) := (if_neg (fun z => aT z.symm)).trans (if_pos rfl)
      have else_ : ∀ b, b ≠ a → b ≠ Pt → H0 b = none := fun b h1 h2 => (if_neg h1).trans (if_neg h2)
      refine core H0 at_P (fun b => ?_) (.inl (.inr ⟨_, at_a⟩)) (fun b u z => ?_) (fun b z => ?_) fun _ => hk
      · by_cases h1 : b = a
        · exact .inr (.inr ⟨_, _, by rw [h1]; exact at_a⟩)
        · by_cases h2 : b = Pt
          · exact .inr (.inl h2)
          · exact .inl (else_ b h1 h2)
      · by_cases h1 : b = a
        · subst h1
          rw [at_a] at z
          cases z
          exact ⟨ha, by simpa using hl, vs, _, rv, ha⟩
        · by_cases h2 : b = Pt
          · subst h2
            rw [at_P] at z
            cases z
            exact hT
          · rw [else_ b h1 h2] at z
            cases z
      · by_cases h1 : b = a
        · exact .inl h1
        · by_cases h2 : b = Pt
          · exact .inr h2
          · exact absurd (else_ b h1 h2) z
    · obtain ⟨ob, hob⟩ := Option.ne_none_iff_exists'.mp hk
      have e := KX a ob hob
      rw [ha] at e
      cases e
      let H0 : Hp := fun b => if b = Pt then some (.tbl #[]) else none
      have at_P : H0 Pt = some (.tbl #[]) := if_pos rfl
      have else_ : ∀ b, b ≠ Pt → H0 b = none := fun b h => if_neg h
      refine core H0 at_P (fun b => ?_) (.inr ⟨_, vs.toArray, _, hob, rfl, rfl, rfl, by simpa [lenV] using hl, by simpa using rv⟩) (fun b u z => ?_) (fun b z => ?_) fun z => absurd (else_ a aT) z
      · by_cases h2 : b = Pt
        · exact .inr (.inl h2)
        · exact .inl (else_ b h2)
      · by_cases h2 : b = Pt
        · subst h2
          rw [at_P] at z
          cases z
          exact hT
        · rw [else_ b h2] at z
          cases z
      · by_cases h2 : b = Pt
        · exact .inr h2
        · exact absurd (else_ b h2) z
  intro H hH hO hS hok hA hK
  have base_of : ∀ {b : Addr} {o : Obj}, s₁.heap.get? b = some o → H b = none → (hidT s₁.heap H).get? b = some o := fun e n => hidT_get e n
  have noD : ∀ {b : Addr} {o : Obj}, s₁.heap.get? b = some o → (∀ vs n, o.data ≠ .seq vs n) → o.data ≠ .fields #[] → H b = none := fun {b o} e h1 h2 => by
    cases q : H b with
    | none => rfl
    | some u =>
      rcases hA b (by rw [q]; simp) with e' | e'
      · rw [e', ha] at e
        cases e
        exact (h1 _ _ rfl).elim
      · rw [e', hT] at e
        cases e
        exact (h2 rfl).elim
  have noA : ∀ {b : Addr} {o : Obj} {es : Array DictEntry} {ep : Nat}, s₁.heap.get? b = some o → o.data = .dict es ep → H b = none := fun {b o es ep} e d => by
    refine noD e (fun vs n z => ?_) fun z => ?_
    · rw [d] at z; cases z
    · rw [d] at z; cases z
  have nsK : ∀ {b : Addr} {m : Str → Option Value}, s₁.heap.Ns b m → (hidT s₁.heap H).Ns b m := fun {b m} ⟨o, es, ep, e, d, r⟩ => ⟨o, es, ep, base_of e (noA e d), d, r⟩
  have hKb : K.In (hidT s₁.heap H) := fun b o e => base_of (KX b o e) (by
    cases q : H b with
    | none => rfl
    | some u =>
      rcases hA b (by rw [q]; simp) with e' | e'
      · rw [e'] at e q
        rw [hK (by rw [q]; simp)] at e
        cases e
      · rw [e', nT] at e
        cases e)
  have hM : L2.Mod K mg (hidT s₁.heap H) := ⟨hKb, nsK hns, ⟨mb, nsK hb, hbb⟩, let ⟨mc, h1, h2⟩ := hlim; ⟨mc, nsK h1, h2⟩⟩
  have TB : TabB (hidT s₁.heap H) mg c Pt := by
    refine ⟨?_, ?_, fun z => ?_⟩
    · obtain ⟨o, us, file, tf, flags, tg, inF, text, tt, e1, r1, r2, r3, r4, r5, r6, r7, r8, hne⟩ := C
      refine ⟨o, us, file, tf, flags, tg, inF, text, tt, base_of e1 (noD e1 (fun vs n z => ?_) fun z => ?_), r1, r2, r3, r4, r5, r6, r7, r8, hne⟩
      · rw [r2] at z; cases z
      · rw [r2] at z
        cases z
        simp at r3
    · obtain ⟨bm, ob, b1, b2, b3, b4, b5, b6⟩ := hbm
      have nG : bm ≠ mainGlobals := fun q => by
        obtain ⟨o, es, ep, e, hd, _⟩ := hns
        rw [q, e] at b3
        cases b3
        rw [hd] at b6
        cases b6
      have nP : bm ≠ Pt := fun q => by
        rw [q, hT] at b3
        cases b3
        cases b6
      refine ⟨bm, ob, b1, b2, nG, nP, base_of b3 (noD b3 (fun vs n z => ?_) fun z => ?_), b4, b5, b6⟩
      · rw [b6] at z; cases z
      · rw [b6] at z; cases z
    · obtain ⟨o, es, ep, e, hd, _⟩ := hns
      rw [z, hT] at e
      cases e
      cases hd
  have e0 : Env0 P w K mg (hidT s₁.heap H) callerA [] s₁ H := ⟨rfl, hM, fun b o e => of_hidT e, Nat.le_of_eq (hidT_size _ _), trivial, fun b hb => absurd (show b ∈ ([] : List Addr) from hb) (by simp), hok, .of_eq hg⟩
  refine codeAny_mono ((F _ hKb (nsK hns) TB).run callerA [] s₁ H ⟨[.ref a], []⟩ [.ref a] [.ref a] _ _ rfl hr e0 (hbind s₁ (.ref a)) (.cons rfl .nil) (hsp H hH hS)) fun r s' z => ?_
  rcases r with e | fl
  · exact z.elim
  · cases fl with
    | next => cases z
    | brk => cases z
    | cont => cases z
    | ret u =>
      obtain ⟨v, H', os, bare, un, hok', r', q⟩ := z
      cases (show v = V.bl true from q)
      obtain rfl : u = Value.bool true := r'
      have key : ∀ b o, b ≠ Pt → s₁.heap.get? b = some o → s'.heap.get? b = some o := fun b o nb e => by
        rcases hO b with n | n | ⟨ob, xs, n⟩
        · exact un.keep b o e n (fun z => nomatch z) (fun z => nomatch z)
        · exact absurd n nb
        · have k1 := (hok b _ n).1
          have k2 := (hok' b _ (un.frzs b ob _ n)).1
          rw [e] at k1
          cases k1
          exact k2
      obtain ⟨more, hm⟩ := un.tbls Pt #[] hH
      have grown : s'.heap.get? Pt = some { cls := .none, data := .fields (#[] ++ more) } := hok' Pt _ hm
      refine ⟨rfl, ⟨fun b o e => ?_, fun b o e => ?_⟩, os, bare⟩
      · by_cases hb : b = Pt
        · subst hb
          rw [hT] at e
          cases e
          exact .inr (.inl ⟨(C.tab hT).isCodeTable, rfl, #[], more, rfl, grown⟩)
        · exact .inl (key b o hb e)
      · by_cases hb : b = Pt
        · rw [hb]; exact ⟨_, grown⟩
        · exact ⟨o, key b o hb e⟩
def LawAtG (l : PySem.W.OpenLaw) (w : World) (K : PySem.W.Frag) (k n : Nat) (x : Str) (mg : Str → Option Value) (fa : Addr) (h : Heap) : Prop :=
  ∃ (fd : FuncData) (c Pt : Addr) (sp : Sp), h.get? Pt = some { cls := .none, data := .fields #[] } ∧ K.lookup Pt = none ∧ PySem.W.CodeHd h c Pt ∧ (∀ (s : Shared) (u : Value), BindsTo s fd ⟨[u], []⟩ [(x, u)]) ∧
    (∀ (H : Hp) (a : Addr) (ns : List Int), ns.length ≤ n → H Pt = some (.tbl #[]) → SqL K H a (ns.map V.int) → sp [.ref a] H (fun v _ => v = .bl true) fun _ _ _ => False) ∧
    ∀ base : Heap, K.In base → base.Ns mainGlobals mg → TabB base mg c Pt → FnG l.prog w K mg base k fa fd [x] sp
theorem walk_ofGT {l : PySem.W.OpenLaw} {n k : Nat} {q : Program} {loose : List Str} {XP : (Str → Option Value) → Heap → Prop} {YP : World → Heap → Prop} {d : DefRec} {K : Params → PySem.W.Frag} {x : Str}
    (most : l.most = some n) (small : n ≤ sizeLine) (nodef : d.params.defaults = []) (room : Room k callerA) (hY : ∀ (w : World) (h : Heap), YP w h → (K w.params).In h)
    (F : ∀ (w : World) (mg : Str → Option Value) (fa : Addr) (h : Heap), YP w h → (K w.params).In h → h.Ns mainGlobals mg → mg d.name = some (.ref fa) → LawAtG l w (K w.params) k n x mg fa h) :
    PySem.W.WalkO q loose XP YP l.row.toRowW d [] (fun f vs => PySem.call f vs) := by
  apply Att.attach_call most nodef
  intro w s₀ s₁ mg mb fa o pm cd doc a vs ns G Y ho hd hcd hmg hobj hints hlen hg
  obtain ⟨fd, c, Pt, sp, hT, nT, C, hb, hsp, hF⟩ := F w mg fa _ Y (hY w _ Y) G.T.g hmg
  exact law_callGT (hY w _ Y) G.T.g G.T.b G.T.builtins G.T.nolimit hg hT nT C G.T.bmain hobj hints (Nat.le_trans hlen small) room hF hb fun H hH hS => hsp H a ns hlen hH hS
end Ty

/-! Ty61 -/
/-! lists of data as data; ints out of data; lengths; what a lambda asks of its text -/
namespace Ty
open PySem PySem.Spec L2
section
variable {P : Program} {w : World} {K : PySem.W.Frag} {mg : Str → Option Value} {base : Heap} {k : Nat}
variable {Y : Fa P w K mg base k} {e ea eb : Expr} {Γ Γ' : List Slot}
def pdInt : PyData → Option Int
  | .int i => some i
  | _ => none
def pdLenA : PyData → Option Int
  | .list ds => some (ds.length : Int)
  | .tuple ds => some (ds.length : Int)
  | _ => none
theorem XM.data {α : Type} [DecidableEq α] {p : VP α} {ok : α → Prop} {u : α} (E : DE p ok) (h : XM Y e Γ (val p u) Γ') : XM Y e Γ (val (pDa K) (E.enc u)) Γ' := h.wk (WkS.val fun F v r => E.dp K F v u r)
end
def lamS1B (sc scope : Scope) (p : Str) : Bool :=
  decide (scope.kind = .function) && !scope.isCoroutine && !scope.isGenerator && decide (scope.names.lookup p = some .local) && scope.names.all fun y => !decide (y.2 = .cell) && (!decide (y.2 = .local) || decide (y.1 = p)) && (!decide (y.2 = .free) || decide (sc.names.lookup y.1 = some .cell) || decide (sc.names.lookup y.1 = some .free))
theorem lamS1_by {sc scope : Scope} {p : Str} (h : lamS1B sc scope p = true) : LamS1 sc scope p := by
  unfold lamS1B at h
  simp only [Bool.and_eq_true, Bool.or_eq_true, Bool.not_eq_true', decide_eq_true_eq, decide_eq_false_iff_not, List.all_eq_true] at h
  obtain ⟨⟨⟨⟨h1, h2⟩, h3⟩, h4⟩, h5⟩ := h
  refine ⟨h1, h2, h3, fun y hy => ⟨(h5 y hy).1.1, fun e => ?_⟩, h4, fun y hy e => ?_⟩
  · rcases (h5 y hy).1.2 with z | z
    · exact absurd e z
    · exact z
  · rcases (h5 y hy).2 with (z | z) | z
    · exact absurd e z
    · exact .inl z
    · exact .inr z
end Ty

/-! Ty46 -/
/-! x in xs, by ==, of data -/
namespace Ty
open PySem PySem.Spec L2
def rInD (K : PySem.W.Frag) : R2 := fun x y H Q => ∃ d ds, Dp K H x d ∧ Dp K H y (.list ds) ∧ d.canLay0 = true ∧ PyData.canLayAll0 ds = true ∧ d.depth ≤ 60 ∧ Q (.bl (ds.any fun z => PyData.eqv z d)) H
def rNinD (K : PySem.W.Frag) : R2 := fun x y H Q => ∃ d ds, Dp K H x d ∧ Dp K H y (.list ds) ∧ d.canLay0 = true ∧ PyData.canLayAll0 ds = true ∧ d.depth ≤ 60 ∧ Q (.bl (!ds.any fun z => PyData.eqv z d)) H
section
variable {X : Cx}
end
section
variable {P : Program} {w : World} {K : PySem.W.Frag} {mg : Str → Option Value} {base : Heap} {k : Nat} {α : Type} {p : VP α} {a b : Slot}
/-- x in xs, by the equality that is decided -/
def memD {β : Type} [DecidableEq β] (u : β) (xs : List β) : Bool := decide (u ∈ xs)
end
end Ty

/-! Ty47 -/
/-! methods that change a fresh object, within expressions; one of two makes of value -/
namespace Ty
open PySem PySem.Spec L2
section
variable {P : Program} {w : World} {K : PySem.W.Frag} {mg : Str → Option Value} {base : Heap} {k : Nat}
variable {Y : Fa P w K mg base k} {i : Y.I} {e ea eb eo ev tg iter elt : Expr} {es ifs : List Expr} {rest body orelse : List Stmt} {Γ Γ' Γ1 Γ2 Δ Δ' As : List Slot} {a b c r s s' : Slot} {pos pos' : Pos} {B : Bs} {D : Ends} {x f : Str} {p' : Pos} {C : Addr} {ns : List Str} {α β : Type} {p : VP α} {q : VP β} {xs : List α}
/-! ### one of two makes -/
def pSum (p : VP α) (q : VP β) : VP (α ⊕ β) where
  R := fun F v x => match x with | .inl a => p.R F v a | .inr b => q.R F v b
  mono := fun {F F' v x} hF h => by
    cases x with
    | inl a => exact p.mono hF h
    | inr b => exact q.mono hF h
theorem XV.inl {u : α} (h : XV Y e Γ (val p u)) : XV Y e Γ (val (pSum p q) (.inl u)) := h.as fun F H fp o _ ⟨e1, v, e2, r⟩ => ⟨e1, v, e2, r⟩
theorem XV.inr {u : β} (h : XV Y e Γ (val q u)) : XV Y e Γ (val (pSum p q) (.inr u)) := h.as fun F H fp o _ ⟨e1, v, e2, r⟩ => ⟨e1, v, e2, r⟩
def DE.sum [DecidableEq α] [DecidableEq β] {ok : α → Prop} {ok' : β → Prop} (E : DE p ok) (E' : DE q ok') (h : ∀ a, ok a) (h' : ∀ b, ok' b) (hn : ∀ a b, PyData.eqv (E.enc a) (E'.enc b) = false ∧ PyData.eqv (E'.enc b) (E.enc a) = false) : DE (pSum p q) (fun _ => True) where
  enc := fun x => match x with | .inl a => E.enc a | .inr b => E'.enc b
  dp := fun K F v x r => by
    cases x with
    | inl a => exact E.dp K F v a r
    | inr b => exact E'.dp K F v b r
  sh := fun x _ => by
    cases x with
    | inl a => exact E.sh a (h a)
    | inr b => exact E'.sh b (h' b)
  d := max E.d E'.d
  hd := fun x => by
    cases x with
    | inl a => exact Nat.le_trans (E.hd a) (Nat.le_max_left _ _)
    | inr b => exact Nat.le_trans (E'.hd b) (Nat.le_max_right _ _)
  eq := fun x y => by
    cases x with
    | inl a =>
      cases y with
      | inl b => dsimp only; rw [E.eq, Bool.eq_iff_iff]; simp
      | inr b => dsimp only; rw [(hn a b).1, Bool.eq_iff_iff]; simp
    | inr a =>
      cases y with
      | inl b => dsimp only; rw [(hn b a).2, Bool.eq_iff_iff]; simp
      | inr b => dsimp only; rw [E'.eq, Bool.eq_iff_iff]; simp
end
end Ty

/-! Ty48 -/
/-! sorted of a list of tuples of ints -/
namespace Ty
open PySem PySem.Spec L2
def encT (xs : List Int) : PyData := .tuple (xs.map .int)
def leT (p q : List Int) : Bool := decide (p ≤ q)
def sortT (xss : List (List Int)) : List (List Int) := xss.mergeSort leT
def rSortT (K : PySem.W.Frag) : List V → Hp → VK → Prop := fun vs H Q => ∃ (a : Addr) (us : List V) (xss : List (List Int)) (G : V → List Int → Prop), vs = [V.ref a] ∧ SqL K H a us ∧ Paired (fun v xs => G v xs ∧ Dp K H v (encT xs)) us xss ∧ (∀ xs ∈ xss, xs ≠ []) ∧ ∀ p us', H p = none → Paired G us' (sortT xss) → Q (.ref p) (upd H p (.lst us'))
theorem depth_encT (xs : List Int) : (encT xs).depth ≤ 1 := by
  unfold encT
  rw [PyData.depth, PySem.W.depth_ints]
  omega
section
variable {P : Program} {w : World} {K : PySem.W.Frag} {mg : Str → Option Value} {base : Heap} {k : Nat}
variable {s : Slot}
end
end Ty

/-! Ty49 -/
/-! dicts: get with a default, walked while they stand still; dicts of nested keys: one entry shown, list(d) -/
namespace Ty
open PySem PySem.Spec L2
section
variable {P : Program} {w : World} {K : PySem.W.Frag} {mg : Str → Option Value} {base : Heap} {k : Nat} {β : Type} {p : VP β}
variable {Y : Fa P w K mg base k} {i : Y.I} {e ea eb eo ef ek ev tg iter elt : Expr} {es ifs : List Expr} {rest body : List Stmt} {Γ Γ' Γ1 Γ2 Δ Δ' : List Slot} {a b c r s s' : Slot} {pos : Pos} {B : Bs} {D : Ends} {x f : Str} {p' : Pos} {C : Addr} {ns : List Str}
/-- a dict with int keys that stands still -/
def pLk (p : VP β) : VP (List (Int × β)) where
  R := fun F v kvs => ∃ d od xs, v = .ref d ∧ F d = some (.frz od (.dK xs)) ∧ DRel dInt p F xs kvs
  mono := fun hF h => let ⟨d, od, xs, e, h1, h2⟩ := h; ⟨d, od, xs, e, hF _ _ h1, drel_mono hF h2⟩
/-! ### nested keys -/
def tDisp1N (P : Program) (w : World) (tk tv : TE) : TE := fun σ H Q => ∀ p, H p = none → tk σ (upd H p (ndo P w p [])) fun x H1 => tv σ H1 fun y H2 => ∃ b ks, x = .ref b ∧ H2 p = some (ndo P w p []) ∧ pNK.R H2 (.ref b) ks ∧ Q (.ref p) (upd H2 p (ndo P w p (putN [] ks b y)))
def numsOf : List NestedKey → Option (List Int)
  | [] => some []
  | .num i :: r => (numsOf r).map (i :: ·)
  | _ :: _ => none
def keyT : NestedKey → Option (List Int)
  | .tup ks => numsOf ks
  | _ => none
def keysT : List (NestedKey × β) → Option (List (List Int))
  | [] => some []
  | kv :: r => (keyT kv.1).bind fun x => (keysT r).map (x :: ·)
theorem nums_of {F : Hp} : ∀ {ks : List NestedKey} {vs : List V} {xs : List Int}, NkA F ks vs → numsOf ks = some xs → Paired (pInt.R F) vs xs
  | [], _, _, h, e => by cases h; cases e; exact .nil
  | k :: ks, _, _, h, e => by
    cases h with
    | cons a b =>
      cases k with
      | num i =>
        unfold numsOf at e
        obtain ⟨ys, h1, h2⟩ := Option.map_eq_some_iff.mp e
        subst h2
        cases a
        exact .cons rfl (nums_of b h1)
      | _ => cases e
theorem keyT_of {F : Hp} {k : NestedKey} {v : V} {xs : List Int} (h : pNK.R F v k) (e : keyT k = some xs) : (pTup pInt).R F v xs := by
  obtain ⟨h1, _, _⟩ := h
  cases k with
  | tup ks =>
    cases h1 with
    | tup q r => exact ⟨_, _, rfl, q, nums_of r e⟩
  | _ => cases e
theorem keysT_of {F : Hp} : ∀ {xs : NDX} {kvs : List (NestedKey × β)} {ys : List (List Int)}, NRel p F xs kvs → keysT kvs = some ys → Paired ((pTup pInt).R F) (xs.map fun x => V.ref x.2.1) ys
  | _, _, _, .nil, e => by cases e; exact .nil
  | _, _, _, .cons (a := x) (b := kv) r t, e => by
    unfold keysT at e
    obtain ⟨y, h1, h2⟩ := Option.bind_eq_some_iff.mp e
    obtain ⟨zs, h3, h4⟩ := Option.map_eq_some_iff.mp h2
    subst h4
    rw [← r.1] at h1
    exact .cons (keyT_of r.2.1 h1) (keysT_of t h3)
def rListN (P : Program) (w : World) : List V → Hp → VK → Prop := fun vs H Q => ∃ (d : Addr) (xs : NDX), vs = [.ref d] ∧ H d = some (ndo P w d xs) ∧ Kys H xs ∧ ∀ q, H q = none → Q (.ref q) (upd H q (.lst (xs.map fun x => V.ref x.2.1)))
theorem vals_ndx : ∀ {xs : NDX} {ys : List (NestedKey × Addr × Value)}, NRl xs ys → Vals (xs.map fun x => V.ref x.2.1) (ys.map fun y => Value.ref y.2.1)
  | _, _, .nil => .nil
  | _, _, .cons r t => .cons (by show Value.ref _ = Value.ref _; rw [r.2.1]) (vals_ndx t)
theorem call_listN {X : Cx} (hc : X.calm = true) : CallR X (.type "list") (rListN X.prog X.w) := by
  intro pins s σ H xs us Q I r h
  obtain ⟨d, kvs, rfl, hd, hkk, q⟩ := h
  obtain ⟨u, rfl, rx⟩ := vals1 r
  obtain rfl : u = .ref d := rx
  have x : ObjOk X.prog X.w H s.heap d (ndo X.prog X.w d kvs) := I.hok d _ hd
  unfold ndo at x
  obtain ⟨⟨z, hs, ks, pr, o, es, ep, ho, hx, hdt, he, hn⟩, _, _⟩ := x
  have l1 : es.size = ks.length := by
    have := congrArg List.length he
    rw [List.length_map, Array.length_toList] at this
    exact this
  have l2 : kvs.length = ks.length := Paired.length pr
  refine PySem.W.kdl_call (kdl_raw hs hx hdt) (I.ok.hd hc) ho (by omega) fun h' tk acc' c' kp e it => ?_
  have ea : acc'.toList = ks.map fun x => Value.ref x.2.1 := by
    have hl : acc'.toList.length = ks.length := by rw [Array.length_toList, it.1]; exact l1
    apply List.ext_getElem?
    intro j
    rw [List.getElem?_map]
    cases hj : acc'.toList[j]? with
    | none =>
      have h1 := List.getElem?_eq_none_iff.mp hj
      rw [List.getElem?_eq_none (by omega)]
      all_goals rfl
    | some v =>
      obtain ⟨en, hen, hv⟩ := it.2 j v (by rw [← Array.getElem?_toList]; exact hj)
      have qe : es[j]? = (ks[j]?).map (entryOfKey (nestedKind X.prog X.w)) := by
        rw [← Array.getElem?_toList, he, List.getElem?_map]
      rw [hen] at qe
      cases hb : ks[j]? with
      | none =>
        rw [hb] at qe
        exact nomatch (show some en = none from qe)
      | some b =>
        rw [hb] at qe
        have e2 : en = entryOfKey (nestedKind X.prog X.w) b := Option.some.inj qe
        rw [hv, e2]
        all_goals rfl
  have rv : Vals (kvs.map fun x => V.ref x.2.1) acc'.toList := by rw [ea]; exact vals_ndx pr
  have hz : (kvs.map fun x => V.ref x.2.1).length ≤ sizeLine := by rw [List.length_map]; exact z
  refine ⟨.ref s.heap.objs.size, _, I.laid (t' := tk) (o := .lst (kvs.map fun x => V.ref x.2.1)) kp (Nat.le_refl _) ?_, rfl, q _ (I.hok.fresh (Nat.le_refl _))⟩
  exact ⟨hz, acc'.toList, c', rv, by rw [Array.toArray_toList]; exact e⟩
theorem c_listN (Y : Fa P w K mg base k) (hcm : Y.cm = true := by rfl) (i : Y.I) : CallR (Y.X i) (.type "list") (rListN P w) := by have h := call_listN (X := Y.X i) ((Y.hC i).trans hcm); rw [Y.hP i, Y.hw i] at h; exact h
theorem o_listN {kvs : List (NestedKey × β)} {ys : List (List Int)} (hz : keysT kvs = some ys) : OpA (rListN P w) [borN P w p kvs] (own (oL (pTup pInt)) ys) := opA1 fun B F H v fx os Q W pv q => by
  obtain ⟨_, d, xs, ev, h1, h2⟩ := pv
  cases ev
  exact ⟨d, xs, rfl, h1, Kys.mono W.sub h2.keys, fun l hl => newL W.drop hl (keysT_of h2 hz) q⟩
end
end Ty

/-! Ty50 -/
/-! z.bit_length(); sorted of a list of pairs of an int and a tuple; a range of any size; isinstance(e, ValueError) of an error without fields -/
namespace Ty
open PySem PySem.Spec L2
/-! ### z.bit_length() -/
def tBitLen (ta : TE) : TE := fun σ H Q => ta σ H fun x H1 => ∃ z : Int, x = .int z ∧ Q (.int ((Builtin.Int.intBits z : Nat) : Int)) H1
/-! ### a range of any size -/
section
variable {X : Cx} {tg : Expr}
def iRngA (ta : TA) : TI := fun σ H R => ta σ H fun vs H1 => ∃ j : Int, vs = [.int j] ∧ R (Itr 0 j.toNat) H1
end
section
variable {P : Program} {w : World} {K : PySem.W.Frag} {mg : Str → Option Value} {base : Heap} {k : Nat} {β : Type} {p : VP β}
variable {Y : Fa P w K mg base k} {i : Y.I} {e ea eb eo ef ek ev tg iter elt : Expr} {es ifs : List Expr} {rest body : List Stmt} {Γ Γ' Γ1 Γ2 Δ Δ' : List Slot} {a b c r s s' : Slot} {pos : Pos} {B : Bs} {D : Ends} {x f : Str} {p' : Pos} {C : Addr} {ns : List Str}
end
section
variable {P : Program} {w : World} {K : PySem.W.Frag} {mg : Str → Option Value} {base : Heap} {k : Nat}
variable {Y : Fa P w K mg base k} {ea eb : Expr} {Γ : List Slot} {pos : Pos} {p' : Pos} {C : Addr}
end
/-! ### sorted -/
def encP (x : Int × List Int) : PyData := .tuple [.int x.1, encT x.2]
def leP (p q : Int × List Int) : Bool := PySem.W.dataLe false encP p q
def sortP (xs : List (Int × List Int)) : List (Int × List Int) := xs.mergeSort leP
theorem eachP_of {R : Value → Int × List Int → Prop} {G : V → Int × List Int → Prop} : ∀ {vs : List V} {us : List Value} {xss : List (Int × List Int)}, Vals vs us → Paired G vs xss → (∀ v u xs, RelV v u → G v xs → R u xs) → PySem.W.EachIs R us xss
  | _, _, _, .nil, .nil, _ => .nil
  | _, _, _, .cons r t, .cons g t2, h => .cons (h _ _ _ r g) (eachP_of t t2 h)
theorem eachP_back {G : V → Int × List Int → Prop} : ∀ {us : List Value} {xss : List (Int × List Int)}, PySem.W.EachIs (fun u xs => ∃ v, RelV v u ∧ G v xs) us xss → ∃ vs, Vals vs us ∧ Paired G vs xss
  | _, _, .nil => ⟨[], .nil, .nil⟩
  | _, _, .cons ⟨v, r, g⟩ t => let ⟨vs, a, b⟩ := eachP_back t; ⟨v :: vs, .cons r a, .cons g b⟩
def rSortP (K : PySem.W.Frag) : List V → Hp → VK → Prop := fun vs H Q => ∃ (a : Addr) (us : List V) (xss : List (Int × List Int)) (G : V → Int × List Int → Prop), vs = [V.ref a] ∧ SqL K H a us ∧ Paired (fun v xs => G v xs ∧ Dp K H v (encP xs)) us xss ∧ ∀ p us', H p = none → Paired G us' (sortP xss) → Q (.ref p) (upd H p (.lst us'))
theorem depth_encP (x : Int × List Int) : (encP x).depth ≤ 2 := by
  unfold encP
  have h := depth_encT x.2
  simp only [PyData.depth, PyData.depthAll]
  omega
theorem alike_encP (p q : Int × List Int) : PySem.W.alike (encP p) (encP q) = true := by
  unfold encP encT
  simp only [PySem.W.alike, PySem.W.alikeAll, PySem.W.alike_ints, Bool.and_true, Bool.true_and]
  try rfl
theorem cr_sortP {X : Cx} (hu : X.A.units + 64 < cLine) : CallR X (.builtin "sorted") (rSortP X.K) := by
  intro pins s σ H vs us Q I r h
  obtain ⟨a, ws, xss, G, rfl, hs, hp, q⟩ := h
  obtain ⟨its, rv, pl, hz⟩ := I.list hs
  rw [Vals.ref1 r]
  have hlen : its.length = xss.length := by rw [← rv.length]; exact Paired.length hp
  have e1 : PySem.W.EachIs (fun u xs => ∃ v, RelV v u ∧ G v xs) its xss := eachP_of rv hp fun v u xs h1 h2 => ⟨v, h1, h2.1⟩
  have e2 : PySem.W.EachIs (fun u xs => ∃ as, PySem.Reads s.heap u (encP xs) as) its xss := eachP_of rv hp fun v u xs h1 h2 => Dp.reads I _ v u h2.2 h1
  have hzl : xss.length ≤ sizeLine := by
    have := Paired.length hp
    omega
  refine PySem.W.sorted_data pl.isList e1 e2 (PySem.W.AllAlike.of fun b b' => alike_encP b b') (.inl fun d hd => ?_) hzl (fun b _ => ?_) fun out ho eo => ?_
  · obtain ⟨xs, hx, rfl⟩ := List.mem_map.mp hd
    exact ⟨_, _, rfl⟩
  · have := depth_encP b
    omega
  · obtain ⟨vs', h1, h2⟩ := eachP_back eo
    obtain ⟨ep, he'⟩ := PyProof.Rows.sortedAll_at s.heap its out.toArray
    have hl : vs'.length ≤ sizeLine := by rw [Vals.length h1, ho]; exact hzl
    exact ⟨.ref _, upd H (s.heap.objs.size + 1) (.lst vs'), I.laid (t' := s.toks) (fun _ _ => PyProof.Rows.sortedAll_old) (Nat.le_succ _) ⟨hl, out, ep, h1, he'⟩, rfl, q _ _ (I.hok.fresh (Nat.le_succ _)) h2⟩
section
variable {P : Program} {w : World} {K : PySem.W.Frag} {mg : Str → Option Value} {base : Heap} {k : Nat}
variable {s : Slot}
theorem c_sortP (Y : Fa P w K mg base k) (i : Y.I) : CallR (Y.X i) (.builtin "sorted") (rSortP K) := by have h := cr_sortP (X := Y.X i) (Y.hU i); rw [Y.hK i] at h; exact h
theorem o_sortP {xss : List (Int × List Int)} (hs : LV s (pT2 pInt (pTup pInt)) xss) : OpA (rSortP K) [s] (own (oL (pT2 pInt (pTup pInt))) (sortP xss)) := opA1 fun B F H v fx os Q W pv q => by
  obtain ⟨l, vs, ev, h1, h2⟩ := hs F H fx _ W.sub pv
  cases ev
  refine ⟨l, vs, xss, (pT2 pInt (pTup pInt)).R F, rfl, SqL.of h1, Paired.mon (fun v xs r => ⟨r, Dp.mono W.sub ((DE.t2 DE.int (DE.tup DE.int)).dp K F v xs r)⟩) h2, fun p us' hp hq => newL W.drop hp hq q⟩
end
/-! ### pairs and one of two makes of pairs: their kind and length -/
section
variable {P : Program} {w : World} {K : PySem.W.Frag} {mg : Str → Option Value} {base : Heap} {k : Nat} {α β γ δ : Type} {p : VP α} {q : VP β}
variable {Y : Fa P w K mg base k} {e : Expr} {Γ : List Slot} {s : Slot}
theorem TyV.t2 {u : α × β} : TyV K (val (pT2 p q) u) "tuple" := fun F H fp o hS hp => by
  obtain ⟨_, v, e, l, a, b, e2, h, _⟩ := hp
  subst e2
  exact ⟨_, e, .base (.tup (hS _ _ h))⟩
theorem TyV.sum {T : String} {u : α ⊕ β} (h1 : ∀ a, TyV K (val p a) T) (h2 : ∀ b, TyV K (val q b) T) : TyV K (val (pSum p q) u) T := fun F H fp o hS hp => by
  obtain ⟨e1, v, e, r⟩ := hp
  cases u with
  | inl a => exact h1 a F H fp o hS ⟨e1, v, e, r⟩
  | inr b => exact h2 b F H fp o hS ⟨e1, v, e, r⟩
/-- a tuple of n things -/
def TLen (s : Slot) (n : Nat) : Prop := ∀ F H fp o, Same F H → s.P F H fp o → ∃ l vs, o = some (.ref l) ∧ H l = some (.tup vs) ∧ vs.length = n
theorem TLen.t2 {u : α × β} : TLen (val (pT2 p q) u) 2 := fun F H fp o hS hp => by
  obtain ⟨_, v, e, l, a, b, e2, h, _⟩ := hp
  subst e2
  exact ⟨l, [a, b], e, hS _ _ h, rfl⟩
theorem TLen.sum {n : Nat} {u : α ⊕ β} (h1 : ∀ a, TLen (val p a) n) (h2 : ∀ b, TLen (val q b) n) : TLen (val (pSum p q) u) n := fun F H fp o hS hp => by
  obtain ⟨e1, v, e, r⟩ := hp
  cases u with
  | inl a => exact h1 a F H fp o hS ⟨e1, v, e, r⟩
  | inr b => exact h2 b F H fp o hS ⟨e1, v, e, r⟩
end
/-! ### is, of two bools -/
end Ty

/-! Ty51 -/
/-! displays of owned things of several kinds: looked at, walked when frozen, weakened -/
namespace Ty
open PySem PySem.Spec L2
/-- an owned display, looked at -/
def borH (Δ : List Slot) : Slot where
  P := fun F H fp o => fp = [] ∧ ∃ l vs os, o = some (.ref l) ∧ H l = some (.lst vs) ∧ Slots F H os (vs.map some) Δ
  mono := fun hF hH h => let ⟨ef, l, vs, os, e, h1, h2⟩ := h; ⟨ef, l, vs, os, e, hH _ _ h1, h2.mono hF hH⟩
  st := False
  mm := fun h => h.elim
section
variable {P : Program} {w : World} {K : PySem.W.Frag} {mg : Str → Option Value} {base : Heap} {k : Nat}
variable {Y : Fa P w K mg base k} {i : Y.I} {e ea eb eo ev tg iter elt : Expr} {es ifs : List Expr} {rest body : List Stmt} {Γ Γ' Γ1 Γ2 Δ Δ' : List Slot} {a b c r s s' : Slot} {pos : Pos} {B : Bs} {D : Ends} {x g f : Str} {p' : Pos}
end
/-! ### anything -/
def pAny : VP Unit := ⟨fun _ _ _ => True, fun _ h => h⟩
/-- slot by slot -/
inductive SImp : List Slot → List Slot → Prop
  | nil : SImp [] []
  | cons {s s' : Slot} {a b : List Slot} : (∀ F H fp o, s.P F H fp o → s'.P F H fp o) → SImp a b → SImp (s :: a) (s' :: b)
theorem SImp.to {F H : Hp} : ∀ {Δ Δ' : List Slot} {os : List Addr} {σ : List (Option V)}, SImp Δ Δ' → Slots F H os σ Δ → Slots F H os σ Δ'
  | _, _, _, _, .nil, S => by cases S; exact .nil
  | _, _, _, _, .cons h t, S => by
    cases S with
    | cons p r => exact .cons (h _ _ _ _ p) (t.to r)
section
variable {P : Program} {w : World} {K : PySem.W.Frag} {mg : Str → Option Value} {base : Heap} {k : Nat}
variable {Y : Fa P w K mg base k} {e : Expr} {Γ : List Slot}
theorem XV.any {α : Type} {p : VP α} {u : α} (h : XV Y e Γ (val p u)) : XV Y e Γ (val pAny ()) := h.as fun F H fp o _ ⟨e1, v, e2, _⟩ => ⟨e1, v, e2, True.intro⟩
end
end Ty
namespace Ty
open PySem PySem.Spec L2
end Ty

/-! Ty52 -/
/-! owned things of several kinds: tuples of them, taken out, unpacked; errors as values; min and max of a pair -/
namespace Ty
open PySem PySem.Spec L2
open PyProof.Rows (envOfC)
/-- an owned tuple of things of several kinds -/
def tupS (Γs : List Slot) : Slot where
  P := fun F H fp o => ∃ l vs os, o = some (.ref l) ∧ fp = l :: os ∧ H l = some (.tup vs) ∧ Slots F H os (vs.map some) Γs
  mono := fun hF hH h => let ⟨l, vs, os, e1, e2, h1, h2⟩ := h; ⟨l, vs, os, e1, e2, hH _ _ h1, h2.mono hF hH⟩
  st := Stb Γs
  mm := fun hs {_ _ _ _ _ _} hF hH h => let ⟨l, vs, os, e1, e2, h1, h2⟩ := h
    ⟨l, vs, os, e1, e2, by rw [hH l (by rw [e2]; simp)]; exact h1, h2.mm hF hs fun q hq => hH q (by rw [e2]; simp [hq])⟩
section
variable {P : Program} {w : World} {K : PySem.W.Frag} {mg : Str → Option Value} {base : Heap} {k : Nat}
variable {Y : Fa P w K mg base k} {i : Y.I} {e ea eb eo ev tg iter elt : Expr} {es ifs : List Expr} {rest body : List Stmt} {Γ Γ' Γ1 Γ2 Δ Δ' As : List Slot} {a b c r s s' : Slot} {pos : Pos} {B : Bs} {D : Ends} {x g f : Str} {p' : Pos}
end
end Ty

/-! Ty53 -/
/-! errors as values; min and max of a pair of ints -/
namespace Ty
open PySem PySem.Spec L2
open PyProof.Rows
/-- an exception object of this class with this dict, at a -/
def ExV (cls : Value) (d : Option Addr) (a : Addr) : HO := .ext fun h => ∃ (oe : Obj) (vs : Array Value), h.get? a = some oe ∧ Zc cls d oe ∧ oe.data = .fields vs
section
variable {X : Cx} {pins : List (Addr × Obj)} {σ : L2.St} {H : Hp} {s s' : Shared}
/-- isinstance(e, c), e an exception as a value -/
def rIsV (K : PySem.W.Frag) : List V → Hp → VK → Prop := fun xs H Q => ∃ (a Dc : Addr) (d : Option Addr) (c : V) (cv : Value) (b : Bool), xs = [.ref a, c] ∧ H a = some (ExV (.ref Dc) d a) ∧ (d = none ∨ ∃ dd fs, d = some dd ∧ H dd = some (.xd fs)) ∧ ExcC K Dc ∧ (∀ u, RelV c u → u = cv) ∧ PySem.W.kitOne K (.ref Dc) cv = some b ∧ Q (.bl b) H
end
/-- an error as a value -/
def pErr (EX : ExT) : VP Exn := ⟨fun F v e => ∃ (a : Addr) (cls : Value) (d : Option Addr) (F0 : Hp), v = .ref a ∧ F a = some (ExV cls d a) ∧ Same F0 F ∧ EX e cls d F0, fun hF ⟨a, cls, d, F0, h1, h2, h3, h4⟩ => ⟨a, cls, d, F0, h1, hF _ _ h2, h3.trans hF, h4⟩⟩
section
variable {P : Program} {w : World} {K : PySem.W.Frag} {mg : Str → Option Value} {base : Heap} {k : Nat}
variable {Y : Fa P w K mg base k} {i : Y.I} {e ea eb eo ev tg iter elt : Expr} {es ifs : List Expr} {rest body : List Stmt} {Γ Γ' Γ1 Γ2 Δ Δ' As : List Slot} {a b c r s s' : Slot} {pos : Pos} {B : Bs} {D : Ends} {x g f : Str} {p' : Pos} {C : Addr} {EX : ExT} {ex : Exn}
end
/-! ### min and max of a pair -/
def rMinT (K : PySem.W.Frag) : List V → Hp → VK → Prop := fun vs H Q => ∃ (a : Addr) (x y : Int), vs = [V.ref a] ∧ SqT K H a [.int x, .int y] ∧ Q (.int (if y < x then y else x)) H
def rMaxT (K : PySem.W.Frag) : List V → Hp → VK → Prop := fun vs H Q => ∃ (a : Addr) (x y : Int), vs = [V.ref a] ∧ SqT K H a [.int x, .int y] ∧ Q (.int (if x < y then y else x)) H
section
variable {P : Program} {w : World} {K : PySem.W.Frag} {mg : Str → Option Value} {base : Heap} {k : Nat}
variable {Y : Fa P w K mg base k} {Γ : List Slot}
end
end Ty

/-! Ty54 -/
/-! an own == that answers NotImplemented to an int -/
namespace Ty
open PySem PySem.Spec L2 PyProof.Rows
open AutoSeq1 (wpAny_loadPart')
open MeetsSeq MeetsSeq2 MeetsSeq3 SeqRoads2
/-- a def that answers NotImplemented -/
def NiOk (P : Program) (w : World) (K : PySem.W.Frag) (mg : Str → Option Value) (base : Heap) (k : Nat) (f : Addr) (fd : FuncData) (ps : List Str) (sp : List V → Hp → Prop) : Prop :=
  ∀ (A : Around) (outer : List Env) (s : Shared) (H : Hp) (us : List Value) (vs : List V), Room k A → Env0 P w K mg base A outer s H → BindsTo s fd ⟨us, []⟩ (ps.zip us) → Vals vs us → vs.length = ps.length → sp vs H →
    codeAny (model P w) A (.call (.ref f) ⟨us, []⟩) (fun r s' => r = .ok (.ret .notImplemented) ∧ ∃ H', Same H H' ∧ s'.os = s.os ∧ AllBare s'.gens ∧ Un (frs outer) [] H H' s.heap s'.heap ∧ HOk P w H' s'.heap) s
section
variable {P : Program} {w : World} {K : PySem.W.Frag} {mg : Str → Option Value} {base : Heap}
end
section
variable {X : Cx} {n : Nat} {f C : Addr} {fd : FuncData} {ps : List Str} {sp : List V → Hp → Prop} {pins : List (Addr × Obj)} {σ : L2.St} {H : Hp} {s : Shared}
def rEqI (K : PySem.W.Frag) (C : Addr) (sp : List V → Hp → Prop) : R2 := fun x y H Q => ∃ (a dx : Addr) (fs : List (Str × V)) (z : Int), x = .ref a ∧ y = .int z ∧ H a = some (.ins C dx fs) ∧ PySem.W.subIn K (.type "int") (.ref C) = some false ∧ sp [x, y] H ∧ ∀ H', Same H H' → Q (.bl false) H'
end
/-! ### in the layer -/
def spNi : List V → Hp → Prop := fun vs _ => ∃ (x : V) (z : Int), vs = [x, .int z]
section
variable {P : Program} {w : World} {K : PySem.W.Frag} {mg : Str → Option Value} {base : Heap} {k : Nat}
variable {Y : Fa P w K mg base k} {Γ : List Slot} {a b s : Slot} {C : Addr} {ns : List Str} {α : Type} {f : Addr} {fd : FuncData} {ps : List Str} {j : Nat}
end
theorem NLp.opt {α : Type} {p : VP α} (h : NLp p) : NLp (pOpt p) := fun F F' v a k r => by
  cases a with
  | none => exact r
  | some a => exact ⟨h _ _ _ _ k r.1, r.2⟩
end Ty

/-! Ty62 -/
/-! texts: split, join, f'..', int(text); texts out of data; lists as data -/
namespace Ty
open PySem PySem.Spec L2
open PyProof.Rows
section
variable {P : Program} {w : World} {K : PySem.W.Frag} {mg : Str → Option Value} {base : Heap} {k : Nat}
variable {Y : Fa P w K mg base k} {i : Y.I} {e ea eb eo : Expr} {es : List Expr} {Γ Γ' : List Slot} {a b r s : Slot} {pos : Pos} {x : Str} {p' : Pos}
/-! ### f'..' -/
def XJs (Y : Fa P w K mg base k) (es : List Expr) (Γ : List Slot) (acc out : Str) : Prop :=
  ∃ ts : List TE, (∀ i, PJ (Y.X i) es ts) ∧ ∀ (B : Bs) (F H : Hp) (os : List Addr) (σ : List (Option V)) (Q : Str → Hp → Prop), In B F H os σ Γ → (∀ F' H', Same F F' → Same H H' → Wo B F' H' os → Q out H') → tJs ts acc σ H Q
/-! ### data -/
def pdStr : PyData → Option Str
  | .str x => some x
  | _ => none
end
end Ty

/-! Ty63 -/
/-! defs that change their first argument, answer, and may raise -/
namespace Ty
open PySem PySem.Spec L2
open PyProof.Rows (envOfC)
section
variable {P : Program} {w : World} {K : PySem.W.Frag} {mg : Str → Option Value} {base : Heap} {k : Nat}
def spMR {ι μ ρ : Type} (s0 : ι → Slot) (As : ι → List Slot) (m : ι → Option (Rx (μ × ρ))) (s1 : μ → Slot) (Sr : ρ → Slot) (X : ExT) : Sp := fun vs H Q E => ∃ (z : ι) (r : Rx (μ × ρ)) (F : Hp) (fp : List Addr) (v0 : V) (ws : List V), vs = v0 :: ws ∧ m z = some r ∧ Wo ⟨F, H, fp⟩ F H fp ∧ (s0 z).P F H fp (some v0) ∧ Slots F H [] (ws.map some) (As z) ∧
  (∀ q, r = .ok q → ∀ v F' H' f1 f2, Wo ⟨F, H, fp⟩ F' H' (f2 ++ f1) → (s1 q.1).P F' H' f1 (some v0) → (Sr q.2).P F' H' f2 (some v) → Q v H') ∧ ∀ e, r = .ex e → ∀ cls d F' H', Wo ⟨F, H, fp⟩ F' H' [] → X e cls d F' → E cls d H'
def DMR {μ ρ : Type} (B : Bs) (v0 : V) (s1 : μ → Slot) (Sr : ρ → Slot) (r : Rx (μ × ρ)) : Ends where
  nx := fun σ H => ∃ q, r = .ok q ∧ (DM B v0 s1 Sr q).nx σ H
  rt := fun v H => ∃ q, r = .ok q ∧ (DM B v0 s1 Sr q).rt v H
variable {Y : Fa P w K mg base k} {i : Y.I} {e ea eb eo : Expr} {es : List Expr} {rest : List Stmt} {Γ Γ' Γ1 : List Slot} {a b r s : Slot} {pos : Pos} {B : Bs} {D : Ends} {x f : Str} {p' : Pos} {EX : ExT} {ex : Exn} {C : Addr} {ns : List Str} {Δ : List Slot}
/-- what W asks does not lean on the slots -/
def WFree (Y : Fa P w K mg base k) : Prop := ∀ cls d σ σ' H, Y.W cls d σ H → Y.W cls d σ' H
/-! statements whose head raises behind changes -/
theorem go_setXm (h : XXm Y e Γ EX ex Γ') (hw : Wish Y.W B Γ' EX ex) {py : Pos} {j : Nat} (hi : (Y.X i).N[j]? = some x := by rfl) (hx : Loc (Y.X i).env.scope x := by first | exact Or.inl rfl | exact Or.inr rfl)
    (hs : swapsWith e (some (.Name x py)) pos.line (Y.X i).env = pure false := by rfl) (hf : (Y.X i).fn x = true ∨ (Y.X i).env.scope.names.lookup x = some .local := by first | exact Or.inl rfl | exact Or.inr rfl) : Go Y i (.Assign [.Name x py] e pos :: rest) D B Γ := by
  obtain ⟨t, p, rd⟩ := h
  refine go_ps (ps_set (Y.hN i) hi hx (p i) hs hf) fun F H σ ⟨os, W, S⟩ => ?_
  exact rd B F H os σ _ W S fun cls d F' H' os' W' S' hx => hw cls d σ F' H' os' (Sta.in W' S') hx
theorem go_exprXm (h : XXm Y e Γ EX ex Γ') (hw : Wish Y.W B Γ' EX ex) (hs : swapsWith e none pos.line (Y.X i).env = pure false := by rfl) : Go Y i (.Expr e pos :: rest) D B Γ := by
  obtain ⟨t, p, rd⟩ := h
  refine go_ps (ps_expr (p i) hs) fun F H σ ⟨os, W, S⟩ => ?_
  exact rd B F H os σ _ W S fun cls d F' H' os' W' S' hx => hw cls d σ F' H' os' (Sta.in W' S') hx
end
end Ty

/-! Ty64 -/
/-! lists of data taken apart; places in what a changing call answers; errors behind them -/
namespace Ty
open PySem PySem.Spec L2
section
variable {P : Program} {w : World} {K : PySem.W.Frag} {mg : Str → Option Value} {base : Heap} {k : Nat}
variable {Y : Fa P w K mg base k} {i : Y.I} {e ea eb eo tg : Expr} {es : List Expr} {rest : List Stmt} {Γ Γ' Γ1 : List Slot} {a b r s : Slot} {pos : Pos} {B : Bs} {D : Ends} {x f : Str} {p' : Pos} {EX : ExT} {ex : Exn} {α : Type}
/-- data told as values of these kinds -/
inductive DsTo : List PyData → List Slot → Prop
  | nil : DsTo [] []
  | str {t : Str} {ds : List PyData} {Γ : List Slot} (r : DsTo ds Γ) : DsTo (.str t :: ds) (vStr t :: Γ)
  | int {n : Int} {ds : List PyData} {Γ : List Slot} (r : DsTo ds Γ) : DsTo (.int n :: ds) (vInt n :: Γ)
theorem DsTo.slots {F : Hp} {ds : List PyData} {Γ : List Slot} (h : DsTo ds Γ) : ∀ {vs : List V}, Paired ((pDa K).R F) vs ds → Slots F F [] (vs.map some) Γ := by
  induction h with
  | nil =>
    intro vs hp
    cases hp
    exact .nil
  | str _ ih =>
    intro vs hp
    cases hp with
    | cons r t => cases r; exact Slots.cons (fp := []) ⟨rfl, _, rfl, rfl⟩ (ih t)
  | int _ ih =>
    intro vs hp
    cases hp with
    | cons r t => cases r; exact Slots.cons (fp := []) ⟨rfl, _, rfl, rfl⟩ (ih t)
theorem WkS.dataH {sl : α → List Slot} {z : α} {ds : List PyData} (h : DsTo ds (sl z)) : WkS (Ty.own (oL (pDa K)) ds) (Ty.val (pH sl) z) := fun F H fp o hS hp => by
  obtain ⟨v, e, l, vs, el, ef, h1, h2⟩ := hp
  subst ef
  exact ⟨[l], [], rfl, fun F' hF hs hx => ⟨rfl, v, e, l, vs, el, by rw [hx l List.mem_cons_self]; exact h1, h.slots (Paired.mon (fun _ _ r => (pDa K).mono hF r) h2)⟩⟩
def pdSII : List PyData → Option (Str × Int × Int)
  | [.str a, .int b, .int c] => some (a, b, c)
  | _ => none
def pdII : List PyData → Option (Int × Int)
  | [.int b, .int c] => some (b, c)
  | _ => none
def pdSI : List PyData → Option (Str × Int)
  | [.str a, .int b] => some (a, b)
  | _ => none
end
end Ty

/-! Ty65 -/
/-! lending for flat answers; owned tuples unpacked; errors in what is handed to a class; heads of sums -/
namespace Ty
open PySem PySem.Spec L2
section
variable {P : Program} {w : World} {K : PySem.W.Frag} {mg : Str → Option Value} {base : Heap} {k : Nat}
variable {Y : Fa P w K mg base k} {i : Y.I} {e ea eb eo tg : Expr} {es : List Expr} {rest : List Stmt} {Γ Γ' Γ1 : List Slot} {a b r s s' : Slot} {Δ : List Slot} {pos : Pos} {B : Bs} {D : Ends} {x f : Str} {p' : Pos} {EX : ExT} {ex : Exn} {α β : Type} {C : Addr}
theorem WkS.hold {v : V} (h : WkS s s') : WkS (Ty.hold s v) s' := fun F H fp o hS hp => h F H fp o hS hp.2
/-- the head of a pair or of data -/
def hdS : (Str × β) ⊕ PyData → Option Str
  | .inl a => some a.1
  | .inr d => (pdAt d 0).bind pdStr
def hdStr : List PyData → Option Str
  | .str t :: _ => some t
  | _ => none
end
end Ty

/-! Ty66 -/
/-! places whose value is known; calls whose last argument changes something -/
namespace Ty
open PySem PySem.Spec L2
section
variable {P : Program} {w : World} {K : PySem.W.Frag} {mg : Str → Option Value} {base : Heap} {k : Nat}
variable {Y : Fa P w K mg base k} {i : Y.I} {e ea eb eo tg : Expr} {es : List Expr} {rest : List Stmt} {Γ Γ' Γ1 : List Slot} {a b r s : Slot} {pos : Pos} {B : Bs} {D : Ends} {x f : Str} {p' : Pos} {C : Addr} {ns : List Str} {Δ Δ0 : List Slot} {As : List Slot}
theorem FnOk.union {ι : Type} {CX : CXT} {j : Nat} {g : Addr} {fd : FuncData} {ps : List Str} {sp' : Sp} {spI : ι → Sp} (F : ∀ i, FnOk P w K mg base CX j g fd ps (spI i)) (h : ∀ vs H Q E, sp' vs H Q E → ∃ i, spI i vs H Q E) : FnOk P w K mg base CX j g fd ps sp' :=
  ⟨fun vs H Q E q => let ⟨i, z⟩ := h _ _ _ _ q; (F i).len vs H Q E z, fun A outer s H args us vs Q E hr he hb hv hs => let ⟨i, z⟩ := h _ _ _ _ hs; (F i).run A outer s H args us vs Q E hr he hb hv z⟩
def HP (Γ : List Slot) (s : Slot) (v0 : V) (up : Slot → List Slot) : Prop := ∀ (F H : Hp) (os : List Addr) (σ : List (Option V)), Slots F H os σ Γ → ∃ fp r, os.Perm (fp ++ r) ∧ s.P F H fp (some v0) ∧
  ∀ (F' H' : Hp) (fp' : List Addr) (s' : Slot), Same F F' → (∀ q ∈ r, H' q = H q) → s'.P F' H' fp' (some v0) → ∃ os', Slots F' H' os' σ (up s') ∧ os'.Perm (fp' ++ r)
/-- arguments, the last of which changes something -/
def XAM (Y : Fa P w K mg base k) (es : List Expr) (Γ As Γ' : List Slot) : Prop :=
  ∃ t : TA, (∀ i, PA (Y.X i) es t) ∧ ∀ (B : Bs) (F H : Hp) (os : List Addr) (σ : List (Option V)) (Q : List V → Hp → Prop), Wo B F H os → Slots F H os σ Γ →
    (∀ vs F' H' os', Wo B F' H' os' → Slots F' H' os' σ Γ' → Slots F' H' [] (vs.map some) As → Q vs H') → t σ H Q
end
end Ty

/-! Ty67 -/
/-! sum(xs); tuples and operations with a part that changes something -/
namespace Ty
open PySem PySem.Spec L2
section
variable {P : Program} {w : World} {K : PySem.W.Frag} {mg : Str → Option Value} {base : Heap} {k : Nat}
variable {Y : Fa P w K mg base k} {i : Y.I} {e ea eb ec eo tg : Expr} {es : List Expr} {rest : List Stmt} {Γ Γ' Γ1 : List Slot} {a b c r s : Slot} {pos : Pos} {B : Bs} {D : Ends} {x f : Str} {p' : Pos} {C : Addr} {ns : List Str} {Δ Δ0 : List Slot} {As : List Slot}
variable {α β γ : Type} {p : VP α} {q : VP β} {o : VP γ}
end
end Ty

/-! Ty68 -/
/-! xs.pop(i) of a list of owned things -/
namespace Ty
open PySem PySem.Spec L2
section
variable {P : Program} {w : World} {K : PySem.W.Frag} {mg : Str → Option Value} {base : Heap} {k : Nat}
variable {Y : Fa P w K mg base k} {i : Y.I} {e ea eb ec eo tg : Expr} {es : List Expr} {rest : List Stmt} {Γ Γ' Γ1 : List Slot} {a b c r s : Slot} {pos : Pos} {B : Bs} {D : Ends} {x f : Str} {p' : Pos} {Δ : List Slot}
end
end Ty

/-! Ty69 -/
/-! x, y = a, b -/
namespace Ty
open PySem PySem.Spec L2
section
variable {P : Program} {w : World} {K : PySem.W.Frag} {mg : Str → Option Value} {base : Heap} {k : Nat}
variable {Y : Fa P w K mg base k} {i : Y.I} {e ea eb ec eo tg : Expr} {es : List Expr} {rest : List Stmt} {Γ Γ' Γ1 : List Slot} {a b c r s : Slot} {pos : Pos} {B : Bs} {D : Ends}
end
end Ty

/-! Ty70 -/
/-! sorted(xs, key=lambda x: ..): the builtin's loop over an invariant of the state -/
namespace Ty
open PySem PySem.Spec L2
open PyProof.Rows PySem.Calls PySem.W
section
variable {prog : Program} {w : World} {A : Around} {E : Value → Shared → Prop} {s : Shared} {a kS : Addr} {vs : List Value} {keys : Array Value} {e e1 : Nat} {P : PySem.Fin → Shared → Prop} {kz : List PyData}
theorem srtk_tail {st : SortSt} {out : List Value} (nk : s.heap.get? kS = some (seqObj "list" keys e)) (na : s.heap.get? a = some (seqObj "list" #[] e1)) (hka : kS ≠ a)
    (hsz : keys.size ≤ sizeLine) (hz : out.length ≤ sizeLine) (hfl : failedOf st = none) (ho : (arrOf st).map (·.2) = out.toArray)
    (h : ∀ h' tk c, (∀ b o, b ≠ a → b ≠ kS → s.heap.get? b = some o → h'.get? b = some o) → h'.get? a = some (seqObj "list" out.toArray c) → P (.done (.ret .none)) { s with heap := h', toks := tk }) :
    wpAny (model prog w) A (ksk_tail a false e1 (.ref kS) st) P E s := by
  have s1 := Heap.SameBut.update s.heap kS (Obj.mapSeq fun _ => (#[] : Array Value))
  have na1 : (s.heap.update kS (Obj.mapSeq fun _ => (#[] : Array Value))).get? a = some (seqObj "list" #[] e1) := (s1.2 a hka.symm).trans na
  have s2 := Heap.SameBut.update (s.heap.update kS (Obj.mapSeq fun _ => (#[] : Array Value))) a (Obj.mapSeq fun _ => out.toArray)
  obtain ⟨c2, hc2⟩ : ∃ c2, ((s.heap.update kS (Obj.mapSeq fun _ => (#[] : Array Value))).update a (Obj.mapSeq fun _ => out.toArray)).get? a = some (seqObj "list" out.toArray c2) :=
    ⟨_, get?_update_seq na1 fun _ => out.toArray⟩
  have hz2 : out.toArray.size ≤ sizeLine + 1 := by
    rw [List.size_toArray]
    exact Nat.le_succ_of_le hz
  unfold ksk_tail
  try dsimp only
  rw [if_neg (by decide), ho]
  refine wpAny_bind (listUpdate_at nk rfl ?_ hsz (Nat.zero_le _))
  refine wpAny_bind (wpAny_letGo ?_)
  refine wpAny_bind (seqEpoch_at na1 rfl ?_)
  refine wpAny_bind (listUpdate_at na1 rfl ?_ (Nat.zero_le _) hz2)
  rw [hfl]
  simp only [bne_self_eq_false, Bool.false_eq_true, if_false]
  exact wpAny_pure (h _ _ c2 (fun b o hb hb2 q => (s2.2 b hb).trans ((s1.2 b hb2).trans q)) hc2)
theorem srtk_end {κ : PyProof.Rows.KeyKind} (nk : s.heap.get? kS = some (seqObj "list" keys e)) (na : s.heap.get? a = some (seqObj "list" #[] e1)) (hka : kS ≠ a)
    (S : SortsAt prog w A s κ keys.toList) (hsz : keys.size = vs.length) (hZ : vs.length ≤ sizeLine)
    (h : ∀ h' tk c, (∀ b o, b ≠ a → b ≠ kS → s.heap.get? b = some o → h'.get? b = some o) → h'.get? a = some (seqObj "list" (sortVals κ false keys.toList vs).toArray c) → P (.done (.ret .none)) { s with heap := h', toks := tk }) :
    wpAny (model prog w) A (ksk_end a false vs.toArray e1 (.ref kS) keys) P E s := by
  obtain ⟨kd, h1, h2⟩ := S.kind
  have hkl : keys.toList.length = vs.length := by
    rw [Array.length_toList]
    exact hsz
  have hK : PyProof.Rows.KeysOf κ (keys.zip vs.toArray) := keysOf_zip S.keys
  have hol : (sortVals κ false keys.toList vs).length = vs.length := sortVals_length false hkl
  have hss : (keys.zip vs.toArray).size = vs.length := by rw [Array.size_zip, hsz, List.size_toArray, Nat.min_self]
  have fin : ∀ st' : SortSt, (arrOf st').Perm (keys.zip vs.toArray) → SortedToK κ (arrOf st') (keys.zip vs.toArray).size →
      Stable κ (arrOf st') (keys.zip vs.toArray) → (arrOf st').map (·.2) = (sortVals κ false keys.toList vs).toArray := by
    intro st' hp hs ht
    have e := sort_out (rev := false) (keys := keys) (items := vs.toArray) (xs := arrOf st') (κ := κ) hK hp hs ht
    have e' := congrArg List.toArray e
    rw [Array.toArray_toList] at e'
    exact e'
  unfold ksk_end
  try dsimp only
  rw [if_neg (by decide)]
  try simp only [Bool.false_eq_true, if_false]
  by_cases hl2 : vs.toArray.size < 2
  · rw [if_pos hl2, if_pos hl2]
    refine wpAny_bind (wpAny_pure ?_)
    rw [StateT.run_pure]
    refine wpAny_bind (wpAny_pure ?_)
    try dsimp only
    refine srtk_tail (st := SortSt.mk' general' (keys.zip vs.toArray) #[] 7 none) nk na hka (by rw [hsz]; exact hZ) (by rw [hol]; exact hZ) rfl (fin _ (Array.Perm.refl _) ?_ (Stable.refl _)) h
    intro i j hij hj
    rw [hss] at hj
    rw [List.size_toArray] at hl2
    have : i = j := by omega
    subst this
    exact KeyOrd.kle_refl _
  · rw [if_neg hl2, if_neg hl2]
    rw [List.size_toArray] at hl2
    refine wpAny_bind (h2 (by omega) _ ?_)
    refine wpAny_bind (wpAny_mono (H.wpS_sortRunsSt (κ := κ) (kd := kd) (a₀ := keys.zip vs.toArray)
      (st := SortSt.mk' kd (keys.zip vs.toArray) #[] 7 none)
      (Q := fun _ st' => failedOf st' = none ∧ (arrOf st').map (·.2) = (sortVals κ false keys.toList vs).toArray)
      h1 hK ⟨Array.Perm.refl _, rfl, rfl⟩ rfl (Stable.refl _) (by rw [hss]; omega) fun st' a1 a2 a3 a4 => ⟨a2, fin st' a1 a3 a4⟩) ?_ fun _ _ e => e)
    rintro ⟨⟨⟩, st'⟩ s' ⟨rfl, hf, ho⟩
    try dsimp only at ho ⊢
    exact srtk_tail nk na hka (by rw [hsz]; exact hZ) (by rw [hol]; exact hZ) hf ho h
end
section
variable {prog : Program} {w : World} {A : Around} {E : Value → Shared → Prop} {l q : Addr} {vs : List Value} {kz : List PyData} {Q : Value → Shared → Prop}
theorem sortk_call {JJ : Addr → Addr → List Value → Shared → Prop} {st : Shared} (hls : st.heap.IsList l vs.toArray) (hlen : kz.length = vs.length) (hZ : vs.length ≤ sizeLine) (hal : AllAlike kz) (hsk : Sortable kz) (hu : ∀ d, d ∈ kz → A.in1.in1.units + d.depth < cLine)
    (h0 : ∀ (D S : Addr) (h' : Heap) (tk : Nat), st.heap.objs.size ≤ D → st.heap.objs.size ≤ S → S ≠ D → (∀ b o, st.heap.get? b = some o → h'.get? b = some o) → JJ D S [] { st with heap := h', toks := tk })
    (hw : ∀ (D S : Addr) (ks : List Value) (s : Shared) (h' : Heap) (tk' : Nat), JJ D S ks s → (∀ b o, b ≠ D → b ≠ S → s.heap.get? b = some o → h'.get? b = some o) → JJ D S ks { s with heap := h', toks := tk' })
    (turn : ∀ (D S : Addr) (ks : List Value) (i : Nat) (v : Value) (k : PyData), vs[i]? = some v → kz[i]? = some k → ks.length = i → ∀ (s : Shared) (oD oS : Obj), JJ D S ks s → s.heap.get? D = some oD → s.heap.get? S = some oS →
      wpAny (model prog w) A.in1.in1 (call (.ref q) [v]) (fun r s' => JJ D S (ks ++ [r]) s' ∧ s'.heap.get? D = some oD ∧ s'.heap.get? S = some oS) (fun _ _ => False) s)
    (hr : ∀ (D S : Addr) (ks : List Value) (s : Shared), JJ D S ks s → ks.length = vs.length → EachIs (fun v d => ∃ as, Reads s.heap v d as) ks kz)
    (hQ : ∀ (D S : Addr) (ks : List Value) (s : Shared) (out : List Value) (c : Nat), JJ D S ks s → D ≠ S → s.heap.get? D = some (seqObj "list" out.toArray c) → KeyedOut false kz vs out → Q (.ref D) s) :
    wpAny (model prog w) A (call (.builtin "sorted") [.ref l] [(Str.ofString "key", .ref q)]) Q E st := by
  refine sorted_of_sort hls hZ (ksk_s1 _ _) (fun _ => ksk_l1 _ _) fun E' => ?_
  rw [ksk_t1]
  have ho := copyHeap_at st.heap vs
  obtain ⟨D, hD⟩ : ∃ D, D = st.heap.objs.size + 1 := ⟨_, rfl⟩
  rw [← hD] at ho ⊢
  have kp0 : ∀ b o, st.heap.get? b = some o → (copyHeap st.heap vs).get? b = some o := fun b o => copyHeap_old
  generalize copyHeap st.heap vs = hp at ho kp0 ⊢
  have haD : D < hp.objs.size := Heap.lt_size ho
  obtain ⟨e1, ho1⟩ : ∃ e1, (hp.update D (Obj.mapSeq fun _ => (#[] : Array Value))).get? D = some (seqObj "list" #[] e1) := ⟨_, get?_update_seq ho fun _ => #[]⟩
  have hkS : ((hp.update D (Obj.mapSeq fun _ => (#[] : Array Value))).push (seqObj "tuple" vs.toArray 0)).objs.size = hp.objs.size + 1 := by rw [size_push', Heap.size_update]
  unfold ksk_tree
  refine wpAny_bind (listItems_at (s := { st with heap := hp }) ho rfl ?_)
  refine wpAny_bind (listUpdate_at (s := { st with heap := hp }) ho rfl ?_ (by rw [List.size_toArray]; exact hZ) (Nat.zero_le _))
  refine wpAny_bind (seqEpoch_at ho1 rfl ?_)
  refine wpAny_bind (wpAny_newTuple ?_ (by show vs.length ≤ _; exact hZ))
  refine wpAny_bind (wpAny_newList ?_ (Nat.zero_le _))
  refine wpAny_holding ?_
  have hne : hp.objs.size + 1 ≠ D := by omega
  have gS : (((hp.update D (Obj.mapSeq fun _ => (#[] : Array Value))).push (seqObj "tuple" vs.toArray 0)).push (seqObj "list" #[] 0)).get? (hp.objs.size + 1) = some (seqObj "list" #[] 0) := by
    rw [← hkS]; exact Heap.get?_push_size _ rfl
  have gD : (((hp.update D (Obj.mapSeq fun _ => (#[] : Array Value))).push (seqObj "tuple" vs.toArray 0)).push (seqObj "list" #[] 0)).get? D = some (seqObj "list" #[] e1) :=
    Heap.get?_push_of_some _ (Heap.get?_push_of_some _ ho1)
  have ltD : ∀ b o, st.heap.get? b = some o → b ≠ D := fun b o hb z => by have h9 : b < st.heap.objs.size := Heap.lt_size hb; rw [z, hD] at h9; exact absurd h9 (Nat.not_lt.mpr (Nat.le_succ _))
  have sD : st.heap.objs.size ≤ D := by omega
  have sS : st.heap.objs.size ≤ hp.objs.size + 1 := by omega
  have J0 := h0 D (hp.objs.size + 1) (((hp.update D (Obj.mapSeq fun _ => (#[] : Array Value))).push (seqObj "tuple" vs.toArray 0)).push (seqObj "list" #[] 0)) st.toks sD sS hne (fun b o hb => sortingHeap_old (ltD b o hb) (kp0 b o hb))
  show wpAny (model prog w) A.in1.in1 (ksk_rest D (.ref q) false vs.toArray e1 (.ref ((hp.update D (Obj.mapSeq fun _ => (#[] : Array Value))).push (seqObj "tuple" vs.toArray 0)).objs.size)) _ _ _
  rw [hkS]
  generalize hp.objs.size + 1 = S at *
  unfold ksk_rest
  refine wpAny_bind (wpAny_rule ?_)
  first
    | rw [List.forIn_toArray]
    | (rw [← Array.forIn_toList]; simp only [List.toList_toArray])
    | rw [← Array.forIn_toList]
  refine wpAny_bind (ksk_fold (fun i s' => ∃ (kA : Array Value) (e : Nat), kA.size = i ∧ JJ D S kA.toList s' ∧ s'.heap.get? S = some (seqObj "list" kA e) ∧ s'.heap.get? D = some (seqObj "list" #[] e1)) vs 0 _
    ⟨#[], 0, rfl, J0, gS, gD⟩ ?step ?done)
  case step =>
    rintro j x s' hx ⟨kA, e, hks, hJ, nk, na⟩
    rw [Nat.zero_add] at hks
    have hj : j < vs.length := (List.getElem?_eq_some_iff.mp hx).1
    obtain ⟨k, hkj⟩ : ∃ k, kz[j]? = some k := ⟨_, List.getElem?_eq_getElem (by omega)⟩
    refine wpAny_bind (wpAny_attempt (wpAny_mono (turn D S kA.toList j x k hx hkj (by rw [Array.length_toList]; exact hks) s' _ _ hJ na nk) (fun v s'' he => ?_) fun _ _ hF => hF.elim))
    obtain ⟨hJ2, na2, nk2⟩ := he
    try dsimp only
    have s1 := Heap.SameBut.update s''.heap S (Obj.mapSeq (·.push v))
    obtain ⟨c2, hc2⟩ : ∃ c2, (s''.heap.update S (Obj.mapSeq (·.push v))).get? S = some (seqObj "list" (kA.push v) c2) := ⟨_, get?_update_seq nk2 (·.push v)⟩
    have ea : (kA.push v).toList = kA.toList ++ [v] := by simp
    refine wpAny_bind (listUpdate_at nk2 rfl ?_ (by omega) (Nat.le_trans (Nat.le_of_eq (Array.size_push ..)) (by omega)))
    refine wpAny_pure ⟨rfl, kA.push v, c2, by rw [Array.size_push]; omega, ?_, hc2, (s1.2 D hne.symm).trans na2⟩
    rw [ea]
    exact hw D S _ s'' _ _ hJ2 fun b o _ hb2 e => (s1.2 b hb2).trans e
  case done =>
    rintro s' ⟨kA, e, hks, hJ, nk, na⟩
    rw [Nat.zero_add] at hks
    have hk' := hr D S kA.toList s' hJ (by rw [Array.length_toList]; exact hks)
    try dsimp only
    refine wpAny_bind (listItems_at nk rfl ?_)
    exact srtk_end (κ := dataKind s'.heap kz) nk na hne (SortsAt.data hk' hal hsk hu) hks hZ fun h3 tk3 c k3 n3 => ⟨rfl, hQ D S kA.toList _ _ c (hw D S _ s' _ _ hJ k3) hne.symm n3 ⟨s'.heap, kA.toList, hal, rfl, hk'⟩⟩
end
end Ty

/-! Ty71 -/
/-! sorted(xs, key=lambda x: ..) -/
namespace Ty
open PySem PySem.Spec L2
open PyProof.Rows
open LamX
/-- the items, sorted by the keys beside them -/
def srtK {α : Type} (us : List α) (kz : List PyData) : List α := ((us.zip kz).mergeSort (PySem.W.dataLe false Prod.snd)).map Prod.fst
def SortLam (K : PySem.W.Frag) (P : Addr) (q : Str) (tb : TE) (σ : L2.St) (Q : VK) : VK := fun v H0 => ∃ (a : Addr) (us : List V) (kz : List PyData) (ps : Array Value) (R : Addr → Prop) (JH : Addr → List V → Hp → Prop),
  v = .ref a ∧ SqL K H0 a us ∧ kz.length = us.length ∧ PySem.W.AllAlike kz ∧ PySem.W.Sortable kz ∧ (∀ d ∈ kz, d.depth ≤ 8) ∧ H0 P = some (.tbl ps) ∧ (∀ c, R c → H0 c = some (CodeO c q)) ∧ Cds ps q R ∧
  (∀ (c' : Addr) (H1 : Hp), ((H1 = H0 ∧ H0 c' = some (CodeO c' q)) ∨ (H0 c' = none ∧ ∃ ps' : Array Value, H1 = upd (upd H0 P (.tbl ps')) c' (CodeO c' q) ∧ Cds ps' q (fun c => c = c' ∨ R c))) → JH c' [] H1) ∧
  (∀ (c' : Addr) (ks : List V) (H2 : Hp), JH c' ks H2 → H2 c' = some (CodeO c' q) ∧ SqL K H2 a us ∧ Paired (fun v d => Dp K H2 v d) ks (kz.take ks.length) ∧
    ∀ (i : Nat) (u : V) (d : PyData), us[i]? = some u → kz[i]? = some d → ks.length = i → tb (σ ++ [some u]) H2 (fun v H3 => JH c' (ks ++ [v]) H3)) ∧
  ∀ (c' : Addr) (ks : List V) (H3 : Hp) (p : Addr), JH c' ks H3 → H3 p = none → Q (.ref p) (upd H3 p (.lst (srtK us kz)))
def tSortLam (K : PySem.W.Frag) (P : Addr) (q : Str) (te tb : TE) : TE := fun σ H Q => te σ H (SortLam K P q tb σ Q)
theorem paired_eachK {R : Value → PyData → Prop} {G : V → PyData → Prop} : ∀ {vs : List V} {us : List Value} {xss : List PyData}, Vals vs us → Paired G vs xss → (∀ v u xs, RelV v u → G v xs → R u xs) → PySem.W.EachIs R us xss
  | _, _, _, .nil, .nil, _ => .nil
  | _, _, _, .cons r t, .cons g t2, h => .cons (h _ _ _ r g) (paired_eachK t t2 h)
theorem each_zipK : ∀ {vs : List V} {us : List Value} {kz : List PyData}, Vals vs us → kz.length = vs.length → PySem.W.EachIs (fun (u : Value) (x : V × PyData) => RelV x.1 u) us (vs.zip kz)
  | _, _, [], .nil, _ => .nil
  | _, _, _ :: _, .nil, h => nomatch h
  | _, _, [], .cons _ _, h => nomatch h
  | _, _, d :: kz, .cons r t, h => .cons r (each_zipK t (Nat.succ.inj h))
theorem each_vals : ∀ {us : List Value} {xs : List (V × PyData)}, PySem.W.EachIs (fun (u : Value) (x : V × PyData) => RelV x.1 u) us xs → Vals (xs.map Prod.fst) us
  | _, _, .nil => .nil
  | _, _, .cons r t => .cons r (each_vals t)
theorem vals_snoc {vs : List V} {us : List Value} {v : V} {u : Value} (h : Vals vs us) (r : RelV v u) : Vals (vs ++ [v]) (us ++ [u]) := by
  induction h with
  | nil => exact .cons r .nil
  | cons a _ ih => exact .cons a ih
section
variable {X : Cx} {pins : List (Addr × Obj)} {σ : L2.St} {H : Hp} {s : Shared}
theorem pe_sortlam {c P : Addr} {params : Arguments} {body : Expr} {scope : Scope} {lpos pos kpos : Pos} {e : Expr} {te tb : TE} {p : Str} {p0 : Pos} (hg : Gl X "sorted") (hm : X.mg "sorted" = none) (ha : PE X e te) (TB : TabB X.base X.mg c P) (hcode : X.env.code = .ref c)
    (L : LamS1 X.env.scope scope p) (hp : p ∉ X.N) (hcm : X.calm = true) (hr : Room 3 X.A) (hdef : defaultsOf params X.env = ([], []))
    (hbind : ∀ (q : Str) (cl : List (Str × Addr)) (pm cv ctv u : Value), bindArgs (PySem.W.kla_fn "<lambda>" q params body scope cl pm cv ctv) ⟨[u], []⟩ = pure [(p, u)])
    (hbody : ∀ (f c' : Addr) (s : Shared) (H : Hp), Room 0 (X.A.in1.in1.deeper (lamEnv X scope s.heap.objs.size f c')) → PE (lamC1 X X.A.in1.in1 scope f c' p s H) body tb)
    (he : backTo pos (starEach [e] X.env) = (false, eval e X.env) :: backTo pos (starEach [] X.env) := by rfl) (hpl : (backTo pos (starEach [e] X.env)).any (·.1) = false := by rfl) (hst : starEach [e] X.env = (false, eval e X.env) :: starEach [] X.env := by rfl) :
    PE X (.Call (.Name "sorted" p0) [e] [⟨some (Str.ofString "key"), .Lambda params body scope lpos, kpos⟩] pos) (tSortLam X.K P (X.env.qual ++ "<lambda>") te tb) := by
  refine ⟨fun pins s σ H Q I h => ?_⟩
  refine wpAny_Call_Name_kw (ld_blt I hg hm rfl ?_)
  refine PyProof.Rows.callWith_kw ?_ he hpl (by rfl) (by rfl)
  have hpa : PA X [e] (tCons te tNil) := pa_cons ha pa_nil hst
  have hfree : ∀ y ∈ scope.names, y.2 = .free → ∃ c, X.env.cells.lookup y.1 = some c := fun y hy e => (L.free y hy e).elim (fun z => I.ok.has _ (.inl z)) fun z => I.ok.has _ (.inr z)
  refine thn (hpa.run pos pins s σ H (fun vs H0 => ∃ v, vs = [v] ∧ SortLam X.K P (X.env.qual ++ "<lambda>") tb σ Q v H0) I ?_) fun us s1 ⟨vs, H0, I0, r0, v, ev, q0⟩ => ?_
  · have h' : te σ H (SortLam X.K P (X.env.qual ++ "<lambda>") tb σ Q) := h
    have : (fun x H1 => tNil σ H1 fun xs H2 => ∃ v, x :: xs = [v] ∧ SortLam X.K P (X.env.qual ++ "<lambda>") tb σ Q v H2) = SortLam X.K P (X.env.qual ++ "<lambda>") tb σ Q := by
      funext x H1
      refine propext ⟨fun ⟨v, e, q⟩ => ?_, fun q => ⟨x, rfl, q⟩⟩
      cases e; exact q
    show te σ H (fun x H1 => tNil σ H1 fun xs H2 => ∃ v, x :: xs = [v] ∧ SortLam X.K P (X.env.qual ++ "<lambda>") tb σ Q v H2)
    rw [this]; exact h'
  subst ev
  obtain ⟨u, rfl, ru⟩ := vals1 r0
  obtain ⟨a, ws, kz, ps, Rc, JH, rfl, hs, hkl, hal, hsk, hdp, hP, hRc, hcd, h1, h2, h3⟩ := q0
  have eu : u = .ref a := ru
  subst eu
  show wpAny _ _ (evalAll ((do let v ← eval (.Lambda params body scope lpos) X.env; standAt pos; pure v) :: [])) _ _ s1
  refine wpAny_evalAll_cons (wpAny_bind (lam_make3 I0 TB hcode hP hcd.1 hRc hcd.2 hdef hfree fun f c' pm ctv H1 s2 I1 hH1 hf hfn hff => ?_))
  refine wpAny_bind (wpAny_standAt (wpAny_pure (wpAny_evalAll_nil ?_)))
  have j1 : JH c' [] H1 := h1 c' H1 hH1
  obtain ⟨_, hs1, _⟩ := h2 c' [] H1 j1
  obtain ⟨its, rvs, pl, hz⟩ := I1.list hs1
  have hlen : its.length = ws.length := (Vals.length rvs).symm
  show wpAny _ _ (call (.builtin "sorted") [.ref a] [(Str.ofString "key", .ref f)]) _ _ _
  refine sortk_call (kz := kz) (JJ := fun Dt St ks s => ∃ (kv : List V) (H' : Hp), Vals kv ks ∧ Inv X pins σ H' s ∧ JH c' kv H' ∧ s.heap.get? f = some (PySem.W.kla_obj "<lambda>" (X.env.qual ++ "<lambda>") params body scope (cloFrom X.env.cells scope.names []) pm c' ctv) ∧ H' f = none ∧ Apart X pins Dt ∧ Apart X pins St ∧ H' Dt = none ∧ H' St = none ∧ f ≠ Dt ∧ f ≠ St)
    pl.isList (by rw [hkl, hlen]) (by rw [hlen]; exact hz) hal hsk (fun d hd => ?_) (fun Dt St h' tk p1 p2 p3 k => ?_) (fun Dt St ks s h' tk' ⟨kv, H', hv, I', j', g1, g2, g3, g4, g5, g6, g7, g8⟩ k => ?_) (fun Dt St ks i v d hvi hdi hki s oD oS ⟨kv, H', hv, I', j', g1, g2, g3, g4, g5, g6, g7, g8⟩ e1 e2 => ?_) (fun Dt St ks s ⟨kv, H', hv, I', j', _⟩ hkn => ?_) (fun Dt St ks s out c0 ⟨kv, H', hv, I', j', g1, g2, g3, g4, g5, g6, g7, g8⟩ hne hout ko => ?_)
  · have := hdp d hd
    have := hr.un
    show X.A.units + 1 + 1 + d.depth < cLine
    omega
  · have nI := I1.hok.fresh p1
    have nB := I1.hok.fresh p2
    have lf := Heap.lt_size hf
    refine ⟨[], H1, .nil, I1.kept k, j1, k _ _ hf, hfn, Apart.of I1 p1, Apart.of I1 p2, nI, nB, fun z => ?_, fun z => ?_⟩
    · rw [z] at lf; exact absurd (Nat.lt_of_lt_of_le lf p1) (Nat.lt_irrefl _)
    · rw [z] at lf; exact absurd (Nat.lt_of_lt_of_le lf p2) (Nat.lt_irrefl _)
  · exact ⟨kv, H', hv, Inv.apart I' g3 g4 g5 g6 k, j', k _ _ g7 g8 g1, g2, g3, g4, g5, g6, g7, g8⟩
  · obtain ⟨hc2, hs2, hpk, hb2⟩ := h2 c' kv H' j'
    obtain ⟨x, hx, rx⟩ := paired_at' rvs hvi
    have r1 : Room 1 X.A.in1.in1 := hr.in1.in1
    refine wpAny_mono (lam_call (A := X.A.in1.in1) I' L hp I'.env0.in1.in1.frames r1.hd r1.depth (v := x) rx g1 hc2 (hbind _ _ _ _ _ _) (hbody f c' s H' (r1.deeper _)) (hb2 i x d hx hdi (by rw [Vals.length hv]; exact hki))) (fun r s' ce => ?_) fun _ _ z => z.elim
    obtain ⟨v', H3, hos, bare, un, hok, rr, j3⟩ := ce
    have keep : ∀ b o, s.heap.get? b = some o → H' b = none → b ∉ frs X.stack → s'.heap.get? b = some o := fun b o e n hb => un.keep b o e n hb (by simp)
    obtain ⟨hh', g', d', t', os'⟩ := s'
    obtain rfl : os' = s.os := hos
    have J := I'.call (h' := hh') (g' := g') (d' := d') (t' := t') (ch := []) un hok bare (fun b z => absurd z (by simp))
    exact ⟨⟨kv ++ [v'], H3, vals_snoc hv rr, J, j3, keep _ _ g1 g2 hff, un.free _ _ g1 g2 (by simp), g3, g4, un.free _ _ e1 g5 (by simp), un.free _ _ e2 g6 (by simp), g7, g8⟩, keep _ _ e1 g5 g3.frs, keep _ _ e2 g6 g4.frs⟩
  · obtain ⟨_, _, hpk, _⟩ := h2 c' kv H' j'
    have hl : kv.length = kz.length := by rw [Vals.length hv, hkn, hlen, hkl]
    rw [hl, List.take_length] at hpk
    exact paired_eachK hv hpk fun v u d r g => Dp.reads I' _ v u g r
  · have e2 : (ws.zip kz).map (fun x : V × PyData => x.2) = kz := List.map_snd_zip (by omega)
    rw [← e2] at ko
    have e := PySem.W.keyedOut_each (bs := ws.zip kz) (R := fun (u : Value) (x : V × PyData) => RelV x.1 u) (fun x : V × PyData => x.2) ko (each_zipK rvs hkl)
    have hvo : Vals (srtK ws kz) out := each_vals e
    refine ⟨.ref Dt, upd H' Dt (.lst (srtK ws kz)), ?_, rfl, h3 c' kv H' Dt j' g5⟩
    obtain ⟨G, q1, q2⟩ := restrict s.heap fun b => decide (b ≠ Dt)
    have gk : ∀ b o, b ≠ Dt → s.heap.get? b = some o → G.get? b = some o := fun b o hb e => by
      rw [q1 b (decide_eq_true hb)]
      exact e
    have ga : G.get? Dt = none := q2 Dt (decide_eq_false fun z => z rfl)
    have gs : ∀ b o, G.get? b = some o → s.heap.get? b = some o := fun b o e => by
      by_cases hb : b = Dt
      · rw [hb, ga] at e
        cases e
      · rw [← q1 b (decide_eq_true hb)]
        exact e
    have IG : Inv X pins σ H' { s with heap := G } := Inv.apart (t' := s.toks) I' g3 g4 g5 g6 fun b o hb _ => gk b o hb
    have hl9 : (srtK ws kz).length ≤ sizeLine := by
      unfold srtK
      rw [List.length_map, List.length_mergeSort, List.length_zip]
      omega
    exact Inv.laidN (s := { s with heap := G }) (h' := s.heap) (t' := s.toks) IG gs ga g5 ⟨hl9, out, c0, hvo, hout⟩
end
end Ty

/-! Ty72 -/
/-! sorted(xs, key=lambda x: ..) in frames that own the table -/
namespace Ty
open PySem PySem.Spec L2
open PyProof.Rows
open LamX
def sortBy {β : Type} (enc : β → PyData) (xs : List β) : List β := xs.mergeSort (PySem.W.dataLe false enc)
theorem srtK_map {α β : Type} {us : List α} {bs : List β} {enc : β → PyData} (h : us.length = bs.length) : srtK us (bs.map enc) = ((us.zip bs).mergeSort (PySem.W.dataLe false fun x => enc x.2)).map Prod.fst ∧ ((us.zip bs).mergeSort (PySem.W.dataLe false fun x => enc x.2)).map Prod.snd = sortBy enc bs := by
  constructor
  · unfold srtK
    have e : us.zip (bs.map enc) = (us.zip bs).map fun x => (x.1, enc x.2) := by
      rw [List.zip_map_right]; rfl
    rw [e, ← List.map_mergeSort (r := PySem.W.dataLe false fun x : α × β => enc x.2) (f := fun x : α × β => (x.1, enc x.2)) (fun a _ b _ => rfl), List.map_map]
    rfl
  · unfold sortBy
    rw [List.map_mergeSort (r := PySem.W.dataLe false fun x : α × β => enc x.2) (s := PySem.W.dataLe false enc) (f := Prod.snd) (fun a _ b _ => rfl), List.map_snd_zip (by omega)]
theorem paired_at2 {α β : Type} {R : α → β → Prop} : ∀ {us : List α} {bs : List β} {j : Nat} {u : α} {b : β}, Paired R us bs → us[j]? = some u → bs[j]? = some b → R u b
  | _, _, _, _, _, .nil, h, _ => by simp at h
  | _, _, 0, _, _, .cons r _, h, h' => by
    simp at h h'
    subst h; subst h'; exact r
  | _, _, j + 1, _, _, .cons _ t, h, h' => paired_at2 (j := j) t (by simpa using h) (by simpa using h')
theorem paired_snoc2 {α β : Type} {R : α → β → Prop} {us : List α} {bs : List β} {u : α} {b : β} (h : Paired R us bs) (r : R u b) : Paired R (us ++ [u]) (bs ++ [b]) := by
  induction h with
  | nil => exact .cons r .nil
  | cons a _ ih => exact .cons a ih
theorem paired_split {α β : Type} {R : α → β → Prop} : ∀ {xs : List (α × β)}, (∀ x ∈ xs, R x.1 x.2) → Paired R (xs.map Prod.fst) (xs.map Prod.snd)
  | [], _ => .nil
  | x :: xs, h => .cons (h x (List.mem_cons_self ..)) (paired_split fun y hy => h y (List.mem_cons_of_mem _ hy))
theorem paired_zip {α β : Type} {R : α → β → Prop} : ∀ {us : List α} {bs : List β}, Paired R us bs → ∀ x ∈ us.zip bs, R x.1 x.2
  | _, _, .nil, x, h => nomatch h
  | _, _, .cons r t, x, h => by
    rcases List.mem_cons.mp h with rfl | h
    · exact r
    · exact paired_zip t x h
theorem paired_sort {α β : Type} {R : α → β → Prop} {us : List α} {bs : List β} {enc : β → PyData} (h : Paired R us bs) : Paired R (srtK us (bs.map enc)) (sortBy enc bs) := by
  obtain ⟨e1, e2⟩ := srtK_map (enc := enc) (Paired.length h)
  rw [e1, ← e2]
  exact paired_split fun x hx => paired_zip h x ((List.mergeSort_perm _ _).mem_iff.mp hx)
section
variable {P : Program} {w : World} {K : PySem.W.Frag} {mg : Str → Option Value} {base : Heap} {k : Nat}
variable {Y : Fa P w K mg base k} {i : Y.I} {e ea eb elt : Expr} {es : List Expr} {rest : List Stmt} {Γ Γ' Γ1 : List Slot} {a b r s : Slot} {pos : Pos} {B : Bs} {D : Ends} {x : Str} {p' : Pos}
theorem xm_sortlam {β γ : Type} {pv : VP β} {qv : VP γ} {c Pt : Addr} {params : Arguments} {body : Expr} {scope : Scope} {lpos kpos p0 : Pos} {p q : Str} {bs : List β} (f : β → γ) (enc : γ → PyData) (jt : Nat) (hm : mg "sorted" = none) (he : XV Y e Γ s) (hs : SV K s pv bs) (TB : TabB base mg c Pt) (hst : Stb Γ)
    (hdp : ∀ F v x, qv.R F v x → Dp K F v (enc x)) (hal : ∀ x y, PySem.W.alike (enc x) (enc y) = true) (hsk : ∀ x, ∃ a r, enc x = .tuple (a :: r)) (hd : ∀ x, (enc x).depth ≤ 8)
    (hp : ∀ i, p ∉ (Y.X i).N) (hb : ∀ n ∈ bs, XV (Y.lam scope p hp) body (Γ ++ [val pv n]) (val qv (f n))) (hk : 3 ≤ k)
    (ht : Γ[jt]? = some (gT Pt q) := by rfl) (hcode : ∀ i, (Y.X i).env.code = .ref c := by intro _; rfl) (hq : ∀ i, (Y.X i).env.qual ++ "<lambda>" = q := by intro _; rfl) (L : ∀ i, LamS1 (Y.X i).env.scope scope p)
    (hdef : ∀ i, defaultsOf params (Y.X i).env = ([], []) := by intro _; rfl)
    (hbind : ∀ (q : Str) (cl : List (Str × Addr)) (pm cv ctv u : Value), bindArgs (PySem.W.kla_fn "<lambda>" q params body scope cl pm cv ctv) ⟨[u], []⟩ = pure [(p, u)] := by intros; rfl)
    (hcm : Y.cm = true := by rfl) (hg : ∀ i, Gl (Y.X i) "sorted" := by intro _; rfl)
    (h1 : ∀ i, backTo pos (starEach [e] (Y.X i).env) = (false, eval e (Y.X i).env) :: backTo pos (starEach [] (Y.X i).env) := by intro _; rfl) (h2 : ∀ i, (backTo pos (starEach [e] (Y.X i).env)).any (·.1) = false := by intro _; rfl) (h3 : ∀ i, starEach [e] (Y.X i).env = (false, eval e (Y.X i).env) :: starEach [] (Y.X i).env := by intro _; rfl) :
    XM Y (.Call (.Name "sorted" p0) [e] [⟨some (Str.ofString "key"), .Lambda params body scope lpos, kpos⟩] pos) Γ (own (oL pv) (sortBy (fun n => enc (f n)) bs)) Γ := by
  obtain ⟨te, pe, rd⟩ := he
  refine ⟨tSortLam K Pt q te (cE (Y.lam scope p hp) body), fun i => ?_, fun B F H os σ Q W S kk => ?_⟩
  · have TBi : TabB (Y.X i).base (Y.X i).mg c Pt := by rw [Y.hB i, Y.hM i]; exact TB
    have := pe_sortlam (X := Y.X i) (P := Pt) (lpos := lpos) (pos := pos) (kpos := kpos) (p0 := p0) (hg i) (by rw [Y.hM i]; exact hm) (pe i) TBi (hcode i) (L i) (hp i) ((Y.hC i).trans hcm) ((Y.hR hcm i).mono hk) (hdef i) hbind
      (fun f c' s H hr => pe_cE (Y := Y.lam scope p hp) ⟨(i, (Y.X i).A.in1.in1, s, H, f, c'), hr⟩) (h1 i) (h2 i) (h3 i)
    rw [Y.hK i, hq i] at this
    exact this
  · refine rd B F H os σ _ (Sta.in W S) fun v F1 H1 fp f1 e1 W1 p1 => ?_
    obtain ⟨l, vs, ev, hl, hv⟩ := hs F1 H1 fp (some v) W1.sub p1
    cases ev
    have hlen := Paired.length hv
    have W2 : Wo B F1 H1 os := W1.drop
    have S2 : Slots F1 H1 os σ Γ := S.mono f1 e1
    obtain ⟨o, fpt, r0, eo, ⟨efp, ps, hP, hcd⟩, hperm, _⟩ := S2.at ht
    refine ⟨l, vs, bs.map fun n => enc (f n), ps, fun c => F1 c = some (CodeO c q), fun c' ks H2 => ∃ F2 os2, Same F1 F2 ∧ Wo B F2 H2 os2 ∧ Slots F2 H2 os2 σ Γ ∧ H2 c' = some (CodeO c' q) ∧ SqL K H2 l vs ∧ Paired (fun v d => Dp K H2 v d) ks ((bs.map fun n => enc (f n)).take ks.length), rfl, hl, by rw [List.length_map]; exact hlen.symm,
      PySem.W.AllAlike.of fun a b => hal (f a) (f b), .inl fun d hd => ?_, fun d hd' => ?_, hP, fun c z => W2.sub _ _ z, hcd, fun c' H2 hH => ?_, fun c' ks H2 ⟨F2, os2, hFF, Wx, Sx, hc, hl2, hks⟩ => ⟨hc, hl2, hks, fun j u d hu hd' hkj => ?_⟩, fun c' ks H3 pn ⟨F3, os3, hFF, W3, S3, _, _, _⟩ hpn => ?_⟩
    · obtain ⟨n, _, rfl⟩ := List.mem_map.mp hd
      exact hsk (f n)
    · obtain ⟨n, _, rfl⟩ := List.mem_map.mp hd'
      exact hd (f n)
    · rcases hH with ⟨rfl, hc⟩ | ⟨hc, ps', rfl, hcd'⟩
      · exact ⟨F1, os, same_refl, W2, S2, hc, hl, .nil⟩
      · obtain ⟨F2, os2, hF2, hc2, W3, S3⟩ := Slots.tbl jt W2 S2 ht hst hc hcd'
        refine ⟨F2, os2, hF2, W3, S3, upd_same, ?_, .nil⟩
        have h2 := SqL.updT (K := K) (ps' := ps') hP hl
        exact Same.seq (same_upd (by rw [upd_ne (fun z => by rw [z, hP] at hc; cases hc)]; exact hc)) h2
    · rw [List.getElem?_map] at hd'
      cases hn : bs[j]? with
      | none => rw [hn] at hd'; cases hd'
      | some n =>
      rw [hn] at hd'
      cases hd'
      have rn := paired_at2 hv hu hn
      obtain ⟨tb, pb, rb⟩ := hb n (List.mem_of_getElem? hn)
      intro iz pins sz Iz
      refine (pb iz).run pins sz _ H2 _ Iz (rb B F2 H2 os2 _ _ (Sta.in Wx ?_) fun v F3 H3 fp3 f3 e3 W3 p3 => ?_)
      · have := Slots.append Sx (Slots.cons (F := F2) (H := H2) (fp := []) (o := some u) (s := val pv n) ⟨rfl, _, rfl, pv.mono hFF rn⟩ .nil)
        simpa using this
      · obtain ⟨_, hr⟩ := val_P p3
        have hdv : Dp K H3 v (enc (f n)) := Dp.mono W3.sub (hdp F3 v (f n) hr)
        refine ⟨F3, os2, Same.trans hFF f3, W3.drop, Sx.mono f3 e3, e3 _ _ hc, Same.seq e3 hl2, ?_⟩
        rw [List.length_append, List.length_singleton, hkj, List.take_add_one, List.getElem?_map, hn]
        rw [hkj] at hks
        exact paired_snoc2 (Paired.mon (fun _ _ z => Dp.mono e3 z) hks) hdv
    · exact kk (.ref pn) F3 (upd H3 pn (.lst (srtK vs (bs.map fun n => enc (f n))))) [pn] os3 (W3.newO hpn) (S3.mono same_refl (same_upd hpn)) ⟨_, rfl, pn, _, rfl, rfl, upd_same, Paired.mon (fun _ _ z => pv.mono hFF z) (paired_sort hv)⟩
end
end Ty

/-! Ty73 -/
/-! a loop over a list whose making changes the frame; calls where no repr is under way that own the table -/
namespace Ty
open PySem PySem.Spec L2
open PyProof.Rows (envOfC)
section
variable {P : Program} {w : World} {K : PySem.W.Frag} {mg : Str → Option Value} {base : Heap} {k : Nat}
variable {Y : Fa P w K mg base k} {i : Y.I} {e ea eb elt tg iter : Expr} {es : List Expr} {rest body : List Stmt} {Γ Γ' Γ1 : List Slot} {a b r s : Slot} {pos : Pos} {B : Bs} {D : Ends} {x : Str} {p' : Pos} {α β : Type} {p : VP α} {xs : List α}
def XIm (Y : Fa P w K mg base k) (tg iter : Expr) (Γ Γ' : List Slot) (rs : List Slot) : Prop :=
  ∃ wi : TI, (∀ i, PI (Y.X i) tg iter wi) ∧ ∀ (B : Bs) (F H : Hp) (os : List Addr) (σ : List (Option V)) (R : It → Hp → Prop), Wo B F H os → Slots F H os σ Γ → (∀ J F' H' os', Wo B F' H' os' → Slots F' H' os' σ Γ' → Wk False J F' H' rs → R J H') → wi σ H R
theorem xim_list (h : XM Y iter Γ (val (pL p) xs) Γ') : XIm Y tg iter Γ Γ' (xs.map (val p)) := by
  obtain ⟨t, pe, rd⟩ := h
  refine ⟨_, fun i => by have := pi_list (X := Y.X i) (tg := tg) (pe i); rw [Y.hK i] at this; exact this, fun B F H os σ R W S kk => ?_⟩
  refine rd B F H os σ _ W S fun v F1 H1 fp os1 W1 S1 p1 => ?_
  obtain ⟨_, l, vs, ev, h1, h2⟩ := val_P p1
  subst ev
  exact ⟨l, rfl, ⟨vs, SqL.of (W1.sub _ _ h1)⟩, kk _ F1 H1 os1 W1.drop S1 (wk_list (fun F2 H2 a _ c => SqL.of (c _ _ (a _ _ h1))) h2)⟩
theorem go_forM {α T ρ : Type} {xs : List α} {rs : α → Slot} (Γf : T → List Slot) {Sr : ρ → Slot} {s0 : T} {f : α → T → Option (Fl ρ T)} {o : Fl ρ T}
    (hi : XIm Y tg iter Γ Γ' (xs.map rs)) (h0 : WkL Γ' (Γf s0)) (ho : forF xs s0 f = some o)
    (hb : ∀ B1 x s out, x ∈ xs → f x s = some out → (∀ r, out = .ret r → o = .ret r) → (∀ F H os, Wo B1 F H os → Wo B F H os) → ∃ ws Γ1, XG Y tg ws (rs x) (Γf s) Γ1 ∧ Go Y i body (LE B1 Γf Sr out) B1 Γ1)
    (hr : ∀ s, (o = .next s ∨ o = .brk s) → Go Y i rest D B (Γf s)) (hret : ∀ r, o = .ret r → ∀ v H, Fi B (Sr r) v H → D.rt v H)
    (hs : ∀ x, foldedSetIterable iter (Y.X i).env x = pure x := by intro _; rfl) (hcm : Y.cm = true := by rfl) : Go Y i (.For tg iter body [] pos :: rest) D B Γ := by
  obtain ⟨wi, pi, qi⟩ := hi
  refine go_ps (ps_for (Y.hO i) ((Y.hC i).trans hcm) (pi i) pg_contG pss_cont hs) fun F H σ ⟨os0, W0, S0⟩ => ?_
  refine qi B F H os0 σ _ W0 S0 fun J F1 H1 os9 W1 S9 wk => ?_
  obtain ⟨os, W, S1⟩ := Sta.enter ⟨os9, W1, S9⟩
  obtain ⟨F2, S2⟩ := S1.wk h0
  refine ⟨fun n m σ' H' => n ≤ xs.length ∧ m = xs.length - n ∧ ∃ (s : T) (F' : Hp), Sta ⟨F1, H1, os⟩ F' H' σ' (Γf s) ∧ forF (xs.drop n) s f = some o, ⟨xs.length - 0, Nat.zero_le _, rfl, s0, F2, S2, by simpa using ho⟩, ?_⟩
  rintro n m σ' H' ⟨hn, rfl, s, F', S', hfo⟩
  obtain ⟨w1, w2⟩ := wk F' H' S'.bF (fun z => z.elim) S'.sub
  by_cases hlt : n < xs.length
  · have hx : xs[n]? = some xs[n] := List.getElem?_eq_getElem hlt
    have hdrop : xs.drop n = xs[n] :: xs.drop (n + 1) := List.drop_eq_getElem_cons hlt
    rw [hdrop] at hfo
    unfold forF at hfo
    obtain ⟨out, hout, hfo⟩ := Option.bind_eq_some_iff.mp hfo
    obtain ⟨g1, g2⟩ := w2 n (rs xs[n]) (by rw [List.getElem?_map, hx]; rfl)
    obtain ⟨ws, Γ1, hxg, hgo⟩ := hb ⟨F1, H1, os⟩ xs[n] s out (List.getElem_mem hlt) hout (fun r e => by subst e; simpa using hfo.symm) (fun _ _ _ W' => W.trans W')
    refine .inr ⟨g1, fun σ2 H2 => ∃ s', out = .next s' ∧ Nx ⟨F1, H1, os⟩ (Γf s') σ2 H2, ?_, ?_⟩
    · rintro σ2 H2 ⟨s', rfl, F3, S3⟩
      exact ⟨xs.length - (n + 1), by omega, hlt, rfl, s', F3, S3, hfo⟩
    · intro v H2 y
      obtain ⟨e2, push⟩ := g2 v H2 y
      obtain ⟨o4, W4, S4⟩ := S'
      obtain ⟨F4, f4, W5, p5⟩ := push _ _ W4
      obtain ⟨_, g, pg, qg⟩ := hxg
      intro pins s9 u I r
      refine (pg i).run pins s9 σ' H2 v u _ I r (qg F4 H2 [] o4 σ' v _ W5.sub p5 (S4.mono f4 e2) fun σ5 o5 d _ W6 S5 => ?_)
      refine cont_mono (hgo F4 H2 σ5 ⟨o5, (W5.perm (by simpa using W6)).drop, S5⟩) (fun _ _ z => z) (fun v H z => ?_) (fun σ6 H6 z => ?_) (fun _ _ z => z)
      · obtain ⟨r, rfl, S6⟩ := z
        exact hret r (by simpa using hfo.symm) v H (S6.leave W)
      · obtain ⟨s', rfl, F6, S6⟩ := z
        exact hr s' (.inr (by simpa using hfo.symm)) F6 H6 σ6 (S6.leave W)
  · have e : n = xs.length := by omega
    subst e
    refine .inl ⟨by simpa using w1, ?_⟩
    rw [List.drop_length] at hfo
    unfold forF at hfo
    exact hr s (.inl (by simpa using hfo.symm)) F' H' σ' (S'.leave W)
theorem go_forKM {α T ρ β : Type} {xs : List α} {rs : α → Slot} (Γf : T → List Slot) (Sr : ρ → Slot) {s0 : T} {f : α → T → Option (Fl ρ T)} {kn : T → Option β} {kr : ρ → Option β} {b : β}
    (hi : XIm Y tg iter Γ Γ' (xs.map rs)) (h0 : WkL Γ' (Γf s0)) (hm : flK (forF xs s0 f) kn kr = some b)
    (hb : ∀ B1 x s out, x ∈ xs → f x s = some out → (∀ r, out = .ret r → kr r = some b) → (∀ F H os, Wo B1 F H os → Wo B F H os) → ∃ ws Γ1, XG Y tg ws (rs x) (Γf s) Γ1 ∧ Go Y i body (LE B1 Γf Sr out) B1 Γ1)
    (hr : ∀ s, kn s = some b → Go Y i rest D B (Γf s)) (hret : ∀ r, kr r = some b → ∀ v H, Fi B (Sr r) v H → D.rt v H)
    (hs : ∀ x, foldedSetIterable iter (Y.X i).env x = pure x := by intro _; rfl) (hcm : Y.cm = true := by rfl) : Go Y i (.For tg iter body [] pos :: rest) D B Γ := by
  obtain ⟨o, h1, h2, h3⟩ := flK_some hm
  exact go_forM Γf hi h0 h1 (fun B1 x s out hx hf hh hl => hb B1 x s out hx hf (fun r e => h3 r (hh r e)) hl) (fun s hs => hr s (h2 s hs)) (fun r e => hret r (h3 r e)) hs hcm
theorem o_ninT [DecidableEq α] (E : Eqv p) {u : α} (hs : TV s p xs) : Op2 (rIn K true) (val p u) s (vBl (!decide (u ∈ xs))) := fun B F H x y fx fy os Q W p1 p2 q => by
  obtain ⟨l, vs, ev, h1, h2⟩ := hs F H fy _ W.sub p2
  cases ev
  have hu := (val_P p1).2
  obtain ⟨i1, i2⟩ := inV_of E hu h2
  exact ⟨l, vs, rfl, .inr (SqT.of h1), (E _ _ _ hu).1, i2, q _ F H [] same_refl same_refl W.drop.drop ⟨rfl, _, rfl, by show V.bl (!(inV _ _)) = V.bl _; rw [i1]⟩⟩
/-- return e, e changes the frame -/
theorem go_retMM (h : XM Y e Γ s Γ') (hd : ∀ v H, Fi B s v H → D.rt v H) : Go Y i (.Return (some e) pos :: rest) D B Γ := by
  obtain ⟨t, pe, rd⟩ := h
  refine go_ps (ps_ret (pe i)) fun F H σ ⟨os, W, S⟩ => ?_
  exact rd B F H os σ _ W S fun v F1 H1 fp os1 W1 S1 p1 => hd v H1 ⟨F1, fp, W1.dropR, p1⟩
/-- (a changing) and b -/
theorem xm_andP {z u : Bool} {m2 : Option Bool} (h : XM Y ea Γ (vBl z) Γ') (hu : (bif z then m2 else some false) = some u) (h2 : ∀ z', m2 = some z' → XV Y (.BoolOp .And (eb :: es) pos) Γ' (vBl z')) : XM Y (.BoolOp .And (ea :: eb :: es) pos) Γ (vBl u) Γ' := by
  obtain ⟨t, p, r⟩ := h
  cases z with
  | true =>
    obtain ⟨t2, p2, r2⟩ := h2 u hu
    refine ⟨_, fun i => pe_and (p i) (p2 i), fun B F H os σ Q W S q => ?_⟩
    refine r B F H os σ _ W S fun v F1 H1 fp os1 W1 S1 p1 => ?_
    obtain ⟨rfl, hv⟩ := val_P p1
    cases hv
    refine ⟨true, rfl, ?_⟩
    rw [if_pos rfl]
    exact r2 B F1 H1 os1 σ _ (Sta.in W1 S1) fun v2 F2 H2 fp2 f2 e2 W2 p2 => q v2 F2 H2 fp2 os1 W2 (S1.mono f2 e2) p2
  | false =>
    have hu' : false = u := by simpa using hu
    subst hu'
    refine ⟨_, fun i => pe_and (p i) pe_dum, fun B F H os σ Q W S q => ?_⟩
    refine r B F H os σ _ W S fun v F1 H1 fp os1 W1 S1 p1 => ?_
    obtain ⟨rfl, hv⟩ := val_P p1
    cases hv
    refine ⟨false, rfl, ?_⟩
    rw [if_neg (by decide)]
    exact q _ F1 H1 [] os1 W1 S1 ⟨rfl, _, rfl, rfl⟩
/-- f(a changing, ..) where no repr is under way -/
theorem xm_callG1 {ι ρ β : Type} {pv : VP β} {u : β} {As : ι → List Slot} {m : ι → Option ρ} {Sr : ρ → Slot} {args : List Slot} {z : ι} {q : ρ} {j : Nat} {f : Addr} {fd : FuncData} {ps : List Str} (Fn : FnG P w K mg base j f fd ps (spP As m Sr)) (hga : ∀ i, (Y.X i).A.guards = some []) (hj : j ≤ k) (hm : mg x = some (.ref f)) (hk : PySem.W.keepIn K (.ref f) = true) (hb : Binds K fd ps [])
    (ha : XM Y e Γ (val pv u) Γ') (hr : XA Y es Γ' args) (hargs : val pv u :: args = As z) (hno : NoOwn args) (hq : m z = some q) (hg : ∀ i, Gl (Y.X i) x := by intro _; rfl) (hdb : (x == ("__debug__" : Str)) = false := by decide)
    (he : ∀ i, starEach (e :: es) (Y.X i).env = (false, eval e (Y.X i).env) :: starEach es (Y.X i).env := by intro _; rfl) (hpl : ∀ i, (backTo pos (starEach es (Y.X i).env)).any (·.1) = false := by intro _; rfl) (hcm : Y.cm = true := by rfl) : XM Y (.Call (.Name x p') (e :: es) [] pos) Γ (Sr q) Γ' := by
  obtain ⟨t, pe, rd⟩ := ha
  obtain ⟨t2, pa, rd2⟩ := hr
  have FF : ∀ i, FnG (Y.X i).prog (Y.X i).w (Y.X i).K (Y.X i).mg (Y.X i).base j f fd ps (spP As m Sr) := fun i => by rw [Y.hP i, Y.hw i, Y.hK i, Y.hM i, Y.hB i]; exact Fn
  refine ⟨_, fun i => pe_callG (FF i) (hga i) ((Y.hR hcm i).mono hj) (hg i) (by rw [Y.hM i]; exact hm) (by rw [Y.hK i]; exact hk) (by rw [Y.hK i]; exact hb) pass0 (pa_cons (pe i) (pa i) (he i)) hdb (he i) (hpl i), fun B F H os σ Q W S kk => ?_⟩
  refine rd B F H os σ _ W S fun v F1 H1 fp os1 W1 S1 p1 => ?_
  obtain ⟨rfl, r1⟩ := val_P p1
  refine rd2 B F1 H1 os1 σ _ (Sta.in W1 S1) fun vs F2 H2 fp f2 e2 W2 S2 => ?_
  obtain rfl := hno.nil S2
  rw [List.append_nil]
  refine ⟨z, q, F2, hq, W2.sub, ?_, fun v F3 H3 fp3 W3 p3 => ?_⟩
  · rw [← hargs]
    exact Slots.cons (fp := []) ⟨rfl, _, rfl, pv.mono f2 r1⟩ S2
  · obtain ⟨f3, e3, W4⟩ := Wo.called (os := os1) W2 W3
    exact kk v F3 H3 fp3 os1 W4 (S1.mono (f2.trans f3) (e2.trans e3)) p3
/-- a def that owns the table, called where no repr is under way -/
theorem fn_pureGTT {ι ρ : Type} {Pt : Addr} {tq : Str} {As : ι → List Slot} {m : ι → Option ρ} {Sr : ρ → Slot} {x qual : Str} {st : Stmt} {f : Addr} {fd : FuncData} {N ps : List Str} (n : Nat) (Fn : Fun K x qual st f fd) (S : FnScope N ps (defScope st)) (hlen : ∀ z, (As z).length = ps.length) (hn : N.length = ps.length + (n + 1))
    (body : ∀ (cdv : Value) (A : Around) (outer : List Env) (s : Shared) (H : Hp) (E : XK) (hga : A.guards = some []) (hr : Room k (A.deeper (envOfC qual (defScope st) s.heap.objs.size f cdv))) (z : ι) (r : ρ) (B : Bs), m z = some r →
      Go (fb P w K mg base N qual st f cdv A outer s H E k hr S.nd) () (defBody st) (DT B Pt tq (Sr r)) B (As z ++ List.replicate n dead ++ [gT Pt tq])) : FnG P w K mg base (k + 1) f fd ps (spPT Pt tq As m Sr) := by
  refine fnG_run Fn S (fun vs H Q E h => ?_) (fun cdv A outer s H vs Q E hga hr h => ?_)
  · obtain ⟨z, r, F, _, _, _, Sl, _⟩ := h
    have e := Sl.length
    rw [List.length_map] at e
    rw [e, hlen]
  · obtain ⟨z, r, F, hm, hW, g, Sl, q⟩ := h
    refine ⟨_, pss_cont, ?_⟩
    exact cont_mono (body cdv A outer s H E hga hr z r ⟨F, H, [Pt]⟩ hm F H _ (start_T hn (hlen z) hW g Sl)) (fun σ H' h' => q .non H' h') (fun v H' h' => q v H' h') (fun _ _ z => z.elim) (fun _ _ z => z.elim)
theorem xm_callGT {ι ρ : Type} {Pt : Addr} {tq : Str} {As : ι → List Slot} {m : ι → Option ρ} {Sr : ρ → Slot} {args : List Slot} {z : ι} {q : ρ} {j : Nat} {f : Addr} {fd : FuncData} {ps : List Str} (jt : Nat) (Fn : FnG P w K mg base j f fd ps (spPT Pt tq As m Sr)) (hga : ∀ i, (Y.X i).A.guards = some []) (hj : j ≤ k) (hm : mg x = some (.ref f)) (hk : PySem.W.keepIn K (.ref f) = true) (hb : Binds K fd ps [])
    (ha : XA Y (e :: es) Γ args) (hargs : args = As z) (hno : NoOwn args) (hst : Stb Γ) (hq : m z = some q) (ht : Γ[jt]? = some (gT Pt tq) := by rfl) (hg : ∀ i, Gl (Y.X i) x := by intro _; rfl) (hdb : (x == ("__debug__" : Str)) = false := by decide)
    (he : ∀ i, starEach (e :: es) (Y.X i).env = (false, eval e (Y.X i).env) :: starEach es (Y.X i).env := by intro _; rfl) (hpl : ∀ i, (backTo pos (starEach es (Y.X i).env)).any (·.1) = false := by intro _; rfl) (hcm : Y.cm = true := by rfl) : XM Y (.Call (.Name x p') (e :: es) [] pos) Γ (Sr q) Γ := by
  subst hargs
  obtain ⟨t, pa, rd⟩ := ha
  have FF : ∀ i, FnG (Y.X i).prog (Y.X i).w (Y.X i).K (Y.X i).mg (Y.X i).base j f fd ps (spPT Pt tq As m Sr) := fun i => by rw [Y.hP i, Y.hw i, Y.hK i, Y.hM i, Y.hB i]; exact Fn
  refine ⟨_, fun i => pe_callG (FF i) (hga i) ((Y.hR hcm i).mono hj) (hg i) (by rw [Y.hM i]; exact hm) (by rw [Y.hK i]; exact hk) (by rw [Y.hK i]; exact hb) pass0 (pa i) hdb (he i) (hpl i), fun B F H os σ Q W S kk => ?_⟩
  refine rd B F H os σ _ (Sta.in W S) fun vs F1 H1 fp f1 e1 W1 S1 => ?_
  obtain rfl := hno.nil S1
  rw [List.append_nil]
  have S0 := S.mono f1 e1
  obtain ⟨Wh, gh⟩ := Slots.hereT jt (B := B) (by simpa using W1) S0 ht
  refine ⟨z, q, F1, hq, Wh, gh, S1, fun v H2 ⟨F2, fp2, W2, g2, p2⟩ => ?_⟩
  obtain ⟨os', W3, S3⟩ := Slots.afterT jt (B := B) (by simpa using W1) S0 ht hst W2 g2
  exact kk v F2 H2 fp2 os' W3 S3 p2
/-- the maker of a lambda, which never raises -/
theorem fn_pureTC {ι ρ : Type} {Pt c : Addr} {tq : Str} {As : ι → List Slot} {m : ι → Option ρ} {Sr : ρ → Slot} {x qual : Str} {st : Stmt} {f : Addr} {fd : FuncData} {N ps : List Str} (n : Nat) (Fn : FunC K x qual st f fd c) (S : FnScope N ps (defScope st)) (hlen : ∀ z, (As z).length = ps.length) (hn : N.length = ps.length + (n + 1))
    (body : ∀ (A : Around) (outer : List Env) (s : Shared) (H : Hp) (E : XK) (hr : Room k (A.deeper (envOfC qual (defScope st) s.heap.objs.size f (.ref c)))) (z : ι) (r : ρ) (B : Bs), m z = some r →
      Go (fb P w K mg base N qual st f (.ref c) A outer s H E k hr S.nd) () (defBody st) (DT B Pt tq (Sr r)) B (As z ++ List.replicate n dead ++ [gT Pt tq])) : FnOk P w K mg base CX0 (k + 1) f fd ps (spPT Pt tq As m Sr) := by
  obtain ⟨oc, od, kV, doc, pm, an, ct, osl, rfl, lk, hcd⟩ := Fn.ex
  refine fn_of lk hcd S (fun vs H Q E h => ?_) (fun A outer s H vs Q E hr h => ?_)
  · obtain ⟨z, r, F, _, _, _, Sl, _⟩ := h
    have e := Sl.length
    rw [List.length_map] at e
    rw [e, hlen]
  · obtain ⟨z, r, F, hm, hW, g, Sl, q⟩ := h
    refine ⟨_, pss_cont.nox, ?_⟩
    exact cont_mono (body A outer s H E hr z r ⟨F, H, [Pt]⟩ hm F H _ (start_T hn (hlen z) hW g Sl)) (fun σ H' h' => q .non H' h') (fun v H' h' => q v H' h') (fun _ _ z => z.elim) (fun _ _ z => z.elim)
/-- a def that may raise and hands the table on -/
theorem fn_pureXTF {ι ρ : Type} {Pt : Addr} {tq : Str} {As : ι → List Slot} {m : ι → Option (Rx ρ)} {Sr : ρ → Slot} {EX : ExT} {x qual : Str} {st : Stmt} {f : Addr} {fd : FuncData} {N ps : List Str} (n : Nat) (Fn : Fun K x qual st f fd) (S : FnScope N ps (defScope st)) (hlen : ∀ z, (As z).length = ps.length) (hn : N.length = ps.length + (n + 1))
    (body : ∀ (cdv : Value) (A : Around) (outer : List Env) (s : Shared) (H : Hp) (E : XK) (hr : Room k (A.deeper (envOfC qual (defScope st) s.heap.objs.size f cdv))) (z : ι) (r : Rx ρ) (B : Bs), m z = some r →
      (∀ e, r = .ex e → ∀ Γ (j : Nat), Γ[j]? = some (gT Pt tq) → Wish (fun cls d _ H => E cls d H) B Γ EX e) →
      Go (fbX P w K mg base N qual st f cdv A outer s H E k hr S.nd) () (defBody st) (DT B Pt tq (slRx Sr r)) B (As z ++ List.replicate n dead ++ [gT Pt tq])) : FnOk P w K mg base (L2.CX P w) (k + 1) f fd ps (spXT Pt tq As m Sr EX) := by
  refine Fn.okX S (fun vs H Q E h => ?_) (fun cdv A outer s H vs Q E hr h => ?_)
  · obtain ⟨z, r, F, _, _, _, Sl, _⟩ := h
    have e := Sl.length
    rw [List.length_map] at e
    rw [e, hlen]
  · obtain ⟨z, r, F, hm, hW, g, Sl, q, qe⟩ := h
    refine ⟨_, pss_cont, ?_⟩
    refine cont_mono (body cdv A outer s H E hr z r ⟨F, H, [Pt]⟩ hm (fun e he Γ j hj cls d σ F' H' os hI hx => ?_) F H _ (start_T hn (hlen z) hW g Sl)) (fun σ H' h' => q .non H' h') (fun v H' h' => q v H' h') (fun _ _ z => z.elim) (fun _ _ z => z.elim)
    obtain ⟨hW', o2, r0, hp, S2⟩ := hI
    obtain ⟨o, fp, r1, _, ⟨efp, g'⟩, hp2, _⟩ := S2.at hj
    subst efp
    refine qe e he cls d F' H' (((hW'.perm hp).dropR.perm hp2).dropR) ⟨rfl, g'⟩ hx
end
/-- s and the table -/
def tabS (Pt : Addr) (tq : Str) (s : Slot) : Slot where
  P := fun F H fp o => ∃ f1, fp = f1 ++ [Pt] ∧ (gT Pt tq).P F H [Pt] none ∧ s.P F H f1 o
  mono := fun hF hH h => let ⟨f1, e, g, p⟩ := h; ⟨f1, e, (gT Pt tq).mono hF hH g, s.mono hF hH p⟩
  st := False
  mm := fun h => h.elim
theorem fiT_tab {B : Bs} {Pt : Addr} {tq : Str} {s : Slot} {v : V} {H : Hp} (h : FiT B Pt tq s v H) : Fi B (tabS Pt tq s) v H := let ⟨F, fp, W, g, p⟩ := h; ⟨F, _, W, fp, rfl, g, p⟩
theorem tab_fiT {B : Bs} {Pt : Addr} {tq : Str} {s : Slot} {v : V} {H : Hp} (h : Fi B (tabS Pt tq s) v H) : FiT B Pt tq s v H := by
  obtain ⟨F, fp, W, f1, rfl, g, p⟩ := h
  exact ⟨F, f1, W, g, p⟩
end Ty

/-! K56M -/
namespace K56
open PySem PySem.Spec L2 Ty
structure S_Net where
  input_count : Int
  latches : List ((Int) × (Int))
  ands : List ((Int) × (Int))
  deriving DecidableEq
def m__law_digits (row_0 : Int) (bases_0 : List (Int)) : Option (List (Int)) :=
  flK (forF (ρ := List (Int)) bases_0 ((row_0, ([] : List (Int))) : (Int) × (List (Int))) fun base_3 (row_1, digits_2) =>
  guardO (0 < base_3) <|
  guardO ((digits_2).length < sizeLine) <|
  guardO (0 < base_3 ∧ base_3 < 1073741824) <|
  letO (row_1 / base_3) fun row_7 =>
  some (.next (row_7, (digits_2 ++ [(row_1 % base_3)])))) (fun (row_1, digits_2) =>
  some digits_2)
  (fun _ => none)

def m_Net_init (input_count_0 : Int) (latches_0 : List ((Int) × (Int))) (ands_0 : List ((Int) × (Int))) : Option (S_Net × Unit) :=
  some (⟨input_count_0, latches_0, ands_0⟩, ())

def m__law_cell (script_0 : List Int) (k_0 : Int) : Option (Int) :=
  (bif decide ((0 : Int) < ((script_0).length : Int)) then (
  guardO (0 < ((script_0).length : Int)) <|
  (atI script_0 (k_0 % ((script_0).length : Int))).bind fun v_11 =>
  some v_11)
  else (
  some (0 : Int)) : Option ((Int))).bind fun cell_9 =>
  (bif decide (cell_9 < (0 : Int)) then (
  letO ((1 : Int) - ((2 : Int) * cell_9)) fun cell_16 =>
  some cell_16)
  else (
  some cell_9) : Option ((Int))).bind fun cell_15 =>
  (bif (decide (((script_0).length : Int) ≤ k_0) || decide (cell_15 < ((10 : Int) ^ ((9 : Int)).toNat))) then (
  letO ((((cell_15 + ((911 : Int) * k_0)) + (3 : Int)) * (6364136223846793005 : Int)) % (2305843009213693951 : Int)) fun cell_21 =>
  letO (((((cell_21 / (64 : Int)) + ((31 : Int) * k_0)) + (7 : Int)) * (3202034522624059733 : Int)) % (18446744073709551557 : Int)) fun cell_23 =>
  some cell_23)
  else (
  some cell_15) : Option ((Int))).bind fun cell_20 =>
  some cell_20

def m__law_literal (row_0 : Int) (first_and_0 : Int) (count_0 : Int) : Option (Int) :=
  letO (row_0 % (4 : Int)) fun kind_27 =>
  letO (row_0 / (4 : Int)) fun row_29 =>
  bif decide (kind_27 = (0 : Int)) then (
  guardO (0 < ((2 : Int) * count_0)) <|
  some (row_29 % ((2 : Int) * count_0)))
  else (
  bif decide (kind_27 = (1 : Int)) then (
  guardO (0 < ((2 : Int) * first_and_0)) <|
  some (row_29 % ((2 : Int) * first_and_0)))
  else (
  guardO (0 < (if (8 : Int) < ((2 : Int) * count_0) then (8 : Int) else ((2 : Int) * count_0))) <|
  some ((((2 : Int) * count_0) - (1 : Int)) - (row_29 % (if (8 : Int) < ((2 : Int) * count_0) then (8 : Int) else ((2 : Int) * count_0))))))

def m__law_ladders (heights_0 : List (Int)) : Option (List ((Int) × (Int))) :=
  letO ((1 : Int) + ((2 : Int) * ((heights_0).length : Int))) fun first_and_34 =>
  guardO (-(2 ^ 62) ≤ ((heights_0).length : Int) ∧ ((heights_0).length : Int) < 2 ^ 62) <|
  flK (forF (ρ := List ((Int) × (Int))) (rangeL 0 ((heights_0).length : Int)) ((([] : List ((Int) × (Int))), ([] : List (Int))) : (List ((Int) × (Int))) × (List (Int))) fun j_40 (ands_38, tops_39) =>
  letO ((2 : Int) + ((4 : Int) * j_40)) fun one_41 =>
  letO ((4 : Int) + ((4 : Int) * j_40)) fun two_43 =>
  (atI heights_0 j_40).bind fun v_45 =>
  guardO (-(2 ^ 62) ≤ v_45 ∧ v_45 < 2 ^ 62) <|
  flK (forF (ρ := List ((Int) × (Int))) (rangeL 0 v_45) ((ands_38, one_41, two_43) : (List ((Int) × (Int))) × (Int) × (Int)) fun _law_turn_52 (ands_49, one_50, two_51) =>
  letO ((2 : Int) * (first_and_34 + ((ands_49).length : Int))) fun higher_53 =>
  guardO ((ands_49).length + ([(one_50, two_51), ((Builtin.bitXor one_50 (1 : Int)), two_51)]).length ≤ sizeLine) <|
  letO (ands_49 ++ [(one_50, two_51), ((Builtin.bitXor one_50 (1 : Int)), two_51)]) fun ands_56 =>
  letO (higher_53 + (2 : Int)) fun two_58 =>
  some (.next (ands_56, higher_53, two_58))) (fun (ands_49, one_50, two_51) =>
  guardO ((tops_39).length < sizeLine) <|
  guardO ((ands_49).length < sizeLine) <|
  some (.next ((ands_49 ++ [(one_50, two_51)]), (tops_39 ++ [((2 : Int) * (first_and_34 + ((ands_49).length : Int)))]))))
  (fun _ => none)) (fun (ands_38, tops_39) =>
  (atI tops_39 (0 : Int)).bind fun v_62 =>
  flK (forF (ρ := List ((Int) × (Int))) (cutL tops_39 (some (1 : Int)) none) ((ands_38, v_62) : (List ((Int) × (Int))) × (Int)) fun top_66 (ands_64, last_65) =>
  guardO ((ands_64).length < sizeLine) <|
  letO ((2 : Int) * ((first_and_34 + (((ands_64 ++ [(last_65, top_66)])).length : Int)) - (1 : Int))) fun last_68 =>
  some (.next ((ands_64 ++ [(last_65, top_66)]), last_68))) (fun (ands_64, last_65) =>
  some ands_64)
  (fun _ => none))
  (fun _ => none)

def m_Net_first_and (self_0 : S_Net) : Option (Int) :=
  some (((1 : Int) + self_0.input_count) + ((self_0.latches).length : Int))

def m_contains_other (cut_0 : List (Int)) (others_0 : List (List (Int))) : Option (Bool) :=
  flK (forF (ρ := Bool) others_0 (() : Unit) fun other_70 _ =>
  guardO ((other_70).length ≤ sizeLine) <|
  (fmO other_70 fun node_73 => (bif (!decide (node_73 ∈ cut_0)) then (some (some node_73)) else some none)).bind fun ys_71 =>
  bif decide (ys_71 = ([] : List (Int))) then (
  some (.ret true))
  else (
  some (.next ()))) (fun _ =>
  some false)
  (fun r => some r)

def m_united (first_0 : List (List (Int))) (second_0 : List (List (Int))) (size_0 : Int) : Option (List (List (Int))) :=
  flK (forF (ρ := List (List (Int))) first_0 (([] : List (NestedKey × (Bool))) : (List (NestedKey × (Bool)))) fun one_76 unions_75 =>
  flK (forF (ρ := List (List (Int))) second_0 (unions_75 : (List (NestedKey × (Bool)))) fun two_78 unions_77 =>
  guardO ((one_76).length + (two_78).length ≤ sizeLine) <|
  guardO (((one_76 ++ two_78)).length < 64) <|
  letO (sortD (one_76 ++ two_78)) fun union_81 =>
  (bif decide (((union_81).length : Int) ≤ size_0) then (
  guardO ((unions_77).length < sizeLine) <|
  some (dput unions_77 ((NE.tup NE.int).enc union_81) true))
  else (
  some unions_77) : Option ((List (NestedKey × (Bool))))).bind fun unions_83 =>
  some (.next unions_83)) (fun unions_77 =>
  some (.next unions_77))
  (fun _ => none)) (fun unions_75 =>
  (keysT unions_75).bind fun ks_87 =>
  flK (forF (ρ := List (List (Int))) (sortBy (fun (n_89 : List (Int)) => encP (((n_89).length : Int), n_89)) ks_87) (([] : List (List (Int))) : (List (List (Int)))) fun union_91 kept_90 =>
  (m_contains_other union_91 kept_90).bind fun r_92 =>
  (bif (!r_92) then (
  guardO ((kept_90).length < sizeLine) <|
  some (kept_90 ++ [union_91]))
  else (
  some kept_90) : Option ((List (List (Int))))).bind fun kept_94 =>
  some (.next kept_94)) (fun kept_90 =>
  some kept_90)
  (fun _ => none))
  (fun _ => none)

def m_cuts_of (net_0 : S_Net) (size_0 : Int) : Option (Rx (List (List (List (Int))))) :=
  bif (!(decide ((1 : Int) ≤ size_0) && decide (size_0 ≤ (6 : Int)))) then (
  some (.ex ("InvalidCount", [])))
  else (
  (m_Net_first_and net_0).bind fun r_98 =>
  guardO (-(2 ^ 62) ≤ (1 : Int) ∧ (1 : Int) < 2 ^ 62 ∧ -(2 ^ 62) ≤ r_98 ∧ r_98 < 2 ^ 62) <|
  flK (forF (ρ := Rx (List (List (List (Int))))) (rangeL (1 : Int) r_98) (([[([] : List Int)]]) : (List (List (List (Int))))) fun node_102 known_101 =>
  guardO ((known_101).length < sizeLine) <|
  some (.next (known_101 ++ [[[node_102]]]))) (fun known_101 =>
  flK (forF (ρ := Rx (List (List (List (Int))))) ((net_0.ands).zipIdx.map fun x => ((x.2 : Int), x.1)) ((known_101, ([] : List (List (List (Int))))) : (List (List (List (Int)))) × (List (List (List (Int))))) fun p_106 (known_104, result_105) =>
  (atI known_104 (p_106.2.1 / 2 ^ ((1 : Int)).toNat)).bind fun v_107 =>
  (atI known_104 (p_106.2.2 / 2 ^ ((1 : Int)).toNat)).bind fun v_109 =>
  (m_united v_107 v_109 size_0).bind fun r_111 =>
  bif decide ((500 : Int) < ((r_111).length : Int)) then (
  some (.ret (.ex ("TooHard", []))))
  else (
  guardO ((result_105).length < sizeLine) <|
  (m_Net_first_and net_0).bind fun r_114 =>
  guardO ((r_111).length + ([[(r_114 + p_106.1)]]).length ≤ sizeLine) <|
  guardO ((known_104).length < sizeLine) <|
  some (.next ((known_104 ++ [(r_111 ++ [[(r_114 + p_106.1)]])]), (result_105 ++ [r_111]))))) (fun (known_104, result_105) =>
  some (.ok result_105))
  (fun r => some r))
  (fun _ => none))

def m__law_cut_off (ands_0 : List ((Int) × (Int))) (first_and_0 : Int) (leaves_0 : List (Int)) : Option (List (Bool)) :=
  guardO (-(2 ^ 63) ≤ ((first_and_0 - (1 : Int)) + ((ands_0).length : Int)) ∧ ((first_and_0 - (1 : Int)) + ((ands_0).length : Int)) < 2 ^ 63 ∧ ([false]).length * (((first_and_0 - (1 : Int)) + ((ands_0).length : Int))).toNat ≤ sizeLine) <|
  guardO (([true]).length + ((List.replicate (((first_and_0 - (1 : Int)) + ((ands_0).length : Int))).toNat ([false])).flatten).length ≤ sizeLine) <|
  letO ([true] ++ (List.replicate (((first_and_0 - (1 : Int)) + ((ands_0).length : Int))).toNat ([false])).flatten) fun cut_120 =>
  guardO (-(2 ^ 62) ≤ (1 : Int) ∧ (1 : Int) < 2 ^ 62 ∧ -(2 ^ 62) ≤ ((cut_120).length : Int) ∧ ((cut_120).length : Int) < 2 ^ 62) <|
  flK (forF (ρ := List (Bool)) (rangeL (1 : Int) ((cut_120).length : Int)) (cut_120 : (List (Bool))) fun node_124 cut_123 =>
  (bif decide (node_124 ∈ leaves_0) then (
  (setI cut_123 node_124 true).bind fun xs_126 =>
  some xs_126)
  else (
  (bif decide (first_and_0 ≤ node_124) then (
  (atI ands_0 (node_124 - first_and_0)).bind fun v_129 =>
  (atI cut_123 (v_129.1 / (2 : Int))).bind fun v_131 =>
  (bif v_131 then ((atI cut_123 (v_129.2 / (2 : Int))).bind fun v_133 => some v_133) else some false).bind fun b_135 =>
  (setI cut_123 node_124 b_135).bind fun xs_137 =>
  some xs_137)
  else (
  some cut_123) : Option ((List (Bool)))).bind fun cut_128 =>
  some cut_128) : Option ((List (Bool)))).bind fun cut_125 =>
  some (.next cut_125)) (fun cut_123 =>
  some cut_123)
  (fun _ => none)

def m__law_is_cut (ands_0 : List ((Int) × (Int))) (first_and_0 : Int) (node_0 : Int) (leaves_0 : List (Int)) : Option (Bool) :=
  (bif decide (node_0 ∈ leaves_0) then some true else ((m__law_cut_off ands_0 first_and_0 leaves_0).bind fun r_143 => (atI r_143 node_0).bind fun v_145 => some (!v_145))).bind fun b_147 =>
  bif b_147 then (
  some false)
  else (
  flK (forF (ρ := Bool) leaves_0 (() : Unit) fun leaf_149 _ =>
  guardO ((leaves_0).length ≤ sizeLine) <|
  (fmO leaves_0 fun other_152 => (bif (!decide (other_152 = leaf_149)) then (some (some other_152)) else some none)).bind fun ys_150 =>
  (m__law_cut_off ands_0 first_and_0 ys_150).bind fun r_154 =>
  (atI r_154 node_0).bind fun v_156 =>
  bif v_156 then (
  some (.ret false))
  else (
  some (.next ()))) (fun _ =>
  some true)
  (fun r => some r))

def m__law_many_cuts (row_0 : Int) : Option (Bool) :=
  (m__law_digits row_0 ([(4 : Int), (4 : Int), (4 : Int)])).bind fun r_158 =>
  guardO ((r_158).length ≤ sizeLine) <|
  (fmO r_158 fun digit_162 => (some (some ((4 : Int) + digit_162)))).bind fun ys_160 =>
  (bif decide (((row_0 / (64 : Int)) % (4 : Int)) < (3 : Int)) then (
  (atI ([[(5 : Int), (5 : Int), (8 : Int)], [(5 : Int), (5 : Int), (8 : Int)], [(8 : Int), (8 : Int), (3 : Int)]]) ((row_0 / (64 : Int)) % (4 : Int))).bind fun v_165 =>
  some v_165)
  else (
  some ys_160) : Option ((List (Int)))).bind fun heights_164 =>
  (m__law_ladders heights_164).bind fun r_169 =>
  (m_Net_init (6 : Int) ([]) r_169).bind fun o_171 =>
  (atI heights_164 (0 : Int)).bind fun v_173 =>
  (atI heights_164 (1 : Int)).bind fun v_175 =>
  guardO ((-(2 ^ 64) < (v_173 + (2 : Int)) ∧ (v_173 + (2 : Int)) < 2 ^ 64) ∨ (-(2 ^ 64) < (v_175 + (2 : Int)) ∧ (v_175 + (2 : Int)) < 2 ^ 64)) <|
  (atI heights_164 (2 : Int)).bind fun v_178 =>
  guardO ((-(2 ^ 64) < ((1 : Int) + ((v_173 + (2 : Int)) * (v_175 + (2 : Int)))) ∧ ((1 : Int) + ((v_173 + (2 : Int)) * (v_175 + (2 : Int)))) < 2 ^ 64) ∨ (-(2 ^ 64) < (v_178 + (2 : Int)) ∧ (v_178 + (2 : Int)) < 2 ^ 64)) <|
  letO (((1 : Int) + ((v_173 + (2 : Int)) * (v_175 + (2 : Int)))) * (v_178 + (2 : Int))) fun count_181 =>
  exK (m_cuts_of o_171.1 (6 : Int)) (fun e_222 => (bif decide (e_222.1 = "TooHard") then (
  some (true && decide ((500 : Int) < count_181)))
  else none)) fun r_183 =>
  (bif decide ((500 : Int) < count_181) then some true else ((bif (!decide (((r_183).length : Int) = ((r_169).length : Int))) then some true else ((atI r_183 (((r_169).length : Int) - (1 : Int))).bind fun v_185 => some (!decide (((v_185).length : Int) = count_181)))).bind fun b_187 => some b_187)).bind fun b_189 =>
  bif b_189 then (
  some false)
  else (
  (atI r_183 (((r_169).length : Int) - (1 : Int))).bind fun v_191 =>
  guardO ((v_191).length ≤ sizeLine) <|
  (fmO v_191 fun cut_195 => (some (some (((cut_195).length : Int), cut_195)))).bind fun ys_193 =>
  (bif (!decide (ys_193 = (sortP ys_193))) then some true else (guardO (-(2 ^ 62) ≤ (count_181 - (1 : Int)) ∧ (count_181 - (1 : Int)) < 2 ^ 62) (guardO (((rangeL 0 (count_181 - (1 : Int)))).length ≤ sizeLine) ((fmO (rangeL 0 (count_181 - (1 : Int))) fun k_201 => ((atI ys_193 k_201).bind fun v_202 => (atI ys_193 (k_201 + (1 : Int))).bind fun v_204 => some (some (decide (v_202 = v_204))))).bind fun ys_199 => some (decide (true ∈ ys_199)))))).bind fun b_207 =>
  bif b_207 then (
  some false)
  else (
  guardO (-(2 ^ 62) ≤ (12 : Int) ∧ (12 : Int) < 2 ^ 62) <|
  flK (forF (ρ := Bool) (rangeL 0 (12 : Int)) (() : Unit) fun k_211 _ =>
  guardO (0 < (k_211 + (3 : Int)) ∧ (k_211 + (3 : Int)) < 1073741824) <|
  guardO (0 < count_181) <|
  (atI ys_193 ((row_0 / (k_211 + (3 : Int))) % count_181)).bind fun v_214 =>
  (bif (!true) then some true else ((bif (!decide (v_214.2 = (sortL v_214.2))) then some true else ((m__law_is_cut r_169 (7 : Int) ((6 : Int) + ((r_169).length : Int)) v_214.2).bind fun r_216 => some (!r_216))).bind fun b_218 => some b_218)).bind fun b_220 =>
  bif b_220 then (
  some (.ret false))
  else (
  some (.next ()))) (fun _ =>
  some true)
  (fun r => some r)))

def m__law_refused (net_0 : S_Net) (size_0 : Int) : Option (Bool) :=
  exK (m_cuts_of net_0 size_0) (fun e_225 => (bif decide (e_225.1 = "InvalidCount") then (
  some true)
  else none)) fun r_223 =>
  some false

def m__law_without_more (unions_0 : List (List (Int))) : Option (List (List (Int))) :=
  guardO ((unions_0).length ≤ sizeLine) <|
  (fmO unions_0 fun union_228 => (some (some (((union_228).length : Int), union_228)))).bind fun ys_226 =>
  guardO (((sortP ys_226)).length ≤ sizeLine) <|
  (fmO (sortP ys_226) fun pair_232 => (some (some pair_232.2))).bind fun ys_230 =>
  flK (forF (ρ := List (List (Int))) ys_230 (([] : List (List (Int))) : (List (List (Int)))) fun union_235 kept_234 =>
  guardO ((kept_234).length ≤ sizeLine) <|
  (fmO kept_234 fun other_238 => (guardO ((other_238).length ≤ sizeLine) ((fmO other_238 fun node_241 => (bif (!decide (node_241 ∈ union_235)) then (some (some node_241)) else some none)).bind fun ys_239 => bif decide (ys_239 = ([] : List (Int))) then (some (some other_238)) else some none))).bind fun ys_236 =>
  (bif decide (ys_236 = ([] : List (List (Int)))) then (
  guardO ((kept_234).length < sizeLine) <|
  some (kept_234 ++ [union_235]))
  else (
  some kept_234) : Option ((List (List (Int))))).bind fun kept_244 =>
  some (.next kept_244)) (fun kept_234 =>
  some kept_234)
  (fun _ => none)

def m__law_merged_cuts (ands_0 : List ((Int) × (Int))) (first_and_0 : Int) (size_0 : Int) : Option (List (List (List (Int)))) :=
  guardO (-(2 ^ 62) ≤ (1 : Int) ∧ (1 : Int) < 2 ^ 62 ∧ -(2 ^ 62) ≤ first_and_0 ∧ first_and_0 < 2 ^ 62) <|
  guardO (((rangeL (1 : Int) first_and_0)).length ≤ sizeLine) <|
  (fmO (rangeL (1 : Int) first_and_0) fun node_251 => (some (some ([[node_251]])))).bind fun ys_249 =>
  guardO (([[([] : List Int)]]).length + (ys_249).length ≤ sizeLine) <|
  flK (forF (ρ := List (List (List (Int)))) ands_0 ((([[([] : List Int)]] ++ ys_249), ([] : List (List (List (Int))))) : (List (List (List (Int)))) × (List (List (List (Int))))) fun pair_256 (known_254, found_255) =>
  (atI known_254 (pair_256.1 / (2 : Int))).bind fun v_257 =>
  flK (forF (ρ := List (List (List (Int)))) v_257 (([] : List (NestedKey × (Bool))) : (List (NestedKey × (Bool)))) fun one_260 unions_259 =>
  (atI known_254 (pair_256.2 / (2 : Int))).bind fun v_261 =>
  flK (forF (ρ := List (List (List (Int)))) v_261 (unions_259 : (List (NestedKey × (Bool)))) fun two_264 unions_263 =>
  guardO ((two_264).length ≤ sizeLine) <|
  (fmO two_264 fun node_267 => (bif (!decide (node_267 ∈ one_260)) then (some (some node_267)) else some none)).bind fun ys_265 =>
  guardO ((one_260).length + (ys_265).length ≤ sizeLine) <|
  letO (sortL (one_260 ++ ys_265)) fun union_270 =>
  (bif decide (((union_270).length : Int) ≤ size_0) then (
  guardO ((unions_263).length < sizeLine) <|
  some (dput unions_263 ((NE.tup NE.int).enc union_270) true))
  else (
  some unions_263) : Option ((List (NestedKey × (Bool))))).bind fun unions_272 =>
  some (.next unions_272)) (fun unions_263 =>
  some (.next unions_263))
  (fun _ => none)) (fun unions_259 =>
  (keysT unions_259).bind fun ks_276 =>
  (m__law_without_more ks_276).bind fun r_278 =>
  guardO ((found_255).length < sizeLine) <|
  (atI (found_255 ++ [r_278]) (-(1 : Int))).bind fun v_281 =>
  guardO ((v_281).length + ([[((known_254).length : Int)]]).length ≤ sizeLine) <|
  guardO ((known_254).length < sizeLine) <|
  some (.next ((known_254 ++ [(v_281 ++ [[((known_254).length : Int)]])]), (found_255 ++ [r_278]))))
  (fun _ => none)) (fun (known_254, found_255) =>
  some found_255)
  (fun _ => none)

def m__law_same (actual_0 : PyData) (due_0 : PyData) : Option (Bool) :=
  guardO (SeqAt.shaped actual_0 = true) <|
  guardO (SeqAt.shaped due_0 = true) <|
  (bif PyData.eqv actual_0 due_0 then (guardO (ReprOk actual_0) (guardO (ReprOk due_0) (some (decide ((actual_0).shown = (due_0).shown))))) else some false).bind fun b_289 =>
  some b_289

def m__law_greater (net_0 : S_Net) (ands_0 : List ((Int) × (Int))) (first_and_0 : Int) (size_0 : Int) : Option (Bool) :=
  (m__law_merged_cuts ands_0 first_and_0 size_0).bind fun r_291 =>
  guardO ((r_291).length ≤ sizeLine) <|
  (fmO r_291 fun cuts_295 => (some (some ((cuts_295).length : Int)))).bind fun ys_293 =>
  (mxL ys_293).bind fun m_297 =>
  exK (m_cuts_of net_0 size_0) (fun e_305 => (bif decide (e_305.1 = "TooHard") then (
  some (decide ((500 : Int) < m_297)))
  else none)) fun r_299 =>
  (bif decide (m_297 ≤ (500 : Int)) then ((m__law_same ((DE.list (DE.list (DE.tup DE.int))).enc r_299) ((DE.list (DE.list (DE.tup DE.int))).enc r_291)).bind fun r_301 => some (r_301 && decide (net_0.ands = ands_0))) else some false).bind fun b_303 =>
  some b_303

def m__law_subsets (limit_0 : Int) (size_0 : Int) : Option (List (List (Int))) :=
  letO ([([] : List Int)]) fun subsets_306 =>
  guardO (-(2 ^ 62) ≤ (1 : Int) ∧ (1 : Int) < 2 ^ 62 ∧ -(2 ^ 62) ≤ limit_0 ∧ limit_0 < 2 ^ 62) <|
  flK (forF (ρ := List (List (Int))) (rangeL (1 : Int) limit_0) (subsets_306 : (List (List (Int)))) fun node_310 subsets_309 =>
  guardO ((subsets_309).length ≤ sizeLine) <|
  (fmO subsets_309 fun subset_313 => (bif decide (((subset_313).length : Int) < size_0) then (guardO ((subset_313).length + ([node_310]).length ≤ sizeLine) (some (some (subset_313 ++ [node_310])))) else some none)).bind fun ys_311 =>
  guardO ((subsets_309).length + (ys_311).length ≤ sizeLine) <|
  letO (subsets_309 ++ ys_311) fun subsets_317 =>
  some (.next subsets_317)) (fun subsets_309 =>
  some subsets_309)
  (fun _ => none)

def m_law (script_0 : List Int) : Option (Bool) :=
  (m__law_cell script_0 (0 : Int)).bind fun r_319 =>
  (m__law_digits r_319 ([(4 : Int), (3 : Int), (6 : Int), (8 : Int), (16 : Int)])).bind fun r_321 =>
  (atI r_321 (4 : Int)).bind fun v_323 =>
  (bif (decide ((6 : Int) ≤ v_323) && decide (v_323 < (10 : Int))) then (
  (atI r_321 (0 : Int)).bind fun v_326 =>
  (setI r_321 (0 : Int) (v_326 + (2 : Int))).bind fun xs_328 =>
  (m__law_cell script_0 (40 : Int)).bind fun r_330 =>
  (setI xs_328 (2 : Int) ((6 : Int) + (r_330 % (7 : Int)))).bind fun xs_332 =>
  some xs_332)
  else (
  some r_321) : Option ((List (Int)))).bind fun sizes_325 =>
  (atI sizes_325 (0 : Int)).bind fun v_336 =>
  (atI sizes_325 (1 : Int)).bind fun v_338 =>
  letO (((1 : Int) + v_336) + v_338) fun first_and_340 =>
  (atI sizes_325 (2 : Int)).bind fun v_342 =>
  guardO (-(2 ^ 62) ≤ v_342 ∧ v_342 < 2 ^ 62) <|
  flK (forF (ρ := Bool) (rangeL 0 v_342) (([] : List ((Int) × (Int))) : (List ((Int) × (Int)))) fun k_347 ands_346 =>
  (m__law_cell script_0 ((1 : Int) + k_347)).bind fun r_348 =>
  (m__law_literal r_348 first_and_340 (first_and_340 + k_347)).bind fun r_350 =>
  (m__law_literal (r_348 / (1000 : Int)) first_and_340 (first_and_340 + k_347)).bind fun r_352 =>
  guardO ((ands_346).length < sizeLine) <|
  some (.next (ands_346 ++ [(r_350, r_352)]))) (fun ands_346 =>
  (atI sizes_325 (0 : Int)).bind fun v_355 =>
  (atI sizes_325 (1 : Int)).bind fun v_357 =>
  guardO (-(2 ^ 62) ≤ v_357 ∧ v_357 < 2 ^ 62) <|
  guardO (((rangeL 0 v_357)).length ≤ sizeLine) <|
  (fmO (rangeL 0 v_357) fun k_363 => (some (some ((0 : Int), k_363)))).bind fun ys_361 =>
  (m_Net_init v_355 ys_361 ands_346).bind fun o_365 =>
  (atI sizes_325 (3 : Int)).bind fun v_367 =>
  (atI sizes_325 (4 : Int)).bind fun v_369 =>
  bif decide (v_369 = (5 : Int)) then (
  (m__law_cell script_0 (7 : Int)).bind fun r_371 =>
  (m__law_many_cuts r_371).bind fun r_373 =>
  some r_373)
  else (
  bif (decide (v_367 = (0 : Int)) || decide (v_367 = (7 : Int))) then (
  (m__law_cell script_0 (41 : Int)).bind fun r_375 =>
  letO ((8 : Int) + (r_375 % (1000 : Int))) fun far_377 =>
  (m__law_cell script_0 (42 : Int)).bind fun r_379 =>
  (atI ([v_367, far_377, (-far_377)]) (r_379 % (3 : Int))).bind fun v_381 =>
  (m__law_refused o_365.1 v_381).bind fun r_383 =>
  some r_383)
  else (
  (atI sizes_325 (2 : Int)).bind fun v_385 =>
  bif decide ((5 : Int) < v_385) then (
  (m__law_greater o_365.1 ands_346 first_and_340 v_367).bind fun r_387 =>
  some r_387)
  else (
  (atI sizes_325 (2 : Int)).bind fun v_389 =>
  guardO (-(2 ^ 62) ≤ v_389 ∧ v_389 < 2 ^ 62) <|
  flK (forF (ρ := Bool) (rangeL 0 v_389) (([] : List (List (List (Int)))) : (List (List (List (Int))))) fun k_394 due_393 =>
  (m__law_subsets (first_and_340 + k_394) v_367).bind fun r_395 =>
  guardO ((r_395).length ≤ sizeLine) <|
  (fmO r_395 fun subset_399 => (some (some (((subset_399).length : Int), subset_399)))).bind fun ys_397 =>
  letO (cutL ands_346 none (some (k_394 + (1 : Int)))) fun near_401 =>
  guardO (((sortP ys_397)).length ≤ sizeLine) <|
  (fmO (sortP ys_397) fun pair_405 => ((m__law_is_cut near_401 first_and_340 (first_and_340 + k_394) pair_405.2).bind fun r_406 => bif r_406 then (some (some pair_405.2)) else some none)).bind fun ys_403 =>
  guardO ((due_393).length < sizeLine) <|
  some (.next (due_393 ++ [ys_403]))) (fun due_393 =>
  (bif (!decide (o_365.1.ands = ands_346)) then some true else ((atI sizes_325 (1 : Int)).bind fun v_410 => guardO (-(2 ^ 62) ≤ v_410 ∧ v_410 < 2 ^ 62) (guardO (((rangeL 0 v_410)).length ≤ sizeLine) ((fmO (rangeL 0 v_410) fun k_416 => (some (some ((0 : Int), k_416)))).bind fun ys_414 => some (!decide (o_365.1.latches = ys_414)))))).bind fun b_418 =>
  bif b_418 then (
  some false)
  else (
  exK (m_cuts_of o_365.1 v_367) (fun e_428 => none) fun r_422 =>
  (m__law_same ((DE.list (DE.list (DE.tup DE.int))).enc r_422) ((DE.list (DE.list (DE.tup DE.int))).enc due_393)).bind fun q_424 =>
  (bif q_424 then (some (decide (o_365.1.ands = ands_346))) else some false).bind fun b_426 =>
  some b_426))
  (fun _ => none)))))
  (fun _ => none)
end K56

/-! K56W -/
namespace K56
open PySem PySem.Spec L2 Ty
open PyProof.Rows (envOfC)
open LamX (TabB)
def top (i : Nat) : Stmt := PySem.Challenge.pw_evergate_k56_cuts.main.body.getD i (.Pass ⟨0, 0, 0, 0⟩)
abbrev s__law_digits : Stmt := top 15
abbrev N__law_digits : List Str := ["row", "bases", "digits", "base"]
theorem sc__law_digits : FnScope N__law_digits ["row", "bases"] (defScope s__law_digits) := ⟨rfl, rfl, rfl, by decide +kernel, rfl, by decide +kernel, by decide +kernel⟩
abbrev s_Net_init : Stmt := inClass (top 12) 0
abbrev N_Net_init : List Str := ["self", "input_count", "latches", "ands"]
theorem sc_Net_init : FnScope N_Net_init ["self", "input_count", "latches", "ands"] (defScope s_Net_init) := ⟨rfl, rfl, rfl, by decide +kernel, rfl, by decide +kernel, by decide +kernel⟩
abbrev s__law_cell : Stmt := top 14
abbrev N__law_cell : List Str := ["script", "k", "cell"]
theorem sc__law_cell : FnScope N__law_cell ["script", "k"] (defScope s__law_cell) := ⟨rfl, rfl, rfl, by decide +kernel, rfl, by decide +kernel, by decide +kernel⟩
abbrev s__law_literal : Stmt := top 16
abbrev N__law_literal : List Str := ["row", "first_and", "count", "kind"]
theorem sc__law_literal : FnScope N__law_literal ["row", "first_and", "count"] (defScope s__law_literal) := ⟨rfl, rfl, rfl, by decide +kernel, rfl, by decide +kernel, by decide +kernel⟩
abbrev s__law_ladders : Stmt := top 22
abbrev N__law_ladders : List Str := ["heights", "first_and", "ands", "tops", "j", "one", "two", "_law_turn", "higher", "last", "top"]
theorem sc__law_ladders : FnScope N__law_ladders ["heights"] (defScope s__law_ladders) := ⟨rfl, rfl, rfl, by decide +kernel, rfl, by decide +kernel, by decide +kernel⟩
abbrev s_Net_first_and : Stmt := inClass (top 12) 2
abbrev N_Net_first_and : List Str := ["self"]
theorem sc_Net_first_and : FnScope N_Net_first_and ["self"] (defScope s_Net_first_and) := ⟨rfl, rfl, rfl, by decide +kernel, rfl, by decide +kernel, by decide +kernel⟩
abbrev s_contains_other : Stmt := top 8
abbrev N_contains_other : List Str := ["cut", "others", "other", "node"]
theorem sc_contains_other : FnScope N_contains_other ["cut", "others"] (defScope s_contains_other) := ⟨rfl, rfl, rfl, by decide +kernel, rfl, by decide +kernel, by decide +kernel⟩
abbrev s_united : Stmt := top 9
abbrev N_united : List Str := ["first", "second", "size", "unions", "one", "two", "union", "kept", "%tab"]
theorem sc_united : FnScope N_united ["first", "second", "size"] (defScope s_united) := ⟨rfl, rfl, rfl, by decide +kernel, rfl, by decide +kernel, by decide +kernel⟩
abbrev s_cuts_of : Stmt := top 10
abbrev N_cuts_of : List Str := ["net", "size", "known", "node", "result", "place", "left", "right", "cuts", "%tab"]
theorem sc_cuts_of : FnScope N_cuts_of ["net", "size"] (defScope s_cuts_of) := ⟨rfl, rfl, rfl, by decide +kernel, rfl, by decide +kernel, by decide +kernel⟩
abbrev s__law_cut_off : Stmt := top 17
abbrev N__law_cut_off : List Str := ["ands", "first_and", "leaves", "cut", "node", "pair"]
theorem sc__law_cut_off : FnScope N__law_cut_off ["ands", "first_and", "leaves"] (defScope s__law_cut_off) := ⟨rfl, rfl, rfl, by decide +kernel, rfl, by decide +kernel, by decide +kernel⟩
abbrev s__law_is_cut : Stmt := top 18
abbrev N__law_is_cut : List Str := ["ands", "first_and", "node", "leaves", "leaf", "other"]
theorem sc__law_is_cut : FnScope N__law_is_cut ["ands", "first_and", "node", "leaves"] (defScope s__law_is_cut) := ⟨rfl, rfl, rfl, by decide +kernel, rfl, by decide +kernel, by decide +kernel⟩
abbrev s__law_many_cuts : Stmt := top 23
abbrev N__law_many_cuts : List Str := ["row", "heights", "ands", "net", "count", "told", "e", "last", "k", "cut", "digit", "%tab"]
theorem sc__law_many_cuts : FnScope N__law_many_cuts ["row"] (defScope s__law_many_cuts) := ⟨rfl, rfl, rfl, by decide +kernel, rfl, by decide +kernel, by decide +kernel⟩
abbrev s__law_refused : Stmt := top 21
abbrev N__law_refused : List Str := ["net", "size", "e", "%tab"]
theorem sc__law_refused : FnScope N__law_refused ["net", "size"] (defScope s__law_refused) := ⟨rfl, rfl, rfl, by decide +kernel, rfl, by decide +kernel, by decide +kernel⟩
abbrev s__law_without_more : Stmt := top 24
abbrev N__law_without_more : List Str := ["unions", "kept", "union", "pair", "other", "node"]
theorem sc__law_without_more : FnScope N__law_without_more ["unions"] (defScope s__law_without_more) := ⟨rfl, rfl, rfl, by decide +kernel, rfl, by decide +kernel, by decide +kernel⟩
abbrev s__law_merged_cuts : Stmt := top 25
abbrev N__law_merged_cuts : List Str := ["ands", "first_and", "size", "known", "found", "pair", "unions", "one", "two", "union", "node"]
theorem sc__law_merged_cuts : FnScope N__law_merged_cuts ["ands", "first_and", "size"] (defScope s__law_merged_cuts) := ⟨rfl, rfl, rfl, by decide +kernel, rfl, by decide +kernel, by decide +kernel⟩
abbrev s__law_same : Stmt := top 20
abbrev N__law_same : List Str := ["actual", "due"]
theorem sc__law_same : FnScope N__law_same ["actual", "due"] (defScope s__law_same) := ⟨rfl, rfl, rfl, by decide +kernel, rfl, by decide +kernel, by decide +kernel⟩
abbrev s__law_greater : Stmt := top 26
abbrev N__law_greater : List Str := ["net", "ands", "first_and", "size", "due", "many", "told", "cuts", "%tab"]
theorem sc__law_greater : FnScope N__law_greater ["net", "ands", "first_and", "size"] (defScope s__law_greater) := ⟨rfl, rfl, rfl, by decide +kernel, rfl, by decide +kernel, by decide +kernel⟩
abbrev s__law_subsets : Stmt := top 19
abbrev N__law_subsets : List Str := ["limit", "size", "subsets", "node", "subset"]
theorem sc__law_subsets : FnScope N__law_subsets ["limit", "size"] (defScope s__law_subsets) := ⟨rfl, rfl, rfl, by decide +kernel, rfl, by decide +kernel, by decide +kernel⟩
abbrev s_law : Stmt := top 27
abbrev N_law : List Str := ["script", "sizes", "first_and", "ands", "k", "row", "left", "net", "size", "far", "due", "pairs", "near", "subset", "pair", "%tab"]
theorem sc_law : FnScope N_law ["script"] (defScope s_law) := ⟨rfl, rfl, rfl, by decide +kernel, rfl, by decide +kernel, by decide +kernel⟩
abbrev ns_Net : List Str := ["input_count", "latches", "ands"]
abbrev dl_Net (V : S_Net) : List Slot := [val pInt V.input_count, own (oL (pT2 pInt pInt)) V.latches, own (oL (pT2 pInt pInt)) V.ands]
abbrev sl_Net (V : S_Net) : List Slot := [val pInt V.input_count, val (pL (pT2 pInt pInt)) V.latches, val (pL (pT2 pInt pInt)) V.ands]
def tq : Str := ("united" ++ ".<locals>.") ++ "<lambda>"
structure Txt (P : Program) (K : PySem.W.Frag) (mg : Str → Option Value) where
  f__law_digits : Addr
  d__law_digits : FuncData
  F__law_digits : Fun K "_law_digits" "_law_digits" s__law_digits f__law_digits d__law_digits
  b__law_digits : Binds K d__law_digits ["row", "bases"] []
  g__law_digits : mg "_law_digits" = some (.ref f__law_digits)
  k__law_digits : PySem.W.keepIn K (.ref f__law_digits) = true
  f_Net_init : Addr
  d_Net_init : FuncData
  F_Net_init : Fun K "__init__" "Net.__init__" s_Net_init f_Net_init d_Net_init
  b_Net_init : Binds K d_Net_init ["self", "input_count", "latches", "ands"] []
  f__law_cell : Addr
  d__law_cell : FuncData
  F__law_cell : Fun K "_law_cell" "_law_cell" s__law_cell f__law_cell d__law_cell
  b__law_cell : Binds K d__law_cell ["script", "k"] []
  g__law_cell : mg "_law_cell" = some (.ref f__law_cell)
  k__law_cell : PySem.W.keepIn K (.ref f__law_cell) = true
  f__law_literal : Addr
  d__law_literal : FuncData
  F__law_literal : Fun K "_law_literal" "_law_literal" s__law_literal f__law_literal d__law_literal
  b__law_literal : Binds K d__law_literal ["row", "first_and", "count"] []
  g__law_literal : mg "_law_literal" = some (.ref f__law_literal)
  k__law_literal : PySem.W.keepIn K (.ref f__law_literal) = true
  f__law_ladders : Addr
  d__law_ladders : FuncData
  F__law_ladders : Fun K "_law_ladders" "_law_ladders" s__law_ladders f__law_ladders d__law_ladders
  b__law_ladders : Binds K d__law_ladders ["heights"] []
  g__law_ladders : mg "_law_ladders" = some (.ref f__law_ladders)
  k__law_ladders : PySem.W.keepIn K (.ref f__law_ladders) = true
  f_Net_first_and : Addr
  d_Net_first_and : FuncData
  F_Net_first_and : Fun K "first_and" "Net.first_and" s_Net_first_and f_Net_first_and d_Net_first_and
  b_Net_first_and : Binds K d_Net_first_and ["self"] []
  f_contains_other : Addr
  d_contains_other : FuncData
  F_contains_other : Fun K "contains_other" "contains_other" s_contains_other f_contains_other d_contains_other
  b_contains_other : Binds K d_contains_other ["cut", "others"] []
  g_contains_other : mg "contains_other" = some (.ref f_contains_other)
  k_contains_other : PySem.W.keepIn K (.ref f_contains_other) = true
  f_united : Addr
  d_united : FuncData
  F_united : Fun K "united" "united" s_united f_united d_united
  b_united : Binds K d_united ["first", "second", "size"] []
  g_united : mg "united" = some (.ref f_united)
  k_united : PySem.W.keepIn K (.ref f_united) = true
  f_cuts_of : Addr
  d_cuts_of : FuncData
  F_cuts_of : Fun K "cuts_of" "cuts_of" s_cuts_of f_cuts_of d_cuts_of
  b_cuts_of : Binds K d_cuts_of ["net", "size"] []
  g_cuts_of : mg "cuts_of" = some (.ref f_cuts_of)
  k_cuts_of : PySem.W.keepIn K (.ref f_cuts_of) = true
  f__law_cut_off : Addr
  d__law_cut_off : FuncData
  F__law_cut_off : Fun K "_law_cut_off" "_law_cut_off" s__law_cut_off f__law_cut_off d__law_cut_off
  b__law_cut_off : Binds K d__law_cut_off ["ands", "first_and", "leaves"] []
  g__law_cut_off : mg "_law_cut_off" = some (.ref f__law_cut_off)
  k__law_cut_off : PySem.W.keepIn K (.ref f__law_cut_off) = true
  f__law_is_cut : Addr
  d__law_is_cut : FuncData
  F__law_is_cut : Fun K "_law_is_cut" "_law_is_cut" s__law_is_cut f__law_is_cut d__law_is_cut
  b__law_is_cut : Binds K d__law_is_cut ["ands", "first_and", "node", "leaves"] []
  g__law_is_cut : mg "_law_is_cut" = some (.ref f__law_is_cut)
  k__law_is_cut : PySem.W.keepIn K (.ref f__law_is_cut) = true
  f__law_many_cuts : Addr
  d__law_many_cuts : FuncData
  F__law_many_cuts : Fun K "_law_many_cuts" "_law_many_cuts" s__law_many_cuts f__law_many_cuts d__law_many_cuts
  b__law_many_cuts : Binds K d__law_many_cuts ["row"] []
  g__law_many_cuts : mg "_law_many_cuts" = some (.ref f__law_many_cuts)
  k__law_many_cuts : PySem.W.keepIn K (.ref f__law_many_cuts) = true
  f__law_refused : Addr
  d__law_refused : FuncData
  F__law_refused : Fun K "_law_refused" "_law_refused" s__law_refused f__law_refused d__law_refused
  b__law_refused : Binds K d__law_refused ["net", "size"] []
  g__law_refused : mg "_law_refused" = some (.ref f__law_refused)
  k__law_refused : PySem.W.keepIn K (.ref f__law_refused) = true
  f__law_without_more : Addr
  d__law_without_more : FuncData
  F__law_without_more : Fun K "_law_without_more" "_law_without_more" s__law_without_more f__law_without_more d__law_without_more
  b__law_without_more : Binds K d__law_without_more ["unions"] []
  g__law_without_more : mg "_law_without_more" = some (.ref f__law_without_more)
  k__law_without_more : PySem.W.keepIn K (.ref f__law_without_more) = true
  f__law_merged_cuts : Addr
  d__law_merged_cuts : FuncData
  F__law_merged_cuts : Fun K "_law_merged_cuts" "_law_merged_cuts" s__law_merged_cuts f__law_merged_cuts d__law_merged_cuts
  b__law_merged_cuts : Binds K d__law_merged_cuts ["ands", "first_and", "size"] []
  g__law_merged_cuts : mg "_law_merged_cuts" = some (.ref f__law_merged_cuts)
  k__law_merged_cuts : PySem.W.keepIn K (.ref f__law_merged_cuts) = true
  f__law_same : Addr
  d__law_same : FuncData
  F__law_same : Fun K "_law_same" "_law_same" s__law_same f__law_same d__law_same
  b__law_same : Binds K d__law_same ["actual", "due"] []
  g__law_same : mg "_law_same" = some (.ref f__law_same)
  k__law_same : PySem.W.keepIn K (.ref f__law_same) = true
  f__law_greater : Addr
  d__law_greater : FuncData
  F__law_greater : Fun K "_law_greater" "_law_greater" s__law_greater f__law_greater d__law_greater
  b__law_greater : Binds K d__law_greater ["net", "ands", "first_and", "size"] []
  g__law_greater : mg "_law_greater" = some (.ref f__law_greater)
  k__law_greater : PySem.W.keepIn K (.ref f__law_greater) = true
  f__law_subsets : Addr
  d__law_subsets : FuncData
  F__law_subsets : Fun K "_law_subsets" "_law_subsets" s__law_subsets f__law_subsets d__law_subsets
  b__law_subsets : Binds K d__law_subsets ["limit", "size"] []
  g__law_subsets : mg "_law_subsets" = some (.ref f__law_subsets)
  k__law_subsets : PySem.W.keepIn K (.ref f__law_subsets) = true
  f_law : Addr
  d_law : FuncData
  F_law : Fun K "law" "law" s_law f_law d_law
  b_law : Binds K d_law ["script"] []
  g_law : mg "law" = some (.ref f_law)
  k_law : PySem.W.keepIn K (.ref f_law) = true
  ct : Addr
  FC_united : FunC K "united" "united" s_united f_united d_united ct
  C_Net : Addr
  cl_Net : Cls K C_Net
  g_Net : mg "Net" = some (.ref C_Net)
  at_Net_input_count : At K C_Net "input_count"
  at_Net_latches : At K C_Net "latches"
  at_Net_ands : At K C_Net "ands"
  mk_Net : Mk K C_Net f_Net_init
  pp_Net_first_and : Addr
  pr_Net_first_and : PropOf K C_Net "first_and" pp_Net_first_and f_Net_first_and
  g_enumerate : mg "enumerate" = none
  g_int : mg "int" = none
  g_isinstance : mg "isinstance" = none
  g_len : mg "len" = none
  g_list : mg "list" = none
  g_max : mg "max" = none
  g_min : mg "min" = none
  g_range : mg "range" = none
  g_repr : mg "repr" = none
  g_set : mg "set" = none
  g_sorted : mg "sorted" = none
  g_tuple : mg "tuple" = none
  t_MOST_CUTS : Tok
  g_MOST_CUTS : mg "MOST_CUTS" = some (.int 500 t_MOST_CUTS)
  t_MOST_SIZE : Tok
  g_MOST_SIZE : mg "MOST_SIZE" = some (.int 6 t_MOST_SIZE)
  C_EvergateError : Addr
  g_EvergateError : mg "EvergateError" = some (.ref C_EvergateError)
  C_InvalidCount : Addr
  g_InvalidCount : mg "InvalidCount" = some (.ref C_InvalidCount)
  C_TooHard : Addr
  g_TooHard : mg "TooHard" = some (.ref C_TooHard)
  xq_InvalidCount : PySem.W.excIn K C_InvalidCount [.type "ValueError", .type "Exception", .type "BaseException", .type "object"] "ValueError.__new__" = true
  xk_InvalidCount : PySem.W.keepIn K (.ref C_InvalidCount) = true
  xs_InvalidCount : PySem.W.subIn K (.ref C_InvalidCount) (.type "BaseException") = some true
  xt_InvalidCount : PySem.W.typeIn K (.ref C_InvalidCount) = some (.type "type")
  xe_InvalidCount : ExcC K C_InvalidCount
  xq_TooHard : PySem.W.excIn K C_TooHard [.type "ValueError", .type "Exception", .type "BaseException", .type "object"] "ValueError.__new__" = true
  xk_TooHard : PySem.W.keepIn K (.ref C_TooHard) = true
  xs_TooHard : PySem.W.subIn K (.ref C_TooHard) (.type "BaseException") = some true
  xt_TooHard : PySem.W.typeIn K (.ref C_TooHard) = some (.type "type")
  xe_TooHard : ExcC K C_TooHard
  xp_InvalidCount_InvalidCount : PySem.W.exmOne K (.ref C_InvalidCount) (.ref C_InvalidCount) = some true
  xp_TooHard_TooHard : PySem.W.exmOne K (.ref C_TooHard) (.ref C_TooHard) = some true
  xi_InvalidCount_EvergateError : PySem.W.kitOne K (.ref C_InvalidCount) (.ref C_EvergateError) = some true
  xi_TooHard_EvergateError : PySem.W.kitOne K (.ref C_TooHard) (.ref C_EvergateError) = some true
def exT {P : Program} {K : PySem.W.Frag} {mg : Str → Option Value} (T : Txt P K mg) : ExT := fun e cls d F => (e.1 = "InvalidCount" ∧ cls = .ref T.C_InvalidCount ∧ d = none) ∨ (e.1 = "TooHard" ∧ cls = .ref T.C_TooHard ∧ d = none)
theorem exT_mk_InvalidCount {P : Program} {K : PySem.W.Frag} {mg : Str → Option Value} (T : Txt P K mg) {F : Hp} {l : List XF} : exT T ("InvalidCount", l) (.ref T.C_InvalidCount) none F := by unfold exT; simp
theorem exT_is_InvalidCount {P : Program} {K : PySem.W.Frag} {mg : Str → Option Value} (T : Txt P K mg) {e : Exn} {cls : Value} {d : Option Addr} {F : Hp} (hz : e.1 = "InvalidCount") (h : exT T e cls d F) : cls = .ref T.C_InvalidCount ∧ d = none := by
  unfold exT at h
  rw [hz] at h
  simpa using h
theorem exT_mk_TooHard {P : Program} {K : PySem.W.Frag} {mg : Str → Option Value} (T : Txt P K mg) {F : Hp} {l : List XF} : exT T ("TooHard", l) (.ref T.C_TooHard) none F := by unfold exT; simp
theorem exT_is_TooHard {P : Program} {K : PySem.W.Frag} {mg : Str → Option Value} (T : Txt P K mg) {e : Exn} {cls : Value} {d : Option Addr} {F : Hp} (hz : e.1 = "TooHard") (h : exT T e cls d F) : cls = .ref T.C_TooHard ∧ d = none := by
  unfold exT at h
  rw [hz] at h
  simpa using h
section
variable {P : Program} {w : World} {K : PySem.W.Frag} {mg : Str → Option Value} {base : Heap}

theorem ok__law_digits (T : Txt P K mg) : FnOk P w K mg base CX0 1 T.f__law_digits T.d__law_digits ["row", "bases"] (spP (fun (z : (Int) × (List (Int))) => [val pInt z.1, val (pL pInt) z.2]) (fun z => m__law_digits z.1 z.2) (fun r => own (oL pInt) r)) := by
  refine fn_pure T.F__law_digits sc__law_digits (fun _ => rfl) (fun cdv A outer s H E hr z r B hm => ?_)
  obtain ⟨row_0, bases_0⟩ := z
  replace hm : m__law_digits row_0 bases_0 = some r := hm
  unfold m__law_digits at hm
  show Go _ _ _ _ _ [val pInt row_0, val (pL pInt) bases_0, dead, dead]
  refine go_set 2 (x_lst (p := pInt) (xs := []) xa_nil (Nat.zero_le _)) ?_
  show Go _ _ _ _ _ [val pInt row_0, val (pL pInt) bases_0, own (oL pInt) ([] : List (Int)), dead]
  refine go_forK (rs := val pInt) (fun s => [val pInt s.1, val (pL pInt) bases_0, own (oL pInt) s.2, dead]) (fun r => own (oL pInt) r) (xi_list (x_var 1)) (by repeat' (first | exact WkL.nil | exact WkS.refl | exact WkS.dead | exact WkS.list | exact WkS.dict | exact WkS.lstS (fun _ => WkS.list) | refine WkL.cons ?_ ?_)) hm ?_ ?_ ?_
  · rintro B1 base_3 s out hx hm hr1 hl1
    obtain ⟨row_1, digits_2⟩ := s
    refine ⟨_, _, (xg_name 3), ?_⟩
    show Go _ _ _ _ _ [val pInt row_1, val (pL pInt) bases_0, own (oL pInt) digits_2, val pInt base_3]
    obtain ⟨h_4, hm⟩ := guardO_some hm
    obtain ⟨h_5, hm⟩ := guardO_some hm
    refine go_append (pl_name 2 (by repeat' (first | exact Stb.nil | exact trivial | exact stb_map (fun _ => trivial) _ | refine Stb.cons ?_ ?_)) (hso := own_some)) (x_op (fun _ => op_mod) (o_intC h_4) (x_callTy (fun _ => call_int1) T.g_int (by decide +kernel) o_intI (xa1 (x_var 0))) (x_var 3)) h_5 ?_
    show Go _ _ _ _ _ [val pInt row_1, val (pL pInt) bases_0, own (oL pInt) (digits_2 ++ [(row_1 % base_3)]), val pInt base_3]
    obtain ⟨h_6, hm⟩ := guardO_some hm
    obtain ⟨row_7, h_8, hm⟩ := letO_some hm
    refine go_set 0 (XV.eqV (x_op (fun _ => op_fdiv) (o_intC h_6) (x_callTy (fun _ => call_int1) T.g_int (by decide +kernel) o_intI (xa1 (x_var 0))) (x_var 3)) h_8) ?_
    show Go _ _ _ _ _ [val pInt row_7, val (pL pInt) bases_0, own (oL pInt) (digits_2 ++ [(row_1 % base_3)]), val pInt base_3]
    cases hm
    exact go_nil (fun σ H h => ⟨_, rfl, h.wk (by repeat' (first | exact WkL.nil | exact WkS.refl | exact WkS.dead | exact WkS.list | exact WkS.dict | exact WkS.lstS (fun _ => WkS.list) | refine WkL.cons ?_ ?_))⟩)
  · rintro s hm
    obtain ⟨row_1, digits_2⟩ := s
    show Go _ _ _ _ _ [val pInt row_1, val (pL pInt) bases_0, own (oL pInt) digits_2, dead]
    cases hm
    exact go_retV 2 rfl own_some (fun v H h => h)
  · rintro r hm v H h
    cases hm

theorem ok_Net_init (T : Txt P K mg) : FnOk P w K mg base CX0 1 T.f_Net_init T.d_Net_init ["self", "input_count", "latches", "ands"] (spM (fun _ => obj T.C_Net [] []) (fun (z : (Int) × (List ((Int) × (Int))) × (List ((Int) × (Int)))) => [val pInt z.1, val (pL (pT2 pInt pInt)) z.2.1, val (pL (pT2 pInt pInt)) z.2.2]) (fun z => m_Net_init z.1 z.2.1 z.2.2) (fun r => obj T.C_Net ns_Net (dl_Net r)) (fun (_ : Unit) => vNon)) := by
  refine fn_mut T.F_Net_init sc_Net_init (fun _ => rfl) (fun cdv A outer s H E hr z r v0 B hm => ?_)
  obtain ⟨input_count_0, latches_0, ands_0⟩ := z
  replace hm : m_Net_init input_count_0 latches_0 ands_0 = some r := hm
  unfold m_Net_init at hm
  show Go _ _ _ _ _ [hold (obj T.C_Net [] []) v0, val pInt input_count_0, val (pL (pT2 pInt pInt)) latches_0, val (pL (pT2 pInt pInt)) ands_0]
  refine go_newfld (pl_hold 0 (by repeat' (first | exact Stb.nil | exact trivial | exact stb_map (fun _ => trivial) _ | refine Stb.cons ?_ ?_))) (x_var 1) T.at_Net_input_count (by repeat' (first | exact Stb.nil | exact trivial | exact stb_map (fun _ => trivial) _ | refine Stb.cons ?_ ?_)) trivial ?_
  show Go _ _ _ _ _ [hold (obj T.C_Net ["input_count"] [val pInt input_count_0]) v0, val pInt input_count_0, val (pL (pT2 pInt pInt)) latches_0, val (pL (pT2 pInt pInt)) ands_0]
  refine go_newfld (pl_hold 0 (by repeat' (first | exact Stb.nil | exact trivial | exact stb_map (fun _ => trivial) _ | refine Stb.cons ?_ ?_))) (x_callTy (c_list _) T.g_list (by decide +kernel) (o_listL LV.val.sv) (xa1 (x_var 2))) T.at_Net_latches (by repeat' (first | exact Stb.nil | exact trivial | exact stb_map (fun _ => trivial) _ | refine Stb.cons ?_ ?_)) trivial ?_
  show Go _ _ _ _ _ [hold (obj T.C_Net ["input_count", "latches"] [val pInt input_count_0, own (oL (pT2 pInt pInt)) latches_0]) v0, val pInt input_count_0, val (pL (pT2 pInt pInt)) latches_0, val (pL (pT2 pInt pInt)) ands_0]
  refine go_newfld (pl_hold 0 (by repeat' (first | exact Stb.nil | exact trivial | exact stb_map (fun _ => trivial) _ | refine Stb.cons ?_ ?_))) (x_callTy (c_list _) T.g_list (by decide +kernel) (o_listL LV.val.sv) (xa1 (x_var 3))) T.at_Net_ands (by repeat' (first | exact Stb.nil | exact trivial | exact stb_map (fun _ => trivial) _ | refine Stb.cons ?_ ?_)) trivial ?_
  show Go _ _ _ _ _ [hold (obj T.C_Net ["input_count", "latches", "ands"] [val pInt input_count_0, own (oL (pT2 pInt pInt)) latches_0, own (oL (pT2 pInt pInt)) ands_0]) v0, val pInt input_count_0, val (pL (pT2 pInt pInt)) latches_0, val (pL (pT2 pInt pInt)) ands_0]
  cases hm
  exact go_nilM 0

theorem ok__law_cell (T : Txt P K mg) : FnOk P w K mg base CX0 1 T.f__law_cell T.d__law_cell ["script", "k"] (spP (fun (z : (List Int) × (Int)) => [val (pScr K) z.1, val pInt z.2]) (fun z => m__law_cell z.1 z.2) (fun r => val pInt r)) := by
  refine fn_pure T.F__law_cell sc__law_cell (fun _ => rfl) (fun cdv A outer s H E hr z r B hm => ?_)
  obtain ⟨script_0, k_0⟩ := z
  replace hm : m__law_cell script_0 k_0 = some r := hm
  unfold m__law_cell at hm
  show Go _ _ _ _ _ [val (pScr K) script_0, val pInt k_0, dead]
  refine go_set 2 x_int ?_
  show Go _ _ _ _ _ [val (pScr K) script_0, val pInt k_0, val pInt (0 : Int)]
  obtain ⟨cell_9, hj_13, hm⟩ := Option.bind_eq_some_iff.mp hm
  refine go_ifJ [val (pScr K) script_0, val pInt k_0, val pInt cell_9] (xt_cmp (fun _ => op_gt) o_bl (nomark _) (x_callB (c_len _) T.g_len (by decide +kernel) (o_lenL SV.scr) (xa1 (x_var 0))) x_int) (fun hz => ?_) (fun hz => ?_) ?_
  · have hm := condT hz hj_13
    obtain ⟨h_10, hm⟩ := guardO_some hm
    obtain ⟨v_11, h_12, hm⟩ := Option.bind_eq_some_iff.mp hm
    refine go_set 2 (x_callTy (fun _ => call_int1) T.g_int (by decide +kernel) o_intI (xa1 (x_ix (x_var 0) SV.scr (x_op (fun _ => op_mod) (o_intC h_10) (x_callTy (fun _ => call_int1) T.g_int (by decide +kernel) o_intI (xa1 (x_var 1))) (x_callB (c_len _) T.g_len (by decide +kernel) (o_lenL SV.scr) (xa1 (x_var 0)))) h_12))) ?_
    show Go _ _ _ _ _ [val (pScr K) script_0, val pInt k_0, val pInt v_11]
    cases hm
    exact go_nx (by repeat' (first | exact WkL.nil | exact WkS.refl | exact WkS.dead | exact WkS.list | exact WkS.dict | exact WkS.lstS (fun _ => WkS.list) | refine WkL.cons ?_ ?_))
  · have hm := condF hz hj_13
    cases hm
    exact go_nx (by repeat' (first | exact WkL.nil | exact WkS.refl | exact WkS.dead | exact WkS.list | exact WkS.dict | exact WkS.lstS (fun _ => WkS.list) | refine WkL.cons ?_ ?_))
  obtain ⟨cell_15, hj_18, hm⟩ := Option.bind_eq_some_iff.mp hm
  refine go_ifJ [val (pScr K) script_0, val pInt k_0, val pInt cell_15] (xt_cmp (fun _ => op_lt) o_bl (nomark _) (x_var 2) x_int) (fun hz => ?_) (fun hz => ?_) ?_
  · have hm := condT hz hj_18
    obtain ⟨cell_16, h_17, hm⟩ := letO_some hm
    refine go_set 2 (XV.eqV (x_op (fun _ => op_sub) o_int x_int (x_op (fun _ => op_mul) (o_intC (.inl (by decide))) x_int (x_var 2))) h_17) ?_
    show Go _ _ _ _ _ [val (pScr K) script_0, val pInt k_0, val pInt cell_16]
    cases hm
    exact go_nx (by repeat' (first | exact WkL.nil | exact WkS.refl | exact WkS.dead | exact WkS.list | exact WkS.dict | exact WkS.lstS (fun _ => WkS.list) | refine WkL.cons ?_ ?_))
  · have hm := condF hz hj_18
    cases hm
    exact go_nx (by repeat' (first | exact WkL.nil | exact WkS.refl | exact WkS.dead | exact WkS.list | exact WkS.dict | exact WkS.lstS (fun _ => WkS.list) | refine WkL.cons ?_ ?_))
  obtain ⟨cell_20, hj_25, hm⟩ := Option.bind_eq_some_iff.mp hm
  refine go_ifJ [val (pScr K) script_0, val pInt k_0, val pInt cell_20] (xw_pt (xw_or (xt_cmp (fun _ => op_ge) o_bl (nomark _) (x_var 1) (x_callB (c_len _) T.g_len (by decide +kernel) (o_lenL SV.scr) (xa1 (x_var 0)))) (fun _ => (xw_or1 (xt_cmp (fun _ => op_lt) o_bl (nomark _) (x_var 2) (x_op (fun _ => op_pow) (o_intC ⟨by decide, by decide, by decide⟩) x_int x_int)))) rfl)) (fun hz => ?_) (fun hz => ?_) ?_
  · have hm := condT hz hj_25
    obtain ⟨cell_21, h_22, hm⟩ := letO_some hm
    refine go_set 2 (XV.eqV (x_op (fun _ => op_mod) (o_intC (by decide)) (x_callTy (fun _ => call_int1) T.g_int (by decide +kernel) o_intI (xa1 (x_op (fun _ => op_mul) (o_intC (.inr (by decide))) (x_op (fun _ => op_add) o_int (x_op (fun _ => op_add) o_int (x_var 2) (x_op (fun _ => op_mul) (o_intC (.inl (by decide))) x_int (x_var 1))) x_int) x_int))) x_int) h_22) ?_
    show Go _ _ _ _ _ [val (pScr K) script_0, val pInt k_0, val pInt cell_21]
    obtain ⟨cell_23, h_24, hm⟩ := letO_some hm
    refine go_set 2 (XV.eqV (x_op (fun _ => op_mod) (o_intC (by decide)) (x_callTy (fun _ => call_int1) T.g_int (by decide +kernel) o_intI (xa1 (x_op (fun _ => op_mul) (o_intC (.inr (by decide))) (x_op (fun _ => op_add) o_int (x_op (fun _ => op_add) o_int (x_op (fun _ => op_fdiv) (o_intC ⟨by decide, by decide⟩) (x_var 2) x_int) (x_op (fun _ => op_mul) (o_intC (.inl (by decide))) x_int (x_var 1))) x_int) x_int))) x_int) h_24) ?_
    show Go _ _ _ _ _ [val (pScr K) script_0, val pInt k_0, val pInt cell_23]
    cases hm
    exact go_nx (by repeat' (first | exact WkL.nil | exact WkS.refl | exact WkS.dead | exact WkS.list | exact WkS.dict | exact WkS.lstS (fun _ => WkS.list) | refine WkL.cons ?_ ?_))
  · have hm := condF hz hj_25
    cases hm
    exact go_nx (by repeat' (first | exact WkL.nil | exact WkS.refl | exact WkS.dead | exact WkS.list | exact WkS.dict | exact WkS.lstS (fun _ => WkS.list) | refine WkL.cons ?_ ?_))
  cases hm
  exact go_ret (x_var 2) (fun v H h => h)

theorem ok__law_literal (T : Txt P K mg) : FnOk P w K mg base CX0 1 T.f__law_literal T.d__law_literal ["row", "first_and", "count"] (spP (fun (z : (Int) × (Int) × (Int)) => [val pInt z.1, val pInt z.2.1, val pInt z.2.2]) (fun z => m__law_literal z.1 z.2.1 z.2.2) (fun r => val pInt r)) := by
  refine fn_pure T.F__law_literal sc__law_literal (fun _ => rfl) (fun cdv A outer s H E hr z r B hm => ?_)
  obtain ⟨row_0, first_and_0, count_0⟩ := z
  replace hm : m__law_literal row_0 first_and_0 count_0 = some r := hm
  unfold m__law_literal at hm
  show Go _ _ _ _ _ [val pInt row_0, val pInt first_and_0, val pInt count_0, dead]
  obtain ⟨kind_27, h_28, hm⟩ := letO_some hm
  refine go_set 3 (XV.eqV (x_op (fun _ => op_mod) (o_intC (by decide)) (x_callTy (fun _ => call_int1) T.g_int (by decide +kernel) o_intI (xa1 (x_var 0))) x_int) h_28) ?_
  show Go _ _ _ _ _ [val pInt row_0, val pInt first_and_0, val pInt count_0, val pInt kind_27]
  obtain ⟨row_29, h_30, hm⟩ := letO_some hm
  refine go_set 0 (XV.eqV (x_op (fun _ => op_fdiv) (o_intC ⟨by decide, by decide⟩) (x_callTy (fun _ => call_int1) T.g_int (by decide +kernel) o_intI (xa1 (x_var 0))) x_int) h_30) ?_
  show Go _ _ _ _ _ [val pInt row_29, val pInt first_and_0, val pInt count_0, val pInt kind_27]
  refine go_if (xt_cmp (fun _ => op_eq) o_eqI (nomark _) (x_var 3) x_int) (fun hz => ?_) (fun hz => ?_)
  · have hm := condT hz hm
    obtain ⟨h_31, hm⟩ := guardO_some hm
    cases hm
    exact go_ret (x_op (fun _ => op_mod) (o_intC h_31) (x_var 0) (x_op (fun _ => op_mul) (o_intC (.inl (by decide))) x_int (x_var 2))) (fun v H h => h)
  · have hm := condF hz hm
    refine go_join ?_
    refine go_if (xt_cmp (fun _ => op_eq) o_eqI (nomark _) (x_var 3) x_int) (fun hz => ?_) (fun hz => ?_)
    · have hm := condT hz hm
      obtain ⟨h_32, hm⟩ := guardO_some hm
      cases hm
      exact go_ret (x_op (fun _ => op_mod) (o_intC h_32) (x_var 0) (x_op (fun _ => op_mul) (o_intC (.inl (by decide))) x_int (x_var 1))) (fun v H h => h)
    · have hm := condF hz hm
      refine go_join ?_
      obtain ⟨h_33, hm⟩ := guardO_some hm
      cases hm
      exact go_ret (x_op (fun _ => op_sub) o_int (x_op (fun _ => op_sub) o_int (x_op (fun _ => op_mul) (o_intC (.inl (by decide))) x_int (x_var 2)) x_int) (x_op (fun _ => op_mod) (o_intC h_33) (x_var 0) (x_callB (c_min2 _) T.g_min (by decide +kernel) o_min2 (xa2 (x_op (fun _ => op_mul) (o_intC (.inl (by decide))) x_int (x_var 2)) x_int)))) (fun v H h => h)

theorem ok__law_ladders (T : Txt P K mg) : FnOk P w K mg base CX0 1 T.f__law_ladders T.d__law_ladders ["heights"] (spP (fun (z : (List (Int))) => [val (pL pInt) z]) (fun z => m__law_ladders z) (fun r => val (pL (pT2 pInt pInt)) r)) := by
  refine fn_pure T.F__law_ladders sc__law_ladders (fun _ => rfl) (fun cdv A outer s H E hr heights_0 r B hm => ?_)
  replace hm : m__law_ladders heights_0 = some r := hm
  unfold m__law_ladders at hm
  show Go _ _ _ _ _ [val (pL pInt) heights_0, dead, dead, dead, dead, dead, dead, dead, dead, dead, dead]
  obtain ⟨first_and_34, h_35, hm⟩ := letO_some hm
  refine go_set 1 (XV.eqV (x_op (fun _ => op_add) o_int x_int (x_op (fun _ => op_mul) (o_intC (.inl (by decide))) x_int (x_callB (c_len _) T.g_len (by decide +kernel) (o_lenL LV.val.sv) (xa1 (x_var 0))))) h_35) ?_
  show Go _ _ _ _ _ [val (pL pInt) heights_0, val pInt first_and_34, dead, dead, dead, dead, dead, dead, dead, dead, dead]
  refine go_set 2 (x_lst (p := (pT2 pInt pInt)) (xs := []) xa_nil (Nat.zero_le _)) ?_
  show Go _ _ _ _ _ [val (pL pInt) heights_0, val pInt first_and_34, own (oL (pT2 pInt pInt)) ([] : List ((Int) × (Int))), dead, dead, dead, dead, dead, dead, dead, dead]
  refine go_set 3 (x_lst (p := pInt) (xs := []) xa_nil (Nat.zero_le _)) ?_
  show Go _ _ _ _ _ [val (pL pInt) heights_0, val pInt first_and_34, own (oL (pT2 pInt pInt)) ([] : List ((Int) × (Int))), own (oL pInt) ([] : List (Int)), dead, dead, dead, dead, dead, dead, dead]
  obtain ⟨h_37, hm⟩ := guardO_some hm
  refine go_forK (rs := val pInt) (fun s => [val (pL pInt) heights_0, val pInt first_and_34, own (oL (pT2 pInt pInt)) s.1, own (oL pInt) s.2, dead, dead, dead, dead, dead, dead, dead]) (fun r => val (pL (pT2 pInt pInt)) r) (xi_range1 T.g_range (x_callB (c_len _) T.g_len (by decide +kernel) (o_lenL LV.val.sv) (xa1 (x_var 0))) h_37) (by repeat' (first | exact WkL.nil | exact WkS.refl | exact WkS.dead | exact WkS.list | exact WkS.dict | exact WkS.lstS (fun _ => WkS.list) | refine WkL.cons ?_ ?_)) hm ?_ ?_ ?_
  · rintro B1 j_40 s out hx hm hr1 hl1
    obtain ⟨ands_38, tops_39⟩ := s
    refine ⟨_, _, (xg_name 4), ?_⟩
    show Go _ _ _ _ _ [val (pL pInt) heights_0, val pInt first_and_34, own (oL (pT2 pInt pInt)) ands_38, own (oL pInt) tops_39, val pInt j_40, dead, dead, dead, dead, dead, dead]
    obtain ⟨one_41, h_42, hm⟩ := letO_some hm
    refine go_set 5 (XV.eqV (x_op (fun _ => op_add) o_int x_int (x_op (fun _ => op_mul) (o_intC (.inl (by decide))) x_int (x_var 4))) h_42) ?_
    show Go _ _ _ _ _ [val (pL pInt) heights_0, val pInt first_and_34, own (oL (pT2 pInt pInt)) ands_38, own (oL pInt) tops_39, val pInt j_40, val pInt one_41, dead, dead, dead, dead, dead]
    obtain ⟨two_43, h_44, hm⟩ := letO_some hm
    refine go_set 6 (XV.eqV (x_op (fun _ => op_add) o_int x_int (x_op (fun _ => op_mul) (o_intC (.inl (by decide))) x_int (x_var 4))) h_44) ?_
    show Go _ _ _ _ _ [val (pL pInt) heights_0, val pInt first_and_34, own (oL (pT2 pInt pInt)) ands_38, own (oL pInt) tops_39, val pInt j_40, val pInt one_41, val pInt two_43, dead, dead, dead, dead]
    obtain ⟨v_45, h_46, hm⟩ := Option.bind_eq_some_iff.mp hm
    obtain ⟨h_48, hm⟩ := guardO_some hm
    refine go_forK (rs := val pInt) (fun s => [val (pL pInt) heights_0, val pInt first_and_34, own (oL (pT2 pInt pInt)) s.1, own (oL pInt) tops_39, val pInt j_40, val pInt s.2.1, val pInt s.2.2, dead, dead, dead, dead]) (fun r => val (pL (pT2 pInt pInt)) r) (xi_range1 T.g_range (x_ix (x_var 0) LV.val.sv (x_var 4) h_46) h_48) (by repeat' (first | exact WkL.nil | exact WkS.refl | exact WkS.dead | exact WkS.list | exact WkS.dict | exact WkS.lstS (fun _ => WkS.list) | refine WkL.cons ?_ ?_)) hm ?_ ?_ ?_
    · rintro B1 _law_turn_52 s out hx hm hr2 hl2
      obtain ⟨ands_49, one_50, two_51⟩ := s
      refine ⟨_, _, (xg_name 7), ?_⟩
      show Go _ _ _ _ _ [val (pL pInt) heights_0, val pInt first_and_34, own (oL (pT2 pInt pInt)) ands_49, own (oL pInt) tops_39, val pInt j_40, val pInt one_50, val pInt two_51, val pInt _law_turn_52, dead, dead, dead]
      obtain ⟨higher_53, h_54, hm⟩ := letO_some hm
      refine go_set 8 (XV.eqV (x_op (fun _ => op_mul) (o_intC (.inl (by decide))) x_int (x_op (fun _ => op_add) o_int (x_var 1) (x_callB (c_len _) T.g_len (by decide +kernel) (o_lenL LV.bor.sv) (xa1 (x_varL 2))))) h_54) ?_
      show Go _ _ _ _ _ [val (pL pInt) heights_0, val pInt first_and_34, own (oL (pT2 pInt pInt)) ands_49, own (oL pInt) tops_39, val pInt j_40, val pInt one_50, val pInt two_51, val pInt _law_turn_52, val pInt higher_53, dead, dead]
      obtain ⟨h_55, hm⟩ := guardO_some hm
      obtain ⟨ands_56, h_57, hm⟩ := letO_some hm
      refine go_set 2 (XV.eqO (x_op (fun _ => op_cat) (o_cat LV.bor LV.own h_55) (x_varL 2) (x_lst (xs := [(one_50, two_51), ((Builtin.bitXor one_50 (1 : Int)), two_51)]) (xa_cons (x_tup2 (xa_cons (x_var 5) (xa_cons (x_var 6) xa_nil))) (xa_cons (x_tup2 (xa_cons (x_op (fun _ => op_xor) (o_int (g := Builtin.bitXor)) (x_var 5) x_int) (xa_cons (x_var 6) xa_nil))) xa_nil)) (le_line rfl))) h_57) ?_
      show Go _ _ _ _ _ [val (pL pInt) heights_0, val pInt first_and_34, own (oL (pT2 pInt pInt)) ands_56, own (oL pInt) tops_39, val pInt j_40, val pInt one_50, val pInt two_51, val pInt _law_turn_52, val pInt higher_53, dead, dead]
      refine go_set 5 (x_var 8) ?_
      show Go _ _ _ _ _ [val (pL pInt) heights_0, val pInt first_and_34, own (oL (pT2 pInt pInt)) ands_56, own (oL pInt) tops_39, val pInt j_40, val pInt higher_53, val pInt two_51, val pInt _law_turn_52, val pInt higher_53, dead, dead]
      obtain ⟨two_58, h_59, hm⟩ := letO_some hm
      refine go_set 6 (XV.eqV (x_op (fun _ => op_add) o_int (x_var 8) x_int) h_59) ?_
      show Go _ _ _ _ _ [val (pL pInt) heights_0, val pInt first_and_34, own (oL (pT2 pInt pInt)) ands_56, own (oL pInt) tops_39, val pInt j_40, val pInt higher_53, val pInt two_58, val pInt _law_turn_52, val pInt higher_53, dead, dead]
      cases hm
      exact go_nil (fun σ H h => ⟨_, rfl, h.wk (by repeat' (first | exact WkL.nil | exact WkS.refl | exact WkS.dead | exact WkS.list | exact WkS.dict | exact WkS.lstS (fun _ => WkS.list) | refine WkL.cons ?_ ?_))⟩)
    · rintro s hm
      obtain ⟨ands_49, one_50, two_51⟩ := s
      show Go _ _ _ _ _ [val (pL pInt) heights_0, val pInt first_and_34, own (oL (pT2 pInt pInt)) ands_49, own (oL pInt) tops_39, val pInt j_40, val pInt one_50, val pInt two_51, dead, dead, dead, dead]
      obtain ⟨h_60, hm⟩ := guardO_some hm
      refine go_append (pl_name 3 (by repeat' (first | exact Stb.nil | exact trivial | exact stb_map (fun _ => trivial) _ | refine Stb.cons ?_ ?_)) (hso := own_some)) (x_op (fun _ => op_mul) (o_intC (.inl (by decide))) x_int (x_op (fun _ => op_add) o_int (x_var 1) (x_callB (c_len _) T.g_len (by decide +kernel) (o_lenL LV.bor.sv) (xa1 (x_varL 2))))) h_60 ?_
      show Go _ _ _ _ _ [val (pL pInt) heights_0, val pInt first_and_34, own (oL (pT2 pInt pInt)) ands_49, own (oL pInt) (tops_39 ++ [((2 : Int) * (first_and_34 + ((ands_49).length : Int)))]), val pInt j_40, val pInt one_50, val pInt two_51, dead, dead, dead, dead]
      obtain ⟨h_61, hm⟩ := guardO_some hm
      refine go_append (pl_name 2 (by repeat' (first | exact Stb.nil | exact trivial | exact stb_map (fun _ => trivial) _ | refine Stb.cons ?_ ?_)) (hso := own_some)) (x_tup2 (xa_cons (x_var 5) (xa_cons (x_var 6) xa_nil))) h_61 ?_
      show Go _ _ _ _ _ [val (pL pInt) heights_0, val pInt first_and_34, own (oL (pT2 pInt pInt)) (ands_49 ++ [(one_50, two_51)]), own (oL pInt) (tops_39 ++ [((2 : Int) * (first_and_34 + ((ands_49).length : Int)))]), val pInt j_40, val pInt one_50, val pInt two_51, dead, dead, dead, dead]
      cases hm
      exact go_nil (fun σ H h => ⟨_, rfl, h.wk (by repeat' (first | exact WkL.nil | exact WkS.refl | exact WkS.dead | exact WkS.list | exact WkS.dict | exact WkS.lstS (fun _ => WkS.list) | refine WkL.cons ?_ ?_))⟩)
    · rintro r hm v H h
      cases hm
  · rintro s hm
    obtain ⟨ands_38, tops_39⟩ := s
    show Go _ _ _ _ _ [val (pL pInt) heights_0, val pInt first_and_34, own (oL (pT2 pInt pInt)) ands_38, own (oL pInt) tops_39, dead, dead, dead, dead, dead, dead, dead]
    obtain ⟨v_62, h_63, hm⟩ := Option.bind_eq_some_iff.mp hm
    refine go_set 9 (x_ix (x_varL 3) LV.bor.sv x_int h_63) ?_
    show Go _ _ _ _ _ [val (pL pInt) heights_0, val pInt first_and_34, own (oL (pT2 pInt pInt)) ands_38, own (oL pInt) tops_39, dead, dead, dead, dead, dead, val pInt v_62, dead]
    refine go_forK (rs := val pInt) (fun s => [val (pL pInt) heights_0, val pInt first_and_34, own (oL (pT2 pInt pInt)) s.1, own (oL pInt) tops_39, dead, dead, dead, dead, dead, val pInt s.2, dead]) (fun r => val (pL (pT2 pInt pInt)) r) (xi_list (XV.frz (x_slc (x_varL 3) LV.bor.sv (xo_some x_int) xo_none))) (by repeat' (first | exact WkL.nil | exact WkS.refl | exact WkS.dead | exact WkS.list | exact WkS.dict | exact WkS.lstS (fun _ => WkS.list) | refine WkL.cons ?_ ?_)) hm ?_ ?_ ?_
    · rintro B1 top_66 s out hx hm hr1 hl1
      obtain ⟨ands_64, last_65⟩ := s
      refine ⟨_, _, (xg_name 10), ?_⟩
      show Go _ _ _ _ _ [val (pL pInt) heights_0, val pInt first_and_34, own (oL (pT2 pInt pInt)) ands_64, own (oL pInt) tops_39, dead, dead, dead, dead, dead, val pInt last_65, val pInt top_66]
      obtain ⟨h_67, hm⟩ := guardO_some hm
      refine go_append (pl_name 2 (by repeat' (first | exact Stb.nil | exact trivial | exact stb_map (fun _ => trivial) _ | refine Stb.cons ?_ ?_)) (hso := own_some)) (x_tup2 (xa_cons (x_var 9) (xa_cons (x_var 10) xa_nil))) h_67 ?_
      show Go _ _ _ _ _ [val (pL pInt) heights_0, val pInt first_and_34, own (oL (pT2 pInt pInt)) (ands_64 ++ [(last_65, top_66)]), own (oL pInt) tops_39, dead, dead, dead, dead, dead, val pInt last_65, val pInt top_66]
      obtain ⟨last_68, h_69, hm⟩ := letO_some hm
      refine go_set 9 (XV.eqV (x_op (fun _ => op_mul) (o_intC (.inl (by decide))) x_int (x_op (fun _ => op_sub) o_int (x_op (fun _ => op_add) o_int (x_var 1) (x_callB (c_len _) T.g_len (by decide +kernel) (o_lenL LV.bor.sv) (xa1 (x_varL 2)))) x_int)) h_69) ?_
      show Go _ _ _ _ _ [val (pL pInt) heights_0, val pInt first_and_34, own (oL (pT2 pInt pInt)) (ands_64 ++ [(last_65, top_66)]), own (oL pInt) tops_39, dead, dead, dead, dead, dead, val pInt last_68, val pInt top_66]
      cases hm
      exact go_nil (fun σ H h => ⟨_, rfl, h.wk (by repeat' (first | exact WkL.nil | exact WkS.refl | exact WkS.dead | exact WkS.list | exact WkS.dict | exact WkS.lstS (fun _ => WkS.list) | refine WkL.cons ?_ ?_))⟩)
    · rintro s hm
      obtain ⟨ands_64, last_65⟩ := s
      show Go _ _ _ _ _ [val (pL pInt) heights_0, val pInt first_and_34, own (oL (pT2 pInt pInt)) ands_64, own (oL pInt) tops_39, dead, dead, dead, dead, dead, val pInt last_65, dead]
      refine go_wk (Γ' := [val (pL pInt) heights_0, val pInt first_and_34, val (pL (pT2 pInt pInt)) ands_64, own (oL pInt) tops_39, dead, dead, dead, dead, dead, val pInt last_65, dead]) ?_ (WkL.at (j := 2) WkS.list rfl)
      cases hm
      exact go_ret (x_var 2) (fun v H h => h)
    · rintro r hm v H h
      cases hm
  · rintro r hm v H h
    cases hm

theorem ok_Net_first_and (T : Txt P K mg) : FnOk P w K mg base CX0 1 T.f_Net_first_and T.d_Net_first_and ["self"] (spP (fun (z : (S_Net)) => [val (pObj T.C_Net ns_Net sl_Net) z]) (fun z => m_Net_first_and z) (fun r => val pInt r)) := by
  refine fn_pure T.F_Net_first_and sc_Net_first_and (fun _ => rfl) (fun cdv A outer s H E hr self_0 r B hm => ?_)
  replace hm : m_Net_first_and self_0 = some r := hm
  unfold m_Net_first_and at hm
  show Go _ _ _ _ _ [val (pObj T.C_Net ns_Net sl_Net) self_0]
  cases hm
  exact go_ret (x_op (fun _ => op_add) o_int (x_op (fun _ => op_add) o_int x_int (x_fld 0 (x_var 0) OV.val T.at_Net_input_count)) (x_callB (c_len _) T.g_len (by decide +kernel) (o_lenL LV.val.sv) (xa1 (x_fld 1 (x_var 0) OV.val T.at_Net_latches)))) (fun v H h => h)

theorem ok_contains_other (T : Txt P K mg) : FnOk P w K mg base CX0 1 T.f_contains_other T.d_contains_other ["cut", "others"] (spP (fun (z : (List (Int)) × (List (List (Int)))) => [val (pTup pInt) z.1, val (pL (pTup pInt)) z.2]) (fun z => m_contains_other z.1 z.2) (fun r => val pBl r)) := by
  refine fn_pure T.F_contains_other sc_contains_other (fun _ => rfl) (fun cdv A outer s H E hr z r B hm => ?_)
  obtain ⟨cut_0, others_0⟩ := z
  replace hm : m_contains_other cut_0 others_0 = some r := hm
  unfold m_contains_other at hm
  show Go _ _ _ _ _ [val (pTup pInt) cut_0, val (pL (pTup pInt)) others_0, dead, dead]
  refine go_forK (rs := val (pTup pInt)) (fun s => [val (pTup pInt) cut_0, val (pL (pTup pInt)) others_0, dead, dead]) (fun r => val pBl r) (xi_list (x_var 1)) (by repeat' (first | exact WkL.nil | exact WkS.refl | exact WkS.dead | exact WkS.list | exact WkS.dict | exact WkS.lstS (fun _ => WkS.list) | refine WkL.cons ?_ ?_)) hm ?_ ?_ ?_
  · rintro B1 other_70 s out hx hm hr1 hl1
    refine ⟨_, _, (xg_name 2), ?_⟩
    show Go _ _ _ _ _ [val (pTup pInt) cut_0, val (pL (pTup pInt)) others_0, val (pTup pInt) other_70, dead]
    obtain ⟨h_74, hm⟩ := guardO_some hm
    obtain ⟨ys_71, h_72, hm⟩ := Option.bind_eq_some_iff.mp hm
    refine go_if (xt_cmp (c_eqD _) (o_eqD (DE.list DE.int) (by decide) (LV.vw LV.own) (LV.vw LV.own) (fun _ _ => trivial) (fun _ _ => trivial)) (nomark _) (x_lc (rs := val pInt) (own := [("node", 3)]) (xi_tup (x_var 2)).ro ⟨fun _ => blkOk_by (N := N_contains_other) (sc := defScope s_contains_other) (by decide +kernel), fun _ _ => rfl⟩ h_74 h_72 ⟨rfl, trivial⟩ (fun node_73 o hx hm => by skip; refine ⟨_, _, rfl, (xg_name 3), lc_if (xt_cmp (c_nin _) (o_ninT Eqv.int TV.val) (by with_unfolding_all rfl) (x_var 3) (x_var 0)) hm (fun hm => ?_)⟩; skip; cases hm; exact ⟨_, rfl, (x_var 3)⟩)) (x_lst (xs := []) xa_nil (Nat.zero_le _))) (fun hz => ?_) (fun hz => ?_)
    · have hm := condT hz hm
      cases hm
      exact go_ret x_bl (fun v H h => ⟨_, rfl, h⟩)
    · have hm := condF hz hm
      refine go_join ?_
      cases hm
      exact go_nil (fun σ H h => ⟨_, rfl, h.wk (by repeat' (first | exact WkL.nil | exact WkS.refl | exact WkS.dead | exact WkS.list | exact WkS.dict | exact WkS.lstS (fun _ => WkS.list) | refine WkL.cons ?_ ?_))⟩)
  · rintro s hm
    show Go _ _ _ _ _ [val (pTup pInt) cut_0, val (pL (pTup pInt)) others_0, dead, dead]
    cases hm
    exact go_ret x_bl (fun v H h => h)
  · rintro r hm v H h
    cases hm
    first | exact h | exact ⟨_, rfl, h⟩ | exact (no_noS h).elim

theorem ok_united (T : Txt P K mg) {Pt : Addr} (TB : TabB base mg T.ct Pt) : FnOk P w K mg base CX0 4 T.f_united T.d_united ["first", "second", "size"] (spPT Pt tq (fun (z : (List (List (Int))) × (List (List (Int))) × (Int)) => [val (pL (pTup pInt)) z.1, val (pL (pTup pInt)) z.2.1, val pInt z.2.2]) (fun z => m_united z.1 z.2.1 z.2.2) (fun r => own (oL (pTup pInt)) r)) := by
  refine fn_pureTC (Pt := Pt) (tq := tq) 5 T.FC_united sc_united (fun _ => rfl) rfl (fun A outer s H E hr z r B hm => ?_)
  obtain ⟨first_0, second_0, size_0⟩ := z
  replace hm : m_united first_0 second_0 size_0 = some r := hm
  unfold m_united at hm
  show Go _ _ _ _ _ [val (pL (pTup pInt)) first_0, val (pL (pTup pInt)) second_0, val pInt size_0, dead, dead, dead, dead, dead, gT Pt tq]
  refine go_set 3 (x_nnew (p := pBl)) ?_
  show Go _ _ _ _ _ [val (pL (pTup pInt)) first_0, val (pL (pTup pInt)) second_0, val pInt size_0, own (oN P w pBl) ([] : List (NestedKey × (Bool))), dead, dead, dead, dead, gT Pt tq]
  refine go_forK (rs := val (pTup pInt)) (fun s => [val (pL (pTup pInt)) first_0, val (pL (pTup pInt)) second_0, val pInt size_0, own (oN P w pBl) s, dead, dead, dead, dead, gT Pt tq]) (fun r => (tabS Pt tq (own (oL (pTup pInt)) r))) (xi_list (x_var 0)) (by repeat' (first | exact WkL.nil | exact WkS.refl | exact WkS.dead | exact WkS.list | exact WkS.dict | exact WkS.lstS (fun _ => WkS.list) | refine WkL.cons ?_ ?_)) hm ?_ ?_ ?_
  · rintro B1 one_76 unions_75 out hx hm hr1 hl1
    refine ⟨_, _, (xg_name 4), ?_⟩
    show Go _ _ _ _ _ [val (pL (pTup pInt)) first_0, val (pL (pTup pInt)) second_0, val pInt size_0, own (oN P w pBl) unions_75, val (pTup pInt) one_76, dead, dead, dead, gT Pt tq]
    refine go_forK (rs := val (pTup pInt)) (fun s => [val (pL (pTup pInt)) first_0, val (pL (pTup pInt)) second_0, val pInt size_0, own (oN P w pBl) s, val (pTup pInt) one_76, dead, dead, dead, gT Pt tq]) (fun r => (tabS Pt tq (own (oL (pTup pInt)) r))) (xi_list (x_var 1)) (by repeat' (first | exact WkL.nil | exact WkS.refl | exact WkS.dead | exact WkS.list | exact WkS.dict | exact WkS.lstS (fun _ => WkS.list) | refine WkL.cons ?_ ?_)) hm ?_ ?_ ?_
    · rintro B1 two_78 unions_77 out hx hm hr2 hl2
      refine ⟨_, _, (xg_name 5), ?_⟩
      show Go _ _ _ _ _ [val (pL (pTup pInt)) first_0, val (pL (pTup pInt)) second_0, val pInt size_0, own (oN P w pBl) unions_77, val (pTup pInt) one_76, val (pTup pInt) two_78, dead, dead, gT Pt tq]
      obtain ⟨h_79, hm⟩ := guardO_some hm
      obtain ⟨h_80, hm⟩ := guardO_some hm
      obtain ⟨union_81, h_82, hm⟩ := letO_some hm
      refine go_set 6 (XV.eqV (x_callTy (c_tup _) T.g_tuple (by decide +kernel) (o_tupL LV.own.sv) (xa1 (x_callB (c_sortSet _) T.g_sorted (by decide +kernel) o_sortSet (xa1 (x_callTy (c_setSq _) T.g_set (by decide +kernel) (o_setSq h_80) (xa1 (XV.sqT (x_op (op_catT _) (o_catT h_79) (x_var 4) (x_var 5))))))))) h_82) ?_
      show Go _ _ _ _ _ [val (pL (pTup pInt)) first_0, val (pL (pTup pInt)) second_0, val pInt size_0, own (oN P w pBl) unions_77, val (pTup pInt) one_76, val (pTup pInt) two_78, val (pTup pInt) union_81, dead, gT Pt tq]
      obtain ⟨unions_83, hj_85, hm⟩ := Option.bind_eq_some_iff.mp hm
      refine go_ifJ [val (pL (pTup pInt)) first_0, val (pL (pTup pInt)) second_0, val pInt size_0, own (oN P w pBl) unions_83, val (pTup pInt) one_76, val (pTup pInt) two_78, val (pTup pInt) union_81, dead, gT Pt tq] (xt_cmp (fun _ => op_le) o_bl (nomark _) (x_callB (c_len _) T.g_len (by decide +kernel) (o_lenT TV.val) (xa1 (x_var 6))) (x_var 2)) (fun hz => ?_) (fun hz => ?_) ?_
      · have hm := condT hz hj_85
        obtain ⟨h_84, hm⟩ := guardO_some hm
        refine go_nput (pl_name 3 (by repeat' (first | exact Stb.nil | exact trivial | exact stb_map (fun _ => trivial) _ | refine Stb.cons ?_ ?_)) (hso := own_some)) (XV.nkT NE.int (by decide) (x_var 6)) x_bl h_84 ?_
        show Go _ _ _ _ _ [val (pL (pTup pInt)) first_0, val (pL (pTup pInt)) second_0, val pInt size_0, own (oN P w pBl) (dput unions_77 ((NE.tup NE.int).enc union_81) true), val (pTup pInt) one_76, val (pTup pInt) two_78, val (pTup pInt) union_81, dead, gT Pt tq]
        cases hm
        exact go_nx (by repeat' (first | exact WkL.nil | exact WkS.refl | exact WkS.dead | exact WkS.list | exact WkS.dict | exact WkS.lstS (fun _ => WkS.list) | refine WkL.cons ?_ ?_))
      · have hm := condF hz hj_85
        cases hm
        exact go_nx (by repeat' (first | exact WkL.nil | exact WkS.refl | exact WkS.dead | exact WkS.list | exact WkS.dict | exact WkS.lstS (fun _ => WkS.list) | refine WkL.cons ?_ ?_))
      cases hm
      exact go_nil (fun σ H h => ⟨_, rfl, h.wk (by repeat' (first | exact WkL.nil | exact WkS.refl | exact WkS.dead | exact WkS.list | exact WkS.dict | exact WkS.lstS (fun _ => WkS.list) | refine WkL.cons ?_ ?_))⟩)
    · rintro unions_77 hm
      show Go _ _ _ _ _ [val (pL (pTup pInt)) first_0, val (pL (pTup pInt)) second_0, val pInt size_0, own (oN P w pBl) unions_77, val (pTup pInt) one_76, dead, dead, dead, gT Pt tq]
      cases hm
      exact go_nil (fun σ H h => ⟨_, rfl, h.wk (by repeat' (first | exact WkL.nil | exact WkS.refl | exact WkS.dead | exact WkS.list | exact WkS.dict | exact WkS.lstS (fun _ => WkS.list) | refine WkL.cons ?_ ?_))⟩)
    · rintro r hm v H h
      cases hm
  · rintro unions_75 hm
    show Go _ _ _ _ _ [val (pL (pTup pInt)) first_0, val (pL (pTup pInt)) second_0, val pInt size_0, own (oN P w pBl) unions_75, dead, dead, dead, dead, gT Pt tq]
    refine go_set 7 (x_lst (p := (pTup pInt)) (xs := []) xa_nil (Nat.zero_le _)) ?_
    show Go _ _ _ _ _ [val (pL (pTup pInt)) first_0, val (pL (pTup pInt)) second_0, val pInt size_0, own (oN P w pBl) unions_75, dead, dead, dead, own (oL (pTup pInt)) ([] : List (List (Int))), gT Pt tq]
    obtain ⟨ks_87, h_88, hm⟩ := Option.bind_eq_some_iff.mp hm
    refine go_forKM (rs := val (pTup pInt)) (fun s => [val (pL (pTup pInt)) first_0, val (pL (pTup pInt)) second_0, val pInt size_0, own (oN P w pBl) unions_75, dead, dead, dead, own (oL (pTup pInt)) s, gT Pt tq]) (fun r => (tabS Pt tq (own (oL (pTup pInt)) r))) (xim_list (XM.wk (xm_sortlam (pv := (pTup pInt)) (qv := (pT2 pInt (pTup pInt))) (fun (n_89 : List (Int)) => (((n_89).length : Int), n_89)) encP 8 T.g_sorted (x_callTy (c_listN _) T.g_list (by decide +kernel) (o_listN h_88) (xa1 (x_varN 3))) LV.own.sv TB (by repeat' (first | exact Stb.nil | exact trivial | exact stb_map (fun _ => trivial) _ | refine Stb.cons ?_ ?_)) (fun F v x r => (DE.t2 DE.int (DE.tup DE.int)).dp K F v x r) alike_encP (fun x => ⟨_, _, rfl⟩) (fun x => Nat.le_trans (depth_encP x) (by decide)) (fun _ => by show ("cut" : Str) ∉ N_united; decide +kernel) (fun n_89 hn => (x_tup2 (xa_cons (x_callB (c_len _) T.g_len (by decide +kernel) (o_lenT TV.val) (xa1 (x_var 9))) (xa_cons (x_var 9) xa_nil)))) (by decide) (L := fun _ => lamS1_by (by show lamS1B (defScope s_united) _ _ = true; decide +kernel))) WkS.list)) (by repeat' (first | exact WkL.nil | exact WkS.refl | exact WkS.dead | exact WkS.list | exact WkS.dict | exact WkS.lstS (fun _ => WkS.list) | refine WkL.cons ?_ ?_)) hm ?_ ?_ ?_
    · rintro B1 union_91 kept_90 out hx hm hr1 hl1
      refine ⟨_, _, (xg_name 6), ?_⟩
      show Go _ _ _ _ _ [val (pL (pTup pInt)) first_0, val (pL (pTup pInt)) second_0, val pInt size_0, own (oN P w pBl) unions_75, dead, dead, val (pTup pInt) union_91, own (oL (pTup pInt)) kept_90, gT Pt tq]
      obtain ⟨r_92, h_93, hm⟩ := Option.bind_eq_some_iff.mp hm
      obtain ⟨kept_94, hj_96, hm⟩ := Option.bind_eq_some_iff.mp hm
      refine go_ifJ [val (pL (pTup pInt)) first_0, val (pL (pTup pInt)) second_0, val pInt size_0, own (oN P w pBl) unions_75, dead, dead, val (pTup pInt) union_91, own (oL (pTup pInt)) kept_94, gT Pt tq] (xt_not (xt_val (x_callF (z := (union_91, kept_90)) (ok_contains_other T) Flat.bl (by decide) T.g_contains_other T.k_contains_other T.b_contains_other (xa_cons (x_var 6) (xa_cons (x_varL 7) xa_nil)) (AV.to (.cons Vw.val (.cons (LV.vw LV.bor) .nil))) (by repeat' (first | exact trivial | refine ⟨no_val, ?_⟩ | refine ⟨no_borL, ?_⟩ | refine ⟨no_bor, ?_⟩)) h_93)) rfl) (fun hz => ?_) (fun hz => ?_) ?_
      · have hm := condT hz hj_96
        obtain ⟨h_95, hm⟩ := guardO_some hm
        refine go_append (pl_name 7 (by repeat' (first | exact Stb.nil | exact trivial | exact stb_map (fun _ => trivial) _ | refine Stb.cons ?_ ?_)) (hso := own_some)) (x_var 6) h_95 ?_
        show Go _ _ _ _ _ [val (pL (pTup pInt)) first_0, val (pL (pTup pInt)) second_0, val pInt size_0, own (oN P w pBl) unions_75, dead, dead, val (pTup pInt) union_91, own (oL (pTup pInt)) (kept_90 ++ [union_91]), gT Pt tq]
        cases hm
        exact go_nx (by repeat' (first | exact WkL.nil | exact WkS.refl | exact WkS.dead | exact WkS.list | exact WkS.dict | exact WkS.lstS (fun _ => WkS.list) | refine WkL.cons ?_ ?_))
      · have hm := condF hz hj_96
        cases hm
        exact go_nx (by repeat' (first | exact WkL.nil | exact WkS.refl | exact WkS.dead | exact WkS.list | exact WkS.dict | exact WkS.lstS (fun _ => WkS.list) | refine WkL.cons ?_ ?_))
      cases hm
      exact go_nil (fun σ H h => ⟨_, rfl, h.wk (by repeat' (first | exact WkL.nil | exact WkS.refl | exact WkS.dead | exact WkS.list | exact WkS.dict | exact WkS.lstS (fun _ => WkS.list) | refine WkL.cons ?_ ?_))⟩)
    · rintro kept_90 hm
      show Go _ _ _ _ _ [val (pL (pTup pInt)) first_0, val (pL (pTup pInt)) second_0, val pInt size_0, own (oN P w pBl) unions_75, dead, dead, dead, own (oL (pTup pInt)) kept_90, gT Pt tq]
      cases hm
      exact go_retMT 8 (x_move 7 rfl own_some (by repeat' (first | exact Stb.nil | exact trivial | exact stb_map (fun _ => trivial) _ | refine Stb.cons ?_ ?_))) (fun v H h => h)
    · rintro r hm v H h
      cases hm
  · rintro r hm v H h
    cases hm

theorem ok_cuts_of (T : Txt P K mg) {Pt : Addr} (TB : TabB base mg T.ct Pt) : FnOk P w K mg base (L2.CX P w) 5 T.f_cuts_of T.d_cuts_of ["net", "size"] (spXT Pt tq (fun (z : (S_Net) × (Int)) => [val (pObj T.C_Net ns_Net sl_Net) z.1, val pInt z.2]) (fun z => m_cuts_of z.1 z.2) (fun r => own (oL (pL (pTup pInt))) r) (exT T)) := by
  refine fn_pureXTF (Pt := Pt) (tq := tq) 7 T.F_cuts_of sc_cuts_of (fun _ => rfl) rfl (fun cdv A outer s H E hr z r B hm hW => ?_)
  obtain ⟨net_0, size_0⟩ := z
  replace hm : m_cuts_of net_0 size_0 = some r := hm
  unfold m_cuts_of at hm
  show Go _ _ _ _ _ [val (pObj T.C_Net ns_Net sl_Net) net_0, val pInt size_0, dead, dead, dead, dead, dead, dead, dead, gT Pt tq]
  refine go_if (xt_not (xt_chain (fun _ => op_le) (fun _ => op_le) o_bl (fun _ => o_bl) rfl x_int (x_var 1) (fun _ => (x_glob (v := .int 6) T.g_MOST_SIZE ⟨_, rfl⟩ (fun _ => rfl)))) rfl) (fun hz => ?_) (fun hz => ?_)
  · have hm := condT hz hm
    cases hm
    exact go_raise (EX := exT T) (xm_own PySem.F.excBase_ValueError T.xq_InvalidCount T.g_InvalidCount T.xk_InvalidCount T.xs_InvalidCount T.xt_InvalidCount (fun _ => exT_mk_InvalidCount T)) (hW _ rfl _ 9 (by rfl))
  · have hm := condF hz hm
    refine go_join ?_
    refine go_set 2 (x_lst (xs := [[([] : List Int)]]) (xa_cons (XV.frz (x_lst (xs := [([] : List Int)]) (xa_cons (x_tupN (p := pInt) (xs := []) xa_nil (Nat.zero_le _)) xa_nil) (le_line rfl))) xa_nil) (le_line rfl)) ?_
    show Go _ _ _ _ _ [val (pObj T.C_Net ns_Net sl_Net) net_0, val pInt size_0, own (oL (pL (pTup pInt))) ([[([] : List Int)]]), dead, dead, dead, dead, dead, dead, gT Pt tq]
    obtain ⟨r_98, h_99, hm⟩ := Option.bind_eq_some_iff.mp hm
    obtain ⟨h_100, hm⟩ := guardO_some hm
    refine go_forK (rs := val pInt) (fun s => [val (pObj T.C_Net ns_Net sl_Net) net_0, val pInt size_0, own (oL (pL (pTup pInt))) s, dead, dead, dead, dead, dead, dead, gT Pt tq]) (fun r => (tabS Pt tq ((slRx (fun r => own (oL (pL (pTup pInt))) r) r)))) (xi_range2 T.g_range x_int (x_prop (z := net_0) (ok_Net_first_and T) (by decide) T.cl_Net T.pr_Net_first_and T.b_Net_first_and (x_var 0) pObj_ref h_99) h_100) (by repeat' (first | exact WkL.nil | exact WkS.refl | exact WkS.dead | exact WkS.list | exact WkS.dict | exact WkS.lstS (fun _ => WkS.list) | refine WkL.cons ?_ ?_)) hm ?_ ?_ ?_
    · rintro B1 node_102 known_101 out hx hm hr1 hl1
      refine ⟨_, _, (xg_name 3), ?_⟩
      show Go _ _ _ _ _ [val (pObj T.C_Net ns_Net sl_Net) net_0, val pInt size_0, own (oL (pL (pTup pInt))) known_101, val pInt node_102, dead, dead, dead, dead, dead, gT Pt tq]
      obtain ⟨h_103, hm⟩ := guardO_some hm
      refine go_append (pl_name 2 (by repeat' (first | exact Stb.nil | exact trivial | exact stb_map (fun _ => trivial) _ | refine Stb.cons ?_ ?_)) (hso := own_some)) (XV.frz (x_lst (xs := [[node_102]]) (xa_cons (x_tupN (xs := [node_102]) (xa_cons (x_var 3) xa_nil) (le_line rfl)) xa_nil) (le_line rfl))) h_103 ?_
      show Go _ _ _ _ _ [val (pObj T.C_Net ns_Net sl_Net) net_0, val pInt size_0, own (oL (pL (pTup pInt))) (known_101 ++ [[[node_102]]]), val pInt node_102, dead, dead, dead, dead, dead, gT Pt tq]
      cases hm
      exact go_nil (fun σ H h => ⟨_, rfl, h.wk (by repeat' (first | exact WkL.nil | exact WkS.refl | exact WkS.dead | exact WkS.list | exact WkS.dict | exact WkS.lstS (fun _ => WkS.list) | refine WkL.cons ?_ ?_))⟩)
    · rintro known_101 hm
      show Go _ _ _ _ _ [val (pObj T.C_Net ns_Net sl_Net) net_0, val pInt size_0, own (oL (pL (pTup pInt))) known_101, dead, dead, dead, dead, dead, dead, gT Pt tq]
      refine go_set 4 (x_lst (p := (pL (pTup pInt))) (xs := []) xa_nil (Nat.zero_le _)) ?_
      show Go _ _ _ _ _ [val (pObj T.C_Net ns_Net sl_Net) net_0, val pInt size_0, own (oL (pL (pTup pInt))) known_101, dead, own (oL (pL (pTup pInt))) ([] : List (List (List (Int)))), dead, dead, dead, dead, gT Pt tq]
      refine go_forK (rs := val (pT2 pInt (pT2 pInt pInt))) (fun s => [val (pObj T.C_Net ns_Net sl_Net) net_0, val pInt size_0, own (oL (pL (pTup pInt))) s.1, dead, own (oL (pL (pTup pInt))) s.2, dead, dead, dead, dead, gT Pt tq]) (fun r => (tabS Pt tq ((slRx (fun r => own (oL (pL (pTup pInt))) r) r)))) (xi_enum' T.g_enumerate (x_fld 2 (x_var 0) OV.val T.at_Net_ands)) (by repeat' (first | exact WkL.nil | exact WkS.refl | exact WkS.dead | exact WkS.list | exact WkS.dict | exact WkS.lstS (fun _ => WkS.list) | refine WkL.cons ?_ ?_)) hm ?_ ?_ ?_
      · rintro B1 p_106 s out hx hm hr1 hl1
        obtain ⟨known_104, result_105⟩ := s
        refine ⟨_, _, (xg_tup2 (xgs_cons (xg_name 5) (xgs_cons (xg_tup2 (xgs_cons (xg_name 6) (xgs_cons (xg_name 7) xgs_nil))) xgs_nil))), ?_⟩
        show Go _ _ _ _ _ [val (pObj T.C_Net ns_Net sl_Net) net_0, val pInt size_0, own (oL (pL (pTup pInt))) known_104, dead, own (oL (pL (pTup pInt))) result_105, val pInt p_106.1, val pInt p_106.2.1, val pInt p_106.2.2, dead, gT Pt tq]
        obtain ⟨v_107, h_108, hm⟩ := Option.bind_eq_some_iff.mp hm
        obtain ⟨v_109, h_110, hm⟩ := Option.bind_eq_some_iff.mp hm
        obtain ⟨r_111, h_112, hm⟩ := Option.bind_eq_some_iff.mp hm
        refine go_setM 8 (xm_callT (z := (v_107, v_109, size_0)) 9 (ok_united T TB) (by decide) T.g_united T.k_united T.b_united (xa_cons (x_ix (x_varL 2) LV.bor.sv (x_op (fun _ => op_shr) (o_intC (by decide)) (x_var 6) x_int) h_108) (xa_cons (x_ix (x_varL 2) LV.bor.sv (x_op (fun _ => op_shr) (o_intC (by decide)) (x_var 7) x_int) h_110) (xa_cons (x_var 1) xa_nil))) rfl (by repeat' (first | exact trivial | refine ⟨no_val, ?_⟩ | refine ⟨no_borL, ?_⟩ | refine ⟨no_bor, ?_⟩)) (by repeat' (first | exact Stb.nil | exact trivial | exact stb_map (fun _ => trivial) _ | refine Stb.cons ?_ ?_)) h_112) ?_
        show Go _ _ _ _ _ [val (pObj T.C_Net ns_Net sl_Net) net_0, val pInt size_0, own (oL (pL (pTup pInt))) known_104, dead, own (oL (pL (pTup pInt))) result_105, val pInt p_106.1, val pInt p_106.2.1, val pInt p_106.2.2, own (oL (pTup pInt)) r_111, gT Pt tq]
        refine go_if (xt_cmp (fun _ => op_gt) o_bl (nomark _) (x_callB (c_len _) T.g_len (by decide +kernel) (o_lenL LV.bor.sv) (xa1 (x_varL 8))) (x_glob (v := .int 500) T.g_MOST_CUTS ⟨_, rfl⟩ (fun _ => rfl))) (fun hz => ?_) (fun hz => ?_)
        · have hm := condT hz hm
          cases hm
          exact go_raise (EX := exT T) (xm_own PySem.F.excBase_ValueError T.xq_TooHard T.g_TooHard T.xk_TooHard T.xs_TooHard T.xt_TooHard (fun _ => exT_mk_TooHard T)) (Wish.lift (hW _ (Option.some.inj (hr1 _ rfl)).symm _ 9 (by rfl)) hl1)
        · have hm := condF hz hm
          refine go_join ?_
          refine go_wk (Γ' := [val (pObj T.C_Net ns_Net sl_Net) net_0, val pInt size_0, own (oL (pL (pTup pInt))) known_104, dead, own (oL (pL (pTup pInt))) result_105, val pInt p_106.1, val pInt p_106.2.1, val pInt p_106.2.2, val (pL (pTup pInt)) r_111, gT Pt tq]) ?_ (WkL.at (j := 8) WkS.list rfl)
          obtain ⟨h_113, hm⟩ := guardO_some hm
          refine go_append (pl_name 4 (by repeat' (first | exact Stb.nil | exact trivial | exact stb_map (fun _ => trivial) _ | refine Stb.cons ?_ ?_)) (hso := own_some)) (x_var 8) h_113 ?_
          show Go _ _ _ _ _ [val (pObj T.C_Net ns_Net sl_Net) net_0, val pInt size_0, own (oL (pL (pTup pInt))) known_104, dead, own (oL (pL (pTup pInt))) (result_105 ++ [r_111]), val pInt p_106.1, val pInt p_106.2.1, val pInt p_106.2.2, val (pL (pTup pInt)) r_111, gT Pt tq]
          obtain ⟨r_114, h_115, hm⟩ := Option.bind_eq_some_iff.mp hm
          obtain ⟨h_116, hm⟩ := guardO_some hm
          obtain ⟨h_117, hm⟩ := guardO_some hm
          refine go_append (pl_name 2 (by repeat' (first | exact Stb.nil | exact trivial | exact stb_map (fun _ => trivial) _ | refine Stb.cons ?_ ?_)) (hso := own_some)) (XV.frz (x_op (fun _ => op_cat) (o_cat LV.val LV.own h_116) (x_var 8) (x_lst (xs := [[(r_114 + p_106.1)]]) (xa_cons (x_tupN (xs := [(r_114 + p_106.1)]) (xa_cons (x_op (fun _ => op_add) o_int (x_prop (z := net_0) (ok_Net_first_and T) (by decide) T.cl_Net T.pr_Net_first_and T.b_Net_first_and (x_var 0) pObj_ref h_115) (x_var 5)) xa_nil) (le_line rfl)) xa_nil) (le_line rfl)))) h_117 ?_
          show Go _ _ _ _ _ [val (pObj T.C_Net ns_Net sl_Net) net_0, val pInt size_0, own (oL (pL (pTup pInt))) (known_104 ++ [(r_111 ++ [[(r_114 + p_106.1)]])]), dead, own (oL (pL (pTup pInt))) (result_105 ++ [r_111]), val pInt p_106.1, val pInt p_106.2.1, val pInt p_106.2.2, val (pL (pTup pInt)) r_111, gT Pt tq]
          cases hm
          exact go_nil (fun σ H h => ⟨_, rfl, h.wk (by repeat' (first | exact WkL.nil | exact WkS.refl | exact WkS.dead | exact WkS.list | exact WkS.dict | exact WkS.lstS (fun _ => WkS.list) | refine WkL.cons ?_ ?_))⟩)
      · rintro s hm
        obtain ⟨known_104, result_105⟩ := s
        show Go _ _ _ _ _ [val (pObj T.C_Net ns_Net sl_Net) net_0, val pInt size_0, own (oL (pL (pTup pInt))) known_104, dead, own (oL (pL (pTup pInt))) result_105, dead, dead, dead, dead, gT Pt tq]
        cases hm
        exact go_retMT 9 (x_move 4 rfl own_some (by repeat' (first | exact Stb.nil | exact trivial | exact stb_map (fun _ => trivial) _ | refine Stb.cons ?_ ?_))) (fun v H h => h)
      · rintro r hm v H h
        cases hm
        first | exact h | exact ⟨_, rfl, h⟩ | exact (no_noS h).elim | exact tab_fiT h
    · rintro r hm v H h
      cases hm

theorem ok__law_cut_off (T : Txt P K mg) : FnOk P w K mg base CX0 1 T.f__law_cut_off T.d__law_cut_off ["ands", "first_and", "leaves"] (spP (fun (z : (List ((Int) × (Int))) × (Int) × (List (Int))) => [val (pL (pT2 pInt pInt)) z.1, val pInt z.2.1, val (pL pInt) z.2.2]) (fun z => m__law_cut_off z.1 z.2.1 z.2.2) (fun r => val (pL pBl) r)) := by
  refine fn_pure T.F__law_cut_off sc__law_cut_off (fun _ => rfl) (fun cdv A outer s H E hr z r B hm => ?_)
  obtain ⟨ands_0, first_and_0, leaves_0⟩ := z
  replace hm : m__law_cut_off ands_0 first_and_0 leaves_0 = some r := hm
  unfold m__law_cut_off at hm
  show Go _ _ _ _ _ [val (pL (pT2 pInt pInt)) ands_0, val pInt first_and_0, val (pL pInt) leaves_0, dead, dead, dead]
  obtain ⟨h_118, hm⟩ := guardO_some hm
  obtain ⟨h_119, hm⟩ := guardO_some hm
  obtain ⟨cut_120, h_121, hm⟩ := letO_some hm
  refine go_set 3 (XV.eqO (x_op (fun _ => op_cat) (o_cat LV.own LV.own h_119) (x_lst (xs := [true]) (xa_cons x_bl xa_nil) (le_line rfl)) (x_op (fun _ => op_rep) (o_rep LV.own h_118) (x_lst (xs := [false]) (xa_cons x_bl xa_nil) (le_line rfl)) (x_op (fun _ => op_add) o_int (x_op (fun _ => op_sub) o_int (x_var 1) x_int) (x_callB (c_len _) T.g_len (by decide +kernel) (o_lenL LV.val.sv) (xa1 (x_var 0)))))) h_121) ?_
  show Go _ _ _ _ _ [val (pL (pT2 pInt pInt)) ands_0, val pInt first_and_0, val (pL pInt) leaves_0, own (oL pBl) cut_120, dead, dead]
  obtain ⟨h_122, hm⟩ := guardO_some hm
  refine go_forK (rs := val pInt) (fun s => [val (pL (pT2 pInt pInt)) ands_0, val pInt first_and_0, val (pL pInt) leaves_0, own (oL pBl) s, dead, dead]) (fun r => val (pL pBl) r) (xi_range2 T.g_range x_int (x_callB (c_len _) T.g_len (by decide +kernel) (o_lenL LV.bor.sv) (xa1 (x_varL 3))) h_122) (by repeat' (first | exact WkL.nil | exact WkS.refl | exact WkS.dead | exact WkS.list | exact WkS.dict | exact WkS.lstS (fun _ => WkS.list) | refine WkL.cons ?_ ?_)) hm ?_ ?_ ?_
  · rintro B1 node_124 cut_123 out hx hm hr1 hl1
    refine ⟨_, _, (xg_name 4), ?_⟩
    show Go _ _ _ _ _ [val (pL (pT2 pInt pInt)) ands_0, val pInt first_and_0, val (pL pInt) leaves_0, own (oL pBl) cut_123, val pInt node_124, dead]
    obtain ⟨cut_125, hj_141, hm⟩ := Option.bind_eq_some_iff.mp hm
    refine go_ifJ [val (pL (pT2 pInt pInt)) ands_0, val pInt first_and_0, val (pL pInt) leaves_0, own (oL pBl) cut_125, val pInt node_124, dead] (xt_cmp (c_in _) (o_inL Eqv.int LV.val.sv) (by with_unfolding_all rfl) (x_var 4) (x_var 2)) (fun hz => ?_) (fun hz => ?_) ?_
    · have hm := condT hz hj_141
      obtain ⟨xs_126, h_127, hm⟩ := Option.bind_eq_some_iff.mp hm
      refine go_setitem (pl_name 3 (by repeat' (first | exact Stb.nil | exact trivial | exact stb_map (fun _ => trivial) _ | refine Stb.cons ?_ ?_)) (hso := own_some)) (x_var 4) x_bl h_127 ?_
      show Go _ _ _ _ _ [val (pL (pT2 pInt pInt)) ands_0, val pInt first_and_0, val (pL pInt) leaves_0, own (oL pBl) xs_126, val pInt node_124, dead]
      cases hm
      exact go_nx (by repeat' (first | exact WkL.nil | exact WkS.refl | exact WkS.dead | exact WkS.list | exact WkS.dict | exact WkS.lstS (fun _ => WkS.list) | refine WkL.cons ?_ ?_))
    · have hm := condF hz hj_141
      obtain ⟨cut_128, hj_139, hm⟩ := Option.bind_eq_some_iff.mp hm
      refine go_ifJ [val (pL (pT2 pInt pInt)) ands_0, val pInt first_and_0, val (pL pInt) leaves_0, own (oL pBl) cut_128, val pInt node_124, dead] (xt_cmp (fun _ => op_ge) o_bl (nomark _) (x_var 4) (x_var 1)) (fun hz => ?_) (fun hz => ?_) ?_
      · have hm := condT hz hj_139
        obtain ⟨v_129, h_130, hm⟩ := Option.bind_eq_some_iff.mp hm
        refine go_set 5 (x_ix (x_var 0) LV.val.sv (x_op (fun _ => op_sub) o_int (x_var 4) (x_var 1)) h_130) ?_
        show Go _ _ _ _ _ [val (pL (pT2 pInt pInt)) ands_0, val pInt first_and_0, val (pL pInt) leaves_0, own (oL pBl) cut_123, val pInt node_124, val (pT2 pInt pInt) v_129]
        obtain ⟨v_131, h_132, hm⟩ := Option.bind_eq_some_iff.mp hm
        obtain ⟨b_135, h_136, hm⟩ := Option.bind_eq_some_iff.mp hm
        obtain ⟨xs_137, h_138, hm⟩ := Option.bind_eq_some_iff.mp hm
        refine go_setitem (pl_name 3 (by repeat' (first | exact Stb.nil | exact trivial | exact stb_map (fun _ => trivial) _ | refine Stb.cons ?_ ?_)) (hso := own_some)) (x_var 4) (x_andP (x_ix (x_varL 3) LV.bor.sv (x_op (fun _ => op_fdiv) (o_intC ⟨by decide, by decide⟩) (x_fst (x_var (z := v_129) 5) x_int) x_int) h_132) h_136 (fun z hm => by obtain ⟨v_133, h_134, hm⟩ := Option.bind_eq_some_iff.mp hm; cases hm; exact (x_one (x_ix (x_varL 3) LV.bor.sv (x_op (fun _ => op_fdiv) (o_intC ⟨by decide, by decide⟩) (x_snd (x_var (z := v_129) 5) x_int) x_int) h_134)))) h_138 ?_
        show Go _ _ _ _ _ [val (pL (pT2 pInt pInt)) ands_0, val pInt first_and_0, val (pL pInt) leaves_0, own (oL pBl) xs_137, val pInt node_124, val (pT2 pInt pInt) v_129]
        cases hm
        exact go_nx (by repeat' (first | exact WkL.nil | exact WkS.refl | exact WkS.dead | exact WkS.list | exact WkS.dict | exact WkS.lstS (fun _ => WkS.list) | refine WkL.cons ?_ ?_))
      · have hm := condF hz hj_139
        cases hm
        exact go_nx (by repeat' (first | exact WkL.nil | exact WkS.refl | exact WkS.dead | exact WkS.list | exact WkS.dict | exact WkS.lstS (fun _ => WkS.list) | refine WkL.cons ?_ ?_))
      cases hm
      exact go_nx (by repeat' (first | exact WkL.nil | exact WkS.refl | exact WkS.dead | exact WkS.list | exact WkS.dict | exact WkS.lstS (fun _ => WkS.list) | refine WkL.cons ?_ ?_))
    cases hm
    exact go_nil (fun σ H h => ⟨_, rfl, h.wk (by repeat' (first | exact WkL.nil | exact WkS.refl | exact WkS.dead | exact WkS.list | exact WkS.dict | exact WkS.lstS (fun _ => WkS.list) | refine WkL.cons ?_ ?_))⟩)
  · rintro cut_123 hm
    show Go _ _ _ _ _ [val (pL (pT2 pInt pInt)) ands_0, val pInt first_and_0, val (pL pInt) leaves_0, own (oL pBl) cut_123, dead, dead]
    refine go_wk (Γ' := [val (pL (pT2 pInt pInt)) ands_0, val pInt first_and_0, val (pL pInt) leaves_0, val (pL pBl) cut_123, dead, dead]) ?_ (WkL.at (j := 3) WkS.list rfl)
    cases hm
    exact go_ret (x_var 3) (fun v H h => h)
  · rintro r hm v H h
    cases hm

theorem ok__law_is_cut (T : Txt P K mg) : FnOk P w K mg base CX0 2 T.f__law_is_cut T.d__law_is_cut ["ands", "first_and", "node", "leaves"] (spP (fun (z : (List ((Int) × (Int))) × (Int) × (Int) × (List (Int))) => [val (pL (pT2 pInt pInt)) z.1, val pInt z.2.1, val pInt z.2.2.1, val (pL pInt) z.2.2.2]) (fun z => m__law_is_cut z.1 z.2.1 z.2.2.1 z.2.2.2) (fun r => val pBl r)) := by
  refine fn_pure T.F__law_is_cut sc__law_is_cut (fun _ => rfl) (fun cdv A outer s H E hr z r B hm => ?_)
  obtain ⟨ands_0, first_and_0, node_0, leaves_0⟩ := z
  replace hm : m__law_is_cut ands_0 first_and_0 node_0 leaves_0 = some r := hm
  unfold m__law_is_cut at hm
  show Go _ _ _ _ _ [val (pL (pT2 pInt pInt)) ands_0, val pInt first_and_0, val pInt node_0, val (pL pInt) leaves_0, dead, dead]
  obtain ⟨b_147, h_148, hm⟩ := Option.bind_eq_some_iff.mp hm
  refine go_if (xw_pt (xw_orP (xt_cmp (c_in _) (o_inL Eqv.int LV.val.sv) (by with_unfolding_all rfl) (x_var 2) (x_var 3)) h_148 (fun z hm => by obtain ⟨r_143, h_144, hm⟩ := Option.bind_eq_some_iff.mp hm; obtain ⟨v_145, h_146, hm⟩ := Option.bind_eq_some_iff.mp hm; cases hm; exact (xw_or1 (xt_not (xt_val (x_ix (x_call (z := (ands_0, first_and_0, leaves_0)) (ok__law_cut_off T) (by decide) T.g__law_cut_off T.k__law_cut_off T.b__law_cut_off (xa_cons (x_var 0) (xa_cons (x_var 1) (xa_cons (x_var 3) xa_nil))) rfl (by repeat' (first | exact trivial | refine ⟨no_val, ?_⟩ | refine ⟨no_borL, ?_⟩ | refine ⟨no_bor, ?_⟩)) h_144) LV.val.sv (x_var 2) h_146)) rfl))))) (fun hz => ?_) (fun hz => ?_)
  · have hm := condT hz hm
    cases hm
    exact go_ret x_bl (fun v H h => h)
  · have hm := condF hz hm
    refine go_join ?_
    refine go_forK (rs := val pInt) (fun s => [val (pL (pT2 pInt pInt)) ands_0, val pInt first_and_0, val pInt node_0, val (pL pInt) leaves_0, dead, dead]) (fun r => val pBl r) (xi_list (x_var 3)) (by repeat' (first | exact WkL.nil | exact WkS.refl | exact WkS.dead | exact WkS.list | exact WkS.dict | exact WkS.lstS (fun _ => WkS.list) | refine WkL.cons ?_ ?_)) hm ?_ ?_ ?_
    · rintro B1 leaf_149 s out hx hm hr1 hl1
      refine ⟨_, _, (xg_name 4), ?_⟩
      show Go _ _ _ _ _ [val (pL (pT2 pInt pInt)) ands_0, val pInt first_and_0, val pInt node_0, val (pL pInt) leaves_0, val pInt leaf_149, dead]
      obtain ⟨h_153, hm⟩ := guardO_some hm
      obtain ⟨ys_150, h_151, hm⟩ := Option.bind_eq_some_iff.mp hm
      obtain ⟨r_154, h_155, hm⟩ := Option.bind_eq_some_iff.mp hm
      obtain ⟨v_156, h_157, hm⟩ := Option.bind_eq_some_iff.mp hm
      refine go_if (xt_val (x_ix (x_call (z := (ands_0, first_and_0, ys_150)) (ok__law_cut_off T) (by decide) T.g__law_cut_off T.k__law_cut_off T.b__law_cut_off (xa_cons (x_var 0) (xa_cons (x_var 1) (xa_cons (XV.frz (x_lc (rs := val pInt) (own := [("other", 5)]) (xi_list (x_var 3)).ro ⟨fun _ => blkOk_by (N := N__law_is_cut) (sc := defScope s__law_is_cut) (by decide +kernel), fun _ _ => rfl⟩ h_153 h_151 ⟨rfl, trivial⟩ (fun other_152 o hx hm => by skip; refine ⟨_, _, rfl, (xg_name 5), lc_if (xt_cmp (fun _ => op_ne) o_neI (nomark _) (x_var 5) (x_var 4)) hm (fun hm => ?_)⟩; skip; cases hm; exact ⟨_, rfl, (x_var 5)⟩))) xa_nil))) rfl (by repeat' (first | exact trivial | refine ⟨no_val, ?_⟩ | refine ⟨no_borL, ?_⟩ | refine ⟨no_bor, ?_⟩)) h_155) LV.val.sv (x_var 2) h_157)) (fun hz => ?_) (fun hz => ?_)
      · have hm := condT hz hm
        cases hm
        exact go_ret x_bl (fun v H h => ⟨_, rfl, h⟩)
      · have hm := condF hz hm
        refine go_join ?_
        cases hm
        exact go_nil (fun σ H h => ⟨_, rfl, h.wk (by repeat' (first | exact WkL.nil | exact WkS.refl | exact WkS.dead | exact WkS.list | exact WkS.dict | exact WkS.lstS (fun _ => WkS.list) | refine WkL.cons ?_ ?_))⟩)
    · rintro s hm
      show Go _ _ _ _ _ [val (pL (pT2 pInt pInt)) ands_0, val pInt first_and_0, val pInt node_0, val (pL pInt) leaves_0, dead, dead]
      cases hm
      exact go_ret x_bl (fun v H h => h)
    · rintro r hm v H h
      cases hm
      first | exact h | exact ⟨_, rfl, h⟩ | exact (no_noS h).elim

theorem ok__law_many_cuts (T : Txt P K mg) {Pt : Addr} (TB : TabB base mg T.ct Pt) : FnOk P w K mg base CX0 6 T.f__law_many_cuts T.d__law_many_cuts ["row"] (spPT Pt tq (fun (z : (Int)) => [val pInt z]) (fun z => m__law_many_cuts z) (fun r => val pBl r)) := by
  refine fn_pureT (Pt := Pt) (tq := tq) 10 T.F__law_many_cuts sc__law_many_cuts (fun _ => rfl) rfl (fun cdv A outer s H E hr row_0 r B hm => ?_)
  replace hm : m__law_many_cuts row_0 = some r := hm
  unfold m__law_many_cuts at hm
  show Go _ _ _ _ _ [val pInt row_0, dead, dead, dead, dead, dead, dead, dead, dead, dead, dead, gT Pt tq]
  obtain ⟨r_158, h_159, hm⟩ := Option.bind_eq_some_iff.mp hm
  obtain ⟨h_163, hm⟩ := guardO_some hm
  obtain ⟨ys_160, h_161, hm⟩ := Option.bind_eq_some_iff.mp hm
  refine go_setLc 1 (rs := val pInt) (own := [("digit", 10)]) (xi_list (XV.frz (x_call (z := (row_0, [(4 : Int), (4 : Int), (4 : Int)])) (ok__law_digits T) (by decide) T.g__law_digits T.k__law_digits T.b__law_digits (xa_cons (x_var 0) (xa_cons (XV.frz (x_lst (xs := [(4 : Int), (4 : Int), (4 : Int)]) (xa_cons x_int (xa_cons x_int (xa_cons x_int xa_nil))) (le_line rfl))) xa_nil)) rfl (by repeat' (first | exact trivial | refine ⟨no_val, ?_⟩ | refine ⟨no_borL, ?_⟩ | refine ⟨no_bor, ?_⟩)) h_159))).ro ⟨fun _ => blkOk_by (N := N__law_many_cuts) (sc := defScope s__law_many_cuts) (by decide +kernel), fun _ _ => rfl⟩ h_163 h_161 ⟨rfl, trivial⟩ (fun digit_162 o hx hm => by skip; cases hm; exact ⟨_, _, rfl, (xg_name 10), lc_el (x_op (fun _ => op_add) o_int x_int (x_var 10))⟩) ?_ (hsw := sw_true rfl rfl rfl (by decide +kernel))
  show Go _ _ _ _ _ [val pInt row_0, own (oL pInt) ys_160, dead, dead, dead, dead, dead, dead, dead, dead, dead, gT Pt tq]
  obtain ⟨heights_164, hj_167, hm⟩ := Option.bind_eq_some_iff.mp hm
  refine go_ifJ [val pInt row_0, val (pL pInt) heights_164, dead, dead, dead, dead, dead, dead, dead, dead, dead, gT Pt tq] (xt_cmp (fun _ => op_lt) o_bl (nomark _) (x_op (fun _ => op_mod) (o_intC (by decide)) (x_callTy (fun _ => call_int1) T.g_int (by decide +kernel) o_intI (xa1 (x_op (fun _ => op_fdiv) (o_intC ⟨by decide, by decide⟩) (x_var 0) x_int))) x_int) x_int) (fun hz => ?_) (fun hz => ?_) ?_
  · have hm := condT hz hj_167
    obtain ⟨v_165, h_166, hm⟩ := Option.bind_eq_some_iff.mp hm
    refine go_set 1 (x_ix (x_lst (xs := [[(5 : Int), (5 : Int), (8 : Int)], [(5 : Int), (5 : Int), (8 : Int)], [(8 : Int), (8 : Int), (3 : Int)]]) (xa_cons (XV.frz (x_lst (xs := [(5 : Int), (5 : Int), (8 : Int)]) (xa_cons x_int (xa_cons x_int (xa_cons x_int xa_nil))) (le_line rfl))) (xa_cons (XV.frz (x_lst (xs := [(5 : Int), (5 : Int), (8 : Int)]) (xa_cons x_int (xa_cons x_int (xa_cons x_int xa_nil))) (le_line rfl))) (xa_cons (XV.frz (x_lst (xs := [(8 : Int), (8 : Int), (3 : Int)]) (xa_cons x_int (xa_cons x_int (xa_cons x_int xa_nil))) (le_line rfl))) xa_nil))) (le_line rfl)) LV.own.sv (x_op (fun _ => op_mod) (o_intC (by decide)) (x_callTy (fun _ => call_int1) T.g_int (by decide +kernel) o_intI (xa1 (x_op (fun _ => op_fdiv) (o_intC ⟨by decide, by decide⟩) (x_var 0) x_int))) x_int) h_166) ?_
    show Go _ _ _ _ _ [val pInt row_0, val (pL pInt) v_165, dead, dead, dead, dead, dead, dead, dead, dead, dead, gT Pt tq]
    cases hm
    exact go_nx (by repeat' (first | exact WkL.nil | exact WkS.refl | exact WkS.dead | exact WkS.list | exact WkS.dict | exact WkS.lstS (fun _ => WkS.list) | refine WkL.cons ?_ ?_))
  · have hm := condF hz hj_167
    cases hm
    exact go_nx (by repeat' (first | exact WkL.nil | exact WkS.refl | exact WkS.dead | exact WkS.list | exact WkS.dict | exact WkS.lstS (fun _ => WkS.list) | refine WkL.cons ?_ ?_))
  obtain ⟨r_169, h_170, hm⟩ := Option.bind_eq_some_iff.mp hm
  refine go_set 2 (x_call (z := heights_164) (ok__law_ladders T) (by decide) T.g__law_ladders T.k__law_ladders T.b__law_ladders (xa_cons (x_var 1) xa_nil) rfl (by repeat' (first | exact trivial | refine ⟨no_val, ?_⟩ | refine ⟨no_borL, ?_⟩ | refine ⟨no_bor, ?_⟩)) h_170) ?_
  show Go _ _ _ _ _ [val pInt row_0, val (pL pInt) heights_164, val (pL (pT2 pInt pInt)) r_169, dead, dead, dead, dead, dead, dead, dead, dead, gT Pt tq]
  obtain ⟨o_171, h_172, hm⟩ := Option.bind_eq_some_iff.mp hm
  refine go_set 3 (x_make (z := ((6 : Int), [], r_169)) (ok_Net_init T) (by decide) T.mk_Net T.g_Net T.b_Net_init (xa_cons x_int (xa_cons (XV.frz (x_lst (xs := []) xa_nil (Nat.zero_le _))) (xa_cons (XV.frz (x_callTy (c_list _) T.g_list (by decide +kernel) (o_listL LV.val.sv) (xa1 (x_var 2)))) xa_nil))) rfl (by repeat' (first | exact trivial | refine ⟨no_val, ?_⟩ | refine ⟨no_borL, ?_⟩ | refine ⟨no_bor, ?_⟩)) rfl h_172 rfl) ?_
  show Go _ _ _ _ _ [val pInt row_0, val (pL pInt) heights_164, val (pL (pT2 pInt pInt)) r_169, obj T.C_Net ns_Net (dl_Net o_171.1), dead, dead, dead, dead, dead, dead, dead, gT Pt tq]
  obtain ⟨v_173, h_174, hm⟩ := Option.bind_eq_some_iff.mp hm
  obtain ⟨v_175, h_176, hm⟩ := Option.bind_eq_some_iff.mp hm
  obtain ⟨h_177, hm⟩ := guardO_some hm
  obtain ⟨v_178, h_179, hm⟩ := Option.bind_eq_some_iff.mp hm
  obtain ⟨h_180, hm⟩ := guardO_some hm
  obtain ⟨count_181, h_182, hm⟩ := letO_some hm
  refine go_set 4 (XV.eqV (x_op (fun _ => op_mul) (o_intC h_180) (x_op (fun _ => op_add) o_int x_int (x_op (fun _ => op_mul) (o_intC h_177) (x_op (fun _ => op_add) o_int (x_ix (x_var 1) LV.val.sv x_int h_174) x_int) (x_op (fun _ => op_add) o_int (x_ix (x_var 1) LV.val.sv x_int h_176) x_int))) (x_op (fun _ => op_add) o_int (x_ix (x_var 1) LV.val.sv x_int h_179) x_int)) h_182) ?_
  show Go _ _ _ _ _ [val pInt row_0, val (pL pInt) heights_164, val (pL (pT2 pInt pInt)) r_169, obj T.C_Net ns_Net (dl_Net o_171.1), val pInt count_181, dead, dead, dead, dead, dead, dead, gT Pt tq]
  refine go_try_as (cv := .ref T.C_TooHard) 6 ⟨rfl, by decide, .inl T.g_TooHard⟩ (fun j hj => ?_)
  show Go _ _ _ _ _ [val pInt row_0, val (pL pInt) heights_164, val (pL (pT2 pInt pInt)) r_169, obj T.C_Net ns_Net (dl_Net o_171.1), val pInt count_181, dead, dead, dead, dead, dead, dead, gT Pt tq]
  refine go_wk (Γ' := [val pInt row_0, val (pL pInt) heights_164, val (pL (pT2 pInt pInt)) r_169, val (pObj T.C_Net ns_Net sl_Net) o_171.1, val pInt count_181, dead, dead, dead, dead, dead, dead, gT Pt tq]) ?_ (WkL.at (j := 3) (WkS.obj (sl := sl_Net) (by repeat' (first | exact WkL.nil | exact WkS.refl | exact WkS.dead | exact WkS.list | exact WkS.dict | exact WkS.lstS (fun _ => WkS.list) | refine WkL.cons ?_ ?_)) (by repeat' (first | exact trivial | refine ⟨⟨_, _, _, rfl⟩, ?_⟩))) rfl)
  rcases exK_some hm with ⟨e_222, h_184, hm⟩ | ⟨r_183, h_184, hm⟩
  · cases hz : decide (e_222.1 = "TooHard") with
    | true =>
      have hm := condT hz hm
      refine go_setXm (j := 5) (xxm_callT (EX := exT T) (z := (o_171.1, (6 : Int))) 11 (ok_cuts_of T TB) (by decide) T.g_cuts_of T.k_cuts_of T.b_cuts_of (xa_cons (x_var 3) (xa_cons x_int xa_nil)) rfl (by repeat' (first | exact trivial | refine ⟨no_val, ?_⟩ | refine ⟨no_borL, ?_⟩ | refine ⟨no_bor, ?_⟩)) (by repeat' (first | exact Stb.nil | exact trivial | exact stb_map (fun _ => trivial) _ | refine Stb.cons ?_ ?_)) h_184) (wish_as (Γd := [val pInt row_0, val (pL pInt) heights_164, val (pL (pT2 pInt pInt)) r_169, val (pObj T.C_Net ns_Net sl_Net) o_171.1, val pInt count_181, dead, dead, dead, dead, dead, dead, gT Pt tq]) (fun cls d F hx => by rw [(exT_is_TooHard T (of_decide_eq_true hz) hx).1]; exact T.xp_TooHard_TooHard) (by repeat' (first | exact WkL.nil | exact WkS.refl | exact WkS.dead | exact WkS.list | exact WkS.dict | exact WkS.lstS (fun _ => WkS.list) | refine WkL.cons ?_ ?_)) rfl (fun ae_222 cls d F hx => ?_))
      obtain ⟨rfl, rfl⟩ := exT_is_TooHard T (of_decide_eq_true hz) hx
      refine ⟨pRef ae_222, rfl, fun j hj => ?_⟩
      show Go _ _ _ _ _ [val pInt row_0, val (pL pInt) heights_164, val (pL (pT2 pInt pInt)) r_169, val (pObj T.C_Net ns_Net sl_Net) o_171.1, val pInt count_181, dead, exS ae_222, dead, dead, dead, dead, gT Pt tq]
      cases hm
      exact go_retT 11 (x_and (x_isE T.g_isinstance T.xe_TooHard T.xi_TooHard_EvergateError (x_var 6) (x_cls T.g_EvergateError)) (fun _ => (x_one (x_cmp (fun _ => op_gt) o_bl (nomark _) (x_var 4) x_int))) rfl) (fun v H h => h)
    | false =>
      have hm := condF hz hm
      cases hm
  · refine go_setM 5 (xm_callXT (EX := exT T) (z := (o_171.1, (6 : Int))) 11 (ok_cuts_of T TB) (by decide) T.g_cuts_of T.k_cuts_of T.b_cuts_of (xa_cons (x_var 3) (xa_cons x_int xa_nil)) rfl (by repeat' (first | exact trivial | refine ⟨no_val, ?_⟩ | refine ⟨no_borL, ?_⟩ | refine ⟨no_bor, ?_⟩)) (by repeat' (first | exact Stb.nil | exact trivial | exact stb_map (fun _ => trivial) _ | refine Stb.cons ?_ ?_)) h_184) ?_
    show Go _ _ _ _ _ [val pInt row_0, val (pL pInt) heights_164, val (pL (pT2 pInt pInt)) r_169, val (pObj T.C_Net ns_Net sl_Net) o_171.1, val pInt count_181, own (oL (pL (pTup pInt))) r_183, dead, dead, dead, dead, dead, gT Pt tq]
    refine go_end ?_
    show Go _ _ _ _ _ [val pInt row_0, val (pL pInt) heights_164, val (pL (pT2 pInt pInt)) r_169, val (pObj T.C_Net ns_Net sl_Net) o_171.1, val pInt count_181, own (oL (pL (pTup pInt))) r_183, dead, dead, dead, dead, dead, gT Pt tq]
    obtain ⟨b_189, h_190, hm⟩ := Option.bind_eq_some_iff.mp hm
    refine go_if (xw_pt (xw_orP (xt_cmp (fun _ => op_gt) o_bl (nomark _) (x_var 4) x_int) h_190 (fun z hm => by obtain ⟨b_187, h_188, hm⟩ := Option.bind_eq_some_iff.mp hm; cases hm; exact (xw_orP (xt_cmp (fun _ => op_ne) o_neI (nomark _) (x_callB (c_len _) T.g_len (by decide +kernel) (o_lenL LV.bor.sv) (xa1 (x_varL 5))) (x_callB (c_len _) T.g_len (by decide +kernel) (o_lenL LV.val.sv) (xa1 (x_var 2)))) h_188 (fun z hm => by obtain ⟨v_185, h_186, hm⟩ := Option.bind_eq_some_iff.mp hm; cases hm; exact (xw_or1 (xt_cmp (fun _ => op_ne) o_neI (nomark _) (x_callB (c_len _) T.g_len (by decide +kernel) (o_lenL LV.val.sv) (xa1 (x_ix (x_varL 5) LV.bor.sv (x_op (fun _ => op_sub) o_int (x_callB (c_len _) T.g_len (by decide +kernel) (o_lenL LV.val.sv) (xa1 (x_var 2))) x_int) h_186))) (x_var 4)))))))) (fun hz => ?_) (fun hz => ?_)
    · have hm := condT hz hm
      cases hm
      exact go_retT 11 x_bl (fun v H h => h)
    · have hm := condF hz hm
      refine go_join ?_
      obtain ⟨v_191, h_192, hm⟩ := Option.bind_eq_some_iff.mp hm
      obtain ⟨h_196, hm⟩ := guardO_some hm
      obtain ⟨ys_193, h_194, hm⟩ := Option.bind_eq_some_iff.mp hm
      refine go_set 7 (x_lc (rs := val (pTup pInt)) (own := [("cut", 9)]) (xi_list (x_ix (x_varL 5) LV.bor.sv (x_op (fun _ => op_sub) o_int (x_callB (c_len _) T.g_len (by decide +kernel) (o_lenL LV.val.sv) (xa1 (x_var 2))) x_int) h_192)).ro ⟨fun _ => blkOk_by (N := N__law_many_cuts) (sc := defScope s__law_many_cuts) (by decide +kernel), fun _ _ => rfl⟩ h_196 h_194 ⟨rfl, trivial⟩ (fun cut_195 o hx hm => by skip; cases hm; exact ⟨_, _, rfl, (xg_name 9), lc_el (x_tup2 (xa_cons (x_callB (c_len _) T.g_len (by decide +kernel) (o_lenT TV.val) (xa1 (x_var 9))) (xa_cons (x_var 9) xa_nil)))⟩)) ?_
      show Go _ _ _ _ _ [val pInt row_0, val (pL pInt) heights_164, val (pL (pT2 pInt pInt)) r_169, val (pObj T.C_Net ns_Net sl_Net) o_171.1, val pInt count_181, own (oL (pL (pTup pInt))) r_183, dead, own (oL (pT2 pInt (pTup pInt))) ys_193, dead, dead, dead, gT Pt tq]
      obtain ⟨b_207, h_208, hm⟩ := Option.bind_eq_some_iff.mp hm
      refine go_if (xw_pt (xw_orP (xt_cmp (c_neD _) (o_neD (DE.list (DE.t2 DE.int (DE.tup DE.int))) (by decide) (LV.vw LV.bor) (LV.vw LV.own) (fun _ _ => ⟨trivial, (fun _ _ => trivial)⟩) (fun _ _ => ⟨trivial, (fun _ _ => trivial)⟩)) (nomark _) (x_varL 7) (x_callB (c_sortP _) T.g_sorted (by decide +kernel) (o_sortP LV.bor) (xa1 (x_varL 7)))) h_208 (fun z hm => by obtain ⟨h_198, hm⟩ := guardO_some hm; obtain ⟨h_206, hm⟩ := guardO_some hm; obtain ⟨ys_199, h_200, hm⟩ := Option.bind_eq_some_iff.mp hm; cases hm; exact (xw_or1 (xt_cmp (c_in _) (o_inL Eqv.bl LV.own.sv) (by with_unfolding_all rfl) x_bl (x_lc (rs := val pInt) (own := [("k", 8)]) (xi_range1 T.g_range (x_op (fun _ => op_sub) o_int (x_var 4) x_int) h_198).ro ⟨fun _ => blkOk_by (N := N__law_many_cuts) (sc := defScope s__law_many_cuts) (by decide +kernel), fun _ _ => rfl⟩ h_206 h_200 ⟨rfl, trivial⟩ (fun k_201 o hx hm => by obtain ⟨v_202, h_203, hm⟩ := Option.bind_eq_some_iff.mp hm; obtain ⟨v_204, h_205, hm⟩ := Option.bind_eq_some_iff.mp hm; cases hm; exact ⟨_, _, rfl, (xg_name 8), lc_el (x_cmp (c_eqD _) (o_eqD (DE.t2 DE.int (DE.tup DE.int)) (by decide) Vw.val Vw.val ⟨trivial, (fun _ _ => trivial)⟩ ⟨trivial, (fun _ _ => trivial)⟩) (nomark _) (x_ix (x_varL 7) LV.bor.sv (x_var 8) h_203) (x_ix (x_varL 7) LV.bor.sv (x_op (fun _ => op_add) o_int (x_var 8) x_int) h_205))⟩))))))) (fun hz => ?_) (fun hz => ?_)
      · have hm := condT hz hm
        cases hm
        exact go_retT 11 x_bl (fun v H h => h)
      · have hm := condF hz hm
        refine go_join ?_
        obtain ⟨h_210, hm⟩ := guardO_some hm
        refine go_forK (rs := val pInt) (fun s => [val pInt row_0, val (pL pInt) heights_164, val (pL (pT2 pInt pInt)) r_169, val (pObj T.C_Net ns_Net sl_Net) o_171.1, val pInt count_181, own (oL (pL (pTup pInt))) r_183, dead, own (oL (pT2 pInt (pTup pInt))) ys_193, dead, dead, dead, gT Pt tq]) (fun r => (tabS Pt tq (val pBl r))) (xi_range1 T.g_range x_int h_210) (by repeat' (first | exact WkL.nil | exact WkS.refl | exact WkS.dead | exact WkS.list | exact WkS.dict | exact WkS.lstS (fun _ => WkS.list) | refine WkL.cons ?_ ?_)) hm ?_ ?_ ?_
        · rintro B1 k_211 s out hx hm hr1 hl1
          refine ⟨_, _, (xg_name 8), ?_⟩
          show Go _ _ _ _ _ [val pInt row_0, val (pL pInt) heights_164, val (pL (pT2 pInt pInt)) r_169, val (pObj T.C_Net ns_Net sl_Net) o_171.1, val pInt count_181, own (oL (pL (pTup pInt))) r_183, dead, own (oL (pT2 pInt (pTup pInt))) ys_193, val pInt k_211, dead, dead, gT Pt tq]
          obtain ⟨h_212, hm⟩ := guardO_some hm
          obtain ⟨h_213, hm⟩ := guardO_some hm
          obtain ⟨v_214, h_215, hm⟩ := Option.bind_eq_some_iff.mp hm
          refine go_set 9 (x_snd (x_ix (x_varL 7) LV.bor.sv (x_op (fun _ => op_mod) (o_intC h_213) (x_callTy (fun _ => call_int1) T.g_int (by decide +kernel) o_intI (xa1 (x_op (fun _ => op_fdiv) (o_intC h_212) (x_var 0) (x_op (fun _ => op_add) o_int (x_var 8) x_int)))) (x_var 4)) h_215) x_int) ?_
          show Go _ _ _ _ _ [val pInt row_0, val (pL pInt) heights_164, val (pL (pT2 pInt pInt)) r_169, val (pObj T.C_Net ns_Net sl_Net) o_171.1, val pInt count_181, own (oL (pL (pTup pInt))) r_183, dead, own (oL (pT2 pInt (pTup pInt))) ys_193, val pInt k_211, val (pTup pInt) v_214.2, dead, gT Pt tq]
          obtain ⟨b_220, h_221, hm⟩ := Option.bind_eq_some_iff.mp hm
          refine go_if (xw_pt (xw_orP (xt_not (xt_val (x_callB (c_isi _) T.g_isinstance (by decide +kernel) (o_isi (z := true) (T := "tuple") (T' := "tuple") (TV.ty TV.val) (by decide +kernel)) (xa2 (x_var 9) (x_ty T.g_tuple (by decide +kernel))))) rfl) h_221 (fun z hm => by obtain ⟨b_218, h_219, hm⟩ := Option.bind_eq_some_iff.mp hm; cases hm; exact (xw_orP (xt_cmp (c_neD _) (o_neD (DE.list DE.int) (by decide) (LV.vw LV.own) (LV.vw LV.own) (fun _ _ => trivial) (fun _ _ => trivial)) (nomark _) (x_callTy (c_list _) T.g_list (by decide +kernel) (o_listT TV.val) (xa1 (x_var 9))) (x_callB (c_sortSq _) T.g_sorted (by decide +kernel) o_sortSq (xa1 (XV.sqL (XV.frz (x_callTy (c_list _) T.g_list (by decide +kernel) (o_listT TV.val) (xa1 (x_var 9)))))))) h_219 (fun z hm => by obtain ⟨r_216, h_217, hm⟩ := Option.bind_eq_some_iff.mp hm; cases hm; exact (xw_or1 (xt_not (xt_val (x_call (z := (r_169, (7 : Int), ((6 : Int) + ((r_169).length : Int)), v_214.2)) (ok__law_is_cut T) (by decide) T.g__law_is_cut T.k__law_is_cut T.b__law_is_cut (xa_cons (x_var 2) (xa_cons x_int (xa_cons (x_op (fun _ => op_add) o_int x_int (x_callB (c_len _) T.g_len (by decide +kernel) (o_lenL LV.val.sv) (xa1 (x_var 2)))) (xa_cons (XV.frz (x_callTy (c_list _) T.g_list (by decide +kernel) (o_listT TV.val) (xa1 (x_var 9)))) xa_nil)))) rfl (by repeat' (first | exact trivial | refine ⟨no_val, ?_⟩ | refine ⟨no_borL, ?_⟩ | refine ⟨no_bor, ?_⟩)) h_217)) rfl))))))) (fun hz => ?_) (fun hz => ?_)
          · have hm := condT hz hm
            cases hm
            exact go_retT 11 x_bl (fun v H h => ⟨_, rfl, fiT_tab h⟩)
          · have hm := condF hz hm
            refine go_join ?_
            cases hm
            exact go_nil (fun σ H h => ⟨_, rfl, h.wk (by repeat' (first | exact WkL.nil | exact WkS.refl | exact WkS.dead | exact WkS.list | exact WkS.dict | exact WkS.lstS (fun _ => WkS.list) | refine WkL.cons ?_ ?_))⟩)
        · rintro s hm
          show Go _ _ _ _ _ [val pInt row_0, val (pL pInt) heights_164, val (pL (pT2 pInt pInt)) r_169, val (pObj T.C_Net ns_Net sl_Net) o_171.1, val pInt count_181, own (oL (pL (pTup pInt))) r_183, dead, own (oL (pT2 pInt (pTup pInt))) ys_193, dead, dead, dead, gT Pt tq]
          cases hm
          exact go_retT 11 x_bl (fun v H h => h)
        · rintro r hm v H h
          cases hm
          first | exact h | exact ⟨_, rfl, h⟩ | exact (no_noS h).elim | exact tab_fiT h

theorem ok__law_refused (T : Txt P K mg) {Pt : Addr} (TB : TabB base mg T.ct Pt) : FnOk P w K mg base CX0 6 T.f__law_refused T.d__law_refused ["net", "size"] (spPT Pt tq (fun (z : (S_Net) × (Int)) => [val (pObj T.C_Net ns_Net sl_Net) z.1, val pInt z.2]) (fun z => m__law_refused z.1 z.2) (fun r => val pBl r)) := by
  refine fn_pureT (Pt := Pt) (tq := tq) 1 T.F__law_refused sc__law_refused (fun _ => rfl) rfl (fun cdv A outer s H E hr z r B hm => ?_)
  obtain ⟨net_0, size_0⟩ := z
  replace hm : m__law_refused net_0 size_0 = some r := hm
  unfold m__law_refused at hm
  show Go _ _ _ _ _ [val (pObj T.C_Net ns_Net sl_Net) net_0, val pInt size_0, dead, gT Pt tq]
  refine go_try_as (cv := .ref T.C_InvalidCount) 2 ⟨rfl, by decide, .inl T.g_InvalidCount⟩ (fun j hj => ?_)
  show Go _ _ _ _ _ [val (pObj T.C_Net ns_Net sl_Net) net_0, val pInt size_0, dead, gT Pt tq]
  rcases exK_some hm with ⟨e_225, h_224, hm⟩ | ⟨r_223, h_224, hm⟩
  · cases hz : decide (e_225.1 = "InvalidCount") with
    | true =>
      have hm := condT hz hm
      refine go_exprXm (xxm_callT (EX := exT T) (z := (net_0, size_0)) 3 (ok_cuts_of T TB) (by decide) T.g_cuts_of T.k_cuts_of T.b_cuts_of (xa_cons (x_var 0) (xa_cons (x_var 1) xa_nil)) rfl (by repeat' (first | exact trivial | refine ⟨no_val, ?_⟩ | refine ⟨no_borL, ?_⟩ | refine ⟨no_bor, ?_⟩)) (by repeat' (first | exact Stb.nil | exact trivial | exact stb_map (fun _ => trivial) _ | refine Stb.cons ?_ ?_)) h_224) (wish_as (Γd := [val (pObj T.C_Net ns_Net sl_Net) net_0, val pInt size_0, dead, gT Pt tq]) (fun cls d F hx => by rw [(exT_is_InvalidCount T (of_decide_eq_true hz) hx).1]; exact T.xp_InvalidCount_InvalidCount) (by repeat' (first | exact WkL.nil | exact WkS.refl | exact WkS.dead | exact WkS.list | exact WkS.dict | exact WkS.lstS (fun _ => WkS.list) | refine WkL.cons ?_ ?_)) rfl (fun ae_225 cls d F hx => ?_))
      obtain ⟨rfl, rfl⟩ := exT_is_InvalidCount T (of_decide_eq_true hz) hx
      refine ⟨pRef ae_225, rfl, fun j hj => ?_⟩
      show Go _ _ _ _ _ [val (pObj T.C_Net ns_Net sl_Net) net_0, val pInt size_0, exS ae_225, gT Pt tq]
      cases hm
      exact go_retT 3 (x_isE T.g_isinstance T.xe_InvalidCount T.xi_InvalidCount_EvergateError (x_var 2) (x_cls T.g_EvergateError)) (fun v H h => h)
    | false =>
      have hm := condF hz hm
      cases hm
  · refine go_exprM (xm_callXT (EX := exT T) (z := (net_0, size_0)) 3 (ok_cuts_of T TB) (by decide) T.g_cuts_of T.k_cuts_of T.b_cuts_of (xa_cons (x_var 0) (xa_cons (x_var 1) xa_nil)) rfl (by repeat' (first | exact trivial | refine ⟨no_val, ?_⟩ | refine ⟨no_borL, ?_⟩ | refine ⟨no_bor, ?_⟩)) (by repeat' (first | exact Stb.nil | exact trivial | exact stb_map (fun _ => trivial) _ | refine Stb.cons ?_ ?_)) h_224) ?_
    show Go _ _ _ _ _ [val (pObj T.C_Net ns_Net sl_Net) net_0, val pInt size_0, dead, gT Pt tq]
    refine go_end ?_
    show Go _ _ _ _ _ [val (pObj T.C_Net ns_Net sl_Net) net_0, val pInt size_0, dead, gT Pt tq]
    cases hm
    exact go_retT 3 x_bl (fun v H h => h)

theorem ok__law_without_more (T : Txt P K mg) : FnOk P w K mg base CX0 1 T.f__law_without_more T.d__law_without_more ["unions"] (spP (fun (z : (List (List (Int)))) => [val (pL (pTup pInt)) z]) (fun z => m__law_without_more z) (fun r => own (oL (pTup pInt)) r)) := by
  refine fn_pure T.F__law_without_more sc__law_without_more (fun _ => rfl) (fun cdv A outer s H E hr unions_0 r B hm => ?_)
  replace hm : m__law_without_more unions_0 = some r := hm
  unfold m__law_without_more at hm
  show Go _ _ _ _ _ [val (pL (pTup pInt)) unions_0, dead, dead, dead, dead, dead]
  refine go_set 1 (x_lst (p := (pTup pInt)) (xs := []) xa_nil (Nat.zero_le _)) ?_
  show Go _ _ _ _ _ [val (pL (pTup pInt)) unions_0, own (oL (pTup pInt)) ([] : List (List (Int))), dead, dead, dead, dead]
  obtain ⟨h_229, hm⟩ := guardO_some hm
  obtain ⟨ys_226, h_227, hm⟩ := Option.bind_eq_some_iff.mp hm
  obtain ⟨h_233, hm⟩ := guardO_some hm
  obtain ⟨ys_230, h_231, hm⟩ := Option.bind_eq_some_iff.mp hm
  refine go_forK (rs := val (pTup pInt)) (fun s => [val (pL (pTup pInt)) unions_0, own (oL (pTup pInt)) s, dead, dead, dead, dead]) (fun r => own (oL (pTup pInt)) r) (xi_list (XV.frz (x_lc (rs := val (pT2 pInt (pTup pInt))) (own := [("pair", 3)]) (xi_list (XV.frz (x_callB (c_sortP _) T.g_sorted (by decide +kernel) (o_sortP LV.own) (xa1 (x_lc (rs := val (pTup pInt)) (own := [("union", 2)]) (xi_list (x_var 0)).ro ⟨fun _ => blkOk_by (N := N__law_without_more) (sc := defScope s__law_without_more) (by decide +kernel), fun _ _ => rfl⟩ h_229 h_227 ⟨rfl, trivial⟩ (fun union_228 o hx hm => by skip; cases hm; exact ⟨_, _, rfl, (xg_name 2), lc_el (x_tup2 (xa_cons (x_callB (c_len _) T.g_len (by decide +kernel) (o_lenT TV.val) (xa1 (x_var 2))) (xa_cons (x_var 2) xa_nil)))⟩)))))).ro ⟨fun _ => blkOk_by (N := N__law_without_more) (sc := defScope s__law_without_more) (by decide +kernel), fun _ _ => rfl⟩ h_233 h_231 ⟨rfl, trivial⟩ (fun pair_232 o hx hm => by skip; cases hm; exact ⟨_, _, rfl, (xg_name 3), lc_el (x_snd (x_var (z := pair_232) 3) x_int)⟩)))) (by repeat' (first | exact WkL.nil | exact WkS.refl | exact WkS.dead | exact WkS.list | exact WkS.dict | exact WkS.lstS (fun _ => WkS.list) | refine WkL.cons ?_ ?_)) hm ?_ ?_ ?_
  · rintro B1 union_235 kept_234 out hx hm hr1 hl1
    refine ⟨_, _, (xg_name 2), ?_⟩
    show Go _ _ _ _ _ [val (pL (pTup pInt)) unions_0, own (oL (pTup pInt)) kept_234, val (pTup pInt) union_235, dead, dead, dead]
    obtain ⟨h_243, hm⟩ := guardO_some hm
    obtain ⟨ys_236, h_237, hm⟩ := Option.bind_eq_some_iff.mp hm
    obtain ⟨kept_244, hj_246, hm⟩ := Option.bind_eq_some_iff.mp hm
    refine go_ifJ [val (pL (pTup pInt)) unions_0, own (oL (pTup pInt)) kept_244, val (pTup pInt) union_235, dead, dead, dead] (xt_cmp (c_eqD _) (o_eqD (DE.list (DE.tup DE.int)) (by decide) (LV.vw LV.own) (LV.vw LV.own) (fun _ _ => (fun _ _ => trivial)) (fun _ _ => (fun _ _ => trivial))) (nomark _) (x_lc (rs := val (pTup pInt)) (own := [("other", 4)]) (xi_bor (x_varL 1)) ⟨fun _ => blkOk_by (N := N__law_without_more) (sc := defScope s__law_without_more) (by decide +kernel), fun _ _ => rfl⟩ h_243 h_237 ⟨rfl, trivial⟩ (fun other_238 o hx hm => by obtain ⟨h_242, hm⟩ := guardO_some hm; obtain ⟨ys_239, h_240, hm⟩ := Option.bind_eq_some_iff.mp hm; refine ⟨_, _, rfl, (xg_name 4), lc_if (xt_cmp (c_eqD _) (o_eqD (DE.list DE.int) (by decide) (LV.vw LV.own) (LV.vw LV.own) (fun _ _ => trivial) (fun _ _ => trivial)) (nomark _) (x_lc (rs := val pInt) (own := [("node", 5)]) (xi_tup (x_var 4)).ro ⟨fun _ => blkOk_by (N := N__law_without_more) (by kernel_rfl), fun _ _ => rfl⟩ h_242 h_240 ⟨rfl, trivial⟩ (fun node_241 o hx hm => by skip; refine ⟨_, _, rfl, (xg_name 5), lc_if (xt_cmp (c_nin _) (o_ninT Eqv.int TV.val) (by with_unfolding_all rfl) (x_var 5) (x_var 2)) hm (fun hm => ?_)⟩; skip; cases hm; exact ⟨_, rfl, (x_var 5)⟩)) (x_lst (xs := []) xa_nil (Nat.zero_le _))) hm (fun hm => ?_)⟩; skip; cases hm; exact ⟨_, rfl, (x_var 4)⟩)) (x_lst (xs := []) xa_nil (Nat.zero_le _))) (fun hz => ?_) (fun hz => ?_) ?_
    · have hm := condT hz hj_246
      obtain ⟨h_245, hm⟩ := guardO_some hm
      refine go_append (pl_name 1 (by repeat' (first | exact Stb.nil | exact trivial | exact stb_map (fun _ => trivial) _ | refine Stb.cons ?_ ?_)) (hso := own_some)) (x_var 2) h_245 ?_
      show Go _ _ _ _ _ [val (pL (pTup pInt)) unions_0, own (oL (pTup pInt)) (kept_234 ++ [union_235]), val (pTup pInt) union_235, dead, dead, dead]
      cases hm
      exact go_nx (by repeat' (first | exact WkL.nil | exact WkS.refl | exact WkS.dead | exact WkS.list | exact WkS.dict | exact WkS.lstS (fun _ => WkS.list) | refine WkL.cons ?_ ?_))
    · have hm := condF hz hj_246
      cases hm
      exact go_nx (by repeat' (first | exact WkL.nil | exact WkS.refl | exact WkS.dead | exact WkS.list | exact WkS.dict | exact WkS.lstS (fun _ => WkS.list) | refine WkL.cons ?_ ?_))
    cases hm
    exact go_nil (fun σ H h => ⟨_, rfl, h.wk (by repeat' (first | exact WkL.nil | exact WkS.refl | exact WkS.dead | exact WkS.list | exact WkS.dict | exact WkS.lstS (fun _ => WkS.list) | refine WkL.cons ?_ ?_))⟩)
  · rintro kept_234 hm
    show Go _ _ _ _ _ [val (pL (pTup pInt)) unions_0, own (oL (pTup pInt)) kept_234, dead, dead, dead, dead]
    cases hm
    exact go_retV 1 rfl own_some (fun v H h => h)
  · rintro r hm v H h
    cases hm

theorem ok__law_merged_cuts (T : Txt P K mg) : FnOk P w K mg base CX0 2 T.f__law_merged_cuts T.d__law_merged_cuts ["ands", "first_and", "size"] (spP (fun (z : (List ((Int) × (Int))) × (Int) × (Int)) => [val (pL (pT2 pInt pInt)) z.1, val pInt z.2.1, val pInt z.2.2]) (fun z => m__law_merged_cuts z.1 z.2.1 z.2.2) (fun r => own (oL (pL (pTup pInt))) r)) := by
  refine fn_pure T.F__law_merged_cuts sc__law_merged_cuts (fun _ => rfl) (fun cdv A outer s H E hr z r B hm => ?_)
  obtain ⟨ands_0, first_and_0, size_0⟩ := z
  replace hm : m__law_merged_cuts ands_0 first_and_0 size_0 = some r := hm
  unfold m__law_merged_cuts at hm
  show Go _ _ _ _ _ [val (pL (pT2 pInt pInt)) ands_0, val pInt first_and_0, val pInt size_0, dead, dead, dead, dead, dead, dead, dead, dead]
  obtain ⟨h_248, hm⟩ := guardO_some hm
  obtain ⟨h_252, hm⟩ := guardO_some hm
  obtain ⟨ys_249, h_250, hm⟩ := Option.bind_eq_some_iff.mp hm
  obtain ⟨h_253, hm⟩ := guardO_some hm
  refine go_set 3 (x_op (fun _ => op_cat) (o_cat LV.own LV.own h_253) (x_lst (xs := [[([] : List Int)]]) (xa_cons (XV.frz (x_lst (xs := [([] : List Int)]) (xa_cons (x_tupN (p := pInt) (xs := []) xa_nil (Nat.zero_le _)) xa_nil) (le_line rfl))) xa_nil) (le_line rfl)) (x_lc (rs := val pInt) (own := [("node", 10)]) (xi_range2 T.g_range x_int (x_var 1) h_248).ro ⟨fun _ => blkOk_by (N := N__law_merged_cuts) (sc := defScope s__law_merged_cuts) (by decide +kernel), fun _ _ => rfl⟩ h_252 h_250 ⟨rfl, trivial⟩ (fun node_251 o hx hm => by skip; cases hm; exact ⟨_, _, rfl, (xg_name 10), lc_el (XV.frz (x_lst (xs := [[node_251]]) (xa_cons (x_tupN (xs := [node_251]) (xa_cons (x_var 10) xa_nil) (le_line rfl)) xa_nil) (le_line rfl)))⟩))) ?_
  show Go _ _ _ _ _ [val (pL (pT2 pInt pInt)) ands_0, val pInt first_and_0, val pInt size_0, own (oL (pL (pTup pInt))) ([[([] : List Int)]] ++ ys_249), dead, dead, dead, dead, dead, dead, dead]
  refine go_set 4 (x_lst (p := (pL (pTup pInt))) (xs := []) xa_nil (Nat.zero_le _)) ?_
  show Go _ _ _ _ _ [val (pL (pT2 pInt pInt)) ands_0, val pInt first_and_0, val pInt size_0, own (oL (pL (pTup pInt))) ([[([] : List Int)]] ++ ys_249), own (oL (pL (pTup pInt))) ([] : List (List (List (Int)))), dead, dead, dead, dead, dead, dead]
  refine go_forK (rs := val (pT2 pInt pInt)) (fun s => [val (pL (pT2 pInt pInt)) ands_0, val pInt first_and_0, val pInt size_0, own (oL (pL (pTup pInt))) s.1, own (oL (pL (pTup pInt))) s.2, dead, dead, dead, dead, dead, dead]) (fun r => own (oL (pL (pTup pInt))) r) (xi_list (x_var 0)) (by repeat' (first | exact WkL.nil | exact WkS.refl | exact WkS.dead | exact WkS.list | exact WkS.dict | exact WkS.lstS (fun _ => WkS.list) | refine WkL.cons ?_ ?_)) hm ?_ ?_ ?_
  · rintro B1 pair_256 s out hx hm hr1 hl1
    obtain ⟨known_254, found_255⟩ := s
    refine ⟨_, _, (xg_name 5), ?_⟩
    show Go _ _ _ _ _ [val (pL (pT2 pInt pInt)) ands_0, val pInt first_and_0, val pInt size_0, own (oL (pL (pTup pInt))) known_254, own (oL (pL (pTup pInt))) found_255, val (pT2 pInt pInt) pair_256, dead, dead, dead, dead, dead]
    refine go_set 6 (x_nnew (p := pBl)) ?_
    show Go _ _ _ _ _ [val (pL (pT2 pInt pInt)) ands_0, val pInt first_and_0, val pInt size_0, own (oL (pL (pTup pInt))) known_254, own (oL (pL (pTup pInt))) found_255, val (pT2 pInt pInt) pair_256, own (oN P w pBl) ([] : List (NestedKey × (Bool))), dead, dead, dead, dead]
    obtain ⟨v_257, h_258, hm⟩ := Option.bind_eq_some_iff.mp hm
    refine go_forK (rs := val (pTup pInt)) (fun s => [val (pL (pT2 pInt pInt)) ands_0, val pInt first_and_0, val pInt size_0, own (oL (pL (pTup pInt))) known_254, own (oL (pL (pTup pInt))) found_255, val (pT2 pInt pInt) pair_256, own (oN P w pBl) s, dead, dead, dead, dead]) (fun r => own (oL (pL (pTup pInt))) r) (xi_list (x_ix (x_varL 3) LV.bor.sv (x_op (fun _ => op_fdiv) (o_intC ⟨by decide, by decide⟩) (x_fst (x_var (z := pair_256) 5) x_int) x_int) h_258)) (by repeat' (first | exact WkL.nil | exact WkS.refl | exact WkS.dead | exact WkS.list | exact WkS.dict | exact WkS.lstS (fun _ => WkS.list) | refine WkL.cons ?_ ?_)) hm ?_ ?_ ?_
    · rintro B1 one_260 unions_259 out hx hm hr2 hl2
      refine ⟨_, _, (xg_name 7), ?_⟩
      show Go _ _ _ _ _ [val (pL (pT2 pInt pInt)) ands_0, val pInt first_and_0, val pInt size_0, own (oL (pL (pTup pInt))) known_254, own (oL (pL (pTup pInt))) found_255, val (pT2 pInt pInt) pair_256, own (oN P w pBl) unions_259, val (pTup pInt) one_260, dead, dead, dead]
      obtain ⟨v_261, h_262, hm⟩ := Option.bind_eq_some_iff.mp hm
      refine go_forK (rs := val (pTup pInt)) (fun s => [val (pL (pT2 pInt pInt)) ands_0, val pInt first_and_0, val pInt size_0, own (oL (pL (pTup pInt))) known_254, own (oL (pL (pTup pInt))) found_255, val (pT2 pInt pInt) pair_256, own (oN P w pBl) s, val (pTup pInt) one_260, dead, dead, dead]) (fun r => own (oL (pL (pTup pInt))) r) (xi_list (x_ix (x_varL 3) LV.bor.sv (x_op (fun _ => op_fdiv) (o_intC ⟨by decide, by decide⟩) (x_snd (x_var (z := pair_256) 5) x_int) x_int) h_262)) (by repeat' (first | exact WkL.nil | exact WkS.refl | exact WkS.dead | exact WkS.list | exact WkS.dict | exact WkS.lstS (fun _ => WkS.list) | refine WkL.cons ?_ ?_)) hm ?_ ?_ ?_
      · rintro B1 two_264 unions_263 out hx hm hr3 hl3
        refine ⟨_, _, (xg_name 8), ?_⟩
        show Go _ _ _ _ _ [val (pL (pT2 pInt pInt)) ands_0, val pInt first_and_0, val pInt size_0, own (oL (pL (pTup pInt))) known_254, own (oL (pL (pTup pInt))) found_255, val (pT2 pInt pInt) pair_256, own (oN P w pBl) unions_263, val (pTup pInt) one_260, val (pTup pInt) two_264, dead, dead]
        obtain ⟨h_268, hm⟩ := guardO_some hm
        obtain ⟨ys_265, h_266, hm⟩ := Option.bind_eq_some_iff.mp hm
        obtain ⟨h_269, hm⟩ := guardO_some hm
        obtain ⟨union_270, h_271, hm⟩ := letO_some hm
        refine go_set 9 (XV.eqV (x_callTy (c_tup _) T.g_tuple (by decide +kernel) (o_tupL LV.own.sv) (xa1 (x_callB (c_sortSq _) T.g_sorted (by decide +kernel) o_sortSq (xa1 (XV.sqL (XV.frz (x_op (fun _ => op_cat) (o_cat LV.own LV.own h_269) (x_callTy (c_list _) T.g_list (by decide +kernel) (o_listT TV.val) (xa1 (x_var 7))) (x_lc (rs := val pInt) (own := [("node", 10)]) (xi_tup (x_var 8)).ro ⟨fun _ => blkOk_by (N := N__law_merged_cuts) (sc := defScope s__law_merged_cuts) (by decide +kernel), fun _ _ => rfl⟩ h_268 h_266 ⟨rfl, trivial⟩ (fun node_267 o hx hm => by skip; refine ⟨_, _, rfl, (xg_name 10), lc_if (xt_cmp (c_nin _) (o_ninT Eqv.int TV.val) (by with_unfolding_all rfl) (x_var 10) (x_var 7)) hm (fun hm => ?_)⟩; skip; cases hm; exact ⟨_, rfl, (x_var 10)⟩))))))))) h_271) ?_
        show Go _ _ _ _ _ [val (pL (pT2 pInt pInt)) ands_0, val pInt first_and_0, val pInt size_0, own (oL (pL (pTup pInt))) known_254, own (oL (pL (pTup pInt))) found_255, val (pT2 pInt pInt) pair_256, own (oN P w pBl) unions_263, val (pTup pInt) one_260, val (pTup pInt) two_264, val (pTup pInt) union_270, dead]
        obtain ⟨unions_272, hj_274, hm⟩ := Option.bind_eq_some_iff.mp hm
        refine go_ifJ [val (pL (pT2 pInt pInt)) ands_0, val pInt first_and_0, val pInt size_0, own (oL (pL (pTup pInt))) known_254, own (oL (pL (pTup pInt))) found_255, val (pT2 pInt pInt) pair_256, own (oN P w pBl) unions_272, val (pTup pInt) one_260, val (pTup pInt) two_264, val (pTup pInt) union_270, dead] (xt_cmp (fun _ => op_le) o_bl (nomark _) (x_callB (c_len _) T.g_len (by decide +kernel) (o_lenT TV.val) (xa1 (x_var 9))) (x_var 2)) (fun hz => ?_) (fun hz => ?_) ?_
        · have hm := condT hz hj_274
          obtain ⟨h_273, hm⟩ := guardO_some hm
          refine go_nput (pl_name 6 (by repeat' (first | exact Stb.nil | exact trivial | exact stb_map (fun _ => trivial) _ | refine Stb.cons ?_ ?_)) (hso := own_some)) (XV.nkT NE.int (by decide) (x_var 9)) x_bl h_273 ?_
          show Go _ _ _ _ _ [val (pL (pT2 pInt pInt)) ands_0, val pInt first_and_0, val pInt size_0, own (oL (pL (pTup pInt))) known_254, own (oL (pL (pTup pInt))) found_255, val (pT2 pInt pInt) pair_256, own (oN P w pBl) (dput unions_263 ((NE.tup NE.int).enc union_270) true), val (pTup pInt) one_260, val (pTup pInt) two_264, val (pTup pInt) union_270, dead]
          cases hm
          exact go_nx (by repeat' (first | exact WkL.nil | exact WkS.refl | exact WkS.dead | exact WkS.list | exact WkS.dict | exact WkS.lstS (fun _ => WkS.list) | refine WkL.cons ?_ ?_))
        · have hm := condF hz hj_274
          cases hm
          exact go_nx (by repeat' (first | exact WkL.nil | exact WkS.refl | exact WkS.dead | exact WkS.list | exact WkS.dict | exact WkS.lstS (fun _ => WkS.list) | refine WkL.cons ?_ ?_))
        cases hm
        exact go_nil (fun σ H h => ⟨_, rfl, h.wk (by repeat' (first | exact WkL.nil | exact WkS.refl | exact WkS.dead | exact WkS.list | exact WkS.dict | exact WkS.lstS (fun _ => WkS.list) | refine WkL.cons ?_ ?_))⟩)
      · rintro unions_263 hm
        show Go _ _ _ _ _ [val (pL (pT2 pInt pInt)) ands_0, val pInt first_and_0, val pInt size_0, own (oL (pL (pTup pInt))) known_254, own (oL (pL (pTup pInt))) found_255, val (pT2 pInt pInt) pair_256, own (oN P w pBl) unions_263, val (pTup pInt) one_260, dead, dead, dead]
        cases hm
        exact go_nil (fun σ H h => ⟨_, rfl, h.wk (by repeat' (first | exact WkL.nil | exact WkS.refl | exact WkS.dead | exact WkS.list | exact WkS.dict | exact WkS.lstS (fun _ => WkS.list) | refine WkL.cons ?_ ?_))⟩)
      · rintro r hm v H h
        cases hm
    · rintro unions_259 hm
      show Go _ _ _ _ _ [val (pL (pT2 pInt pInt)) ands_0, val pInt first_and_0, val pInt size_0, own (oL (pL (pTup pInt))) known_254, own (oL (pL (pTup pInt))) found_255, val (pT2 pInt pInt) pair_256, own (oN P w pBl) unions_259, dead, dead, dead, dead]
      obtain ⟨ks_276, h_277, hm⟩ := Option.bind_eq_some_iff.mp hm
      obtain ⟨r_278, h_279, hm⟩ := Option.bind_eq_some_iff.mp hm
      obtain ⟨h_280, hm⟩ := guardO_some hm
      refine go_append (pl_name 4 (by repeat' (first | exact Stb.nil | exact trivial | exact stb_map (fun _ => trivial) _ | refine Stb.cons ?_ ?_)) (hso := own_some)) (XV.frz (x_call (z := ks_276) (ok__law_without_more T) (by decide) T.g__law_without_more T.k__law_without_more T.b__law_without_more (xa_cons (XV.frz (x_callTy (c_listN _) T.g_list (by decide +kernel) (o_listN h_277) (xa1 (x_varN 6)))) xa_nil) rfl (by repeat' (first | exact trivial | refine ⟨no_val, ?_⟩ | refine ⟨no_borL, ?_⟩ | refine ⟨no_bor, ?_⟩)) h_279)) h_280 ?_
      show Go _ _ _ _ _ [val (pL (pT2 pInt pInt)) ands_0, val pInt first_and_0, val pInt size_0, own (oL (pL (pTup pInt))) known_254, own (oL (pL (pTup pInt))) (found_255 ++ [r_278]), val (pT2 pInt pInt) pair_256, own (oN P w pBl) unions_259, dead, dead, dead, dead]
      obtain ⟨v_281, h_282, hm⟩ := Option.bind_eq_some_iff.mp hm
      obtain ⟨h_283, hm⟩ := guardO_some hm
      obtain ⟨h_284, hm⟩ := guardO_some hm
      refine go_append (pl_name 3 (by repeat' (first | exact Stb.nil | exact trivial | exact stb_map (fun _ => trivial) _ | refine Stb.cons ?_ ?_)) (hso := own_some)) (XV.frz (x_op (fun _ => op_cat) (o_cat LV.val LV.own h_283) (x_ix (x_varL 4) LV.bor.sv (x_neg x_int) h_282) (x_lst (xs := [[((known_254).length : Int)]]) (xa_cons (x_tupN (xs := [((known_254).length : Int)]) (xa_cons (x_callB (c_len _) T.g_len (by decide +kernel) (o_lenL LV.bor.sv) (xa1 (x_varL 3))) xa_nil) (le_line rfl)) xa_nil) (le_line rfl)))) h_284 ?_
      show Go _ _ _ _ _ [val (pL (pT2 pInt pInt)) ands_0, val pInt first_and_0, val pInt size_0, own (oL (pL (pTup pInt))) (known_254 ++ [(v_281 ++ [[((known_254).length : Int)]])]), own (oL (pL (pTup pInt))) (found_255 ++ [r_278]), val (pT2 pInt pInt) pair_256, own (oN P w pBl) unions_259, dead, dead, dead, dead]
      cases hm
      exact go_nil (fun σ H h => ⟨_, rfl, h.wk (by repeat' (first | exact WkL.nil | exact WkS.refl | exact WkS.dead | exact WkS.list | exact WkS.dict | exact WkS.lstS (fun _ => WkS.list) | refine WkL.cons ?_ ?_))⟩)
    · rintro r hm v H h
      cases hm
  · rintro s hm
    obtain ⟨known_254, found_255⟩ := s
    show Go _ _ _ _ _ [val (pL (pT2 pInt pInt)) ands_0, val pInt first_and_0, val pInt size_0, own (oL (pL (pTup pInt))) known_254, own (oL (pL (pTup pInt))) found_255, dead, dead, dead, dead, dead, dead]
    cases hm
    exact go_retV 4 rfl own_some (fun v H h => h)
  · rintro r hm v H h
    cases hm

theorem ok__law_same (T : Txt P K mg) : FnG P w K mg base 1 T.f__law_same T.d__law_same ["actual", "due"] (spP (fun (z : (PyData) × (PyData)) => [val (pDa K) z.1, val (pDa K) z.2]) (fun z => m__law_same z.1 z.2) (fun r => val pBl r)) := by
  refine fn_pureG T.F__law_same sc__law_same (fun _ => rfl) (fun cdv A outer s H E hga hr z r B hm => ?_)
  obtain ⟨actual_0, due_0⟩ := z
  replace hm : m__law_same actual_0 due_0 = some r := hm
  unfold m__law_same at hm
  show Go _ _ _ _ _ [val (pDa K) actual_0, val (pDa K) due_0]
  obtain ⟨h_285, hm⟩ := guardO_some hm
  obtain ⟨h_286, hm⟩ := guardO_some hm
  obtain ⟨b_289, h_290, hm⟩ := Option.bind_eq_some_iff.mp hm
  cases hm
  exact go_ret (x_andP (x_cmp (c_eqD _) (o_eqP Vw.val Vw.val h_285 h_286) (nomark _) (x_var 0) (x_var 1)) h_290 (fun z hm => by obtain ⟨h_287, hm⟩ := guardO_some hm; obtain ⟨h_288, hm⟩ := guardO_some hm; cases hm; exact (x_one (x_cmp (fun _ => op_eq) o_eqS (nomark _) (x_callB (c_repr _ (fun _ => hga)) T.g_repr (by decide +kernel) (o_repr h_287) (xa1 (x_var 0))) (x_callB (c_repr _ (fun _ => hga)) T.g_repr (by decide +kernel) (o_repr h_288) (xa1 (x_var 1))))))) (fun v H h => h)

theorem ok__law_greater (T : Txt P K mg) {Pt : Addr} (TB : TabB base mg T.ct Pt) : FnG P w K mg base 6 T.f__law_greater T.d__law_greater ["net", "ands", "first_and", "size"] (spPT Pt tq (fun (z : (S_Net) × (List ((Int) × (Int))) × (Int) × (Int)) => [val (pObj T.C_Net ns_Net sl_Net) z.1, val (pL (pT2 pInt pInt)) z.2.1, val pInt z.2.2.1, val pInt z.2.2.2]) (fun z => m__law_greater z.1 z.2.1 z.2.2.1 z.2.2.2) (fun r => val pBl r)) := by
  refine fn_pureGTT (Pt := Pt) (tq := tq) 4 T.F__law_greater sc__law_greater (fun _ => rfl) rfl (fun cdv A outer s H E hga hr z r B hm => ?_)
  obtain ⟨net_0, ands_0, first_and_0, size_0⟩ := z
  replace hm : m__law_greater net_0 ands_0 first_and_0 size_0 = some r := hm
  unfold m__law_greater at hm
  show Go _ _ _ _ _ [val (pObj T.C_Net ns_Net sl_Net) net_0, val (pL (pT2 pInt pInt)) ands_0, val pInt first_and_0, val pInt size_0, dead, dead, dead, dead, gT Pt tq]
  obtain ⟨r_291, h_292, hm⟩ := Option.bind_eq_some_iff.mp hm
  refine go_set 4 (x_call (z := (ands_0, first_and_0, size_0)) (ok__law_merged_cuts T) (by decide) T.g__law_merged_cuts T.k__law_merged_cuts T.b__law_merged_cuts (xa_cons (x_var 1) (xa_cons (x_var 2) (xa_cons (x_var 3) xa_nil))) rfl (by repeat' (first | exact trivial | refine ⟨no_val, ?_⟩ | refine ⟨no_borL, ?_⟩ | refine ⟨no_bor, ?_⟩)) h_292) ?_
  show Go _ _ _ _ _ [val (pObj T.C_Net ns_Net sl_Net) net_0, val (pL (pT2 pInt pInt)) ands_0, val pInt first_and_0, val pInt size_0, own (oL (pL (pTup pInt))) r_291, dead, dead, dead, gT Pt tq]
  obtain ⟨h_296, hm⟩ := guardO_some hm
  obtain ⟨ys_293, h_294, hm⟩ := Option.bind_eq_some_iff.mp hm
  obtain ⟨m_297, h_298, hm⟩ := Option.bind_eq_some_iff.mp hm
  refine go_set 5 (x_callB (c_max1 _) T.g_max (by decide +kernel) (o_max1 LV.own.sv h_298) (xa1 (x_lc (rs := val (pL (pTup pInt))) (own := [("cuts", 7)]) (xi_bor (x_varL 4)) ⟨fun _ => blkOk_by (N := N__law_greater) (sc := defScope s__law_greater) (by decide +kernel), fun _ _ => rfl⟩ h_296 h_294 ⟨rfl, trivial⟩ (fun cuts_295 o hx hm => by skip; cases hm; exact ⟨_, _, rfl, (xg_name 7), lc_el (x_callB (c_len _) T.g_len (by decide +kernel) (o_lenL LV.val.sv) (xa1 (x_var 7)))⟩)))) ?_
  show Go _ _ _ _ _ [val (pObj T.C_Net ns_Net sl_Net) net_0, val (pL (pT2 pInt pInt)) ands_0, val pInt first_and_0, val pInt size_0, own (oL (pL (pTup pInt))) r_291, val pInt m_297, dead, dead, gT Pt tq]
  refine go_try_only (cv := .ref T.C_TooHard) ⟨rfl, by decide, .inl T.g_TooHard⟩ (fun j hj => ?_)
  show Go _ _ _ _ _ [val (pObj T.C_Net ns_Net sl_Net) net_0, val (pL (pT2 pInt pInt)) ands_0, val pInt first_and_0, val pInt size_0, own (oL (pL (pTup pInt))) r_291, val pInt m_297, dead, dead, gT Pt tq]
  rcases exK_some hm with ⟨e_305, h_300, hm⟩ | ⟨r_299, h_300, hm⟩
  · cases hz : decide (e_305.1 = "TooHard") with
    | true =>
      have hm := condT hz hm
      refine go_setXm (j := 6) (xxm_callT (EX := exT T) (z := (net_0, size_0)) 8 (ok_cuts_of T TB) (by decide) T.g_cuts_of T.k_cuts_of T.b_cuts_of (xa_cons (x_var 0) (xa_cons (x_var 3) xa_nil)) rfl (by repeat' (first | exact trivial | refine ⟨no_val, ?_⟩ | refine ⟨no_borL, ?_⟩ | refine ⟨no_bor, ?_⟩)) (by repeat' (first | exact Stb.nil | exact trivial | exact stb_map (fun _ => trivial) _ | refine Stb.cons ?_ ?_)) h_300) (wish_only (Γd := [val (pObj T.C_Net ns_Net sl_Net) net_0, val (pL (pT2 pInt pInt)) ands_0, val pInt first_and_0, val pInt size_0, own (oL (pL (pTup pInt))) r_291, val pInt m_297, dead, dead, gT Pt tq]) (fun cls d F hx => by rw [(exT_is_TooHard T (of_decide_eq_true hz) hx).1]; exact T.xp_TooHard_TooHard) (by repeat' (first | exact WkL.nil | exact WkS.refl | exact WkS.dead | exact WkS.list | exact WkS.dict | exact WkS.lstS (fun _ => WkS.list) | refine WkL.cons ?_ ?_)) (fun ae_305 cls d F j hx hj => ?_))
      obtain ⟨rfl, rfl⟩ := exT_is_TooHard T (of_decide_eq_true hz) hx
      show Go _ _ _ _ _ [val (pObj T.C_Net ns_Net sl_Net) net_0, val (pL (pT2 pInt pInt)) ands_0, val pInt first_and_0, val pInt size_0, own (oL (pL (pTup pInt))) r_291, val pInt m_297, dead, dead, gT Pt tq]
      cases hm
      exact go_retT 8 (x_cmp (fun _ => op_gt) o_bl (nomark _) (x_var 5) x_int) (fun v H h => h)
    | false =>
      have hm := condF hz hm
      cases hm
  · refine go_setM 6 (xm_callXT (EX := exT T) (z := (net_0, size_0)) 8 (ok_cuts_of T TB) (by decide) T.g_cuts_of T.k_cuts_of T.b_cuts_of (xa_cons (x_var 0) (xa_cons (x_var 3) xa_nil)) rfl (by repeat' (first | exact trivial | refine ⟨no_val, ?_⟩ | refine ⟨no_borL, ?_⟩ | refine ⟨no_bor, ?_⟩)) (by repeat' (first | exact Stb.nil | exact trivial | exact stb_map (fun _ => trivial) _ | refine Stb.cons ?_ ?_)) h_300) ?_
    show Go _ _ _ _ _ [val (pObj T.C_Net ns_Net sl_Net) net_0, val (pL (pT2 pInt pInt)) ands_0, val pInt first_and_0, val pInt size_0, own (oL (pL (pTup pInt))) r_291, val pInt m_297, own (oL (pL (pTup pInt))) r_299, dead, gT Pt tq]
    refine go_end ?_
    show Go _ _ _ _ _ [val (pObj T.C_Net ns_Net sl_Net) net_0, val (pL (pT2 pInt pInt)) ands_0, val pInt first_and_0, val pInt size_0, own (oL (pL (pTup pInt))) r_291, val pInt m_297, own (oL (pL (pTup pInt))) r_299, dead, gT Pt tq]
    refine go_wk (Γ' := [val (pObj T.C_Net ns_Net sl_Net) net_0, val (pL (pT2 pInt pInt)) ands_0, val pInt first_and_0, val pInt size_0, own (oL (pL (pTup pInt))) r_291, val pInt m_297, val (pL (pL (pTup pInt))) r_299, dead, gT Pt tq]) ?_ (WkL.at (j := 6) WkS.list rfl)
    refine go_wk (Γ' := [val (pObj T.C_Net ns_Net sl_Net) net_0, val (pL (pT2 pInt pInt)) ands_0, val pInt first_and_0, val pInt size_0, val (pL (pL (pTup pInt))) r_291, val pInt m_297, val (pL (pL (pTup pInt))) r_299, dead, gT Pt tq]) ?_ (WkL.at (j := 4) WkS.list rfl)
    obtain ⟨b_303, h_304, hm⟩ := Option.bind_eq_some_iff.mp hm
    cases hm
    exact go_retT 8 (x_andP (x_cmp (fun _ => op_le) o_bl (nomark _) (x_var 5) x_int) h_304 (fun z hm => by obtain ⟨r_301, h_302, hm⟩ := Option.bind_eq_some_iff.mp hm; cases hm; exact (x_and (x_callG (z := ((DE.list (DE.list (DE.tup DE.int))).enc r_299, (DE.list (DE.list (DE.tup DE.int))).enc r_291)) (ok__law_same T) (fun _ => hga) (by decide) T.g__law_same T.k__law_same T.b__law_same (xa_cons (XV.data (DE.list (DE.list (DE.tup DE.int))) (x_var 6)) (xa_cons (XV.data (DE.list (DE.list (DE.tup DE.int))) (x_var 4)) xa_nil)) rfl (by repeat' (first | exact trivial | refine ⟨no_val, ?_⟩ | refine ⟨no_borL, ?_⟩ | refine ⟨no_bor, ?_⟩)) h_302) (fun _ => (x_one (x_cmp (c_eqD _) (o_eqD (DE.list (DE.t2 DE.int DE.int)) (by decide) Vw.val Vw.val (fun _ _ => ⟨trivial, trivial⟩) (fun _ _ => ⟨trivial, trivial⟩)) (nomark _) (x_fld 2 (x_var 0) OV.val T.at_Net_ands) (x_var 1)))) rfl))) (fun v H h => h)

theorem ok__law_subsets (T : Txt P K mg) : FnOk P w K mg base CX0 1 T.f__law_subsets T.d__law_subsets ["limit", "size"] (spP (fun (z : (Int) × (Int)) => [val pInt z.1, val pInt z.2]) (fun z => m__law_subsets z.1 z.2) (fun r => val (pL (pTup pInt)) r)) := by
  refine fn_pure T.F__law_subsets sc__law_subsets (fun _ => rfl) (fun cdv A outer s H E hr z r B hm => ?_)
  obtain ⟨limit_0, size_0⟩ := z
  replace hm : m__law_subsets limit_0 size_0 = some r := hm
  unfold m__law_subsets at hm
  show Go _ _ _ _ _ [val pInt limit_0, val pInt size_0, dead, dead, dead]
  obtain ⟨subsets_306, h_307, hm⟩ := letO_some hm
  refine go_set 2 (XV.eqV (XV.frz (x_lst (xs := [([] : List Int)]) (xa_cons (x_tupN (p := pInt) (xs := []) xa_nil (Nat.zero_le _)) xa_nil) (le_line rfl))) h_307) ?_
  show Go _ _ _ _ _ [val pInt limit_0, val pInt size_0, val (pL (pTup pInt)) subsets_306, dead, dead]
  obtain ⟨h_308, hm⟩ := guardO_some hm
  refine go_forK (rs := val pInt) (fun s => [val pInt limit_0, val pInt size_0, val (pL (pTup pInt)) s, dead, dead]) (fun r => val (pL (pTup pInt)) r) (xi_range2 T.g_range x_int (x_var 0) h_308) (by repeat' (first | exact WkL.nil | exact WkS.refl | exact WkS.dead | exact WkS.list | exact WkS.dict | exact WkS.lstS (fun _ => WkS.list) | refine WkL.cons ?_ ?_)) hm ?_ ?_ ?_
  · rintro B1 node_310 subsets_309 out hx hm hr1 hl1
    refine ⟨_, _, (xg_name 3), ?_⟩
    show Go _ _ _ _ _ [val pInt limit_0, val pInt size_0, val (pL (pTup pInt)) subsets_309, val pInt node_310, dead]
    obtain ⟨h_315, hm⟩ := guardO_some hm
    obtain ⟨ys_311, h_312, hm⟩ := Option.bind_eq_some_iff.mp hm
    obtain ⟨h_316, hm⟩ := guardO_some hm
    obtain ⟨subsets_317, h_318, hm⟩ := letO_some hm
    refine go_set 2 (XV.eqV (XV.frz (x_op (fun _ => op_cat) (o_cat LV.val LV.own h_316) (x_var 2) (x_lc (rs := val (pTup pInt)) (own := [("subset", 4)]) (xi_list (x_var 2)).ro ⟨fun _ => blkOk_by (N := N__law_subsets) (sc := defScope s__law_subsets) (by decide +kernel), fun _ _ => rfl⟩ h_315 h_312 ⟨rfl, trivial⟩ (fun subset_313 o hx hm => by skip; refine ⟨_, _, rfl, (xg_name 4), lc_if (xt_cmp (fun _ => op_lt) o_bl (nomark _) (x_callB (c_len _) T.g_len (by decide +kernel) (o_lenT TV.val) (xa1 (x_var 4))) (x_var 1)) hm (fun hm => ?_)⟩; obtain ⟨h_314, hm⟩ := guardO_some hm; cases hm; exact ⟨_, rfl, (x_op (op_catT _) (o_catT h_314) (x_var 4) (x_tupN (xs := [node_310]) (xa_cons (x_var 3) xa_nil) (le_line rfl)))⟩)))) h_318) ?_
    show Go _ _ _ _ _ [val pInt limit_0, val pInt size_0, val (pL (pTup pInt)) subsets_317, val pInt node_310, dead]
    cases hm
    exact go_nil (fun σ H h => ⟨_, rfl, h.wk (by repeat' (first | exact WkL.nil | exact WkS.refl | exact WkS.dead | exact WkS.list | exact WkS.dict | exact WkS.lstS (fun _ => WkS.list) | refine WkL.cons ?_ ?_))⟩)
  · rintro subsets_309 hm
    show Go _ _ _ _ _ [val pInt limit_0, val pInt size_0, val (pL (pTup pInt)) subsets_309, dead, dead]
    cases hm
    exact go_ret (x_var 2) (fun v H h => h)
  · rintro r hm v H h
    cases hm

theorem ok_law (T : Txt P K mg) {Pt : Addr} (TB : TabB base mg T.ct Pt) : FnG P w K mg base 7 T.f_law T.d_law ["script"] (spLT Pt tq (fun (z : (List Int)) => [val (pScr K) z]) (fun z => m_law z) (fun r => val pBl r)) := by
  refine fn_pureGT (Pt := Pt) (tq := tq) 14 T.F_law sc_law (fun _ => rfl) rfl (fun cdv A outer s H E hga hr script_0 r B hm => ?_)
  replace hm : m_law script_0 = some r := hm
  unfold m_law at hm
  show Go _ _ _ _ _ [val (pScr K) script_0, dead, dead, dead, dead, dead, dead, dead, dead, dead, dead, dead, dead, dead, dead, gT Pt tq]
  obtain ⟨r_319, h_320, hm⟩ := Option.bind_eq_some_iff.mp hm
  obtain ⟨r_321, h_322, hm⟩ := Option.bind_eq_some_iff.mp hm
  refine go_set 1 (x_call (z := (r_319, [(4 : Int), (3 : Int), (6 : Int), (8 : Int), (16 : Int)])) (ok__law_digits T) (by decide) T.g__law_digits T.k__law_digits T.b__law_digits (xa_cons (x_call (z := (script_0, (0 : Int))) (ok__law_cell T) (by decide) T.g__law_cell T.k__law_cell T.b__law_cell (xa_cons (x_var 0) (xa_cons x_int xa_nil)) rfl (by repeat' (first | exact trivial | refine ⟨no_val, ?_⟩ | refine ⟨no_borL, ?_⟩ | refine ⟨no_bor, ?_⟩)) h_320) (xa_cons (XV.frz (x_lst (xs := [(4 : Int), (3 : Int), (6 : Int), (8 : Int), (16 : Int)]) (xa_cons x_int (xa_cons x_int (xa_cons x_int (xa_cons x_int (xa_cons x_int xa_nil))))) (le_line rfl))) xa_nil)) rfl (by repeat' (first | exact trivial | refine ⟨no_val, ?_⟩ | refine ⟨no_borL, ?_⟩ | refine ⟨no_bor, ?_⟩)) h_322) ?_
  show Go _ _ _ _ _ [val (pScr K) script_0, own (oL pInt) r_321, dead, dead, dead, dead, dead, dead, dead, dead, dead, dead, dead, dead, dead, gT Pt tq]
  obtain ⟨v_323, h_324, hm⟩ := Option.bind_eq_some_iff.mp hm
  obtain ⟨sizes_325, hj_334, hm⟩ := Option.bind_eq_some_iff.mp hm
  refine go_ifJ [val (pScr K) script_0, own (oL pInt) sizes_325, dead, dead, dead, dead, dead, dead, dead, dead, dead, dead, dead, dead, dead, gT Pt tq] (xt_chain (fun _ => op_le) (fun _ => op_lt) o_bl (fun _ => o_bl) rfl x_int (x_ix (x_varL 1) LV.bor.sv x_int h_324) (fun _ => x_int)) (fun hz => ?_) (fun hz => ?_) ?_
  · have hm := condT hz hj_334
    obtain ⟨v_326, h_327, hm⟩ := Option.bind_eq_some_iff.mp hm
    obtain ⟨xs_328, h_329, hm⟩ := Option.bind_eq_some_iff.mp hm
    refine go_setitem (pl_name 1 (by repeat' (first | exact Stb.nil | exact trivial | exact stb_map (fun _ => trivial) _ | refine Stb.cons ?_ ?_)) (hso := own_some)) x_int (x_op (fun _ => op_add) o_int (x_ix (x_varL 1) LV.bor.sv x_int h_327) x_int) h_329 ?_
    show Go _ _ _ _ _ [val (pScr K) script_0, own (oL pInt) xs_328, dead, dead, dead, dead, dead, dead, dead, dead, dead, dead, dead, dead, dead, gT Pt tq]
    obtain ⟨r_330, h_331, hm⟩ := Option.bind_eq_some_iff.mp hm
    obtain ⟨xs_332, h_333, hm⟩ := Option.bind_eq_some_iff.mp hm
    refine go_setitem (pl_name 1 (by repeat' (first | exact Stb.nil | exact trivial | exact stb_map (fun _ => trivial) _ | refine Stb.cons ?_ ?_)) (hso := own_some)) x_int (x_op (fun _ => op_add) o_int x_int (x_op (fun _ => op_mod) (o_intC (by decide)) (x_call (z := (script_0, (40 : Int))) (ok__law_cell T) (by decide) T.g__law_cell T.k__law_cell T.b__law_cell (xa_cons (x_var 0) (xa_cons x_int xa_nil)) rfl (by repeat' (first | exact trivial | refine ⟨no_val, ?_⟩ | refine ⟨no_borL, ?_⟩ | refine ⟨no_bor, ?_⟩)) h_331) x_int)) h_333 ?_
    show Go _ _ _ _ _ [val (pScr K) script_0, own (oL pInt) xs_332, dead, dead, dead, dead, dead, dead, dead, dead, dead, dead, dead, dead, dead, gT Pt tq]
    cases hm
    exact go_nx (by repeat' (first | exact WkL.nil | exact WkS.refl | exact WkS.dead | exact WkS.list | exact WkS.dict | exact WkS.lstS (fun _ => WkS.list) | refine WkL.cons ?_ ?_))
  · have hm := condF hz hj_334
    cases hm
    exact go_nx (by repeat' (first | exact WkL.nil | exact WkS.refl | exact WkS.dead | exact WkS.list | exact WkS.dict | exact WkS.lstS (fun _ => WkS.list) | refine WkL.cons ?_ ?_))
  obtain ⟨v_336, h_337, hm⟩ := Option.bind_eq_some_iff.mp hm
  obtain ⟨v_338, h_339, hm⟩ := Option.bind_eq_some_iff.mp hm
  obtain ⟨first_and_340, h_341, hm⟩ := letO_some hm
  refine go_set 2 (XV.eqV (x_op (fun _ => op_add) o_int (x_op (fun _ => op_add) o_int x_int (x_ix (x_varL 1) LV.bor.sv x_int h_337)) (x_ix (x_varL 1) LV.bor.sv x_int h_339)) h_341) ?_
  show Go _ _ _ _ _ [val (pScr K) script_0, own (oL pInt) sizes_325, val pInt first_and_340, dead, dead, dead, dead, dead, dead, dead, dead, dead, dead, dead, dead, gT Pt tq]
  refine go_set 3 (x_lst (p := (pT2 pInt pInt)) (xs := []) xa_nil (Nat.zero_le _)) ?_
  show Go _ _ _ _ _ [val (pScr K) script_0, own (oL pInt) sizes_325, val pInt first_and_340, own (oL (pT2 pInt pInt)) ([] : List ((Int) × (Int))), dead, dead, dead, dead, dead, dead, dead, dead, dead, dead, dead, gT Pt tq]
  obtain ⟨v_342, h_343, hm⟩ := Option.bind_eq_some_iff.mp hm
  obtain ⟨h_345, hm⟩ := guardO_some hm
  refine go_forK (rs := val pInt) (fun s => [val (pScr K) script_0, own (oL pInt) sizes_325, val pInt first_and_340, own (oL (pT2 pInt pInt)) s, dead, dead, dead, dead, dead, dead, dead, dead, dead, dead, dead, gT Pt tq]) (fun r => val pBl r) (xi_range1 T.g_range (x_ix (x_varL 1) LV.bor.sv x_int h_343) h_345) (by repeat' (first | exact WkL.nil | exact WkS.refl | exact WkS.dead | exact WkS.list | exact WkS.dict | exact WkS.lstS (fun _ => WkS.list) | refine WkL.cons ?_ ?_)) hm ?_ ?_ ?_
  · rintro B1 k_347 ands_346 out hx hm hr1 hl1
    refine ⟨_, _, (xg_name 4), ?_⟩
    show Go _ _ _ _ _ [val (pScr K) script_0, own (oL pInt) sizes_325, val pInt first_and_340, own (oL (pT2 pInt pInt)) ands_346, val pInt k_347, dead, dead, dead, dead, dead, dead, dead, dead, dead, dead, gT Pt tq]
    obtain ⟨r_348, h_349, hm⟩ := Option.bind_eq_some_iff.mp hm
    refine go_set 5 (x_call (z := (script_0, ((1 : Int) + k_347))) (ok__law_cell T) (by decide) T.g__law_cell T.k__law_cell T.b__law_cell (xa_cons (x_var 0) (xa_cons (x_op (fun _ => op_add) o_int x_int (x_var 4)) xa_nil)) rfl (by repeat' (first | exact trivial | refine ⟨no_val, ?_⟩ | refine ⟨no_borL, ?_⟩ | refine ⟨no_bor, ?_⟩)) h_349) ?_
    show Go _ _ _ _ _ [val (pScr K) script_0, own (oL pInt) sizes_325, val pInt first_and_340, own (oL (pT2 pInt pInt)) ands_346, val pInt k_347, val pInt r_348, dead, dead, dead, dead, dead, dead, dead, dead, dead, gT Pt tq]
    obtain ⟨r_350, h_351, hm⟩ := Option.bind_eq_some_iff.mp hm
    refine go_set 6 (x_call (z := (r_348, first_and_340, (first_and_340 + k_347))) (ok__law_literal T) (by decide) T.g__law_literal T.k__law_literal T.b__law_literal (xa_cons (x_var 5) (xa_cons (x_var 2) (xa_cons (x_op (fun _ => op_add) o_int (x_var 2) (x_var 4)) xa_nil))) rfl (by repeat' (first | exact trivial | refine ⟨no_val, ?_⟩ | refine ⟨no_borL, ?_⟩ | refine ⟨no_bor, ?_⟩)) h_351) ?_
    show Go _ _ _ _ _ [val (pScr K) script_0, own (oL pInt) sizes_325, val pInt first_and_340, own (oL (pT2 pInt pInt)) ands_346, val pInt k_347, val pInt r_348, val pInt r_350, dead, dead, dead, dead, dead, dead, dead, dead, gT Pt tq]
    obtain ⟨r_352, h_353, hm⟩ := Option.bind_eq_some_iff.mp hm
    obtain ⟨h_354, hm⟩ := guardO_some hm
    refine go_append (pl_name 3 (by repeat' (first | exact Stb.nil | exact trivial | exact stb_map (fun _ => trivial) _ | refine Stb.cons ?_ ?_)) (hso := own_some)) (x_tup2 (xa_cons (x_var 6) (xa_cons (x_call (z := ((r_348 / (1000 : Int)), first_and_340, (first_and_340 + k_347))) (ok__law_literal T) (by decide) T.g__law_literal T.k__law_literal T.b__law_literal (xa_cons (x_op (fun _ => op_fdiv) (o_intC ⟨by decide, by decide⟩) (x_var 5) x_int) (xa_cons (x_var 2) (xa_cons (x_op (fun _ => op_add) o_int (x_var 2) (x_var 4)) xa_nil))) rfl (by repeat' (first | exact trivial | refine ⟨no_val, ?_⟩ | refine ⟨no_borL, ?_⟩ | refine ⟨no_bor, ?_⟩)) h_353) xa_nil))) h_354 ?_
    show Go _ _ _ _ _ [val (pScr K) script_0, own (oL pInt) sizes_325, val pInt first_and_340, own (oL (pT2 pInt pInt)) (ands_346 ++ [(r_350, r_352)]), val pInt k_347, val pInt r_348, val pInt r_350, dead, dead, dead, dead, dead, dead, dead, dead, gT Pt tq]
    cases hm
    exact go_nil (fun σ H h => ⟨_, rfl, h.wk (by repeat' (first | exact WkL.nil | exact WkS.refl | exact WkS.dead | exact WkS.list | exact WkS.dict | exact WkS.lstS (fun _ => WkS.list) | refine WkL.cons ?_ ?_))⟩)
  · rintro ands_346 hm
    show Go _ _ _ _ _ [val (pScr K) script_0, own (oL pInt) sizes_325, val pInt first_and_340, own (oL (pT2 pInt pInt)) ands_346, dead, dead, dead, dead, dead, dead, dead, dead, dead, dead, dead, gT Pt tq]
    obtain ⟨v_355, h_356, hm⟩ := Option.bind_eq_some_iff.mp hm
    obtain ⟨v_357, h_358, hm⟩ := Option.bind_eq_some_iff.mp hm
    obtain ⟨h_360, hm⟩ := guardO_some hm
    obtain ⟨h_364, hm⟩ := guardO_some hm
    obtain ⟨ys_361, h_362, hm⟩ := Option.bind_eq_some_iff.mp hm
    obtain ⟨o_365, h_366, hm⟩ := Option.bind_eq_some_iff.mp hm
    refine go_set 7 (x_make (z := (v_355, ys_361, ands_346)) (ok_Net_init T) (by decide) T.mk_Net T.g_Net T.b_Net_init (xa_cons (x_ix (x_varL 1) LV.bor.sv x_int h_356) (xa_cons (XV.frz (x_lc (rs := val pInt) (own := [("k", 4)]) (xi_range1 T.g_range (x_ix (x_varL 1) LV.bor.sv x_int h_358) h_360).ro ⟨fun _ => blkOk_by (N := N_law) (sc := defScope s_law) (by decide +kernel), fun _ _ => rfl⟩ h_364 h_362 ⟨rfl, trivial⟩ (fun k_363 o hx hm => by skip; cases hm; exact ⟨_, _, rfl, (xg_name 4), lc_el (x_tup2 (xa_cons x_int (xa_cons (x_var 4) xa_nil)))⟩))) (xa_cons (XV.frz (x_callTy (c_list _) T.g_list (by decide +kernel) (o_listL LV.bor.sv) (xa1 (x_varL 3)))) xa_nil))) rfl (by repeat' (first | exact trivial | refine ⟨no_val, ?_⟩ | refine ⟨no_borL, ?_⟩ | refine ⟨no_bor, ?_⟩)) rfl h_366 rfl) ?_
    show Go _ _ _ _ _ [val (pScr K) script_0, own (oL pInt) sizes_325, val pInt first_and_340, own (oL (pT2 pInt pInt)) ands_346, dead, dead, dead, obj T.C_Net ns_Net (dl_Net o_365.1), dead, dead, dead, dead, dead, dead, dead, gT Pt tq]
    obtain ⟨v_367, h_368, hm⟩ := Option.bind_eq_some_iff.mp hm
    refine go_set 8 (x_ix (x_varL 1) LV.bor.sv x_int h_368) ?_
    show Go _ _ _ _ _ [val (pScr K) script_0, own (oL pInt) sizes_325, val pInt first_and_340, own (oL (pT2 pInt pInt)) ands_346, dead, dead, dead, obj T.C_Net ns_Net (dl_Net o_365.1), val pInt v_367, dead, dead, dead, dead, dead, dead, gT Pt tq]
    obtain ⟨v_369, h_370, hm⟩ := Option.bind_eq_some_iff.mp hm
    refine go_if (xt_cmp (fun _ => op_eq) o_eqI (nomark _) (x_ix (x_varL 1) LV.bor.sv x_int h_370) x_int) (fun hz => ?_) (fun hz => ?_)
    · have hm := condT hz hm
      obtain ⟨r_371, h_372, hm⟩ := Option.bind_eq_some_iff.mp hm
      obtain ⟨r_373, h_374, hm⟩ := Option.bind_eq_some_iff.mp hm
      cases hm
      exact go_retMM (xm_callT (z := r_371) 15 (ok__law_many_cuts T TB) (by decide) T.g__law_many_cuts T.k__law_many_cuts T.b__law_many_cuts (xa_cons (x_call (z := (script_0, (7 : Int))) (ok__law_cell T) (by decide) T.g__law_cell T.k__law_cell T.b__law_cell (xa_cons (x_var 0) (xa_cons x_int xa_nil)) rfl (by repeat' (first | exact trivial | refine ⟨no_val, ?_⟩ | refine ⟨no_borL, ?_⟩ | refine ⟨no_bor, ?_⟩)) h_372) xa_nil) rfl (by repeat' (first | exact trivial | refine ⟨no_val, ?_⟩ | refine ⟨no_borL, ?_⟩ | refine ⟨no_bor, ?_⟩)) (by repeat' (first | exact Stb.nil | exact trivial | exact stb_map (fun _ => trivial) _ | refine Stb.cons ?_ ?_)) h_374) (fun v H h => h)
    · have hm := condF hz hm
      refine go_join ?_
      refine go_if (xw_pt (xw_or (xt_cmp (fun _ => op_eq) o_eqI (nomark _) (x_var 8) x_int) (fun _ => (xw_or1 (xt_cmp (fun _ => op_eq) o_eqI (nomark _) (x_var 8) x_int))) rfl)) (fun hz => ?_) (fun hz => ?_)
      · have hm := condT hz hm
        obtain ⟨r_375, h_376, hm⟩ := Option.bind_eq_some_iff.mp hm
        obtain ⟨far_377, h_378, hm⟩ := letO_some hm
        refine go_set 9 (XV.eqV (x_op (fun _ => op_add) o_int x_int (x_op (fun _ => op_mod) (o_intC (by decide)) (x_call (z := (script_0, (41 : Int))) (ok__law_cell T) (by decide) T.g__law_cell T.k__law_cell T.b__law_cell (xa_cons (x_var 0) (xa_cons x_int xa_nil)) rfl (by repeat' (first | exact trivial | refine ⟨no_val, ?_⟩ | refine ⟨no_borL, ?_⟩ | refine ⟨no_bor, ?_⟩)) h_376) x_int)) h_378) ?_
        show Go _ _ _ _ _ [val (pScr K) script_0, own (oL pInt) sizes_325, val pInt first_and_340, own (oL (pT2 pInt pInt)) ands_346, dead, dead, dead, obj T.C_Net ns_Net (dl_Net o_365.1), val pInt v_367, val pInt far_377, dead, dead, dead, dead, dead, gT Pt tq]
        refine go_wk (Γ' := [val (pScr K) script_0, own (oL pInt) sizes_325, val pInt first_and_340, own (oL (pT2 pInt pInt)) ands_346, dead, dead, dead, val (pObj T.C_Net ns_Net sl_Net) o_365.1, val pInt v_367, val pInt far_377, dead, dead, dead, dead, dead, gT Pt tq]) ?_ (WkL.at (j := 7) (WkS.obj (sl := sl_Net) (by repeat' (first | exact WkL.nil | exact WkS.refl | exact WkS.dead | exact WkS.list | exact WkS.dict | exact WkS.lstS (fun _ => WkS.list) | refine WkL.cons ?_ ?_)) (by repeat' (first | exact trivial | refine ⟨⟨_, _, _, rfl⟩, ?_⟩))) rfl)
        obtain ⟨r_379, h_380, hm⟩ := Option.bind_eq_some_iff.mp hm
        obtain ⟨v_381, h_382, hm⟩ := Option.bind_eq_some_iff.mp hm
        obtain ⟨r_383, h_384, hm⟩ := Option.bind_eq_some_iff.mp hm
        cases hm
        exact go_retMM (xm_callT (z := (o_365.1, v_381)) 15 (ok__law_refused T TB) (by decide) T.g__law_refused T.k__law_refused T.b__law_refused (xa_cons (x_var 7) (xa_cons (x_ix (x_lst (xs := [v_367, far_377, (-far_377)]) (xa_cons (x_var 8) (xa_cons (x_var 9) (xa_cons (x_neg (x_var 9)) xa_nil))) (le_line rfl)) LV.own.sv (x_op (fun _ => op_mod) (o_intC (by decide)) (x_call (z := (script_0, (42 : Int))) (ok__law_cell T) (by decide) T.g__law_cell T.k__law_cell T.b__law_cell (xa_cons (x_var 0) (xa_cons x_int xa_nil)) rfl (by repeat' (first | exact trivial | refine ⟨no_val, ?_⟩ | refine ⟨no_borL, ?_⟩ | refine ⟨no_bor, ?_⟩)) h_380) x_int) h_382) xa_nil)) rfl (by repeat' (first | exact trivial | refine ⟨no_val, ?_⟩ | refine ⟨no_borL, ?_⟩ | refine ⟨no_bor, ?_⟩)) (by repeat' (first | exact Stb.nil | exact trivial | exact stb_map (fun _ => trivial) _ | refine Stb.cons ?_ ?_)) h_384) (fun v H h => h)
      · have hm := condF hz hm
        refine go_join ?_
        obtain ⟨v_385, h_386, hm⟩ := Option.bind_eq_some_iff.mp hm
        refine go_if (xt_cmp (fun _ => op_gt) o_bl (nomark _) (x_ix (x_varL 1) LV.bor.sv x_int h_386) x_int) (fun hz => ?_) (fun hz => ?_)
        · have hm := condT hz hm
          refine go_wk (Γ' := [val (pScr K) script_0, own (oL pInt) sizes_325, val pInt first_and_340, own (oL (pT2 pInt pInt)) ands_346, dead, dead, dead, val (pObj T.C_Net ns_Net sl_Net) o_365.1, val pInt v_367, dead, dead, dead, dead, dead, dead, gT Pt tq]) ?_ (WkL.at (j := 7) (WkS.obj (sl := sl_Net) (by repeat' (first | exact WkL.nil | exact WkS.refl | exact WkS.dead | exact WkS.list | exact WkS.dict | exact WkS.lstS (fun _ => WkS.list) | refine WkL.cons ?_ ?_)) (by repeat' (first | exact trivial | refine ⟨⟨_, _, _, rfl⟩, ?_⟩))) rfl)
          refine go_wk (Γ' := [val (pScr K) script_0, own (oL pInt) sizes_325, val pInt first_and_340, val (pL (pT2 pInt pInt)) ands_346, dead, dead, dead, val (pObj T.C_Net ns_Net sl_Net) o_365.1, val pInt v_367, dead, dead, dead, dead, dead, dead, gT Pt tq]) ?_ (WkL.at (j := 3) WkS.list rfl)
          obtain ⟨r_387, h_388, hm⟩ := Option.bind_eq_some_iff.mp hm
          cases hm
          exact go_retMM (xm_callGT (z := (o_365.1, ands_346, first_and_340, v_367)) 15 (ok__law_greater T TB) (fun _ => hga) (by decide) T.g__law_greater T.k__law_greater T.b__law_greater (xa_cons (x_var 7) (xa_cons (x_var 3) (xa_cons (x_var 2) (xa_cons (x_var 8) xa_nil)))) rfl (by repeat' (first | exact trivial | refine ⟨no_val, ?_⟩ | refine ⟨no_borL, ?_⟩ | refine ⟨no_bor, ?_⟩)) (by repeat' (first | exact Stb.nil | exact trivial | exact stb_map (fun _ => trivial) _ | refine Stb.cons ?_ ?_)) h_388) (fun v H h => h)
        · have hm := condF hz hm
          refine go_join ?_
          refine go_set 10 (x_lst (p := (pL (pTup pInt))) (xs := []) xa_nil (Nat.zero_le _)) ?_
          show Go _ _ _ _ _ [val (pScr K) script_0, own (oL pInt) sizes_325, val pInt first_and_340, own (oL (pT2 pInt pInt)) ands_346, dead, dead, dead, obj T.C_Net ns_Net (dl_Net o_365.1), val pInt v_367, dead, own (oL (pL (pTup pInt))) ([] : List (List (List (Int)))), dead, dead, dead, dead, gT Pt tq]
          obtain ⟨v_389, h_390, hm⟩ := Option.bind_eq_some_iff.mp hm
          obtain ⟨h_392, hm⟩ := guardO_some hm
          refine go_forK (rs := val pInt) (fun s => [val (pScr K) script_0, own (oL pInt) sizes_325, val pInt first_and_340, own (oL (pT2 pInt pInt)) ands_346, dead, dead, dead, obj T.C_Net ns_Net (dl_Net o_365.1), val pInt v_367, dead, own (oL (pL (pTup pInt))) s, dead, dead, dead, dead, gT Pt tq]) (fun r => val pBl r) (xi_range1 T.g_range (x_ix (x_varL 1) LV.bor.sv x_int h_390) h_392) (by repeat' (first | exact WkL.nil | exact WkS.refl | exact WkS.dead | exact WkS.list | exact WkS.dict | exact WkS.lstS (fun _ => WkS.list) | refine WkL.cons ?_ ?_)) hm ?_ ?_ ?_
          · rintro B1 k_394 due_393 out hx hm hr1 hl1
            refine ⟨_, _, (xg_name 4), ?_⟩
            show Go _ _ _ _ _ [val (pScr K) script_0, own (oL pInt) sizes_325, val pInt first_and_340, own (oL (pT2 pInt pInt)) ands_346, val pInt k_394, dead, dead, obj T.C_Net ns_Net (dl_Net o_365.1), val pInt v_367, dead, own (oL (pL (pTup pInt))) due_393, dead, dead, dead, dead, gT Pt tq]
            obtain ⟨r_395, h_396, hm⟩ := Option.bind_eq_some_iff.mp hm
            obtain ⟨h_400, hm⟩ := guardO_some hm
            obtain ⟨ys_397, h_398, hm⟩ := Option.bind_eq_some_iff.mp hm
            refine go_set 11 (x_callB (c_sortP _) T.g_sorted (by decide +kernel) (o_sortP LV.own) (xa1 (x_lc (rs := val (pTup pInt)) (own := [("subset", 13)]) (xi_list (x_call (z := ((first_and_340 + k_394), v_367)) (ok__law_subsets T) (by decide) T.g__law_subsets T.k__law_subsets T.b__law_subsets (xa_cons (x_op (fun _ => op_add) o_int (x_var 2) (x_var 4)) (xa_cons (x_var 8) xa_nil)) rfl (by repeat' (first | exact trivial | refine ⟨no_val, ?_⟩ | refine ⟨no_borL, ?_⟩ | refine ⟨no_bor, ?_⟩)) h_396)).ro ⟨fun _ => blkOk_by (N := N_law) (sc := defScope s_law) (by decide +kernel), fun _ _ => rfl⟩ h_400 h_398 ⟨rfl, trivial⟩ (fun subset_399 o hx hm => by skip; cases hm; exact ⟨_, _, rfl, (xg_name 13), lc_el (x_tup2 (xa_cons (x_callB (c_len _) T.g_len (by decide +kernel) (o_lenT TV.val) (xa1 (x_var 13))) (xa_cons (x_var 13) xa_nil)))⟩)))) ?_
            show Go _ _ _ _ _ [val (pScr K) script_0, own (oL pInt) sizes_325, val pInt first_and_340, own (oL (pT2 pInt pInt)) ands_346, val pInt k_394, dead, dead, obj T.C_Net ns_Net (dl_Net o_365.1), val pInt v_367, dead, own (oL (pL (pTup pInt))) due_393, own (oL (pT2 pInt (pTup pInt))) (sortP ys_397), dead, dead, dead, gT Pt tq]
            obtain ⟨near_401, h_402, hm⟩ := letO_some hm
            refine go_set 12 (XV.eqO (x_slc (x_varL 3) LV.bor.sv xo_none (xo_some (x_op (fun _ => op_add) o_int (x_var 4) x_int))) h_402) ?_
            show Go _ _ _ _ _ [val (pScr K) script_0, own (oL pInt) sizes_325, val pInt first_and_340, own (oL (pT2 pInt pInt)) ands_346, val pInt k_394, dead, dead, obj T.C_Net ns_Net (dl_Net o_365.1), val pInt v_367, dead, own (oL (pL (pTup pInt))) due_393, own (oL (pT2 pInt (pTup pInt))) (sortP ys_397), own (oL (pT2 pInt pInt)) near_401, dead, dead, gT Pt tq]
            obtain ⟨h_408, hm⟩ := guardO_some hm
            obtain ⟨ys_403, h_404, hm⟩ := Option.bind_eq_some_iff.mp hm
            obtain ⟨h_409, hm⟩ := guardO_some hm
            refine go_append (pl_name 10 (by repeat' (first | exact Stb.nil | exact trivial | exact stb_map (fun _ => trivial) _ | refine Stb.cons ?_ ?_)) (hso := own_some)) (XV.frz (x_lc (rs := val (pT2 pInt (pTup pInt))) (own := [("pair", 14)]) (xi_bor (x_varL 11)) ⟨fun _ => blkOk_by (N := N_law) (sc := defScope s_law) (by decide +kernel), fun _ _ => rfl⟩ h_408 h_404 ⟨rfl, trivial⟩ (fun pair_405 o hx hm => by obtain ⟨r_406, h_407, hm⟩ := Option.bind_eq_some_iff.mp hm; refine ⟨_, _, rfl, (xg_name 14), lc_if (xt_val (x_callF (z := (near_401, first_and_340, (first_and_340 + k_394), pair_405.2)) (ok__law_is_cut T) Flat.bl (by decide) T.g__law_is_cut T.k__law_is_cut T.b__law_is_cut (xa_cons (x_varL 12) (xa_cons (x_var 2) (xa_cons (x_op (fun _ => op_add) o_int (x_var 2) (x_var 4)) (xa_cons (XV.frz (x_callTy (c_list _) T.g_list (by decide +kernel) (o_listT TV.val) (xa1 (x_snd (x_var (z := pair_405) 14) x_int)))) xa_nil)))) (AV.to (.cons (LV.vw LV.bor) (.cons Vw.val (.cons Vw.val (.cons Vw.val .nil))))) (by repeat' (first | exact trivial | refine ⟨no_val, ?_⟩ | refine ⟨no_borL, ?_⟩ | refine ⟨no_bor, ?_⟩)) h_407)) hm (fun hm => ?_)⟩; skip; cases hm; exact ⟨_, rfl, (x_snd (x_var (z := pair_405) 14) x_int)⟩))) h_409 ?_
            show Go _ _ _ _ _ [val (pScr K) script_0, own (oL pInt) sizes_325, val pInt first_and_340, own (oL (pT2 pInt pInt)) ands_346, val pInt k_394, dead, dead, obj T.C_Net ns_Net (dl_Net o_365.1), val pInt v_367, dead, own (oL (pL (pTup pInt))) (due_393 ++ [ys_403]), own (oL (pT2 pInt (pTup pInt))) (sortP ys_397), own (oL (pT2 pInt pInt)) near_401, dead, dead, gT Pt tq]
            cases hm
            exact go_nil (fun σ H h => ⟨_, rfl, h.wk (by repeat' (first | exact WkL.nil | exact WkS.refl | exact WkS.dead | exact WkS.list | exact WkS.dict | exact WkS.lstS (fun _ => WkS.list) | refine WkL.cons ?_ ?_))⟩)
          · rintro due_393 hm
            show Go _ _ _ _ _ [val (pScr K) script_0, own (oL pInt) sizes_325, val pInt first_and_340, own (oL (pT2 pInt pInt)) ands_346, dead, dead, dead, obj T.C_Net ns_Net (dl_Net o_365.1), val pInt v_367, dead, own (oL (pL (pTup pInt))) due_393, dead, dead, dead, dead, gT Pt tq]
            obtain ⟨b_418, h_419, hm⟩ := Option.bind_eq_some_iff.mp hm
            refine go_if (xw_pt (xw_orP (xt_cmp (c_neD _) (o_neD (DE.list (DE.t2 DE.int DE.int)) (by decide) (LV.vw LV.bor) (LV.vw LV.bor) (fun _ _ => ⟨trivial, trivial⟩) (fun _ _ => ⟨trivial, trivial⟩)) (nomark _) (x_fldL 2 (x_varO 7) OV.bobj T.at_Net_ands) (x_varL 3)) h_419 (fun z hm => by obtain ⟨v_410, h_411, hm⟩ := Option.bind_eq_some_iff.mp hm; obtain ⟨h_413, hm⟩ := guardO_some hm; obtain ⟨h_417, hm⟩ := guardO_some hm; obtain ⟨ys_414, h_415, hm⟩ := Option.bind_eq_some_iff.mp hm; cases hm; exact (xw_or1 (xt_cmp (c_neD _) (o_neD (DE.list (DE.t2 DE.int DE.int)) (by decide) (LV.vw LV.bor) (LV.vw LV.own) (fun _ _ => ⟨trivial, trivial⟩) (fun _ _ => ⟨trivial, trivial⟩)) (nomark _) (x_fldL 1 (x_varO 7) OV.bobj T.at_Net_latches) (x_lc (rs := val pInt) (own := [("k", 4)]) (xi_range1 T.g_range (x_ix (x_varL 1) LV.bor.sv x_int h_411) h_413).ro ⟨fun _ => blkOk_by (N := N_law) (sc := defScope s_law) (by decide +kernel), fun _ _ => rfl⟩ h_417 h_415 ⟨rfl, trivial⟩ (fun k_416 o hx hm => by skip; cases hm; exact ⟨_, _, rfl, (xg_name 4), lc_el (x_tup2 (xa_cons x_int (xa_cons (x_var 4) xa_nil)))⟩))))))) (fun hz => ?_) (fun hz => ?_)
            · have hm := condT hz hm
              cases hm
              exact go_ret x_bl (fun v H h => h)
            · have hm := condF hz hm
              refine go_join ?_
              refine go_wk (Γ' := [val (pScr K) script_0, own (oL pInt) sizes_325, val pInt first_and_340, own (oL (pT2 pInt pInt)) ands_346, dead, dead, dead, val (pObj T.C_Net ns_Net sl_Net) o_365.1, val pInt v_367, dead, own (oL (pL (pTup pInt))) due_393, dead, dead, dead, dead, gT Pt tq]) ?_ (WkL.at (j := 7) (WkS.obj (sl := sl_Net) (by repeat' (first | exact WkL.nil | exact WkS.refl | exact WkS.dead | exact WkS.list | exact WkS.dict | exact WkS.lstS (fun _ => WkS.list) | refine WkL.cons ?_ ?_)) (by repeat' (first | exact trivial | refine ⟨⟨_, _, _, rfl⟩, ?_⟩))) rfl)
              refine go_wk (Γ' := [val (pScr K) script_0, own (oL pInt) sizes_325, val pInt first_and_340, own (oL (pT2 pInt pInt)) ands_346, dead, dead, dead, val (pObj T.C_Net ns_Net sl_Net) o_365.1, val pInt v_367, dead, val (pL (pL (pTup pInt))) due_393, dead, dead, dead, dead, gT Pt tq]) ?_ (WkL.at (j := 10) WkS.list rfl)
              rcases exK_some hm with ⟨e_428, h_423, hm⟩ | ⟨r_422, h_423, hm⟩
              · cases hm
              · obtain ⟨q_424, h_425, hm⟩ := Option.bind_eq_some_iff.mp hm
                obtain ⟨b_426, h_427, hm⟩ := Option.bind_eq_some_iff.mp hm
                cases hm
                exact go_retMM (xm_andP (xm_callG1 (z := (((DE.list (DE.list (DE.tup DE.int))).enc r_422), (DE.list (DE.list (DE.tup DE.int))).enc due_393)) (ok__law_same T) (fun _ => hga) (by decide) T.g__law_same T.k__law_same T.b__law_same (XM.data (DE.list (DE.list (DE.tup DE.int))) (XM.wk (xm_callXT (EX := exT T) (z := (o_365.1, v_367)) 15 (ok_cuts_of T TB) (by decide) T.g_cuts_of T.k_cuts_of T.b_cuts_of (xa_cons (x_var 7) (xa_cons (x_var 8) xa_nil)) rfl (by repeat' (first | exact trivial | refine ⟨no_val, ?_⟩ | refine ⟨no_borL, ?_⟩ | refine ⟨no_bor, ?_⟩)) (by repeat' (first | exact Stb.nil | exact trivial | exact stb_map (fun _ => trivial) _ | refine Stb.cons ?_ ?_)) h_423) WkS.list)) (xa_cons (XV.data (DE.list (DE.list (DE.tup DE.int))) (x_var 10)) xa_nil) rfl (by repeat' (first | exact trivial | refine ⟨no_val, ?_⟩ | refine ⟨no_borL, ?_⟩ | refine ⟨no_bor, ?_⟩)) h_425) h_427 (fun z hm => by skip; cases hm; exact (x_one (x_cmp (c_eqD _) (o_eqD (DE.list (DE.t2 DE.int DE.int)) (by decide) Vw.val (LV.vw LV.bor) (fun _ _ => ⟨trivial, trivial⟩) (fun _ _ => ⟨trivial, trivial⟩)) (nomark _) (x_fld 2 (x_var 7) OV.val T.at_Net_ands) (x_varL 3))))) (fun v H h => h)
          · rintro r hm v H h
            cases hm
  · rintro r hm v H h
    cases hm
end
end K56

/-! Pl1 -/
namespace Ty
open PySem PySem.Spec L2
theorem letO_eq {α β : Type} (a : α) (f : α → Option β) : letO a f = f a := rfl
theorem rangeL_len (n : Int) : (rangeL 0 n).length = n.toNat := by simp [rangeL]
theorem mem_rangeL {x lo hi : Int} (h : x ∈ rangeL lo hi) : lo ≤ x ∧ x < hi := by
  unfold rangeL at h
  obtain ⟨k, hk, rfl⟩ := List.mem_map.mp h
  have := List.mem_range.mp hk
  omega
theorem fmO_all {α β : Type} {f : α → Option (Option β)} {g : α → β} : ∀ {xs : List α}, (∀ x ∈ xs, f x = some (some (g x))) → fmO xs f = some (xs.map g)
  | [], _ => rfl
  | x :: xs, h => by
    unfold fmO
    rw [h x List.mem_cons_self, Option.bind_some, fmO_all fun y hy => h y (List.mem_cons_of_mem _ hy)]; rfl
theorem mem_of_atI {α : Type} {xs : List α} {i : Int} {v : α} (h : atI xs i = some v) : v ∈ xs := by
  unfold atI at h
  obtain ⟨j, _, h⟩ := Option.bind_eq_some_iff.mp h
  exact List.mem_of_getElem? h
theorem line_le {n : Nat} (h : n ≤ 16777216) : n ≤ sizeLine := by rw [sizeLine_eq]; exact h
theorem line_lt {n : Nat} (h : n < 16777216) : n < sizeLine := by rw [sizeLine_eq]; exact h
/-! ### tables -/
section
variable {κ β : Type} [DecidableEq κ]
end
/-! ### how many different items -/
theorem nodup_le {α : Type} [DecidableEq α] : ∀ {l l' : List α}, l.Nodup → (∀ x ∈ l, x ∈ l') → l.length ≤ l'.length
  | [], _, _, _ => Nat.zero_le _
  | a :: l, l', nd, h => by
    have nd' := List.nodup_cons.mp nd
    have ha := h a List.mem_cons_self
    have h2 : ∀ x ∈ l, x ∈ l'.erase a := fun x hx => (List.mem_erase_of_ne (fun e => nd'.1 (by rw [← e]; exact hx))).mpr (h x (List.mem_cons_of_mem _ hx))
    have := nodup_le nd'.2 h2
    rw [List.length_erase_of_mem ha] at this
    have hp : 0 < l'.length := List.length_pos_of_mem ha
    simp only [List.length_cons]; omega
def pairsL (n m : Nat) : List (Int × Int) := (List.range n).flatMap fun (a : Nat) => (List.range m).map fun (b : Nat) => ((a : Int), (b : Int))
end Ty

/-! Pl2 -/
namespace Ty
open PySem PySem.Spec L2
/-! ### running mirrors forward -/
theorem gI {α : Type} {c : Prop} [Decidable c] {x z : Option α} (h : c) (k : x = z) : guardO c x = z := (if_pos h).trans k
theorem bI {α β : Type} {o : Option α} {a : α} {f : α → Option β} {z : Option β} (h : o = some a) (k : f a = z) : o.bind f = z := by rw [h]; exact k
theorem cT {α : Type} {c : Bool} {a b z : α} (h : c = true) (k : a = z) : (bif c then a else b) = z := by rw [h]; exact k
theorem cF {α : Type} {c : Bool} {a b z : α} (h : c = false) (k : b = z) : (bif c then a else b) = z := by rw [h]; exact k
theorem exI_ok {α β : Type} {o : Option (Rx α)} {ke : Exn → Option β} {kk : α → Option β} {a : α} {z : Option β} (h : o = some (.ok a)) (k : kk a = z) : exK o ke kk = z := by rw [h]; exact k
theorem exI_ex {α β : Type} {o : Option (Rx α)} {ke : Exn → Option β} {kk : α → Option β} {e : Exn} {z : Option β} (h : o = some (.ex e)) (k : ke e = z) : exK o ke kk = z := by rw [h]; exact k
theorem dT {p : Prop} [Decidable p] (h : p) : decide p = true := decide_eq_true h
theorem dF {p : Prop} [Decidable p] (h : ¬ p) : decide p = false := decide_eq_false h
/-! ### loops by places -/
theorem rangeL_len2 (a b : Int) : (rangeL a b).length = (b - a).toNat := by simp [rangeL]
theorem rangeL_at {a b : Int} {j : Nat} {x : Int} (h : (rangeL a b)[j]? = some x) : x = a + j ∧ (j : Int) < b - a := by
  unfold rangeL at h
  rw [List.getElem?_map] at h
  obtain ⟨m, h1, h2⟩ := Option.map_eq_some_iff.mp h
  obtain ⟨h3, h4⟩ := List.getElem?_eq_some_iff.mp h1
  simp at h3 h4
  subst h4
  exact ⟨h2.symm, by omega⟩
/-! ### lists -/
theorem rep_flat {α : Type} (n : Nat) (x : α) : (List.replicate n [x]).flatten = List.replicate n x := by
  induction n with
  | zero => rfl
  | succ n ih => rw [List.replicate_succ, List.flatten_cons, ih]; rfl
theorem ixN_of {n : Nat} {i : Int} (h0 : 0 ≤ i) (h1 : i < n) : ixN n i = some i.toNat := by unfold ixN; rw [if_pos h0, if_pos h1]
theorem setI_of {α : Type} {xs : List α} {i : Int} {u : α} (h0 : 0 ≤ i) (h1 : i < xs.length) : setI xs i u = some (xs.set i.toNat u) := by unfold setI; rw [ixN_of h0 h1]; rfl
theorem atI_pos {α : Type} {xs : List α} {i : Int} (h0 : 0 ≤ i) : atI xs i = xs[i.toNat]? := by
  unfold atI
  by_cases h : i < xs.length
  · rw [ixN_of h0 h]; rfl
  · unfold ixN
    rw [if_pos h0, if_neg h, List.getElem?_eq_none (by omega)]; rfl
theorem atI_ex {α : Type} {xs : List α} {i : Int} (h0 : 0 ≤ i) (h1 : i < xs.length) : ∃ v, atI xs i = some v := by
  rw [atI_pos h0]
  exact ⟨_, List.getElem?_eq_getElem (by omega)⟩
theorem atI_set {α : Type} {xs : List α} {i j : Int} {u : α} (h0 : 0 ≤ i) (h1 : i < xs.length) (hj : 0 ≤ j) : atI (xs.set i.toNat u) j = if j = i then some u else atI xs j := by
  rw [atI_pos hj, atI_pos hj]
  by_cases h : j = i
  · subst h
    rw [if_pos rfl, List.getElem?_set_self (by omega)]
  · rw [if_neg h, List.getElem?_set_ne (by omega)]
theorem atI_snoc {α : Type} {xs : List α} {u : α} {j : Int} (hj : 0 ≤ j) : atI (xs ++ [u]) j = if j = xs.length then some u else atI xs j := by
  rw [atI_pos hj, atI_pos hj]
  by_cases h : j = xs.length
  · subst h
    rw [if_pos rfl]; simp
  · rw [if_neg h]
    by_cases h2 : j < xs.length
    · rw [List.getElem?_append_left (by omega)]
    · rw [List.getElem?_eq_none (by simp; omega), List.getElem?_eq_none (by omega)]
/-! ### tables -/
section
variable {κ β : Type} [DecidableEq κ]
end
end Ty

/-! Pl3 -/
namespace Ty
open PySem PySem.Spec L2
/-! ### mirrors: they end, with what -/
def Tot {α : Type} (o : Option α) (Q : α → Prop) : Prop := ∃ v, o = some v ∧ Q v
section
variable {α β S ρ : Type} {Q : β → Prop} {R : α → Prop} {x y : Option β} {z : Option β}
theorem tG {c : Prop} [Decidable c] (h : c) (k : Tot x Q) : Tot (guardO c x) Q := by unfold guardO; rw [if_pos h]; exact k
theorem tB {o : Option α} {f : α → Option β} (h : Tot o R) (k : ∀ a, R a → Tot (f a) Q) : Tot (o.bind f) Q := by
  obtain ⟨a, e, r⟩ := h
  rw [e]; exact k a r
theorem tE {o : Option α} {f : α → Option β} {a : α} (h : o = some a) (k : Tot (f a) Q) : Tot (o.bind f) Q := by rw [h]; exact k
theorem tC {c : Bool} (h1 : c = true → Tot x Q) (h2 : c = false → Tot y Q) : Tot (bif c then x else y) Q := by cases c with
  | true => exact h1 rfl
  | false => exact h2 rfl
theorem tD {p : Prop} [Decidable p] (h1 : p → Tot x Q) (h2 : ¬ p → Tot y Q) : Tot (bif decide p then x else y) Q := tC (fun h => h1 (of_decide_eq_true h)) (fun h => h2 (of_decide_eq_false h))
theorem tR {v : β} (h : Q v) : Tot (some v) Q := ⟨v, rfl, h⟩
theorem Tot.imp {Q' : β → Prop} (h : Tot x Q) (k : ∀ v, Q v → Q' v) : Tot x Q' := let ⟨v, e, q⟩ := h; ⟨v, e, k v q⟩
theorem Tot.eq {v : β} (h : Tot x fun r => r = v) : x = some v := let ⟨_, e, q⟩ := h; by rw [e, q]
theorem Tot.of {v : β} (h : x = some v) (k : Q v) : Tot x Q := ⟨v, h, k⟩
theorem tX {γ : Type} {o : Option (Rx γ)} {ke : Exn → Option β} {kk : γ → Option β} (h : Tot o fun r => match r with | .ok a => Tot (kk a) Q | .ex e => Tot (ke e) Q) : Tot (exK o ke kk) Q := by
  obtain ⟨r, e, q⟩ := h
  unfold exK
  rw [e]
  cases r with
  | ok a => exact q
  | ex e => exact q
/-- where a loop's turn leads -/
def LQ (P : S → Prop) (kn : S → Option β) (kr : ρ → Option β) (Q : β → Prop) : Fl ρ S → Prop
  | .next s => P s
  | .brk s => Tot (kn s) Q
  | .ret r => Tot (kr r) Q
variable {kn : S → Option β} {kr : ρ → Option β}
theorem tForX_aux {f : α → S → Option (Fl ρ S)} (P : Nat → S → Prop) : ∀ (xs : List α) (n : Nat) (s0 : S), P n s0 → (∀ j x s, xs[j]? = some x → P (n + j) s → Tot (f x s) (LQ (P (n + j + 1)) kn kr Q)) → (∀ s, P (n + xs.length) s → Tot (kn s) Q) → Tot (flK (forF xs s0 f) kn kr) Q
  | [], n, s0, h, _, k => k s0 h
  | x :: xs, n, s0, h, hs, k => by
    obtain ⟨fl, h1, h2⟩ := hs 0 x s0 rfl h
    unfold forF
    rw [h1, Option.bind_some]
    cases fl with
    | next s =>
      refine tForX_aux P xs (n + 1) s h2 (fun j y s e hp => ?_) (fun s hp => k s ?_)
      · have := hs (j + 1) y s (by simpa using e) (by rw [show n + (j + 1) = n + 1 + j by omega]; exact hp)
        rw [show n + (j + 1) + 1 = n + 1 + j + 1 by omega] at this
        exact this
      · rw [List.length_cons, show n + (xs.length + 1) = n + 1 + xs.length by omega]; exact hp
    | brk s => exact h2
    | ret r => exact h2
/-- for x in xs: by places -/
theorem tForX {f : α → S → Option (Fl ρ S)} (P : Nat → S → Prop) {xs : List α} {s0 : S} (h : P 0 s0) (hs : ∀ j x s, xs[j]? = some x → P j s → Tot (f x s) (LQ (P (j + 1)) kn kr Q)) (k : ∀ s, P xs.length s → Tot (kn s) Q) : Tot (flK (forF xs s0 f) kn kr) Q :=
  tForX_aux P xs 0 s0 h (fun j x s e hp => by rw [Nat.zero_add] at hp ⊢; exact hs j x s e hp) (fun s hp => by rw [Nat.zero_add] at hp; exact k s hp)
theorem tForR {f : Int → S → Option (Fl ρ S)} {a b : Int} (P : Int → S → Prop) {s0 : S} (hab : a ≤ b) (h : P a s0) (hs : ∀ x s, a ≤ x → x < b → P x s → Tot (f x s) (LQ (P (x + 1)) kn kr Q)) (k : ∀ s, P b s → Tot (kn s) Q) : Tot (flK (forF (rangeL a b) s0 f) kn kr) Q := by
  refine tForX (fun j s => P (a + j) s) (by simpa using h) (fun j x s e hp => ?_) (fun s hp => ?_)
  · obtain ⟨rfl, h3⟩ := rangeL_at e
    have := hs (a + j) s (by omega) (by omega) hp
    rw [show a + (j : Int) + 1 = a + ((j + 1 : Nat) : Int) by omega] at this
    exact this
  · rw [rangeL_len2, show a + (((b - a).toNat : Nat) : Int) = b by omega] at hp
    exact k s hp
theorem tFm {γ : Type} {f : α → Option (Option γ)} {g : α → γ} {k : List γ → Option β} {xs : List α} (h : ∀ x ∈ xs, f x = some (some (g x))) (hk : Tot (k (xs.map g)) Q) : Tot ((fmO xs f).bind k) Q := tE (fmO_all h) hk
theorem tAt {γ : Type} {xs : List γ} {i : Int} {k : γ → Option β} (h0 : 0 ≤ i) (h1 : i < xs.length) (hk : ∀ v, atI xs i = some v → Tot (k v) Q) : Tot ((atI xs i).bind k) Q := by
  obtain ⟨v, e⟩ := atI_ex h0 h1
  exact tE e (hk v e)
theorem tSet {γ : Type} {xs : List γ} {i : Int} {u : γ} {k : List γ → Option β} (h0 : 0 ≤ i) (h1 : i < xs.length) (hk : Tot (k (xs.set i.toNat u)) Q) : Tot ((setI xs i u).bind k) Q := tE (setI_of h0 h1) hk
end
/-- the tail of an if whose result is taken apart -/
theorem tB' {α β : Type} {Q : β → Prop} {o : Option α} {f : α → Option β} (h : Tot o fun a => Tot (f a) Q) : Tot (o.bind f) Q := by
  obtain ⟨a, e, r⟩ := h
  rw [e]; exact r
theorem tLe {α β : Type} {Q : β → Prop} {a : α} {f : α → Option β} (k : ∀ x, x = a → Tot (f x) Q) : Tot (letO a f) Q := k a rfl
/-- a list that is filled from its start -/
structure Fill {V : Type} (N : Int) (F : Int → V) (z : V) (x : Int) (c : List V) : Prop where
  len : (c.length : Int) = N
  done : ∀ y, 0 ≤ y → y < x → atI c y = some (F y)
  rest : ∀ y, x ≤ y → y < N → atI c y = some z
theorem Fill.set {V : Type} {N x : Int} {F : Int → V} {z v : V} {c : List V} (h : Fill N F z x c) (h0 : 0 ≤ x) (h1 : x < N) (hv : v = F x) : Fill N F z (x + 1) (c.set x.toNat v) := by
  have hl := h.len
  refine ⟨by rw [List.length_set]; exact hl, fun y a b => ?_, fun y a b => ?_⟩
  · rw [atI_set h0 (by omega) a]
    by_cases e : y = x
    · rw [if_pos e, e, hv]
    · rw [if_neg e]; exact h.done y a (by omega)
  · rw [atI_set h0 (by omega) (by omega), if_neg (by omega)]
    exact h.rest y (by omega) b
theorem Fill.skip {V : Type} {N x : Int} {F : Int → V} {z : V} {c : List V} (h : Fill N F z x c) (h1 : x < N) (hv : F x = z) : Fill N F z (x + 1) c := by
  refine ⟨h.len, fun y a b => ?_, fun y a b => h.rest y (by omega) b⟩
  by_cases e : y = x
  · rw [e, hv]; exact h.rest x (Int.le_refl _) h1
  · exact h.done y a (by omega)
end Ty

/-! Pl4 -/
namespace Ty
open PySem PySem.Spec L2
/-! ### bits of whole numbers -/
/-- a bit as a number -/
def bi (b : Bool) : Int := if b then 1 else 0
/-- the mark of a literal -/
def odd (x : Int) : Bool := decide (x % 2 = 1)
/-- the table of f over n places -/
def tbl : Nat → (Nat → Bool) → Nat
  | 0, _ => 0
  | n + 1, f => tbl n f + (f n).toNat * 2 ^ n
theorem tbl_lt (n : Nat) (f : Nat → Bool) : tbl n f < 2 ^ n := by
  induction n with
  | zero => exact Nat.one_pos
  | succ n ih =>
    unfold tbl
    have : (f n).toNat ≤ 1 := by cases f n <;> decide
    have h2 : (f n).toNat * 2 ^ n ≤ 1 * 2 ^ n := Nat.mul_le_mul_right _ this
    rw [Nat.pow_succ]; omega
theorem tbl_bit (n : Nat) (f : Nat → Bool) (i : Nat) : (tbl n f).testBit i = (decide (i < n) && f i) := by
  induction n with
  | zero => simp [tbl]
  | succ n ih =>
    unfold tbl
    have hl := tbl_lt n f
    cases h : f n with
    | false =>
      show Nat.testBit (tbl n f + 0 * 2 ^ n) i = _
      rw [Nat.zero_mul, Nat.add_zero, ih]
      by_cases e : i = n
      · subst e; simp [h]
      · have : (i < n) ↔ (i < n + 1) := by omega
        simp [this]
    | true =>
      show Nat.testBit (tbl n f + 1 * 2 ^ n) i = _
      rw [Nat.one_mul, Nat.add_comm]
      by_cases e : i = n
      · subst e
        rw [Nat.testBit_two_pow_add_eq, ih]; simp [h]
      · by_cases e2 : i < n
        · rw [Nat.testBit_two_pow_add_gt e2, ih]
          have : i < n + 1 := by omega
          simp [this, e2]
        · have h3 : 2 ^ n + tbl n f < 2 ^ i := by
            have : 2 ^ (n + 1) ≤ 2 ^ i := Nat.pow_le_pow_right (by decide) (by omega)
            rw [Nat.pow_succ] at this; omega
          rw [Nat.testBit_lt_two_pow h3]
          have : ¬ i < n + 1 := by omega
          simp [this]
/-! ### a net: what is worked out by and -/
def Wf (ands : List (Int × Int)) (fa : Int) : Prop := 1 ≤ fa ∧ ∀ (k : Nat) p, ands[k]? = some p → (0 ≤ p.1 ∧ p.1 < 2 * (fa + k)) ∧ (0 ≤ p.2 ∧ p.2 < 2 * (fa + k))
theorem Wf.at {ands : List (Int × Int)} {fa x : Int} {p : Int × Int} (w : Wf ands fa) (h1 : fa ≤ x) (h : atI ands (x - fa) = some p) : (0 ≤ p.1 ∧ 0 ≤ p.1 / 2 ∧ p.1 / 2 < x) ∧ (0 ≤ p.2 ∧ 0 ≤ p.2 / 2 ∧ p.2 / 2 < x) := by
  rw [atI_pos (by omega)] at h
  have := w.2 _ _ h
  have e : ((x - fa).toNat : Int) = x - fa := by omega
  rw [e] at this
  omega
section
variable {V : Type} (ands : List (Int × Int)) (fa : Int) (base : Int → Option V) (comb : Int × Int → V → V → V) (d : V)
def solN : Nat → Int → V
  | 0, _ => d
  | k + 1, y => match base y with
    | some v => v
    | none => match atI ands (y - fa) with
      | none => d
      | some p => comb p (solN k (p.1 / 2)) (solN k (p.2 / 2))
def sol (y : Int) : V := solN ands fa base comb d (y.toNat + 1) y
theorem solN_st (w : Wf ands fa) (hb : ∀ y, 0 ≤ y → base y = none → fa ≤ y) : ∀ (k k' : Nat) (y : Int), 0 ≤ y → y.toNat < k → y.toNat < k' → solN ands fa base comb d k y = solN ands fa base comb d k' y
  | 0, _, _, _, h, _ => absurd h (Nat.not_lt_zero _)
  | _ + 1, 0, _, _, _, h => absurd h (Nat.not_lt_zero _)
  | k + 1, k' + 1, y, h0, h1, h2 => by
    unfold solN
    cases e : base y with
    | some v => rfl
    | none =>
      dsimp only
      cases e2 : atI ands (y - fa) with
      | none => rfl
      | some p =>
        dsimp only
        obtain ⟨⟨a1, a2, a3⟩, b1, b2, b3⟩ := w.at (hb y h0 e) e2
        rw [solN_st w hb k k' (p.1 / 2) a2 (by omega) (by omega), solN_st w hb k k' (p.2 / 2) b2 (by omega) (by omega)]
theorem sol_base {y : Int} {v : V} (h : base y = some v) : sol ands fa base comb d y = v := by unfold sol solN; rw [h]
theorem sol_and (w : Wf ands fa) (hb : ∀ y, 0 ≤ y → base y = none → fa ≤ y) {y : Int} {p : Int × Int} (h0 : 0 ≤ y) (h : base y = none) (hp : atI ands (y - fa) = some p) :
    sol ands fa base comb d y = comb p (sol ands fa base comb d (p.1 / 2)) (sol ands fa base comb d (p.2 / 2)) := by
  obtain ⟨⟨a1, a2, a3⟩, b1, b2, b3⟩ := w.at (hb y h0 h) hp
  unfold sol
  rw [show solN ands fa base comb d (y.toNat + 1) y = comb p (solN ands fa base comb d y.toNat (p.1 / 2)) (solN ands fa base comb d y.toNat (p.2 / 2)) by rw [solN, h]; dsimp only; rw [hp]]
  rw [solN_st ands fa base comb d w hb y.toNat ((p.1 / 2).toNat + 1) (p.1 / 2) a2 (by omega) (by omega), solN_st ands fa base comb d w hb y.toNat ((p.2 / 2).toNat + 1) (p.2 / 2) b2 (by omega) (by omega)]
end
end Ty

/-! K56P -/
namespace K56
open PySem PySem.Spec L2 Ty
theorem cell_ok (ns : List Int) (k : Int) : ∃ v, m__law_cell ns k = some v := by
  unfold m__law_cell
  have h1 : ∃ c, ((bif decide ((0 : Int) < ((ns).length : Int)) then (
      guardO (0 < ((ns).length : Int)) <| (atI ns (k % ((ns).length : Int))).bind fun v_58 => some v_58)
      else (some (0 : Int)) : Option ((Int)))) = some c := by
    by_cases h : (0 : Int) < (ns.length : Int)
    · obtain ⟨v, hv⟩ := atI_ex (xs := ns) (Int.emod_nonneg k (by omega)) (Int.emod_lt_of_pos k h)
      exact ⟨v, cT (dT h) (gI h (bI hv rfl))⟩
    · exact ⟨0, cF (dF h) rfl⟩
  obtain ⟨c, hc⟩ := h1
  rw [hc]
  show ∃ v, ((bif decide (c < 0) then _ else _ : Option Int).bind _) = some v
  cases decide (c < 0)
  · show ∃ v, ((bif (decide ((ns.length : Int) ≤ k) || decide (c < _)) then _ else _ : Option Int).bind _) = some v
    cases (decide ((ns.length : Int) ≤ k) || decide (c < _))
    · exact ⟨_, rfl⟩
    · exact ⟨_, rfl⟩
  · show ∃ v, ((bif (decide ((ns.length : Int) ≤ k) || decide (1 - 2 * c < _)) then _ else _ : Option Int).bind _) = some v
    cases (decide ((ns.length : Int) ≤ k) || decide (1 - 2 * c < _))
    · exact ⟨_, rfl⟩
    · exact ⟨_, rfl⟩
theorem digits_ok (r : Int) : ∃ a b c d e, m__law_digits r [4, 3, 6, 8, 16] = some [a, b, c, d, e] ∧ (0 ≤ a ∧ a < 4) ∧ (0 ≤ b ∧ b < 3) ∧ (0 ≤ c ∧ c < 6) ∧ (0 ≤ d ∧ d < 8) ∧ (0 ≤ e ∧ e < 16) := by
  refine ⟨r % 4, r / 4 % 3, r / 4 / 3 % 6, r / 4 / 3 / 6 % 8, r / 4 / 3 / 6 / 8 % 16, ?_, by omega, by omega, by omega, by omega, by omega⟩
  simp [m__law_digits, forF, flK, guardO, letO, sizeLine_eq]
theorem digits3_ok (r : Int) : ∃ a b c, m__law_digits r [4, 4, 4] = some [a, b, c] ∧ (0 ≤ a ∧ a < 4) ∧ (0 ≤ b ∧ b < 4) ∧ (0 ≤ c ∧ c < 4) := by
  refine ⟨r % 4, r / 4 % 4, r / 4 / 4 % 4, ?_, by omega, by omega, by omega⟩
  simp [m__law_digits, forF, flK, guardO, letO, sizeLine_eq]
theorem literal_ok {r fa count : Int} (h : 1 ≤ fa) (h2 : fa ≤ count) : ∃ v, m__law_literal r fa count = some v ∧ 0 ≤ v ∧ v < 2 * count := by
  unfold m__law_literal
  rw [letO_eq, letO_eq]
  by_cases h3 : r % 4 = 0
  · exact ⟨r / 4 % (2 * count), cT (dT h3) (gI (by omega) rfl), Int.emod_nonneg _ (by omega), Int.emod_lt_of_pos _ (by omega)⟩
  · by_cases h4 : r % 4 = 1
    · have := Int.emod_lt_of_pos (r / 4) (b := 2 * fa) (by omega)
      exact ⟨r / 4 % (2 * fa), cF (dF h3) (cT (dT h4) (gI (by omega) rfl)), Int.emod_nonneg _ (by omega), by omega⟩
    · by_cases h5 : (8 : Int) < 2 * count
      · have h6 := Int.emod_lt_of_pos (r / 4) (b := 8) (by omega)
        have h7 := Int.emod_nonneg (r / 4) (b := 8) (by omega)
        refine ⟨_, cF (dF h3) (cF (dF h4) (gI (by rw [if_pos h5]; omega) rfl)), ?_, ?_⟩ <;> rw [if_pos h5] <;> omega
      · have h6 := Int.emod_lt_of_pos (r / 4) (b := 2 * count) (by omega)
        have h7 := Int.emod_nonneg (r / 4) (b := 2 * count) (by omega)
        refine ⟨_, cF (dF h3) (cF (dF h4) (gI (by rw [if_neg h5]; omega) rfl)), ?_, ?_⟩ <;> rw [if_neg h5] <;> omega
/-! what is worked out by and: cut off, values -/
section
variable (ands : List (Int × Int)) (fa : Int) (L : List Int)
def cutB (y : Int) : Option Bool := if y = 0 then some true else if y ∈ L then some true else if y < fa then some false else none
def cutF (y : Int) : Bool := sol ands fa (cutB fa L) (fun _ a b => a && b) false y
end
variable {ands : List (Int × Int)} {fa : Int} {L : List Int}
theorem cutB_none {y : Int} (h : cutB fa L y = none) : y ≠ 0 ∧ y ∉ L ∧ fa ≤ y := by
  unfold cutB at h
  by_cases h1 : y = 0
  · rw [if_pos h1] at h; cases h
  · rw [if_neg h1] at h
    by_cases h2 : y ∈ L
    · rw [if_pos h2] at h; cases h
    · rw [if_neg h2] at h
      by_cases h3 : y < fa
      · rw [if_pos h3] at h; cases h
      · exact ⟨h1, h2, by omega⟩
theorem cutB_and {y : Int} (h0 : 1 ≤ fa) (h1 : y ∉ L) (h2 : fa ≤ y) : cutB fa L y = none := by
  unfold cutB
  rw [if_neg (by omega), if_neg h1, if_neg (by omega)]
theorem cutF_zero : cutF ands fa L 0 = true := sol_base _ _ _ _ _ (by simp [cutB])
theorem cutF_leaf {y : Int} (h : y ∈ L) : cutF ands fa L y = true := by
  by_cases e : y = 0
  · rw [e]; exact cutF_zero
  · exact sol_base _ _ _ _ _ (by simp [cutB, h])
theorem cutF_low {y : Int} (h : y ∉ L) (h1 : y < fa) (h2 : y ≠ 0) : cutF ands fa L y = false := sol_base _ _ _ _ _ (by simp [cutB, h, h1, h2])
theorem cutF_and (w : Wf ands fa) {y : Int} {p : Int × Int} (h1 : y ∉ L) (h2 : fa ≤ y) (hp : atI ands (y - fa) = some p) : cutF ands fa L y = (cutF ands fa L (p.1 / 2) && cutF ands fa L (p.2 / 2)) :=
  sol_and _ _ _ _ _ w (fun y _ h => (cutB_none h).2.2) (by have := w.1; omega) (cutB_and w.1 h1 h2) hp
theorem cut_ok (w : Wf ands fa) (hn : fa + ands.length ≤ 100) : Tot (m__law_cut_off ands fa L) fun c => (c.length : Int) = fa + ands.length ∧ ∀ y, 0 ≤ y → y < fa + ands.length → atI c y = some (cutF ands fa L y) := by
  have h1 := w.1
  unfold m__law_cut_off
  refine tG ⟨by omega, by omega, line_le (by rw [List.length_singleton]; omega)⟩ (tG (line_le (by rw [rep_flat, List.length_replicate, List.length_singleton]; omega)) (tLe fun c0 hc0 => ?_))
  rw [rep_flat] at hc0
  have hlen : (c0.length : Int) = fa + ands.length := by rw [hc0, List.length_append, List.length_replicate, List.length_singleton]; omega
  refine tG ⟨by omega, by omega, by omega, by omega⟩ (tForR (fun x c => Fill (fa + ands.length) (cutF ands fa L) false x c) (by omega) ⟨hlen, fun y a b => ?_, fun y a b => ?_⟩ ?_ ?_)
  · have : y = 0 := by omega
    subst this
    rw [hc0, cutF_zero, atI_pos (Int.le_refl 0)]; rfl
  · rw [hc0, atI_pos (by omega), List.getElem?_append_right (by simp; omega), List.getElem?_replicate, if_pos (by simp; omega)]
  · intro x c hx1 hx2 hF
    have hl := hF.len
    refine tB' (tD (fun hm => tSet (by omega) (by omega) (tR (tR (hF.set (by omega) (by omega) (cutF_leaf hm).symm)))) (fun hm => tB' (tD (fun hf => ?_) (fun hf => tR (tR (tR (hF.skip (by omega) (cutF_low hm (by omega) (by omega)))))))))
    refine tAt (by omega) (by omega) fun p hp => ?_
    obtain ⟨⟨a1, a2, a3⟩, b1, b2, b3⟩ := w.at hf hp
    refine tE (hF.done _ a2 a3) (tB (R := fun b => b = (cutF ands fa L (p.1 / 2) && cutF ands fa L (p.2 / 2))) (tC (fun h => tE (hF.done _ b2 b3) (tR (by rw [h]; rfl))) (fun h => tR (by rw [h]; rfl))) fun b hb => ?_)
    exact tSet (by omega) (by omega) (tR (tR (tR (hF.set (by omega) (by omega) (by rw [hb, cutF_and w hm hf hp])))))
  · intro c hF
    exact tR ⟨hF.len, fun y a b => hF.done y a (by omega)⟩
end K56

/-! K56Q -/
namespace K56
open PySem PySem.Spec L2 Ty
/-! ### ascending lists -/
abbrev Asc (x : List Int) : Prop := x.Pairwise (· < ·)
theorem Asc.nodup {x : List Int} (h : Asc x) : x.Nodup := h.imp fun {a b} z e => by omega
theorem asc_ext {x y : List Int} (h : Asc x) (h' : Asc y) (e : ∀ n, n ∈ x ↔ n ∈ y) : x = y := pw_unique h h' e
def sub (o u : List Int) : Bool := o.all fun n => decide (n ∈ u)
theorem sub_iff {o u : List Int} : sub o u = true ↔ ∀ n ∈ o, n ∈ u := by unfold sub; rw [List.all_eq_true]; exact ⟨fun h n hn => of_decide_eq_true (h n hn), fun h n hn => decide_eq_true (h n hn)⟩
theorem sub_refl (o : List Int) : sub o o = true := sub_iff.mpr fun _ h => h
theorem sub_trans {a b c : List Int} (h : sub a b = true) (g : sub b c = true) : sub a c = true := sub_iff.mpr fun n hn => sub_iff.mp g n (sub_iff.mp h n hn)
theorem sub_len {o u : List Int} (ho : Asc o) (h : sub o u = true) : o.length ≤ u.length := nodup_le ho.nodup (sub_iff.mp h)
theorem sub_eq {o u : List Int} (ho : Asc o) (hu : Asc u) (h : sub o u = true) (hl : u.length ≤ o.length) : o = u := by
  refine asc_ext ho hu fun n => ⟨fun hn => sub_iff.mp h n hn, fun hn => Decidable.byContradiction fun hno => ?_⟩
  have : (n :: o).length ≤ u.length := nodup_le (List.nodup_cons.mpr ⟨hno, ho.nodup⟩) fun x hx => by
    rcases List.mem_cons.mp hx with rfl | hx
    · exact hn
    · exact sub_iff.mp h x hx
  simp at this
  omega
def uni (a b : List Int) : List Int := sortD (a ++ b)
theorem uni_asc (a b : List Int) : Asc (uni a b) := pw_sortD _
theorem mem_uni {a b : List Int} {n : Int} : n ∈ uni a b ↔ n ∈ a ∨ n ∈ b := by unfold uni; rw [mem_sortD, List.mem_append]
/-! ### the order -/
def leC (a b : List Int) : Bool := leP ((a.length : Int), a) ((b.length : Int), b)
def srt (ks : List (List Int)) : List (List Int) := ks.mergeSort leC
theorem sortBy_srt (ks : List (List Int)) : sortBy (fun (n : List Int) => encP ((n.length : Int), n)) ks = srt ks := rfl
theorem sortP_srt (ks : List (List Int)) : (sortP (ks.map fun c => ((c.length : Int), c))).map (fun p => p.2) = srt ks := by
  unfold sortP srt
  rw [← List.map_mergeSort (r := leC) (f := fun c : List Int => ((c.length : Int), c)) (fun a _ b _ => rfl), List.map_map]
  exact List.map_id _
theorem leP_eq (p q : Int × List Int) : leP p q = decide (p.1 < q.1 ∨ (p.1 = q.1 ∧ p.2 ≤ q.2)) := by
  have e1 : PyData.eqv (.int q.1) (.int p.1) = decide (q.1 = p.1) := DE.eq DE.int q.1 p.1
  have e2 : PyData.eqv (encT q.2) (encT p.2) = decide (q.2 = p.2) := DE.eq (DE.tup DE.int) q.2 p.2
  have e3 : PySem.W.dataLt (encT q.2) (encT p.2) = decide (q.2 < p.2) := by
    show PySem.W.dataLt (.tuple (q.2.map .int)) (.tuple (p.2.map .int)) = _
    rw [PySem.W.dataLt_tuple]
    exact PySem.W.dataLt_ints _ _
  show (!PySem.W.dataLt (encP q) (encP p)) = _
  unfold encP
  rw [PySem.W.dataLt_pair (by simp [PySem.W.alike]) (by unfold encT; simp only [PySem.W.alike]; exact PySem.W.alike_ints _ _), e1, e2, e3, PySem.W.dataLt_int]
  by_cases h1 : q.1 = p.1
  · rw [decide_eq_true h1, if_pos rfl]
    by_cases h2 : q.2 = p.2
    · rw [decide_eq_true h2, if_pos rfl]
      have : p.1 < q.1 ∨ (p.1 = q.1 ∧ p.2 ≤ q.2) := .inr ⟨h1.symm, by rw [h2]; exact List.le_refl _⟩
      rw [decide_eq_true this]; rfl
    · rw [decide_eq_false h2, if_neg Bool.false_ne_true]
      by_cases h3 : q.2 < p.2
      · have h4 : ¬ p.2 ≤ q.2 := fun r => List.not_lt.mpr r h3
        have : ¬ (p.1 < q.1 ∨ (p.1 = q.1 ∧ p.2 ≤ q.2)) := fun r => r.elim (fun z => by omega) fun z => h4 z.2
        rw [decide_eq_true h3, decide_eq_false this]; rfl
      · have : p.1 < q.1 ∨ (p.1 = q.1 ∧ p.2 ≤ q.2) := .inr ⟨h1.symm, List.not_lt.mp h3⟩
        rw [decide_eq_false h3, decide_eq_true this]; rfl
  · rw [decide_eq_false h1, if_neg Bool.false_ne_true]
    by_cases h3 : q.1 < p.1
    · have : ¬ (p.1 < q.1 ∨ (p.1 = q.1 ∧ p.2 ≤ q.2)) := fun r => r.elim (fun z => by omega) fun z => by omega
      rw [decide_eq_true h3, decide_eq_false this]; rfl
    · have : p.1 < q.1 ∨ (p.1 = q.1 ∧ p.2 ≤ q.2) := .inl (by omega)
      rw [decide_eq_false h3, decide_eq_true this]; rfl
theorem leP_iff {p q : Int × List Int} : leP p q = true ↔ (p.1 < q.1 ∨ (p.1 = q.1 ∧ p.2 ≤ q.2)) := by rw [leP_eq, decide_eq_true_eq]
theorem leP_trans : ∀ a b c : Int × List Int, leP a b = true → leP b c = true → leP a c = true := fun a b c h g => by
  rw [leP_iff] at *
  rcases h with h | ⟨h1, h2⟩ <;> rcases g with g | ⟨g1, g2⟩
  · exact .inl (by omega)
  · exact .inl (by omega)
  · exact .inl (by omega)
  · exact .inr ⟨by omega, List.le_trans h2 g2⟩
theorem leP_total : ∀ a b : Int × List Int, (leP a b || leP b a) = true := fun a b => by
  rw [Bool.or_eq_true, leP_iff, leP_iff]
  rcases Int.lt_trichotomy a.1 b.1 with h | h | h
  · exact .inl (.inl h)
  · rcases List.le_total a.2 b.2 with g | g
    · exact .inl (.inr ⟨h, g⟩)
    · exact .inr (.inr ⟨h.symm, g⟩)
  · exact .inr (.inl h)
theorem leP_anti {a b : Int × List Int} (h : leP a b = true) (g : leP b a = true) : a = b := by
  rw [leP_iff] at h g
  rcases h with h | ⟨h1, h2⟩ <;> rcases g with g | ⟨g1, g2⟩
  · omega
  · omega
  · omega
  · exact Prod.ext h1 (List.le_antisymm h2 g2)
theorem leC_trans : ∀ a b c : List Int, leC a b = true → leC b c = true → leC a c = true := fun a b c => leP_trans _ _ _
theorem leC_total : ∀ a b : List Int, (leC a b || leC b a) = true := fun a b => leP_total _ _
theorem leC_anti {a b : List Int} (h : leC a b = true) (g : leC b a = true) : a = b := (Prod.ext_iff.mp (leP_anti h g)).2
theorem leC_len {a b : List Int} (h : leC a b = true) : a.length ≤ b.length := by
  have := leP_iff.mp h
  dsimp only at this
  omega
theorem srt_pw (ks : List (List Int)) : (srt ks).Pairwise fun a b => leC a b = true := List.pairwise_mergeSort leC_trans leC_total ks
theorem srt_perm (ks : List (List Int)) : (srt ks).Perm ks := List.mergeSort_perm ks leC
theorem mem_srt {ks : List (List Int)} {u : List Int} : u ∈ srt ks ↔ u ∈ ks := (srt_perm ks).mem_iff
/-- two rising lists of the same items -/
theorem rise_eq {xs ys : List (List Int)} (h : xs.Nodup) (h' : ys.Nodup) (e : ∀ u, u ∈ xs ↔ u ∈ ys) (p : xs.Pairwise fun a b => leC a b = true) (q : ys.Pairwise fun a b => leC a b = true) : xs = ys :=
  List.Perm.eq_of_pairwise (le := fun a b => leC a b = true) (fun a b _ _ h1 h2 => leC_anti h1 h2) p q ((List.perm_ext_iff_of_nodup h h').mpr e)
/-! ### the least ones -/
def keep1 (K : List (List Int)) (u : List Int) : List (List Int) := if K.any (fun o => sub o u) then K else K ++ [u]
def mins (ks : List (List Int)) : List (List Int) := (srt ks).foldl keep1 []
theorem keep_spec : ∀ (pre post K : List (List Int)), (∀ x ∈ pre ++ post, Asc x) → (pre ++ post).Pairwise (fun a b => leC a b = true) → (pre ++ post).Nodup → K.Sublist pre → (∀ u, u ∈ K ↔ u ∈ pre ∧ ∀ o ∈ pre, sub o u = true → o = u) →
    (post.foldl keep1 K).Sublist (pre ++ post) ∧ ∀ u, u ∈ post.foldl keep1 K ↔ u ∈ pre ++ post ∧ ∀ o ∈ pre ++ post, sub o u = true → o = u
  | pre, [], K, _, _, _, hs, h => by rw [List.append_nil]; exact ⟨hs, h⟩
  | pre, u :: post, K, ha, hp, hn, hs, h => by
    have e : pre ++ u :: post = (pre ++ [u]) ++ post := by simp
    have hua : Asc u := ha u (by simp)
    have hupre : u ∉ pre := fun hu => by
      have := (List.nodup_append.mp hn).2.2 u hu u (List.mem_cons_self ..)
      exact this rfl
    have hle : ∀ o ∈ pre, leC o u = true := fun o ho => (List.pairwise_append.mp hp).2.2 o ho u (List.mem_cons_self ..)
    have back : ∀ x ∈ pre, sub u x = true → False := fun x hx hsx => by
      have h1 := sub_len hua hsx
      have h2 := leC_len (hle x hx)
      have := sub_eq hua (ha x (List.mem_append_left _ hx)) hsx h2
      rw [this] at hupre
      exact hupre hx
    -- whether one of the kept ones is a part
    have hany : K.any (fun o => sub o u) = true ↔ ∃ o ∈ pre, sub o u = true := by
      rw [List.any_eq_true]
      constructor
      · rintro ⟨o, ho, hso⟩
        exact ⟨o, ((h o).mp ho).1, hso⟩
      · rintro ⟨o, ho, hso⟩
        -- a least part
        have key : ∀ (n : Nat) (o : List Int), o.length ≤ n → o ∈ pre → sub o u = true → ∃ x ∈ K, sub x u = true := by
          intro n
          induction n with
          | zero =>
            intro o hl ho hso
            have : o = [] := List.length_eq_zero_iff.mp (by omega)
            refine ⟨o, (h o).mpr ⟨ho, fun x hx hsx => ?_⟩, hso⟩
            have := sub_len (ha x (List.mem_append_left _ hx)) hsx
            exact sub_eq (ha x (List.mem_append_left _ hx)) (ha o (List.mem_append_left _ ho)) hsx (by omega)
          | succ n ih =>
            intro o hl ho hso
            by_cases hm : ∃ x ∈ pre, sub x o = true ∧ x ≠ o
            · obtain ⟨x, hx, hsx, hne⟩ := hm
              have hlt : x.length < o.length := Nat.lt_of_not_le fun hle' => hne (sub_eq (ha x (List.mem_append_left _ hx)) (ha o (List.mem_append_left _ ho)) hsx hle')
              exact ih x (by omega) hx (sub_trans hsx hso)
            · refine ⟨o, (h o).mpr ⟨ho, fun x hx hsx => Decidable.byContradiction fun hne => hm ⟨x, hx, hsx, hne⟩⟩, hso⟩
        exact key _ o (Nat.le_refl _) ho hso
    rw [e]
    rw [e] at ha hp hn
    rw [List.foldl_cons]
    refine keep_spec (pre ++ [u]) post (keep1 K u) ha hp hn ?_ fun x => ?_
    · unfold keep1
      split
      · exact hs.trans (List.sublist_append_left _ _)
      · exact hs.append (List.Sublist.refl _)
    · unfold keep1
      have memS : ∀ o, o ∈ pre ++ [u] ↔ o ∈ pre ∨ o = u := fun o => by rw [List.mem_append, List.mem_singleton]
      by_cases hA : K.any (fun o => sub o u) = true
      · rw [if_pos hA]
        obtain ⟨o, ho, hso⟩ := hany.mp hA
        rw [h x]
        constructor
        · rintro ⟨h1, h2⟩
          refine ⟨(memS x).mpr (.inl h1), fun y hy hsy => ?_⟩
          rcases (memS y).mp hy with hy | rfl
          · exact h2 y hy hsy
          · exact (back x h1 hsy).elim
        · rintro ⟨h1, h2⟩
          rcases (memS x).mp h1 with h1 | rfl
          · exact ⟨h1, fun y hy hsy => h2 y ((memS y).mpr (.inl hy)) hsy⟩
          · have := h2 o ((memS o).mpr (.inl ho)) hso
            rw [this] at ho
            exact (hupre ho).elim
      · rw [if_neg hA, List.mem_append, List.mem_singleton, h x]
        have hno : ∀ o ∈ pre, sub o u = true → False := fun o ho hso => hA (hany.mpr ⟨o, ho, hso⟩)
        constructor
        · rintro (⟨h1, h2⟩ | rfl)
          · refine ⟨(memS x).mpr (.inl h1), fun y hy hsy => ?_⟩
            rcases (memS y).mp hy with hy | rfl
            · exact h2 y hy hsy
            · exact (back x h1 hsy).elim
          · refine ⟨(memS x).mpr (.inr rfl), fun y hy hsy => ?_⟩
            rcases (memS y).mp hy with hy | rfl
            · exact (hno y hy hsy).elim
            · rfl
        · rintro ⟨h1, h2⟩
          rcases (memS x).mp h1 with h1 | rfl
          · exact .inl ⟨h1, fun y hy hsy => h2 y ((memS y).mpr (.inl hy)) hsy⟩
          · exact .inr rfl
theorem mins_spec {ks : List (List Int)} (ha : ∀ x ∈ ks, Asc x) (hn : ks.Nodup) : (mins ks).Nodup ∧ ((mins ks).Pairwise fun a b => leC a b = true) ∧ (mins ks).length ≤ ks.length ∧ ∀ u, u ∈ mins ks ↔ u ∈ ks ∧ ∀ o ∈ ks, sub o u = true → o = u := by
  have hns : (srt ks).Nodup := (srt_perm ks).symm.nodup_iff.mp hn
  obtain ⟨h1, h2⟩ := keep_spec [] (srt ks) [] (fun x hx => ha x (mem_srt.mp hx)) (srt_pw ks) hns (List.Sublist.refl _) (fun u => by simp)
  rw [List.nil_append] at h1
  refine ⟨hns.sublist h1, (srt_pw ks).sublist h1, ?_, fun u => ?_⟩
  · rw [← (srt_perm ks).length_eq]; exact h1.length_le
  · rw [show mins ks = (srt ks).foldl keep1 [] from rfl, h2 u, List.nil_append, mem_srt]
    exact ⟨fun ⟨a, b⟩ => ⟨a, fun o ho => b o (mem_srt.mpr ho)⟩, fun ⟨a, b⟩ => ⟨a, fun o ho => b o (mem_srt.mp ho)⟩⟩
end K56

/-! Pl5 -/
/-! names and circuits; the first of a list that fails -/
namespace Ty
open PySem PySem.Spec L2
/-! ### texts by sign -/
def sgn (c : Nat) : Prop := (97 ≤ c ∧ c ≤ 122) ∨ (48 ≤ c ∧ c ≤ 57) ∨ c = 95
/-- a name -/
structure Nm (s : Str) : Prop where
  l1 : 1 ≤ s.cps.toList.length
  l2 : s.cps.toList.length ≤ 12
  hd : ∀ c, s.cps.toList[0]? = some c → 97 ≤ c ∧ c ≤ 122
  al : ∀ c ∈ s.cps.toList, sgn c
/-- the names of one family, by their number -/
def NameC (k : Nat) (s : Str) : Prop := (∃ j, j < 4 ∧ s.cps.toList = 114 :: TL.numL (4 * k + j)) ∨ (∃ c t, (97 ≤ c ∧ c ≤ 122) ∧ s.cps.toList = c :: (TL.numL k ++ 95 :: t) ∧ t.length ≤ 5 ∧ ∀ x ∈ t, (97 ≤ x ∧ x ≤ 122) ∨ (48 ≤ x ∧ x ≤ 57))
theorem num_sgn {n c : Nat} (h : c ∈ TL.numL n) : sgn c := .inr (.inl (TL.numL_digits n c h))
theorem NameC.nm {k : Nat} {s : Str} (h : NameC k s) (hk : k < 1000) : Nm s := by
  rcases h with ⟨j, hj, e⟩ | ⟨c, t, hc, e, ht, hx⟩
  · have hl := TL.numL_len (n := 4 * k + j) (k := 4) (by decide) (by omega)
    refine ⟨?_, ?_, ?_, ?_⟩ <;> rw [e]
    · simp
    · simp; omega
    · intro c h; simp at h; omega
    · intro c h
      rcases List.mem_cons.mp h with h | h
      · exact .inl (by omega)
      · exact num_sgn h
  · have hl := TL.numL_len (n := k) (k := 3) (by decide) (by omega)
    refine ⟨?_, ?_, ?_, ?_⟩ <;> rw [e]
    · simp
    · simp; omega
    · intro c h; simp at h; omega
    · intro x h
      rcases List.mem_cons.mp h with h | h
      · exact .inl (by omega)
      · rcases List.mem_append.mp h with h | h
        · exact num_sgn h
        · rcases List.mem_cons.mp h with h | h
          · exact .inr (.inr h)
          · rcases hx x h with z | z
            · exact .inl z
            · exact .inr (.inl z)
theorem cut95 : ∀ {a b c d : List Nat}, 95 ∉ a → 95 ∉ c → a ++ 95 :: b = c ++ 95 :: d → a = c
  | [], _, [], _, _, _, _ => rfl
  | [], b, y :: c, d, _, h, e => by
    simp at e
    exact absurd (by rw [e.1]; simp) h
  | x :: a, b, [], d, h, _, e => by
    simp at e
    exact absurd (by rw [e.1]; simp) h
  | x :: a, b, y :: c, d, h1, h2, e => by
    simp at e
    rw [e.1, cut95 (fun z => h1 (List.mem_cons_of_mem _ z)) (fun z => h2 (List.mem_cons_of_mem _ z)) e.2]
theorem NameC.inj {k k' : Nat} {s : Str} (h : NameC k s) (h' : NameC k' s) : k = k' := by
  rcases h with ⟨j, hj, e⟩ | ⟨c, t, hc, e, _⟩ <;> rcases h' with ⟨j', hj', e'⟩ | ⟨c', t', hc', e', _⟩ <;> rw [e] at e'
  · injection e' with _ z
    have := TL.numL_inj z
    omega
  · injection e' with _ z
    have : 95 ∈ TL.numL (4 * k + j) := by rw [z]; simp
    exact absurd this (TL.numL_free (by omega))
  · injection e' with _ z
    have : 95 ∈ TL.numL (4 * k' + j') := by rw [← z]; simp
    exact absurd this (TL.numL_free (by omega))
  · injection e' with _ z
    exact TL.numL_inj (cut95 (TL.numL_free (by omega)) (TL.numL_free (by omega)) z)
/-! ### circuits -/
structure CircOk (ins : List Str) (lts : List (Str × Int × Int)) (ands : List (Int × Int)) (outs : List (Str × Int)) : Prop where
  i1 : ins.length ≤ 16
  l1 : lts.length ≤ 40
  a1 : ands.length ≤ 2000
  o1 : outs.length ≤ 32
  iN : ∀ s ∈ ins, Nm s
  lN : ∀ p ∈ lts, Nm p.1
  oN : ∀ p ∈ outs, Nm p.1
  nd : (ins ++ lts.map (·.1)).Nodup
  on : (outs.map (·.1)).Nodup
  lv : ∀ p ∈ lts, (0 ≤ p.2.1 ∧ p.2.1 ≤ 1) ∧ 0 ≤ p.2.2 ∧ p.2.2 < 2 * (1 + ins.length + lts.length + ands.length : Int)
  wf : Wf ands (1 + ins.length + lts.length : Int)
  ov : ∀ p ∈ outs, 0 ≤ p.2 ∧ p.2 < 2 * (1 + ins.length + lts.length + ands.length : Int)
theorem enum_at {α : Type} {xs : List α} {j : Nat} {y : Int × α} (h : (xs.zipIdx.map fun x => ((x.2 : Int), x.1))[j]? = some y) : ∃ x, xs[j]? = some x ∧ y = ((j : Int), x) := by
  rw [List.getElem?_map] at h
  obtain ⟨z, h1, h2⟩ := Option.map_eq_some_iff.mp h
  rw [List.getElem?_zipIdx] at h1
  obtain ⟨x, h3, h4⟩ := Option.map_eq_some_iff.mp h1
  refine ⟨x, h3, ?_⟩
  rw [← h2, ← h4]
  simp
/-! ### the first that is so -/
theorem Wf.set {ands : List (Int × Int)} {fa : Int} (w : Wf ands fa) {n : Nat} {u : Int × Int} (h : (0 ≤ u.1 ∧ u.1 < 2) ∧ (0 ≤ u.2 ∧ u.2 < 2)) : Wf (ands.set n u) fa := by
  refine ⟨w.1, fun k p hp => ?_⟩
  have h1 := w.1
  rw [List.getElem?_set] at hp
  split at hp
  · split at hp
    · cases hp; omega
    · cases hp
  · exact w.2 k p hp
end Ty
namespace Ty
open PySem PySem.Spec L2
theorem snoc_at {α : Type} {xs : List α} {u p : α} {m : Nat} (h : (xs ++ [u])[m]? = some p) : (m < xs.length ∧ xs[m]? = some p) ∨ (m = xs.length ∧ p = u) := by
  by_cases hm : m < xs.length
  · rw [List.getElem?_append_left hm] at h; exact .inl ⟨hm, h⟩
  · rw [List.getElem?_append_right (by omega)] at h
    have := (List.getElem?_eq_some_iff.mp h).1
    simp at this
    have e : m - xs.length = 0 := by omega
    rw [e] at h
    simp at h
    exact .inr ⟨by omega, h.symm⟩
end Ty
namespace Ty
end Ty
namespace Ty
end Ty

/-! K56R -/
namespace K56
open PySem PySem.Spec L2 Ty
theorem fmO_filter {α : Type} {f : α → Option (Option α)} {p : α → Bool} : ∀ {xs : List α}, (∀ x ∈ xs, f x = if p x then some (some x) else some none) → fmO xs f = some (xs.filter p)
  | [], _ => rfl
  | x :: xs, h => by
    unfold fmO
    rw [h x List.mem_cons_self, fmO_filter fun y hy => h y (List.mem_cons_of_mem _ hy), List.filter_cons]
    cases p x <;> rfl
theorem fmO_filter' {α : Type} {f : α → Option (Option α)} {p : α → Bool} {xs : List α} (h : ∀ x ∈ xs, f x = bif p x then some (some x) else some none) : fmO xs f = some (xs.filter p) := fmO_filter fun x hx => by
  rw [h x hx]; cases p x <;> rfl
theorem filter_nil_sub {o u : List Int} : decide ((o.filter fun n => !decide (n ∈ u)) = ([] : List Int)) = sub o u := by
  rw [Bool.eq_iff_iff, decide_eq_true_eq, List.filter_eq_nil_iff, sub_iff]
  exact ⟨fun h n hn => by have := h n hn; simpa using this, fun h n hn => by have := h n hn; simp [this]⟩
theorem contains_ok {u : List Int} {K : List (List Int)} (h : ∀ o ∈ K, o.length ≤ 1000) : m_contains_other u K = some (K.any fun o => sub o u) := by
  refine Tot.eq ?_
  unfold m_contains_other
  refine tForX (fun j _ => (K.take j).any (fun o => sub o u) = false) rfl (fun j o _ ho hP => ?_) (fun _ hP => tR (by rw [List.take_length] at hP; exact hP.symm))
  have hmem := List.mem_of_getElem? ho
  refine tG (line_le (by have := h o hmem; omega)) (tE (fmO_filter' (p := fun n => !decide (n ∈ u)) fun x hx => rfl) ?_)
  rw [filter_nil_sub]
  refine tC (fun hz => tR (tR ?_)) (fun hz => tR ?_)
  · exact (List.any_eq_true.mpr ⟨o, hmem, hz⟩).symm
  · show (K.take (j + 1)).any (fun o => sub o u) = false
    rw [List.take_add_one, ho, List.any_append, hP]
    simp [hz]
/-! ### the dict of unions -/
def e_ (x : List Int) : NestedKey × Bool := ((NE.tup NE.int).enc x, true)
def insK (D : List (List Int)) (u : List Int) : List (List Int) := if u ∈ D then D else D ++ [u]
theorem enc_inj {x y : List Int} (h : (NE.tup NE.int).enc x = (NE.tup NE.int).enc y) : x = y := by
  have h' : x.map NestedKey.num = y.map NestedKey.num := by
    have : NestedKey.tup (x.map NestedKey.num) = NestedKey.tup (y.map NestedKey.num) := h
    injection this
  revert h'
  induction x generalizing y with
  | nil => intro h'; cases y with
    | nil => rfl
    | cons b y => cases h'
  | cons a x ih => intro h'; cases y with
    | nil => cases h'
    | cons b y =>
      rw [List.map_cons, List.map_cons] at h'
      injection h' with h1 h2
      injection h1 with h1
      rw [h1, ih (by show NestedKey.tup _ = NestedKey.tup _; exact congrArg NestedKey.tup h2) h2]
theorem dput_e (D : List (List Int)) (u : List Int) : dput (D.map e_) ((NE.tup NE.int).enc u) true = (insK D u).map e_ := by
  have hany : ((D.map e_).any fun kv => decide (kv.1 = (NE.tup NE.int).enc u)) = decide (u ∈ D) := by
    rw [Bool.eq_iff_iff, List.any_eq_true, decide_eq_true_eq]
    constructor
    · rintro ⟨kv, hkv, he⟩
      obtain ⟨x, hx, rfl⟩ := List.mem_map.mp hkv
      rw [← enc_inj (of_decide_eq_true he)]; exact hx
    · intro hu
      exact ⟨e_ u, List.mem_map.mpr ⟨u, hu, rfl⟩, decide_eq_true rfl⟩
  unfold dput insK
  rw [hany]
  by_cases hu : u ∈ D
  · rw [if_pos (decide_eq_true hu), if_pos hu]
    refine (List.map_congr_left fun kv hkv => ?_).trans (List.map_id _)
    obtain ⟨x, hx, rfl⟩ := List.mem_map.mp hkv
    by_cases hx2 : (e_ x).1 = (NE.tup NE.int).enc u
    · rw [if_pos hx2]; rfl
    · rw [if_neg hx2]; rfl
  · rw [if_neg (by rw [decide_eq_false hu]; decide), if_neg hu, List.map_append]; rfl
theorem keysT_e : ∀ D : List (List Int), keysT (D.map e_) = some D
  | [] => rfl
  | x :: D => by
    have h1 : ∀ y : List Int, numsOf (y.map NestedKey.num) = some y := by
      intro y
      induction y with
      | nil => rfl
      | cons a y ih => rw [List.map_cons, Ty.numsOf, ih]; rfl
    have h2 : keyT (e_ x).1 = some x := h1 x
    rw [List.map_cons, keysT, h2, keysT_e D]; rfl
theorem insK_nodup {D : List (List Int)} {u : List Int} (h : D.Nodup) : (insK D u).Nodup := by
  unfold insK
  split
  · exact h
  · rename_i hu
    exact List.nodup_append.mpr ⟨h, by simp, fun a ha b hb e => hu (by rw [← List.mem_singleton.mp hb, ← e]; exact ha)⟩
theorem mem_insK {D : List (List Int)} {u x : List Int} : x ∈ insK D u ↔ x ∈ D ∨ x = u := by
  unfold insK
  split
  · rename_i hu
    exact ⟨.inl, fun h => h.elim id fun e => e ▸ hu⟩
  · rw [List.mem_append, List.mem_singleton]
def un1 (size : Int) (a : List Int) (D : List (List Int)) (b : List Int) : List (List Int) := if ((uni a b).length : Int) ≤ size then insK D (uni a b) else D
def uns (A B : List (List Int)) (size : Int) : List (List Int) := A.foldl (fun D a => B.foldl (un1 size a) D) []
theorem fold_inv {α S : Type} {g : S → α → S} {I : S → Prop} : ∀ {xs : List α} {s : S}, I s → (∀ s x, x ∈ xs → I s → I (g s x)) → I (xs.foldl g s)
  | [], _, h, _ => h
  | x :: xs, s, h, hs => fold_inv (xs := xs) (hs s x (List.mem_cons_self ..) h) fun s y hy => hs s y (List.mem_cons_of_mem _ hy)
theorem un1_nodup {size : Int} {a b : List Int} {D : List (List Int)} (h : D.Nodup) : (un1 size a D b).Nodup := by
  unfold un1; split
  · exact insK_nodup h
  · exact h
theorem uns_nodup (A B : List (List Int)) (size : Int) : (uns A B size).Nodup := fold_inv (I := List.Nodup) List.nodup_nil fun D a _ h => fold_inv (I := List.Nodup) h fun D b _ h => un1_nodup h
theorem mem_un1 {size : Int} {a b x : List Int} {D : List (List Int)} : x ∈ un1 size a D b ↔ x ∈ D ∨ (x = uni a b ∧ (x.length : Int) ≤ size) := by
  unfold un1; split
  · rename_i h
    rw [mem_insK]
    exact ⟨fun z => z.imp id fun e => ⟨e, e ▸ h⟩, fun z => z.imp id fun e => e.1⟩
  · rename_i h
    exact ⟨.inl, fun z => z.elim id fun e => absurd (e.1 ▸ e.2) h⟩
theorem mem_in {size : Int} {a x : List Int} : ∀ {B : List (List Int)} {D : List (List Int)}, x ∈ B.foldl (un1 size a) D ↔ x ∈ D ∨ ∃ b ∈ B, x = uni a b ∧ (x.length : Int) ≤ size
  | [], D => by simp
  | b :: B, D => by
    rw [List.foldl_cons, mem_in, mem_un1]
    constructor
    · rintro ((h | h) | ⟨b', hb, h⟩)
      · exact .inl h
      · exact .inr ⟨b, List.mem_cons_self .., h⟩
      · exact .inr ⟨b', List.mem_cons_of_mem _ hb, h⟩
    · rintro (h | ⟨b', hb, h⟩)
      · exact .inl (.inl h)
      · rcases List.mem_cons.mp hb with rfl | hb
        · exact .inl (.inr h)
        · exact .inr ⟨b', hb, h⟩
theorem mem_out {size : Int} {x : List Int} {B : List (List Int)} : ∀ {A : List (List Int)} {D : List (List Int)}, x ∈ A.foldl (fun D a => B.foldl (un1 size a) D) D ↔ x ∈ D ∨ ∃ a ∈ A, ∃ b ∈ B, x = uni a b ∧ (x.length : Int) ≤ size
  | [], D => by simp
  | a :: A, D => by
    rw [List.foldl_cons, mem_out, mem_in]
    constructor
    · rintro ((h | h) | ⟨a', ha, h⟩)
      · exact .inl h
      · exact .inr ⟨a, List.mem_cons_self .., h⟩
      · exact .inr ⟨a', List.mem_cons_of_mem _ ha, h⟩
    · rintro (h | ⟨a', ha, h⟩)
      · exact .inl (.inl h)
      · rcases List.mem_cons.mp ha with rfl | ha
        · exact .inl (.inr h)
        · exact .inr ⟨a', ha, h⟩
theorem mem_uns {A B : List (List Int)} {size : Int} {x : List Int} : x ∈ uns A B size ↔ ∃ a ∈ A, ∃ b ∈ B, x = uni a b ∧ (x.length : Int) ≤ size := by
  unfold uns; rw [mem_out]; simp
theorem uns_asc {A B : List (List Int)} {size : Int} : ∀ x ∈ uns A B size, Asc x := fun x hx => by
  obtain ⟨a, _, b, _, rfl, _⟩ := mem_uns.mp hx
  exact uni_asc a b
/-- how the loops of unions go -/
theorem tForD {ρ S' S β : Type} {α : Type} {Q : β → Prop} {kn : S' → Option β} {kr : ρ → Option β} {f : α → S' → Option (Fl ρ S')} {xs : List α} {e : S → S'} {s0 : S} (g : S → α → S) (I : S → Prop) (h0 : I s0) (hf : ∀ x s, x ∈ xs → I s → f x (e s) = some (.next (e (g s x))) ∧ I (g s x)) (k : I (xs.foldl g s0) → Tot (kn (e (xs.foldl g s0))) Q) : Tot (flK (forF xs (e s0) f) kn kr) Q := by
  have : ∀ (ys : List α) (s : S), (∀ x ∈ ys, x ∈ xs) → I s → forF ys (e s) f = some (.next (e (ys.foldl g s))) ∧ I (ys.foldl g s) := by
    intro ys
    induction ys with
    | nil => intro s _ hI; exact ⟨rfl, hI⟩
    | cons y ys ih =>
      intro s hm hI
      obtain ⟨h1, h2⟩ := hf y s (hm y (List.mem_cons_self ..)) hI
      obtain ⟨h3, h4⟩ := ih (g s y) (fun x hx => hm x (List.mem_cons_of_mem _ hx)) h2
      refine ⟨?_, h4⟩
      unfold forF
      rw [h1]
      exact h3
  obtain ⟨h1, h2⟩ := this xs s0 (fun _ h => h) h0
  rw [h1]
  exact k h2
theorem eForD {ρ S' S β : Type} {α : Type} {z : β} {kn : S' → Option β} {kr : ρ → Option β} {f : α → S' → Option (Fl ρ S')} {xs : List α} {e : S → S'} {s0 : S} (g : S → α → S) (I : S → Prop) (h0 : I s0) (hf : ∀ x s, x ∈ xs → I s → f x (e s) = some (.next (e (g s x))) ∧ I (g s x)) (k : I (xs.foldl g s0) → kn (e (xs.foldl g s0)) = some z) : flK (forF xs (e s0) f) kn kr = some z :=
  (tForD (Q := fun r => r = z) g I h0 hf fun h => ⟨z, k h, rfl⟩).eq
/-- what is said of a collection of unions on the way -/
def Col (A B : List (List Int)) (D : List (List Int)) : Prop := D.Nodup ∧ ∀ x ∈ D, ∃ a ∈ A, ∃ b ∈ B, x = uni a b
theorem Col.un1 {A B D : List (List Int)} {size : Int} {a b : List Int} (h : Col A B D) (ha : a ∈ A) (hb : b ∈ B) : Col A B (un1 size a D b) := ⟨un1_nodup h.1, fun x hx => by
  rcases mem_un1.mp hx with hx | ⟨hx, _⟩
  · exact h.2 x hx
  · exact ⟨a, ha, b, hb, hx⟩⟩
theorem mins_any (K : List (List Int)) (u : List Int) : keep1 K u = bif (K.any fun o => sub o u) then K else K ++ [u] := by unfold keep1; cases (K.any fun o => sub o u) <;> rfl
theorem united_ok {A B : List (List Int)} {size : Int} (hA : ∀ a ∈ A, a.length ≤ 30) (hB : ∀ b ∈ B, b.length ≤ 30) (hb : ∀ D, Col A B D → D.length < 16777216) : m_united A B size = some (mins (uns A B size)) := by
  refine Tot.eq ?_
  unfold m_united
  refine tForD (e := fun D => D.map e_) (s0 := ([] : List (List Int))) (fun D a => B.foldl (un1 size a) D) (Col A B) ⟨List.nodup_nil, fun x hx => nomatch hx⟩ (fun a D ha hD => ?_) (fun hD => ?_)
  · refine ⟨?_, fold_inv (I := Col A B) hD fun D b hb' h => h.un1 ha hb'⟩
    refine eForD (z := Fl.next ((B.foldl (un1 size a) D).map e_)) (kn := fun u => some (Fl.next u)) (e := fun D => D.map e_) (un1 size a) (Col A B) hD (fun b D hb' hD => ⟨?_, hD.un1 ha hb'⟩) (fun _ => rfl)
    have hl : (a ++ b).length ≤ 60 := by rw [List.length_append]; have := hA a ha; have := hB b hb'; omega
    refine gI (line_le (by rw [← List.length_append]; omega)) (gI (by omega) ?_)
    show ((bif decide (((uni a b).length : Int) ≤ size) then _ else _ : Option _).bind _) = _
    by_cases hs : ((uni a b).length : Int) ≤ size
    · refine bI (cT (dT hs) (gI (line_lt (by rw [List.length_map]; exact hb D hD)) rfl)) ?_
      show some (Fl.next (dput (D.map e_) ((NE.tup NE.int).enc (uni a b)) true)) = _
      rw [dput_e]
      unfold un1
      rw [if_pos hs]
    · refine bI (cF (dF hs) rfl) ?_
      unfold un1
      rw [if_neg hs]
  · have hu : (A.foldl (fun D a => B.foldl (un1 size a) D) []) = uns A B size := rfl
    rw [hu] at hD ⊢
    refine tE (keysT_e _) ?_
    rw [sortBy_srt]
    have hlen : (srt (uns A B size)).length < 16777216 := by rw [(srt_perm _).length_eq]; exact hb _ hD
    have hsm : ∀ x ∈ srt (uns A B size), x.length ≤ 60 := fun x hx => by
      obtain ⟨a, ha, b, hb', rfl, _⟩ := mem_uns.mp (mem_srt.mp hx)
      have h1 : (uni a b).length ≤ (a ++ b).length := nodup_le (uni_asc a b).nodup fun n hn => by rw [List.mem_append]; exact mem_uni.mp hn
      rw [List.length_append] at h1
      have := hA a ha; have := hB b hb'; omega
    refine tForX (fun j K => K = ((srt (uns A B size)).take j).foldl keep1 []) rfl (fun j u K hu hK => ?_) (fun K hK => tR (by rw [hK, List.take_length]; rfl))
    have hKs : K.length ≤ j ∧ ∀ o ∈ K, o.length ≤ 1000 := by
      rw [hK]
      have : ∀ (xs : List (List Int)), (xs.foldl keep1 []).length ≤ xs.length ∧ ∀ o ∈ xs.foldl keep1 [], o ∈ xs := by
        intro xs
        have g : ∀ (xs K : List (List Int)), (xs.foldl keep1 K).length ≤ K.length + xs.length ∧ ∀ o ∈ xs.foldl keep1 K, o ∈ K ∨ o ∈ xs := by
          intro xs
          induction xs with
          | nil => intro K; exact ⟨Nat.le_refl _, fun o h => .inl h⟩
          | cons x xs ih =>
            intro K
            obtain ⟨g1, g2⟩ := ih (keep1 K x)
            have hk : (keep1 K x).length ≤ K.length + 1 ∧ ∀ o ∈ keep1 K x, o ∈ K ∨ o = x := by
              unfold keep1
              split
              · exact ⟨Nat.le_succ _, fun o h => .inl h⟩
              · exact ⟨by simp, fun o h => by rw [List.mem_append, List.mem_singleton] at h; exact h⟩
            refine ⟨by rw [List.foldl_cons, List.length_cons]; omega, fun o ho => ?_⟩
            rcases g2 o ho with h | h
            · rcases hk.2 o h with h | h
              · exact .inl h
              · exact .inr (by rw [h]; exact List.mem_cons_self ..)
            · exact .inr (List.mem_cons_of_mem _ h)
        obtain ⟨g1, g2⟩ := g xs []
        exact ⟨by simpa using g1, fun o ho => (g2 o ho).elim (fun z => nomatch z) id⟩
      obtain ⟨h1, h2⟩ := this ((srt (uns A B size)).take j)
      refine ⟨Nat.le_trans h1 (by rw [List.length_take]; exact Nat.min_le_left _ _), fun o ho => ?_⟩
      have := hsm o (List.mem_of_mem_take (h2 o ho))
      omega
    have hj : j < (srt (uns A B size)).length := (List.getElem?_eq_some_iff.mp hu).1
    have fin : keep1 K u = ((srt (uns A B size)).take (j + 1)).foldl keep1 [] := by
      rw [List.take_add_one, hu, List.foldl_append, ← hK]; rfl
    refine tE (contains_ok hKs.2) (tE (a := keep1 K u) ?_ (tR fin))
    rw [mins_any]
    cases hc : K.any (fun o => sub o u) with
    | true => exact cF rfl rfl
    | false => exact cT rfl (gI (line_lt (by have := hKs.1; omega)) rfl)
end K56

/-! K56S -/
namespace K56
open PySem PySem.Spec L2 Ty
abbrev Kn := List (List (List Int))
def getK (K : Kn) (i : Int) : List (List Int) := (K[i.toNat]?).getD []
def stepC (size : Int) (s : Kn × Kn) (p : Int × Int) : Kn × Kn :=
  (s.1 ++ [mins (uns (getK s.1 (p.1 / 2)) (getK s.1 (p.2 / 2)) size) ++ [[(s.1.length : Int)]]], s.2 ++ [mins (uns (getK s.1 (p.1 / 2)) (getK s.1 (p.2 / 2)) size)])
def known0 (fa : Int) : Kn := [[([] : List Int)]] ++ (rangeL 1 fa).map fun n => [[n]]
def foldC (size fa : Int) (ands : List (Int × Int)) : Kn × Kn := ands.foldl (stepC size) (known0 fa, [])
/-- what is known: rising sets of at most six places from 1 on -/
def KOk (K : Kn) : Prop := ∀ (j : Nat) Z, K[j]? = some Z → ∀ a ∈ Z, Asc a ∧ a.length ≤ 6 ∧ ∀ n ∈ a, 1 ≤ n ∧ n ≤ (j : Int)
structure Kst (fa : Int) (k : Nat) (s : Kn × Kn) : Prop where
  l1 : (s.1.length : Int) = fa + k
  l2 : s.2.length = k
  ok : KOk s.1
  at_ : ∀ (j : Nat) c, s.2[j]? = some c → s.1[(fa + j).toNat]? = some (c ++ [[fa + (j : Int)]])
theorem getK_at {K : Kn} {i : Int} (h0 : 0 ≤ i) (h1 : i < K.length) : atI K i = some (getK K i) := by
  rw [atI_pos h0]
  unfold getK
  rw [List.getElem?_eq_getElem (by omega)]; rfl
theorem getK_ok {K : Kn} {i : Int} (h : KOk K) (h0 : 0 ≤ i) (h1 : i < K.length) : ∀ a ∈ getK K i, Asc a ∧ a.length ≤ 6 ∧ ∀ n ∈ a, 1 ≤ n ∧ n ≤ i := by
  intro a ha
  have := getK_at h0 h1
  rw [atI_pos h0] at this
  obtain ⟨x, y, z⟩ := h _ _ this a ha
  exact ⟨x, y, fun n hn => by have := z n hn; omega⟩
theorem known0_len {fa : Int} (h : 1 ≤ fa) : ((known0 fa).length : Int) = fa := by
  unfold known0
  rw [List.length_append, List.length_map, rangeL_len2, List.length_singleton]; omega
theorem known0_ok {fa : Int} : KOk (known0 fa) := by
  intro j Z h a ha
  unfold known0 at h
  cases j with
  | zero =>
    have : Z = [[]] := by simpa using h.symm
    subst this
    rw [List.mem_singleton.mp ha]
    exact ⟨List.Pairwise.nil, by simp, fun n hn => nomatch hn⟩
  | succ j =>
    rw [List.getElem?_append_right (by simp), List.length_singleton, Nat.add_sub_cancel, List.getElem?_map] at h
    obtain ⟨x, hx, rfl⟩ := Option.map_eq_some_iff.mp h
    obtain ⟨rfl, hj⟩ := rangeL_at hx
    rw [List.mem_singleton.mp ha]
    exact ⟨List.pairwise_singleton _ _, by simp, fun n hn => by rw [List.mem_singleton.mp hn]; omega⟩
theorem Kst.zero {fa : Int} (h : 1 ≤ fa) : Kst fa 0 (known0 fa, []) := ⟨by rw [known0_len h]; simp, rfl, known0_ok, fun j c hc => by simp at hc⟩
theorem uni_le {a b : List Int} : (uni a b).length ≤ a.length + b.length := by
  have h1 : (uni a b).length ≤ (a ++ b).length := nodup_le (uni_asc a b).nodup fun n hn => by rw [List.mem_append]; exact mem_uni.mp hn
  rwa [List.length_append] at h1
theorem mem_mins {A B : List (List Int)} {size : Int} {u : List Int} (h : u ∈ mins (uns A B size)) : u ∈ uns A B size := ((mins_spec uns_asc (uns_nodup A B size)).2.2.2 u |>.mp h).1
theorem Kst.step {fa size : Int} {k : Nat} {s : Kn × Kn} {p : Int × Int} (h : Kst fa k s) (hfa : 1 ≤ fa) (hs : size ≤ 6) (h1 : 0 ≤ p.1 ∧ p.1 < 2 * (fa + k)) (h2 : 0 ≤ p.2 ∧ p.2 < 2 * (fa + k)) : Kst fa (k + 1) (stepC size s p) := by
  have hl := h.l1
  unfold stepC
  refine ⟨by dsimp only; rw [List.length_append, List.length_singleton]; omega, by dsimp only; rw [List.length_append, h.l2, List.length_singleton], ?_, ?_⟩
  · intro j Z hj a ha
    dsimp only at hj
    rcases snoc_at hj with ⟨_, hj⟩ | ⟨rfl, rfl⟩
    · exact h.ok j Z hj a ha
    · rcases List.mem_append.mp ha with ha | ha
      · obtain ⟨x, hx, y, hy, rfl, hz⟩ := mem_uns.mp (mem_mins ha)
        obtain ⟨_, _, a3⟩ := getK_ok h.ok (by omega) (by omega) x hx
        obtain ⟨_, _, b3⟩ := getK_ok h.ok (by omega) (by omega) y hy
        refine ⟨uni_asc x y, by omega, fun n hn => ?_⟩
        rcases mem_uni.mp hn with hn | hn
        · have := a3 n hn; omega
        · have := b3 n hn; omega
      · rw [List.mem_singleton.mp ha]
        exact ⟨List.pairwise_singleton _ _, by simp, fun n hn => by rw [List.mem_singleton.mp hn]; omega⟩
  · intro j c hj
    dsimp only at hj ⊢
    rcases snoc_at hj with ⟨hlt, hj⟩ | ⟨rfl, rfl⟩
    · have := h.l2
      rw [List.getElem?_append_left (by omega)]
      exact h.at_ j c hj
    · have := h.l2
      have e : (fa + (s.2.length : Int)).toNat = s.1.length := by omega
      rw [e, List.getElem?_append_right (Nat.le_refl _), Nat.sub_self, show ((s.1.length : Nat) : Int) = fa + (s.2.length : Int) by omega]; rfl
theorem take_fold {α S : Type} {g : S → α → S} {xs : List α} {s : S} {j : Nat} {x : α} (h : xs[j]? = some x) : (xs.take (j + 1)).foldl g s = g ((xs.take j).foldl g s) x := by
  rw [List.take_add_one, h, List.foldl_append]; rfl
variable {ands : List (Int × Int)} {fa size : Int}
theorem fold_st (w : Wf ands fa) (hs : size ≤ 6) : ∀ k, k ≤ ands.length → Kst fa k ((ands.take k).foldl (stepC size) (known0 fa, []))
  | 0, _ => Kst.zero w.1
  | k + 1, hk => by
    have hx : ands[k]? = some ands[k] := List.getElem?_eq_getElem (by omega)
    rw [take_fold hx]
    obtain ⟨a, b⟩ := w.2 k _ hx
    exact (fold_st w hs k (by omega)).step w.1 hs a b
theorem foldC_st (w : Wf ands fa) (hs : size ≤ 6) : Kst fa ands.length (foldC size fa ands) := by
  have := fold_st w hs ands.length (Nat.le_refl _)
  rw [List.take_length] at this
  exact this
/-- found so far is the beginning of what is found -/
theorem found_pre : ∀ (xs : List (Int × Int)) (s : Kn × Kn), ∃ r, (xs.foldl (stepC size) s).2 = s.2 ++ r
  | [], s => ⟨[], by simp⟩
  | x :: xs, s => by
    obtain ⟨r, hr⟩ := found_pre xs (stepC size s x)
    refine ⟨[mins (uns (getK s.1 (x.1 / 2)) (getK s.1 (x.2 / 2)) size)] ++ r, ?_⟩
    rw [List.foldl_cons, hr]
    unfold stepC
    rw [List.append_assoc]
theorem half1 (x : Int) : x / 2 ^ ((1 : Int)).toNat = x / 2 := rfl
theorem col_prod {A B D : List (List Int)} (h : Col A B D) : D.length ≤ A.length * B.length := by
  have e : (A.flatMap fun a => B.map fun b => uni a b).length = A.length * B.length := by
    rw [List.length_flatMap]
    have : (A.map fun a => (B.map fun b => uni a b).length) = A.map fun _ => B.length := List.map_congr_left fun a _ => List.length_map ..
    rw [this, List.map_const', List.sum_replicate_nat]
  rw [← e]
  refine nodup_le h.1 fun x hx => ?_
  obtain ⟨a, ha, b, hb, rfl⟩ := h.2 x hx
  exact List.mem_flatMap.mpr ⟨a, ha, List.mem_map.mpr ⟨b, hb, rfl⟩⟩
theorem few_entries {k : Nat} {s : Kn × Kn} {i : Int} (h : Kst fa k s) (hfa : 1 ≤ fa) (h0 : 0 ≤ i) (h1 : i < fa + k) (hf : ∀ (j : Nat) Z, (known0 fa)[j]? = some Z → s.1[j]? = some Z) (hc : ∀ c ∈ s.2, c.length ≤ 500) : (getK s.1 i).length ≤ 501 := by
  by_cases hi : i < fa
  · have hj : i.toNat < (known0 fa).length := by have := known0_len hfa; omega
    have e := hf _ _ (List.getElem?_eq_getElem hj)
    unfold getK
    rw [e]
    have : ∀ Z ∈ known0 fa, Z.length ≤ 1 := fun Z hZ => by
      unfold known0 at hZ
      rcases List.mem_append.mp hZ with hZ | hZ
      · rw [List.mem_singleton.mp hZ]; exact Nat.le_refl _
      · obtain ⟨n, _, rfl⟩ := List.mem_map.mp hZ; exact Nat.le_refl _
    have := this _ (List.getElem_mem hj)
    show (known0 fa)[i.toNat].length ≤ 501
    omega
  · have hj : (i - fa).toNat < s.2.length := by rw [h.l2]; omega
    have hx : s.2[(i - fa).toNat]? = some s.2[(i - fa).toNat] := List.getElem?_eq_getElem hj
    have e := h.at_ _ _ hx
    rw [show (fa + (((i - fa).toNat : Nat) : Int)).toNat = i.toNat by omega] at e
    unfold getK
    rw [e]
    have := hc _ (List.mem_of_getElem? hx)
    show (s.2[(i - fa).toNat] ++ [[fa + (((i - fa).toNat : Nat) : Int)]]).length ≤ 501
    rw [List.length_append, List.length_singleton]
    omega
theorem stepC_keep {s : Kn × Kn} {p : Int × Int} (h : ∀ (j : Nat) Z, (known0 fa)[j]? = some Z → s.1[j]? = some Z) : ∀ (j : Nat) Z, (known0 fa)[j]? = some Z → (stepC size s p).1[j]? = some Z := fun j Z hj => by
  have := h j Z hj
  unfold stepC
  dsimp only
  rw [List.getElem?_append_left (List.getElem?_eq_some_iff.mp this).1]
  exact this
theorem fold_keep : ∀ (xs : List (Int × Int)) {s : Kn × Kn}, (∀ (j : Nat) Z, (known0 fa)[j]? = some Z → s.1[j]? = some Z) → ∀ (j : Nat) Z, (known0 fa)[j]? = some Z → (xs.foldl (stepC size) s).1[j]? = some Z
  | [], _, h => h
  | x :: xs, s, h => fold_keep xs (stepC_keep h)
/-- the package's cuts -/
theorem cuts_ok (w : Wf ands fa) (hn : fa + ands.length ≤ 1000) (hs : 1 ≤ size ∧ size ≤ 6) {net : S_Net} (e1 : m_Net_first_and net = some fa) (e2 : net.ands = ands) :
    ((∀ c ∈ (foldC size fa ands).2, c.length ≤ 500) ∧ m_cuts_of net size = some (.ok (foldC size fa ands).2)) ∨ ((∃ c ∈ (foldC size fa ands).2, 500 < c.length) ∧ m_cuts_of net size = some (.ex ("TooHard", []))) := by
  have hfa := w.1
  obtain ⟨r, er, hr⟩ : Tot (m_cuts_of net size) fun r => ((∀ c ∈ (foldC size fa ands).2, c.length ≤ 500) ∧ r = .ok (foldC size fa ands).2) ∨ ((∃ c ∈ (foldC size fa ands).2, 500 < c.length) ∧ r = .ex ("TooHard", [])) := by
    unfold m_cuts_of
    refine tC (fun hz => ?_) (fun _ => tE e1 (tG ⟨by decide, by decide, by omega, by omega⟩ ?_))
    · rw [dT hs.1, dT hs.2] at hz; cases hz
    refine tForX (fun j K => K = [[([] : List Int)]] ++ ((rangeL 1 fa).take j).map fun n => [[n]]) (by simp) (fun j x K hx hK => ?_) (fun K hK => ?_)
    · have hj : (j : Int) < fa - 1 := (rangeL_at hx).2
      have hl : K.length ≤ 1000 := by rw [hK, List.length_append, List.length_map, List.length_take, List.length_singleton]; omega
      refine tG (line_lt (by omega)) (tR ?_)
      show _ = _
      rw [hK, List.take_add_one, hx, List.map_append, ← List.append_assoc]; rfl
    · rw [List.take_length] at hK
      have hK : K = known0 fa := hK
      subst hK
      rw [e2]
      refine tForX (fun j s => s = (ands.take j).foldl (stepC size) (known0 fa, []) ∧ ∀ c ∈ s.2, c.length ≤ 500) ⟨rfl, fun c hc => nomatch hc⟩ (fun j x s hx hP => ?_) (fun s hP => tR (.inl ?_))
      · obtain ⟨p, hp, rfl⟩ := enum_at hx
        obtain ⟨hs1, hs2⟩ := hP
        have hj : j < ands.length := (List.getElem?_eq_some_iff.mp hp).1
        have st := fold_st w hs.2 j (by omega)
        rw [← hs1] at st
        obtain ⟨p1, p2⟩ := w.2 j p hp
        have hl := st.l1
        have hkeep : ∀ (j : Nat) Z, (known0 fa)[j]? = some Z → s.1[j]? = some Z := by rw [hs1]; exact fold_keep _ fun _ _ h => h
        have f1 := few_entries (i := p.1 / 2) st hfa (by omega) (by omega) hkeep hs2
        have f2 := few_entries (i := p.2 / 2) st hfa (by omega) (by omega) hkeep hs2
        obtain ⟨known, found⟩ := s
        dsimp only at hl hkeep f1 f2 hs2 ⊢
        rw [half1, half1]
        refine tE (getK_at (by omega) (by omega)) (tE (getK_at (by omega) (by omega)) (tE (united_ok (fun a ha => ?_) (fun a ha => ?_) (fun D hD => ?_)) ?_))
        · have := (getK_ok st.ok (i := p.1 / 2) (by omega) (by dsimp only; omega) a ha).2.1; omega
        · have := (getK_ok st.ok (i := p.2 / 2) (by omega) (by dsimp only; omega) a ha).2.1; omega
        · have h1 := col_prod hD
          have h2 : (getK known (p.1 / 2)).length * (getK known (p.2 / 2)).length ≤ 501 * 501 := Nat.mul_le_mul f1 f2
          omega
        have hst : stepC size (known, found) p = (ands.take (j + 1)).foldl (stepC size) (known0 fa, []) := by rw [take_fold hp, ← hs1]
        generalize hcv : mins (uns (getK known (p.1 / 2)) (getK known (p.2 / 2)) size) = c
        have hst2 : (known ++ [c ++ [[fa + (j : Int)]]], found ++ [c]) = (ands.take (j + 1)).foldl (stepC size) (known0 fa, []) := by
          rw [← hst]; unfold stepC; dsimp only; rw [hcv, hl]
        refine tD (fun hbig => tR (tR (.inr ⟨⟨c, ?_, by omega⟩, rfl⟩))) (fun hsm => ?_)
        · obtain ⟨rr, hrr⟩ := found_pre (size := size) (ands.drop (j + 1)) ((ands.take (j + 1)).foldl (stepC size) (known0 fa, []))
          rw [← List.foldl_append, List.take_append_drop] at hrr
          unfold foldC
          rw [hrr, ← hst2]
          simp
        · have hfl : found.length ≤ 1000 := by have := st.l2; dsimp only at this; omega
          refine tG (line_lt (by omega)) (tE e1 (tG (line_le ?_) (tG (line_lt (by omega)) (tR ⟨hst2, fun d hd => ?_⟩))))
          · show c.length + 1 ≤ _; omega
          · rcases List.mem_append.mp hd with hd | hd
            · exact hs2 d hd
            · rw [List.mem_singleton.mp hd]; omega
      · obtain ⟨hs1, hs2⟩ := hP
        rw [List.length_map, List.length_zipIdx, List.take_length] at hs1
        have hs1 : s = foldC size fa ands := hs1
        rw [← hs1]
        exact ⟨hs2, rfl⟩
  rcases hr with ⟨h1, rfl⟩ | ⟨h1, rfl⟩
  · exact .inl ⟨h1, er⟩
  · exact .inr ⟨h1, er⟩
end K56

/-! Pl6 -/
/-! another family of names; cuts -/
namespace Ty
open PySem PySem.Spec L2
/-! ### names -/
def aln (x : Nat) : Prop := (97 ≤ x ∧ x ≤ 122) ∨ (48 ≤ x ∧ x ≤ 57)
def NameB (k : Nat) (s : Str) : Prop := ∃ c a b, (97 ≤ c ∧ c ≤ 122) ∧ s.cps.toList = c :: (a ++ 95 :: (48 + k) :: b) ∧ a.length + b.length ≤ 7 ∧ (∀ x ∈ a, aln x) ∧ ∀ x ∈ b, aln x
theorem aln_sgn {x : Nat} (h : aln x) : sgn x := by
  rcases h with h | h
  · exact .inl h
  · exact .inr (.inl h)
theorem NameB.nm {k : Nat} {s : Str} (h : NameB k s) (hk : k < 10) : Nm s := by
  obtain ⟨c, a, b, hc, e, hl, ha, hb⟩ := h
  refine ⟨?_, ?_, ?_, ?_⟩ <;> rw [e]
  · simp
  · simp; omega
  · intro c h; simp at h; omega
  · intro x h
    rcases List.mem_cons.mp h with h | h
    · exact .inl (by omega)
    · rcases List.mem_append.mp h with h | h
      · exact aln_sgn (ha x h)
      · rcases List.mem_cons.mp h with h | h
        · exact .inr (.inr h)
        · rcases List.mem_cons.mp h with h | h
          · exact .inr (.inl (by omega))
          · exact aln_sgn (hb x h)
theorem no95 {a : List Nat} (h : ∀ x ∈ a, aln x) : 95 ∉ a := fun hm => by
  rcases h 95 hm with z | z <;> omega
theorem cut95' : ∀ {a b c d : List Nat}, 95 ∉ a → 95 ∉ c → a ++ 95 :: b = c ++ 95 :: d → b = d := fun {a b c d} h1 h2 e => by
  have := cut95 h1 h2 e
  subst this
  simpa using e
theorem NameB.inj {k k' : Nat} {s : Str} (h : NameB k s) (h' : NameB k' s) : k = k' := by
  obtain ⟨c, a, b, hc, e, hl, ha, hb⟩ := h
  obtain ⟨c', a', b', hc', e', hl', ha', hb'⟩ := h'
  rw [e] at e'
  injection e' with _ z
  have := cut95' (no95 ha) (no95 ha') z
  injection this with z _
  omega
theorem NameB.has {k : Nat} {s : Str} (h : NameB k s) : 95 ∈ s.cps.toList := by
  obtain ⟨c, a, b, hc, e, _⟩ := h
  rw [e]; simp
/-- a text without strange signs -/
theorem ok_of {s : Str} (h : ∀ c ∈ s.cps.toList, c < 1114112) : PyData.strOk s = true := by
  unfold PyData.strOk
  rw [← Array.all_toList, List.all_eq_true]
  intro c hc
  exact decide_eq_true (h c hc)
theorem Nm.ok {s : Str} (h : Nm s) : PyData.strOk s = true := ok_of fun c hc => by
  rcases h.al c hc with z | z | z <;> omega
end Ty

/-! Pl9 -/
/-! data that is short when shown -/
namespace Ty
open PySem PySem.Spec L2
structure Sml (w k : Nat) (d : PyData) : Prop where
  ok : d.canLay0 = true
  sh : d.leavesShort 30 = true
  sw : d.showable = true
  we : d.weight ≤ w
  de : d.depth ≤ k
theorem Sml.mono {w w' k k' : Nat} {d : PyData} (h : Sml w k d) (h1 : w ≤ w') (h2 : k ≤ k') : Sml w' k' d := ⟨h.ok, h.sh, h.sw, Nat.le_trans h.we h1, Nat.le_trans h.de h2⟩
theorem Sml.int {i : Int} (h : i.natAbs < 2 ^ 70) : Sml 71 0 (.int i) := by
  have hl : i.natAbs.log2 < 70 := by
    by_cases h0 : i.natAbs = 0
    · rw [h0]; decide
    · exact (Nat.log2_lt h0).mpr h
  refine ⟨by rw [PyData.canLay0], ?_, ?_, ?_, by rw [PyData.depth]; exact Nat.le_refl _⟩
  · have e := int_text_length_le10 (a := i) (k := 22) (by decide) (Nat.lt_of_lt_of_le h (by decide))
    rw [PyData.leavesShort, decide_eq_true_eq]
    show (Str.ofString (toString i)).length ≤ 30
    rw [ofString_length]
    omega
  · rw [PyData.showable, decide_eq_true_eq]; omega
  · rw [PyData.weight]
    split
    · omega
    · omega
theorem Sml.bool (b : Bool) : Sml 0 0 (.bool b) := ⟨by rw [PyData.canLay0], by rw [PyData.leavesShort], by rw [PyData.showable], by rw [PyData.weight]; exact Nat.le_refl _, by rw [PyData.depth]; exact Nat.le_refl _⟩
theorem Sml.str {s : Str} {n : Nat} (h : PyData.strOk s = true) (hl : s.length ≤ n) : Sml n 0 (.str s) := by
  refine ⟨by rw [PyData.canLay0]; exact h, ?_, by rw [PyData.showable], by rw [PyData.weight]; exact hl, by rw [PyData.depth]; exact Nat.le_refl _⟩
  have h0 : s.cps.all (· < 0x110000) = true := by simpa only [PyData.strOk] using h
  simp only [PyData.leavesShort, List.all_eq_true, decide_eq_true_eq]
  intro c hcm
  have h2 := (Array.all_eq_true_iff_forall_mem.mp h0) c (Array.mem_toList_iff.mp hcm)
  have h3 : c < 0x110000 := by simpa using h2
  have e : (16 : Nat) ^ 8 = 4294967296 := by decide
  omega
structure SmlA (w k n : Nat) (ds : List PyData) : Prop where
  ok : PyData.canLayAll0 ds = true
  sh : PyData.leavesShortAll 30 ds = true
  sw : PyData.showableAll ds = true
  we : PyData.weightAll ds ≤ ds.length * (w + 1)
  de : PyData.depthAll ds ≤ k
theorem SmlA.of {w k : Nat} : ∀ {ds : List PyData}, (∀ d ∈ ds, Sml w k d) → SmlA w k 0 ds
  | [], _ => ⟨by rw [PyData.canLayAll0], by rw [PyData.leavesShortAll], by rw [PyData.showableAll], by rw [PyData.weightAll]; omega, by rw [PyData.depthAll]; omega⟩
  | d :: ds, h => by
    have h1 := h d List.mem_cons_self
    have h2 := SmlA.of fun x hx => h x (List.mem_cons_of_mem _ hx)
    refine ⟨by rw [PyData.canLayAll0, h1.ok, h2.ok]; rfl, by rw [PyData.leavesShortAll, h1.sh, h2.sh]; rfl, by rw [PyData.showableAll, h1.sw, h2.sw]; rfl, ?_, ?_⟩
    · rw [PyData.weightAll, List.length_cons, Nat.succ_mul]
      have := h1.we
      have := h2.we
      omega
    · rw [PyData.depthAll]
      exact Nat.max_le.mpr ⟨h1.de, h2.de⟩
theorem Sml.list {w k n : Nat} {ds : List PyData} (h : ∀ d ∈ ds, Sml w k d) (hl : ds.length ≤ n) : Sml (n * (w + 1)) (k + 1) (.list ds) := by
  have a := SmlA.of h
  refine ⟨by rw [PyData.canLay0]; exact a.ok, by rw [PyData.leavesShort]; exact a.sh, by rw [PyData.showable]; exact a.sw, ?_, by rw [PyData.depth]; exact Nat.succ_le_succ a.de⟩
  rw [PyData.weight]
  exact Nat.le_trans a.we (Nat.mul_le_mul_right _ hl)
theorem Sml.tuple {w k n : Nat} {ds : List PyData} (h : ∀ d ∈ ds, Sml w k d) (hl : ds.length ≤ n) : Sml (n * (w + 1)) (k + 1) (.tuple ds) := by
  have a := SmlA.of h
  refine ⟨by rw [PyData.canLay0]; exact a.ok, by rw [PyData.leavesShort]; exact a.sh, by rw [PyData.showable]; exact a.sw, ?_, by rw [PyData.depth]; exact Nat.succ_le_succ a.de⟩
  rw [PyData.weight]
  exact Nat.le_trans a.we (Nat.mul_le_mul_right _ hl)
theorem Sml.listM {α : Type} {f : α → PyData} {w k n : Nat} {xs : List α} (h : ∀ x ∈ xs, Sml w k (f x)) (hl : xs.length ≤ n) : Sml (n * (w + 1)) (k + 1) (.list (xs.map f)) :=
  Sml.list (fun d hd => by obtain ⟨x, hx, rfl⟩ := List.mem_map.mp hd; exact h x hx) (by rw [List.length_map]; exact hl)
theorem Sml.tupM {α : Type} {f : α → PyData} {w k n : Nat} {xs : List α} (h : ∀ x ∈ xs, Sml w k (f x)) (hl : xs.length ≤ n) : Sml (n * (w + 1)) (k + 1) (.tuple (xs.map f)) :=
  Sml.tuple (fun d hd => by obtain ⟨x, hx, rfl⟩ := List.mem_map.mp hd; exact h x hx) (by rw [List.length_map]; exact hl)
theorem Sml.t2 {w k : Nat} {a b : PyData} (h1 : Sml w k a) (h2 : Sml w k b) : Sml (2 * (w + 1)) (k + 1) (.tuple [a, b]) :=
  Sml.tuple (fun d hd => by
    rcases List.mem_cons.mp hd with rfl | hd
    · exact h1
    · rw [List.mem_singleton.mp hd]; exact h2) (Nat.le_refl _)
theorem Sml.t3 {w k : Nat} {a b c : PyData} (h1 : Sml w k a) (h2 : Sml w k b) (h3 : Sml w k c) : Sml (3 * (w + 1)) (k + 1) (.tuple [a, b, c]) :=
  Sml.tuple (fun d hd => by
    rcases List.mem_cons.mp hd with rfl | hd
    · exact h1
    · rcases List.mem_cons.mp hd with rfl | hd
      · exact h2
      · rw [List.mem_singleton.mp hd]; exact h3) (Nat.le_refl _)
theorem Sml.shaped {w k : Nat} {d : PyData} (h : Sml w k d) (hk : k ≤ 64) : SeqAt.shaped d = true := by
  unfold SeqAt.shaped
  rw [h.ok]
  have := h.de
  simp only [Bool.true_and, decide_eq_true_eq]
  omega
theorem Sml.eqv {w k : Nat} {d : PyData} (h : Sml w k d) : PyData.eqv d d = true := SeqAt.eqv_refl d h.ok
theorem Sml.repr {w k : Nat} {d : PyData} (h : Sml w k d) (hr : pdIsR d = true) (hw : w ≤ 400000) (hk : k ≤ 40) : ReprOk d := by
  refine ⟨⟨hr, h.sw⟩, PyData.hasDict_of_canLay d h.ok, Nat.le_trans h.de hk, ?_⟩
  have h1 := PyData.shown_le 30 (by decide) d h.sh
  have h2 := h.we
  rw [sizeLine_eq]
  omega
end Ty

/-! K56T -/
namespace K56
open PySem PySem.Spec L2 Ty
/-! ### how many sets there are -/
def mask (x : List Int) : Nat := tbl 21 fun i => decide ((i : Int) ∈ x)
theorem mask_mem {x : List Int} {n : Int} (h : 1 ≤ n ∧ n ≤ 20) : n ∈ x ↔ (mask x).testBit n.toNat = true := by
  unfold mask
  rw [tbl_bit, show ((n.toNat : Nat) : Int) = n by omega, decide_eq_true (show n.toNat < 21 by omega), Bool.true_and, decide_eq_true_eq]
theorem mask_bound {D : List (List Int)} (hn : D.Nodup) (h : ∀ x ∈ D, Asc x ∧ ∀ n ∈ x, 1 ≤ n ∧ n ≤ 20) : D.length ≤ 2 ^ 21 := by
  have hnd : (D.map mask).Nodup := by
    refine List.pairwise_map.mpr (hn.imp_of_mem fun {a b} ha hb hne he => hne ?_)
    obtain ⟨a1, a2⟩ := h a ha
    obtain ⟨b1, b2⟩ := h b hb
    refine asc_ext a1 b1 fun n => ⟨fun hx => ?_, fun hx => ?_⟩
    · exact (mask_mem (a2 n hx)).mpr (by rw [← he]; exact (mask_mem (a2 n hx)).mp hx)
    · exact (mask_mem (b2 n hx)).mpr (by rw [he]; exact (mask_mem (b2 n hx)).mp hx)
  have := nodup_le (l' := List.range (2 ^ 21)) hnd fun m hm => by
    obtain ⟨x, _, rfl⟩ := List.mem_map.mp hm
    exact List.mem_range.mpr (tbl_lt _ _)
  rwa [List.length_map, List.length_range] at this
theorem asc_sortL {x : List Int} (h : x.Nodup) : Asc (sortL x) := by
  have hn : (sortL x).Nodup := (sortL_perm x).symm.nodup_iff.mp h
  exact (sortL_pw x).imp₂ (fun a b h1 h2 => by omega) hn
theorem sortL_uni {a b : List Int} (ha : Asc a) (hb : Asc b) : sortL (a ++ b.filter fun n => !decide (n ∈ a)) = uni a b := by
  have hnd : (a ++ b.filter fun n => !decide (n ∈ a)).Nodup := by
    refine List.nodup_append.mpr ⟨ha.nodup, hb.nodup.filter _, fun x hx y hy e => ?_⟩
    have := (List.mem_filter.mp hy).2
    rw [← e, decide_eq_true hx] at this
    cases this
  refine asc_ext (asc_sortL hnd) (uni_asc a b) fun n => ?_
  rw [(sortL_perm _).mem_iff, List.mem_append, List.mem_filter, mem_uni]
  constructor
  · rintro (h | ⟨h, _⟩)
    · exact .inl h
    · exact .inr h
  · rintro (h | h)
    · exact .inl h
    · by_cases hm : n ∈ a
      · exact .inl hm
      · exact .inr ⟨h, by rw [decide_eq_false hm]; rfl⟩
theorem without_ok {ks : List (List Int)} (h : ∀ x ∈ ks, x.length ≤ 1000) (hl : ks.length < 16777216) : m__law_without_more ks = some (mins ks) := by
  refine Tot.eq ?_
  unfold m__law_without_more
  refine tG (line_le (by omega)) (tFm (g := fun c : List Int => ((c.length : Int), c)) (fun c _ => rfl) (tG (line_le (by unfold sortP; rw [List.length_mergeSort, List.length_map]; omega)) (tFm (g := fun p : Int × List Int => p.2) (fun p _ => rfl) ?_)))
  rw [sortP_srt]
  have hlen : (srt ks).length = ks.length := (srt_perm ks).length_eq
  refine tForX (fun j K => K = ((srt ks).take j).foldl keep1 [] ∧ K.length ≤ j ∧ ∀ o ∈ K, o.length ≤ 1000) ⟨rfl, Nat.le_refl _, fun o h => nomatch h⟩ (fun j u K hu hK => ?_) (fun K hK => tR (by rw [hK.1, List.take_length]; rfl))
  obtain ⟨h1, h2, h3⟩ := hK
  have hj := (List.getElem?_eq_some_iff.mp hu).1
  have hus := h u (mem_srt.mp (List.mem_of_getElem? hu))
  refine tG (line_le (by omega)) (tE (a := K.filter fun o => sub o u) (fmO_filter' (p := fun o => sub o u) fun o ho => ?_) ?_)
  · refine gI (line_le (by have := h3 o ho; omega)) (bI (fmO_filter' (p := fun n => !decide (n ∈ u)) fun x hx => rfl) ?_)
    rw [filter_nil_sub]
  · have e : decide ((K.filter fun o => sub o u) = ([] : List (List Int))) = !K.any fun o => sub o u := by
      rw [Bool.eq_iff_iff, decide_eq_true_eq, List.filter_eq_nil_iff, Bool.not_eq_true', List.any_eq_false]
    rw [e]
    refine tE (a := keep1 K u) ?_ (tR ⟨?_, ?_, fun o ho => ?_⟩)
    · rw [mins_any]
      cases hc : K.any (fun o => sub o u) with
      | true => exact cF rfl rfl
      | false => exact cT rfl (gI (line_lt (by omega)) rfl)
    · rw [take_fold hu, ← h1]
    · unfold keep1; split
      · omega
      · rw [List.length_append, List.length_singleton]; omega
    · unfold keep1 at ho; split at ho
      · exact h3 o ho
      · rcases List.mem_append.mp ho with ho | ho
        · exact h3 o ho
        · rw [List.mem_singleton.mp ho]; exact hus
theorem atI_snoc {α : Type} (xs : List α) (u : α) : atI (xs ++ [u]) (-(1 : Int)) = some u := by
  have h : ixN (xs ++ [u]).length (-(1 : Int)) = some xs.length := by
    unfold ixN
    rw [if_neg (by decide), List.length_append, List.length_singleton]
    split
    · exact congrArg some (by omega)
    · omega
  unfold atI
  rw [h]
  show (xs ++ [u])[xs.length]? = some u
  simp
variable {ands : List (Int × Int)} {fa size : Int}
theorem merged_ok (w : Wf ands fa) (hn : fa + ands.length ≤ 20) (hs : size ≤ 6) : m__law_merged_cuts ands fa size = some (foldC size fa ands).2 := by
  have hfa := w.1
  refine Tot.eq ?_
  unfold m__law_merged_cuts
  refine tG ⟨by decide, by decide, by omega, by omega⟩ (tG (line_le (by rw [rangeL_len2]; omega)) (tFm (g := fun n : Int => [[n]]) (fun n _ => rfl) (tG (line_le (by rw [List.length_map, rangeL_len2, List.length_singleton]; omega)) ?_)))
  refine tForX (fun j s => s = (ands.take j).foldl (stepC size) (known0 fa, [])) rfl (fun j p s hp hP => ?_) (fun s hP => tR (by rw [hP, List.take_length]; rfl))
  have hj : j < ands.length := (List.getElem?_eq_some_iff.mp hp).1
  have st := fold_st w hs j (by omega)
  rw [← hP] at st
  obtain ⟨p1, p2⟩ := w.2 j p hp
  have hl := st.l1
  have hl2 := st.l2
  have hst : stepC size s p = (ands.take (j + 1)).foldl (stepC size) (known0 fa, []) := by rw [take_fold hp, ← hP]
  obtain ⟨known, found⟩ := s
  dsimp only at hl hl2 ⊢
  have okA := getK_ok st.ok (i := p.1 / 2) (by omega) (by dsimp only; omega)
  have okB := getK_ok st.ok (i := p.2 / 2) (by omega) (by dsimp only; omega)
  dsimp only at okA okB
  have hbd : ∀ D, Col (getK known (p.1 / 2)) (getK known (p.2 / 2)) D → D.length < 16777216 := fun D hD => by
    have := mask_bound hD.1 fun x hx => by
      obtain ⟨a, ha, b, hb, rfl⟩ := hD.2 x hx
      refine ⟨uni_asc a b, fun n hn => ?_⟩
      rcases mem_uni.mp hn with hn | hn
      · have := (okA a ha).2.2 n hn; omega
      · have := (okB b hb).2.2 n hn; omega
    omega
  refine tE (getK_at (by omega) (by omega)) ?_
  refine tForD (e := fun D => D.map e_) (s0 := ([] : List (List Int))) (fun D a => (getK known (p.2 / 2)).foldl (un1 size a) D) (Col (getK known (p.1 / 2)) (getK known (p.2 / 2))) ⟨List.nodup_nil, fun x hx => nomatch hx⟩ (fun a D ha hD => ?_) (fun hD => ?_)
  · refine ⟨bI (getK_at (by omega) (by omega)) ?_, fold_inv (I := Col (getK known (p.1 / 2)) (getK known (p.2 / 2))) hD fun D b hb' h => h.un1 ha hb'⟩
    refine eForD (z := Fl.next (((getK known (p.2 / 2)).foldl (un1 size a) D).map e_)) (kn := fun u => some (Fl.next u)) (e := fun D => D.map e_) (un1 size a) (Col (getK known (p.1 / 2)) (getK known (p.2 / 2))) hD (fun b D hb' hD => ⟨?_, hD.un1 ha hb'⟩) (fun _ => rfl)
    obtain ⟨a1, a2, _⟩ := okA a ha
    obtain ⟨b1, b2, _⟩ := okB b hb'
    have hfl : (b.filter fun n => !decide (n ∈ a)).length ≤ b.length := List.length_filter_le _ _
    refine gI (line_le (by omega)) (bI (fmO_filter' (p := fun n => !decide (n ∈ a)) fun x hx => rfl) (gI (line_le (by omega)) ?_))
    rw [letO_eq, sortL_uni a1 b1]
    by_cases hss : ((uni a b).length : Int) ≤ size
    · refine bI (cT (dT hss) (gI (line_lt (by rw [List.length_map]; exact hbd D hD)) rfl)) ?_
      rw [dput_e]
      unfold un1
      rw [if_pos hss]
    · refine bI (cF (dF hss) rfl) ?_
      unfold un1
      rw [if_neg hss]
  · have hu : ((getK known (p.1 / 2)).foldl (fun D a => (getK known (p.2 / 2)).foldl (un1 size a) D) []) = uns (getK known (p.1 / 2)) (getK known (p.2 / 2)) size := rfl
    rw [hu] at hD ⊢
    have hlu := hbd _ hD
    have hml : (mins (uns (getK known (p.1 / 2)) (getK known (p.2 / 2)) size)).length < 16777216 := Nat.lt_of_le_of_lt (mins_spec uns_asc (uns_nodup _ _ _)).2.2.1 hlu
    refine tE (keysT_e _) (tE (without_ok (fun x hx => ?_) hlu) ?_)
    · obtain ⟨a, ha, b, hb, rfl, hz⟩ := mem_uns.mp hx; omega
    generalize hcv : mins (uns (getK known (p.1 / 2)) (getK known (p.2 / 2)) size) = c at hml ⊢
    have hst2 : (known ++ [c ++ [[(known.length : Int)]]], found ++ [c]) = (ands.take (j + 1)).foldl (stepC size) (known0 fa, []) := by
      rw [← hst]; unfold stepC; dsimp only; rw [hcv]
    refine tG (line_lt (by omega)) (tE (atI_snoc found c) (tG (line_le (by show c.length + 1 ≤ _; omega)) (tG (line_lt (by omega)) (tR hst2))))
theorem same_ok {d : PyData} {w k : Nat} (h : Sml w k d) (hr : pdIsR d = true) (hw : w ≤ 400000) (hk : k ≤ 40) : m__law_same d d = some true := by
  have hs := h.shaped (by omega)
  have hp := h.repr hr hw hk
  unfold m__law_same
  refine gI hs (gI hs (bI (a := true) (cT h.eqv (gI hp (gI hp (congrArg some (dT rfl))))) rfl))
theorem sml_small {i : Int} (h : i.natAbs < 2 ^ 6) : Sml 7 0 (.int i) := by
  have h0 := Sml.int (i := i) (Nat.lt_of_lt_of_le h (by decide))
  have hl : i.natAbs.log2 < 6 := by
    by_cases h0 : i.natAbs = 0
    · rw [h0]; decide
    · exact (Nat.log2_lt h0).mpr h
  refine ⟨h0.ok, h0.sh, h0.sw, ?_, h0.de⟩
  rw [PyData.weight]
  split <;> omega
theorem sml_cuts {F : Kn} {m : Nat} (hm : F.length ≤ 12) (h : ∀ c ∈ F, c.length ≤ 500 ∧ ∀ x ∈ c, x.length ≤ 6 ∧ ∀ n ∈ x, n.natAbs < 2 ^ 6) : Sml 300000 3 ((DE.list (DE.list (DE.tup DE.int))).enc F) := by
  refine Sml.mono (w := 12 * (500 * (6 * (7 + 1) + 1) + 1)) (k := 3) ?_ (by decide) (Nat.le_refl _)
  refine Sml.listM (k := 2) (fun c hc => ?_) hm
  obtain ⟨h1, h2⟩ := h c hc
  refine Sml.listM (k := 1) (fun x hx => ?_) h1
  obtain ⟨h3, h4⟩ := h2 x hx
  exact Sml.tupM (k := 0) (fun n hn => sml_small (h4 n hn)) h3
theorem same_cuts {F : Kn} (hm : F.length ≤ 12) (h : ∀ c ∈ F, c.length ≤ 500 ∧ ∀ x ∈ c, x.length ≤ 6 ∧ ∀ n ∈ x, n.natAbs < 2 ^ 6) : m__law_same ((DE.list (DE.list (DE.tup DE.int))).enc F) ((DE.list (DE.list (DE.tup DE.int))).enc F) = some true := by
  refine same_ok (sml_cuts (m := 0) hm h) ?_ (by decide) (by decide)
  rfl
theorem found_small (w : Wf ands fa) (hn : fa + ands.length ≤ 60) (hs : size ≤ 6) : ∀ c ∈ (foldC size fa ands).2, ∀ x ∈ c, x.length ≤ 6 ∧ ∀ n ∈ x, n.natAbs < 2 ^ 6 := by
  have st := foldC_st w hs
  have hl1 := st.l1
  intro c hc x hx
  obtain ⟨j, hj⟩ := List.getElem?_of_mem hc
  have e := st.at_ j c hj
  have hjl := (List.getElem?_eq_some_iff.mp e).1
  obtain ⟨_, h2, h3⟩ := st.ok _ _ e x (List.mem_append_left _ hx)
  refine ⟨h2, fun n hn => ?_⟩
  have := h3 n hn
  omega
theorem greater_ok (w : Wf ands fa) (hn : fa + ands.length ≤ 20) (hne : 0 < ands.length) (ha : ands.length ≤ 12) (hs : 1 ≤ size ∧ size ≤ 6) {net : S_Net} (e1 : m_Net_first_and net = some fa) (e2 : net.ands = ands) : m__law_greater net ands fa size = some true := by
  have st := foldC_st w hs.2
  have hl2 := st.l2
  have hfa := w.1
  unfold m__law_greater
  refine bI (merged_ok w hn hs.2) (gI (line_le (by omega)) (bI (fmO_all (g := fun c : List (List Int) => (c.length : Int)) fun c _ => rfl) ?_))
  obtain ⟨m, hm⟩ : ∃ m, mxL ((foldC size fa ands).2.map fun c => (c.length : Int)) = some m := by
    cases hF : (foldC size fa ands).2 with
    | nil => rw [hF] at hl2; simp at hl2; omega
    | cons c F => exact ⟨_, rfl⟩
  obtain ⟨g1, g2⟩ := mxL_spec hm
  refine bI hm ?_
  rcases cuts_ok w (by omega) hs e1 e2 with ⟨hc, er⟩ | ⟨⟨c, hc, hbig⟩, er⟩
  · have hm5 : m ≤ 500 := by
      obtain ⟨c, hcm, rfl⟩ := List.mem_map.mp g1
      have := hc c hcm
      omega
    refine exI_ok er (bI (a := true) (cT (dT hm5) (bI (same_cuts (by omega) fun c hcm => ⟨hc c hcm, found_small w (by omega) hs.2 c hcm⟩) ?_)) rfl)
    rw [e2, dT rfl]; rfl
  · have hm5 : (500 : Int) < m := by
      have := g2 _ (List.mem_map.mpr ⟨c, hc, rfl⟩)
      omega
    exact exI_ex er (cT (dT rfl) (congrArg some (dT hm5)))
end K56

/-! K56V -/
namespace K56
open PySem PySem.Spec L2 Ty
variable {ands : List (Int × Int)} {fa size : Int}
abbrev off (ands : List (Int × Int)) (fa : Int) (S : List Int) (x : Int) : Bool := cutF ands fa S x
/-- the places of the net -/
def In_ (ands : List (Int × Int)) (fa x : Int) : Prop := 0 ≤ x ∧ x < fa + ands.length
theorem pair_at (w : Wf ands fa) {x : Int} (h : In_ ands fa x) (hx : fa ≤ x) : ∃ p, atI ands (x - fa) = some p ∧ (0 ≤ p.1 / 2 ∧ p.1 / 2 < x) ∧ (0 ≤ p.2 / 2 ∧ p.2 / 2 < x) := by
  have h1 := h.2
  obtain ⟨p, hp⟩ := atI_ex (xs := ands) (i := x - fa) (by omega) (by omega)
  obtain ⟨⟨_, a, b⟩, _, c, d⟩ := w.at hx hp
  exact ⟨p, hp, ⟨a, b⟩, c, d⟩
theorem off_mono (w : Wf ands fa) {S T : List Int} (h : sub T S = true) : ∀ (n : Nat) (x : Int), x.toNat < n → In_ ands fa x → off ands fa T x = true → off ands fa S x = true
  | 0, _, hn, _, _ => absurd hn (Nat.not_lt_zero _)
  | n + 1, x, hn, hx, ht => by
    by_cases h0 : x = 0
    · rw [h0]; exact cutF_zero
    by_cases hS : x ∈ S
    · exact cutF_leaf hS
    have hT : x ∉ T := fun z => hS (sub_iff.mp h x z)
    by_cases hl : x < fa
    · rw [show off ands fa T x = false from cutF_low hT hl h0] at ht
      cases ht
    · obtain ⟨p, hp, ⟨a, b⟩, c, d⟩ := pair_at w hx (by omega)
      have h1 := hx.1; have h2 := hx.2
      rw [show off ands fa T x = _ from cutF_and w hT (by omega) hp, Bool.and_eq_true] at ht
      show cutF ands fa S x = true
      rw [cutF_and w hS (by omega) hp, Bool.and_eq_true]
      exact ⟨off_mono w h n _ (by omega) ⟨a, by omega⟩ ht.1, off_mono w h n _ (by omega) ⟨c, by omega⟩ ht.2⟩
theorem off_up (w : Wf ands fa) {S T : List Int} {x : Int} (hx : In_ ands fa x) (h : sub T S = true) (ht : off ands fa T x = true) : off ands fa S x = true := off_mono w h _ x (Nat.lt_succ_self _) hx ht
/-- the least sets that cut off -/
structure Mc (ands : List (Int × Int)) (fa x : Int) (u : List Int) : Prop where
  asc : Asc u
  off_ : off ands fa u x = true
  min : ∀ T, Asc T → sub T u = true → off ands fa T x = true → T = u
theorem Mc.ex : ∀ (n : Nat) {x : Int} {S : List Int}, S.length < n → Asc S → off ands fa S x = true → ∃ T, sub T S = true ∧ Mc ands fa x T
  | 0, _, _, h, _, _ => absurd h (Nat.not_lt_zero _)
  | n + 1, x, S, h, ha, ho => by
    by_cases hm : ∃ T, Asc T ∧ sub T S = true ∧ off ands fa T x = true ∧ T ≠ S
    · obtain ⟨T, h1, h2, h3, h4⟩ := hm
      have hlt : T.length < S.length := Nat.lt_of_not_le fun hle => h4 (sub_eq h1 ha h2 hle)
      obtain ⟨U, g1, g2⟩ := Mc.ex n (by omega) h1 h3
      exact ⟨U, sub_trans g1 h2, g2⟩
    · exact ⟨S, sub_refl S, ha, ho, fun T h1 h2 h3 => Decidable.byContradiction fun h4 => hm ⟨T, h1, h2, h3, h4⟩⟩
theorem uni_sub_l (a b : List Int) : sub a (uni a b) = true := sub_iff.mpr fun n hn => mem_uni.mpr (.inl hn)
theorem uni_sub_r (a b : List Int) : sub b (uni a b) = true := sub_iff.mpr fun n hn => mem_uni.mpr (.inr hn)
theorem uni_sub {a b u : List Int} (h : sub a u = true) (g : sub b u = true) : sub (uni a b) u = true := sub_iff.mpr fun n hn => (mem_uni.mp hn).elim (sub_iff.mp h n) (sub_iff.mp g n)
/-- an and's least sets: from those of its two nodes -/
theorem mc_and (w : Wf ands fa) {x : Int} {p : Int × Int} (hx : In_ ands fa x) (hfx : fa ≤ x) (hp : atI ands (x - fa) = some p) {A B : List (List Int)} (hs : size ≤ 6)
    (hA1 : ∀ a ∈ A, off ands fa a (p.1 / 2) = true) (hA : ∀ u, Mc ands fa (p.1 / 2) u → (u.length : Int) ≤ size → u ∈ A) (hB1 : ∀ b ∈ B, off ands fa b (p.2 / 2) = true) (hB : ∀ u, Mc ands fa (p.2 / 2) u → (u.length : Int) ≤ size → u ∈ B) (hAx : ∀ a ∈ A, x ∉ a) (hBx : ∀ b ∈ B, x ∉ b) (u : List Int) :
    u ∈ mins (uns A B size) ↔ (Mc ands fa x u ∧ x ∉ u) ∧ (u.length : Int) ≤ size := by
  obtain ⟨⟨_, a2, a3⟩, _, b2, b3⟩ := w.at hfx hp
  have inl : In_ ands fa (p.1 / 2) := ⟨a2, by have := hx.2; omega⟩
  have inr : In_ ands fa (p.2 / 2) := ⟨b2, by have := hx.2; omega⟩
  have both : ∀ {T : List Int}, x ∉ T → (off ands fa T x = true ↔ off ands fa T (p.1 / 2) = true ∧ off ands fa T (p.2 / 2) = true) := fun {T} hT => by
    rw [show off ands fa T x = _ from cutF_and w hT hfx hp, Bool.and_eq_true]
  have parts : ∀ {T : List Int}, Asc T → x ∉ T → off ands fa T x = true → (T.length : Int) ≤ size → ∃ o ∈ uns A B size, sub o T = true := fun {T} hT hxT ho hl => by
    obtain ⟨o1, o2⟩ := (both hxT).mp ho
    obtain ⟨a, ha, ma⟩ := Mc.ex _ (Nat.lt_succ_self _) hT o1
    obtain ⟨b, hb, mb⟩ := Mc.ex _ (Nat.lt_succ_self _) hT o2
    have la := sub_len ma.asc ha
    have lb := sub_len mb.asc hb
    have hsu := uni_sub ha hb
    have lu := sub_len (uni_asc a b) hsu
    exact ⟨uni a b, mem_uns.mpr ⟨a, hA a ma (by omega), b, hB b mb (by omega), rfl, by omega⟩, hsu⟩
  have uok : ∀ o ∈ uns A B size, x ∉ o ∧ off ands fa o x = true ∧ Asc o ∧ (o.length : Int) ≤ size := fun o ho => by
    obtain ⟨a, ha, b, hb, rfl, hl⟩ := mem_uns.mp ho
    have hxo : x ∉ uni a b := fun z => (mem_uni.mp z).elim (hAx a ha) (hBx b hb)
    exact ⟨hxo, (both hxo).mpr ⟨off_up w inl (uni_sub_l a b) (hA1 a ha), off_up w inr (uni_sub_r a b) (hB1 b hb)⟩, uni_asc a b, hl⟩
  rw [(mins_spec uns_asc (uns_nodup A B size)).2.2.2 u]
  constructor
  · rintro ⟨hu, hmin⟩
    obtain ⟨hxu, hou, hau, hlu⟩ := uok u hu
    refine ⟨⟨⟨hau, hou, fun T hT hsT hoT => ?_⟩, hxu⟩, hlu⟩
    have hxT : x ∉ T := fun z => hxu (sub_iff.mp hsT x z)
    have lT := sub_len hT hsT
    obtain ⟨o, ho, hso⟩ := parts hT hxT hoT (by omega)
    have e := hmin o ho (sub_trans hso hsT)
    exact sub_eq hT hau hsT (by rw [← e]; exact sub_len (uok o ho).2.2.1 hso)
  · rintro ⟨⟨m, hxu⟩, hlu⟩
    have least : ∀ o ∈ uns A B size, sub o u = true → o = u := fun o ho hso => m.min o (uok o ho).2.2.1 hso (uok o ho).2.1
    obtain ⟨o, ho, hso⟩ := parts m.asc hxu m.off_ hlu
    have e := least o ho hso
    exact ⟨e ▸ ho, least⟩
theorem mc_zero {u : List Int} : Mc ands fa 0 u ↔ u = [] := by
  constructor
  · intro m
    exact (m.min [] List.Pairwise.nil rfl cutF_zero).symm
  · rintro rfl
    exact ⟨List.Pairwise.nil, cutF_zero, fun T hT hs _ => by
      have := sub_len hT hs
      exact List.length_eq_zero_iff.mp (by simpa using this)⟩
theorem mc_self {x : Int} (h0 : x ≠ 0) (hl : ∀ T, x ∉ T → sub T [x] = true → off ands fa T x = false) : Mc ands fa x [x] := ⟨List.pairwise_singleton _ _, cutF_leaf (by simp), fun T hT hs ho => by
  by_cases hx : x ∈ T
  · exact sub_eq hT (List.pairwise_singleton _ _) hs (by have := List.length_pos_of_mem hx; simp; omega)
  · rw [hl T hx hs] at ho; cases ho⟩
theorem mc_mem {x : Int} {u : List Int} (m : Mc ands fa x u) (h : x ∈ u) : u = [x] :=
  (m.min [x] (List.pairwise_singleton _ _) (sub_iff.mpr fun n hn => by rw [List.mem_singleton.mp hn]; exact h) (cutF_leaf (by simp))).symm
theorem mc_leaf {x : Int} {u : List Int} (h0 : x ≠ 0) (hl : x < fa) : Mc ands fa x u ↔ u = [x] := by
  constructor
  · intro m
    by_cases hx : x ∈ u
    · exact mc_mem m hx
    · have := m.off_
      rw [show off ands fa u x = false from cutF_low hx hl h0] at this
      cases this
  · rintro rfl
    exact mc_self h0 fun T hx _ => cutF_low hx hl h0
/-- what is known of a place -/
structure KM (ands : List (Int × Int)) (fa size : Int) (x : Int) (Z : List (List Int)) : Prop where
  off_ : ∀ a ∈ Z, off ands fa a x = true
  all : ∀ u, Mc ands fa x u → (u.length : Int) ≤ size → u ∈ Z
/-- what is found of an and -/
def FM (ands : List (Int × Int)) (fa size : Int) (x : Int) (c : List (List Int)) : Prop := ∀ u, u ∈ c ↔ (Mc ands fa x u ∧ x ∉ u) ∧ (u.length : Int) ≤ size
theorem known_spec (w : Wf ands fa) (hs : 1 ≤ size ∧ size ≤ 6) : ∀ k, k ≤ ands.length →
    (∀ x : Int, 0 ≤ x → x < fa + k → KM ands fa size x (getK ((ands.take k).foldl (stepC size) (known0 fa, [])).1 x)) ∧
    ∀ (j : Nat) c, ((ands.take k).foldl (stepC size) (known0 fa, [])).2[j]? = some c → FM ands fa size (fa + j) c ∧ c.Nodup ∧ c.Pairwise fun a b => leC a b = true
  | 0, _ => by
    refine ⟨fun x h0 h1 => ?_, fun j c hc => by simp at hc⟩
    have hl := known0_len w.1
    show KM ands fa size x (getK (known0 fa) x)
    by_cases hx : x = 0
    · subst hx
      have e : getK (known0 fa) 0 = [[]] := rfl
      rw [e]
      exact ⟨fun a _ => cutF_zero, fun u m _ => by rw [mc_zero.mp m]; simp⟩
    · have e : getK (known0 fa) x = [[x]] := by
        unfold getK known0
        rw [List.getElem?_append_right (by simp; omega), List.length_singleton, List.getElem?_map]
        have : (rangeL 1 fa)[x.toNat - 1]? = some x := by
          unfold rangeL
          rw [List.getElem?_map, List.getElem?_range (by omega)]
          show some ((1 : Int) + ((x.toNat - 1 : Nat) : Int)) = some x
          exact congrArg some (by omega)
        rw [this]; rfl
      rw [e]
      exact ⟨fun a ha => by rw [List.mem_singleton.mp ha]; exact cutF_leaf (by simp), fun u m _ => by rw [(mc_leaf hx (by omega)).mp m]; simp⟩
  | k + 1, hk => by
    obtain ⟨ih1, ih2⟩ := known_spec w hs k (by omega)
    have hx : ands[k]? = some ands[k] := List.getElem?_eq_getElem (by omega)
    have st := fold_st w hs.2 k (by omega)
    rw [take_fold hx]
    generalize hsd : (ands.take k).foldl (stepC size) (known0 fa, []) = s at *
    generalize ands[k] = p at *
    obtain ⟨p1, p2⟩ := w.2 k p hx
    have hl := st.l1
    have hl2 := st.l2
    have hp : atI ands (fa + k - fa) = some p := by rw [atI_pos (by omega), show (fa + (k : Int) - fa).toNat = k by omega]; exact hx
    have k1 := ih1 (p.1 / 2) (by omega) (by omega)
    have k2 := ih1 (p.2 / 2) (by omega) (by omega)
    have n1 : ∀ a ∈ getK s.1 (p.1 / 2), fa + k ∉ a := fun a ha z => by
      have := (getK_ok st.ok (by omega) (by omega) a ha).2.2 _ z; omega
    have n2 : ∀ a ∈ getK s.1 (p.2 / 2), fa + k ∉ a := fun a ha z => by
      have := (getK_ok st.ok (by omega) (by omega) a ha).2.2 _ z; omega
    have hinx : In_ ands fa (fa + k) := ⟨by have := w.1; omega, by omega⟩
    have hnew : FM ands fa size (fa + k) (mins (uns (getK s.1 (p.1 / 2)) (getK s.1 (p.2 / 2)) size)) := fun u => mc_and w hinx (by omega) hp hs.2 k1.off_ k1.all k2.off_ k2.all n1 n2 u
    have hms := mins_spec (uns_asc (A := getK s.1 (p.1 / 2)) (B := getK s.1 (p.2 / 2)) (size := size)) (uns_nodup _ _ size)
    unfold stepC
    refine ⟨fun x h0 h1 => ?_, fun j c hc => ?_⟩
    · dsimp only
      by_cases hlt : x < fa + k
      · have e : getK (s.1 ++ [mins (uns (getK s.1 (p.1 / 2)) (getK s.1 (p.2 / 2)) size) ++ [[(s.1.length : Int)]]]) x = getK s.1 x := by
          unfold getK
          rw [List.getElem?_append_left (by omega)]
        rw [e]
        exact ih1 x h0 hlt
      · have ex : x = fa + k := by omega
        subst ex
        have e : getK (s.1 ++ [mins (uns (getK s.1 (p.1 / 2)) (getK s.1 (p.2 / 2)) size) ++ [[(s.1.length : Int)]]]) (fa + k) = mins (uns (getK s.1 (p.1 / 2)) (getK s.1 (p.2 / 2)) size) ++ [[fa + (k : Int)]] := by
          unfold getK
          rw [List.getElem?_append_right (by omega), show (fa + (k : Int)).toNat - s.1.length = 0 by omega, hl]; rfl
        rw [e]
        refine ⟨fun a ha => ?_, fun u m hu => ?_⟩
        · rcases List.mem_append.mp ha with ha | ha
          · exact ((hnew a).mp ha).1.1.off_
          · rw [List.mem_singleton.mp ha]; exact cutF_leaf (by simp)
        · by_cases hm : fa + (k : Int) ∈ u
          · rw [mc_mem m hm]; simp
          · exact List.mem_append_left _ ((hnew u).mpr ⟨⟨m, hm⟩, hu⟩)
    · dsimp only at hc
      rcases snoc_at hc with ⟨_, hc⟩ | ⟨rfl, rfl⟩
      · exact ih2 j c hc
      · rw [hl2]
        exact ⟨hnew, hms.1, hms.2.1⟩
theorem found_spec (w : Wf ands fa) (hs : 1 ≤ size ∧ size ≤ 6) {j : Nat} {c : List (List Int)} (h : (foldC size fa ands).2[j]? = some c) : FM ands fa size (fa + j) c ∧ c.Nodup ∧ c.Pairwise fun a b => leC a b = true := by
  have := (known_spec w hs ands.length (Nat.le_refl _)).2 j c
  rw [List.take_length] at this
  exact this h
end K56

/-! K56X -/
namespace K56
open PySem PySem.Spec L2 Ty
variable {ands : List (Int × Int)} {fa size : Int}
theorem fmO_fm {α β : Type} {f : α → Option (Option β)} {p : α → Bool} {g : α → β} : ∀ {xs : List α}, (∀ x ∈ xs, f x = bif p x then some (some (g x)) else some none) → fmO xs f = some ((xs.filter p).map g)
  | [], _ => rfl
  | x :: xs, h => by
    unfold fmO
    rw [h x List.mem_cons_self, fmO_fm fun y hy => h y (List.mem_cons_of_mem _ hy), List.filter_cons]
    cases p x <;> rfl
/-! ### all sets -/
theorem asc_last {u : List Int} {z : Int} (h : Asc u) (hz : z ∈ u) (hle : ∀ n ∈ u, n ≤ z) : ∃ v, u = v ++ [z] := by
  rcases List.eq_nil_or_concat u with rfl | ⟨v, y, rfl⟩
  · cases hz
  · refine ⟨v, ?_⟩
    rw [List.concat_eq_append] at *
    have hy := hle y (by simp)
    rcases List.mem_append.mp hz with hm | hm
    · have := (List.pairwise_append.mp h).2.2 z hm y (by simp)
      omega
    · rw [List.mem_singleton.mp hm]
def AllS (limit size : Int) (r : List (List Int)) : Prop := r.Nodup ∧ r.length ≤ 2 ^ (limit - 1).toNat ∧ ∀ u, u ∈ r ↔ Asc u ∧ (∀ n ∈ u, 1 ≤ n ∧ n < limit) ∧ (u.length : Int) ≤ size
theorem subsets_ok {limit : Int} (hl : 1 ≤ limit ∧ limit ≤ 12) (hs : 1 ≤ size ∧ size ≤ 6) : Tot (m__law_subsets limit size) (AllS limit size) := by
  unfold m__law_subsets
  refine tLe fun s0 hs0 => tG ⟨by decide, by decide, by omega, by omega⟩ (tForR (fun x r => AllS x size r) hl.1 ?_ ?_ fun r h => tR h)
  · subst hs0
    refine ⟨by simp, by simp, fun u => ?_⟩
    rw [List.mem_singleton]
    constructor
    · rintro rfl
      exact ⟨List.Pairwise.nil, fun n hn => (nomatch hn), by simp; omega⟩
    · rintro ⟨_, h2, _⟩
      cases u with
      | nil => rfl
      | cons a u => have := h2 a (List.mem_cons_self ..); omega
  · rintro x r hx1 hx2 ⟨h1, h2, h3⟩
    have hp : 2 ^ (x - 1).toNat ≤ 2 ^ 11 := Nat.pow_le_pow_right (by decide) (by omega)
    refine tG (line_le (by omega)) (tE (a := (r.filter fun u => decide ((u.length : Int) < size)).map fun u => u ++ [x]) (fmO_fm (p := fun u => decide ((u.length : Int) < size)) (g := fun u => u ++ [x]) fun u hu => ?_) ?_)
    · cases hc : decide ((u.length : Int) < size) with
      | true => have := of_decide_eq_true hc; exact gI (line_le (by rw [List.length_singleton]; omega)) rfl
      | false => rfl
    · have hfl : ((r.filter fun u => decide ((u.length : Int) < size)).map fun u => u ++ [x]).length ≤ r.length := by rw [List.length_map]; exact List.length_filter_le _ _
      refine tG (line_le (by omega)) (tLe fun r2 hr2 => tR ?_)
      subst hr2
      have hxr : ∀ u ∈ r, x ∉ u := fun u hu hm => by have := ((h3 u).mp hu).2.1 x hm; omega
      refine ⟨List.nodup_append.mpr ⟨h1, ?_, fun a ha b hb e => ?_⟩, ?_, fun u => ?_⟩
      · exact List.pairwise_map.mpr ((h1.filter _).imp fun {a b} hne e => hne (List.append_cancel_right e))
      · obtain ⟨v, _, rfl⟩ := List.mem_map.mp hb
        exact hxr a ha (by rw [e]; simp)
      · rw [List.length_append, show (x + 1 - 1).toNat = (x - 1).toNat + 1 by omega, Nat.pow_succ]
        omega
      · rw [List.mem_append, h3 u, List.mem_map]
        constructor
        · rintro (⟨g1, g2, g3⟩ | ⟨v, hv, rfl⟩)
          · exact ⟨g1, fun n hn => by have := g2 n hn; omega, g3⟩
          · obtain ⟨hv1, hv2⟩ := List.mem_filter.mp hv
            obtain ⟨g1, g2, g3⟩ := (h3 v).mp hv1
            have := of_decide_eq_true hv2
            refine ⟨List.pairwise_append.mpr ⟨g1, List.pairwise_singleton _ _, fun a ha b hb => ?_⟩, fun n hn => ?_, by rw [List.length_append, List.length_singleton]; omega⟩
            · rw [List.mem_singleton.mp hb]; have := g2 a ha; omega
            · rcases List.mem_append.mp hn with hn | hn
              · have := g2 n hn; omega
              · rw [List.mem_singleton.mp hn]; omega
        · rintro ⟨g1, g2, g3⟩
          by_cases hm : x ∈ u
          · obtain ⟨v, rfl⟩ := asc_last g1 hm fun n hn => by have := g2 n hn; omega
            rw [List.length_append, List.length_singleton] at g3
            obtain ⟨a1, _, a3⟩ := List.pairwise_append.mp g1
            refine .inr ⟨v, List.mem_filter.mpr ⟨(h3 v).mpr ⟨a1, fun n hn => ?_, by omega⟩, decide_eq_true (by omega)⟩, rfl⟩
            have := g2 n (by simp [hn])
            have := a3 n hn x (by simp)
            omega
          · exact .inl ⟨g1, fun n hn => by have := g2 n hn; have : n ≠ x := fun e => hm (e ▸ hn); omega, g3⟩
/-! ### whether a set is a cut -/
def icut (ands : List (Int × Int)) (fa x : Int) (u : List Int) : Bool := !(decide (x ∈ u) || !off ands fa u x) && u.all fun l => !off ands fa (u.filter fun n => !decide (n = l)) x
theorem is_cut_ok (w : Wf ands fa) (hn : fa + ands.length ≤ 100) {x : Int} (hx : In_ ands fa x) {u : List Int} (hu : u.length ≤ 1000) : m__law_is_cut ands fa x u = some (icut ands fa x u) := by
  refine Tot.eq ?_
  unfold m__law_is_cut
  refine tE (a := decide (x ∈ u) || !off ands fa u x) ?_ (tC (fun hz => tR ?_) (fun hz => ?_))
  · by_cases hm : x ∈ u
    · exact cT (dT hm) (by rw [dT hm]; rfl)
    · obtain ⟨c, hc, _, h2⟩ := cut_ok (L := u) w hn
      exact cF (dF hm) (bI hc (bI (h2 x hx.1 hx.2) (by rw [dF hm]; rfl)))
  · unfold icut; rw [hz]; rfl
  · refine tForX (fun j _ => (u.take j).all (fun l => !off ands fa (u.filter fun n => !decide (n = l)) x) = true) (by simp) (fun j l _ hl hP => ?_) (fun _ hP => tR ?_)
    · have hmem := List.mem_of_getElem? hl
      obtain ⟨c, hc, _, h2⟩ := cut_ok (L := u.filter fun n => !decide (n = l)) w hn
      refine tG (line_le (by omega)) (tE (fmO_filter' (p := fun n => !decide (n = l)) fun n hn => rfl) (tE hc (tE (h2 x hx.1 hx.2) (tC (fun hy => tR (tR ?_)) (fun hy => tR ?_)))))
      · unfold icut
        rw [hz]
        have : u.all (fun l => !off ands fa (u.filter fun n => !decide (n = l)) x) = false := by
          rw [List.all_eq_false]
          exact ⟨l, hmem, by rw [show off ands fa (u.filter fun n => !decide (n = l)) x = true from hy]; decide⟩
        rw [this]; rfl
      · show (u.take (j + 1)).all _ = true
        rw [List.take_add_one, hl, List.all_append, hP, Bool.true_and]
        show List.all [l] _ = true
        simp only [List.all_cons, List.all_nil, Bool.and_true]
        rw [show off ands fa (u.filter fun n => !decide (n = l)) x = false from hy]; rfl
    · unfold icut
      rw [hz]
      rw [List.take_length] at hP
      rw [hP]; rfl
theorem icut_iff (w : Wf ands fa) {x : Int} (hx : In_ ands fa x) {u : List Int} (hu : Asc u) : icut ands fa x u = true ↔ Mc ands fa x u ∧ x ∉ u := by
  unfold icut
  rw [Bool.and_eq_true, Bool.not_eq_true', Bool.or_eq_false_iff, decide_eq_false_iff_not, Bool.not_eq_false', List.all_eq_true]
  constructor
  · rintro ⟨⟨h1, h2⟩, h3⟩
    refine ⟨⟨hu, h2, fun T hT hsT hoT => Decidable.byContradiction fun hne => ?_⟩, h1⟩
    obtain ⟨l, hl, hlT⟩ : ∃ l ∈ u, l ∉ T := by
      refine Decidable.byContradiction fun hno => hne ?_
      refine asc_ext hT hu fun n => ⟨sub_iff.mp hsT n, fun hn => Decidable.byContradiction fun hnT => hno ⟨n, hn, hnT⟩⟩
    have h4 := h3 l hl
    have h5 : off ands fa (u.filter fun n => !decide (n = l)) x = true := off_up w hx (sub_iff.mpr fun n hn => List.mem_filter.mpr ⟨sub_iff.mp hsT n hn, by
      have : n ≠ l := fun e => hlT (e ▸ hn)
      rw [decide_eq_false this]; rfl⟩) hoT
    rw [h5] at h4; cases h4
  · rintro ⟨m, h1⟩
    refine ⟨⟨h1, m.off_⟩, fun l hl => ?_⟩
    cases ho : off ands fa (u.filter fun n => !decide (n = l)) x with
    | false => rfl
    | true =>
      have e := m.min _ (hu.filter _) (sub_iff.mpr fun n hn => (List.mem_filter.mp hn).1) ho
      rw [← e] at hl
      have := (List.mem_filter.mp hl).2
      rw [decide_eq_true rfl] at this; cases this
/-! ### the beginning of a net -/
theorem wf_take (w : Wf ands fa) (k : Nat) : Wf (ands.take k) fa := ⟨w.1, fun j p h => w.2 j p (by
  rw [List.getElem?_take] at h
  split at h
  · exact h
  · cases h)⟩
theorem off_take (w : Wf ands fa) {k : Nat} (hk : k ≤ ands.length) {S : List Int} : ∀ (n : Nat) (x : Int), x.toNat < n → 0 ≤ x → x < fa + k → off (ands.take k) fa S x = off ands fa S x
  | 0, _, hn, _, _ => absurd hn (Nat.not_lt_zero _)
  | n + 1, x, hn, h0, h1 => by
    by_cases hx : x = 0
    · rw [hx]; exact cutF_zero.trans cutF_zero.symm
    by_cases hS : x ∈ S
    · exact (cutF_leaf hS).trans (cutF_leaf hS).symm
    by_cases hl : x < fa
    · exact (cutF_low hS hl hx).trans (cutF_low hS hl hx).symm
    · have hin : In_ ands fa x := ⟨h0, by omega⟩
      obtain ⟨p, hp, ⟨a, b⟩, c, d⟩ := pair_at w hin (by omega)
      have hp2 : atI (ands.take k) (x - fa) = some p := by
        rw [atI_pos (by omega)] at hp ⊢
        rw [List.getElem?_take, if_pos (by omega)]
        exact hp
      show cutF (ands.take k) fa S x = cutF ands fa S x
      rw [cutF_and w hS (by omega) hp, cutF_and (wf_take w k) hS (by omega) hp2]
      rw [show cutF (ands.take k) fa S (p.1 / 2) = cutF ands fa S (p.1 / 2) from off_take w hk n _ (by omega) a (by omega),
        show cutF (ands.take k) fa S (p.2 / 2) = cutF ands fa S (p.2 / 2) from off_take w hk n _ (by omega) c (by omega)]
theorem icut_take (w : Wf ands fa) {k : Nat} (hk : k ≤ ands.length) {x : Int} (h0 : 0 ≤ x) (h1 : x < fa + k) (u : List Int) : icut (ands.take k) fa x u = icut ands fa x u := by
  unfold icut
  rw [off_take w hk _ x (Nat.lt_succ_self _) h0 h1]
  congr 2
  funext l
  rw [off_take w hk _ x (Nat.lt_succ_self _) h0 h1]
/-! ### what is due -/
theorem due_ok (w : Wf ands fa) (hn : fa + ands.length ≤ 11) (hs : 1 ≤ size ∧ size ≤ 6) {j : Nat} {c : List (List Int)} (hc : (foldC size fa ands).2[j]? = some c) {r : List (List Int)} (hr : AllS (fa + j) size r) : (srt r).filter (icut ands fa (fa + j)) = c := by
  have hfa := w.1
  have st := foldC_st w hs.2
  have hj : j < ands.length := by rw [← st.l2]; exact (List.getElem?_eq_some_iff.mp hc).1
  obtain ⟨hf, hcn, hcp⟩ := found_spec w hs hc
  have hin : In_ ands fa (fa + j) := ⟨by omega, by omega⟩
  have hrn : (srt r).Nodup := (srt_perm r).symm.nodup_iff.mp hr.1
  refine rise_eq (hrn.filter _) hcn (fun u => ?_) ((srt_pw r).filter _) hcp
  rw [List.mem_filter, mem_srt, hr.2.2 u, hf u]
  constructor
  · rintro ⟨⟨h1, h2, h3⟩, h4⟩
    exact ⟨(icut_iff w hin h1).mp h4, h3⟩
  · rintro ⟨⟨m, h1⟩, h2⟩
    refine ⟨⟨m.asc, fun n hnu => ?_, h2⟩, (icut_iff w hin m.asc).mpr ⟨m, h1⟩⟩
    have huc : u ∈ c := (hf u).mpr ⟨⟨m, h1⟩, h2⟩
    have e := st.at_ j c hc
    have h5 := (st.ok _ _ e u (List.mem_append_left _ huc)).2.2 n hnu
    have : n ≠ fa + j := fun z => h1 (z ▸ hnu)
    omega
def mask8 (u : List Int) : Nat := tbl 8 fun i => decide (((i + 1 : Nat) : Int) ∈ u)
theorem mask8_mem {u : List Int} {n : Int} (h : 1 ≤ n ∧ n ≤ 8) : n ∈ u ↔ (mask8 u).testBit (n.toNat - 1) = true := by
  unfold mask8
  rw [tbl_bit, show ((n.toNat - 1 + 1 : Nat) : Int) = n by omega, decide_eq_true (show n.toNat - 1 < 8 by omega), Bool.true_and, decide_eq_true_eq]
theorem few_cuts (w : Wf ands fa) (hn : fa + ands.length ≤ 11) (hs : 1 ≤ size ∧ size ≤ 6) : ∀ c ∈ (foldC size fa ands).2, c.length ≤ 500 := by
  intro c hcm
  obtain ⟨j, hc⟩ := List.getElem?_of_mem hcm
  have hfa := w.1
  have st := foldC_st w hs.2
  have hj : j < ands.length := by rw [← st.l2]; exact (List.getElem?_eq_some_iff.mp hc).1
  obtain ⟨hf, hcn, hcp⟩ := found_spec w hs hc
  have e := st.at_ j c hc
  have hel : ∀ u ∈ c, ∀ n ∈ u, 1 ≤ n ∧ n ≤ 9 := fun u hu n hnu => by
    have h5 := (st.ok _ _ e u (List.mem_append_left _ hu)).2.2 n hnu
    have : n ≠ fa + j := fun z => ((hf u).mp hu).1.2 (z ▸ hnu)
    omega
  have hnd : (c.map mask8).Nodup := by
    refine List.pairwise_map.mpr (hcn.imp_of_mem fun {a b} ha hb hne he => hne ?_)
    have ma := ((hf a).mp ha).1.1
    have mb := ((hf b).mp hb).1.1
    have low : ∀ n, 1 ≤ n ∧ n ≤ 8 → (n ∈ a ↔ n ∈ b) := fun n h => by rw [mask8_mem h, mask8_mem h, he]
    by_cases h9 : (9 : Int) ∈ a
    · refine (ma.min b mb.asc (sub_iff.mpr fun n hnb => ?_) mb.off_).symm
      have := hel b hb n hnb
      by_cases e9 : n = 9
      · rw [e9]; exact h9
      · exact (low n (by omega)).mpr hnb
    · refine mb.min a ma.asc (sub_iff.mpr fun n hna => ?_) ma.off_
      have := hel a ha n hna
      have : n ≠ 9 := fun z => h9 (z ▸ hna)
      exact (low n (by omega)).mp hna
  have := nodup_le (l' := List.range (2 ^ 8)) hnd fun m hm => by
    obtain ⟨x, _, rfl⟩ := List.mem_map.mp hm
    exact List.mem_range.mpr (tbl_lt _ _)
  rw [List.length_map, List.length_range] at this
  omega
end K56

/-! K56Y -/
namespace K56
open PySem PySem.Spec L2 Ty
variable {ands : List (Int × Int)} {fa size : Int}
/-! ### least sets, without a bound -/
theorem off_and (w : Wf ands fa) {x : Int} {p : Int × Int} (hfx : fa ≤ x) (hp : atI ands (x - fa) = some p) {T : List Int} (hT : x ∉ T) : off ands fa T x = true ↔ off ands fa T (p.1 / 2) = true ∧ off ands fa T (p.2 / 2) = true := by
  rw [show off ands fa T x = _ from cutF_and w hT hfx hp, Bool.and_eq_true]
theorem mc_kids (w : Wf ands fa) {x : Int} {p : Int × Int} (hfx : fa ≤ x) (hp : atI ands (x - fa) = some p) {T : List Int} (hT : x ∉ T) (ha : Asc T) (ho : off ands fa T x = true) : (∃ a, sub a T = true ∧ Mc ands fa (p.1 / 2) a) ∧ ∃ b, sub b T = true ∧ Mc ands fa (p.2 / 2) b := by
  obtain ⟨o1, o2⟩ := (off_and w hfx hp hT).mp ho
  exact ⟨Mc.ex _ (Nat.lt_succ_self _) ha o1, Mc.ex _ (Nat.lt_succ_self _) ha o2⟩
/-- with its own place too -/
theorem mc_own {x : Int} {A : List (List Int)} (hx : x ≠ 0) (h : ∀ u, Mc ands fa x u ∧ x ∉ u ↔ u ∈ A) {a0 : List Int} (h0 : a0 ∈ A) (hne : a0 ≠ []) (u : List Int) : Mc ands fa x u ↔ u ∈ [x] :: A := by
  have hoff : off ands fa [] x = false := by
    cases ho : off ands fa [] x with
    | false => rfl
    | true => exact absurd (((h a0).mpr h0).1.min [] List.Pairwise.nil rfl ho).symm hne
  constructor
  · intro m
    by_cases hm : x ∈ u
    · rw [mc_mem m hm]; exact List.mem_cons_self ..
    · exact List.mem_cons_of_mem _ ((h u).mp ⟨m, hm⟩)
  · intro hu
    rcases List.mem_cons.mp hu with rfl | hu
    · refine mc_self hx fun T hT hs => ?_
      have : T = [] := by
        cases T with
        | nil => rfl
        | cons y T =>
          have := sub_iff.mp hs y (List.mem_cons_self ..)
          rw [List.mem_singleton.mp this] at hT
          exact absurd (List.mem_cons_self ..) hT
      rw [this]; exact hoff
    · exact ((h u).mpr hu).1
/-- two nodes with nothing in common -/
theorem mc_join (w : Wf ands fa) {x : Int} {p : Int × Int} (hfx : fa ≤ x) (hx : In_ ands fa x) (hp : atI ands (x - fa) = some p) {A B : List (List Int)} (hA : ∀ u, Mc ands fa (p.1 / 2) u ↔ u ∈ A) (hB : ∀ u, Mc ands fa (p.2 / 2) u ↔ u ∈ B)
    (hd : ∀ a ∈ A, ∀ b ∈ B, ∀ n ∈ a, n ∉ b) (hxA : ∀ a ∈ A, x ∉ a) (hxB : ∀ b ∈ B, x ∉ b) (u : List Int) : Mc ands fa x u ∧ x ∉ u ↔ u ∈ A.flatMap fun a => B.map fun b => uni a b := by
  obtain ⟨⟨_, a2, a3⟩, _, b2, b3⟩ := w.at hfx hp
  have inl : In_ ands fa (p.1 / 2) := ⟨a2, by have := hx.2; omega⟩
  have inr : In_ ands fa (p.2 / 2) := ⟨b2, by have := hx.2; omega⟩
  have hun : ∀ {a b : List Int}, a ∈ A → b ∈ B → x ∉ uni a b ∧ off ands fa (uni a b) x = true := fun {a b} ha hb => by
    have hxu : x ∉ uni a b := fun z => (mem_uni.mp z).elim (hxA a ha) (hxB b hb)
    exact ⟨hxu, (off_and w hfx hp hxu).mpr ⟨off_up w inl (uni_sub_l a b) ((hA a).mpr ha).off_, off_up w inr (uni_sub_r a b) ((hB b).mpr hb).off_⟩⟩
  rw [List.mem_flatMap]
  constructor
  · rintro ⟨m, hxu⟩
    obtain ⟨⟨a, ha, ma⟩, b, hb, mb⟩ := mc_kids w hfx hp hxu m.asc m.off_
    have ha2 := (hA a).mp ma
    have hb2 := (hB b).mp mb
    exact ⟨a, ha2, List.mem_map.mpr ⟨b, hb2, m.min _ (uni_asc a b) (uni_sub ha hb) (hun ha2 hb2).2⟩⟩
  · rintro ⟨a, ha, hu⟩
    obtain ⟨b, hb, rfl⟩ := List.mem_map.mp hu
    obtain ⟨hxu, ho⟩ := hun ha hb
    refine ⟨⟨uni_asc a b, ho, fun T hT hs hoT => ?_⟩, hxu⟩
    have hxT : x ∉ T := fun z => hxu (sub_iff.mp hs x z)
    obtain ⟨⟨a', ha', ma'⟩, b', hb', mb'⟩ := mc_kids w hfx hp hxT hT hoT
    have ea : a' = a := ((hA a).mpr ha).min a' ma'.asc (sub_iff.mpr fun n hn => by
      rcases mem_uni.mp (sub_iff.mp hs n (sub_iff.mp ha' n hn)) with h | h
      · exact h
      · exact absurd h (hd a' ((hA a').mp ma') b hb n hn)) ma'.off_
    have eb : b' = b := ((hB b).mpr hb).min b' mb'.asc (sub_iff.mpr fun n hn => by
      rcases mem_uni.mp (sub_iff.mp hs n (sub_iff.mp hb' n hn)) with h | h
      · exact absurd hn (hd a ha b' ((hB b').mp mb') n h)
      · exact h) mb'.off_
    subst ea; subst eb
    exact asc_ext hT (uni_asc _ _) fun n => ⟨sub_iff.mp hs n, fun hn => (mem_uni.mp hn).elim (sub_iff.mp ha' n) (sub_iff.mp hb' n)⟩
theorem join_nodup {A B : List (List Int)} (hA : A.Nodup) (hB : B.Nodup) (ha : ∀ a ∈ A, Asc a) (hb : ∀ b ∈ B, Asc b) (hd : ∀ a ∈ A, ∀ b ∈ B, ∀ n ∈ a, n ∉ b) : (A.flatMap fun a => B.map fun b => uni a b).Nodup ∧ (A.flatMap fun a => B.map fun b => uni a b).length = A.length * B.length := by
  have left : ∀ {a a' b b' : List Int}, a ∈ A → a' ∈ A → b ∈ B → b' ∈ B → uni a b = uni a' b' → a = a' ∧ b = b' := fun {a a' b b'} h1 h2 h3 h4 e => by
    have m : ∀ n, n ∈ a ∨ n ∈ b ↔ n ∈ a' ∨ n ∈ b' := fun n => by rw [← mem_uni, ← mem_uni, e]
    refine ⟨asc_ext (ha a h1) (ha a' h2) fun n => ⟨fun hn => ?_, fun hn => ?_⟩, asc_ext (hb b h3) (hb b' h4) fun n => ⟨fun hn => ?_, fun hn => ?_⟩⟩
    · exact ((m n).mp (.inl hn)).elim id fun z => absurd z (hd a h1 b' h4 n hn)
    · exact ((m n).mpr (.inl hn)).elim id fun z => absurd z (hd a' h2 b h3 n hn)
    · exact ((m n).mp (.inr hn)).elim (fun z => absurd hn (hd a' h2 b h3 n z)) id
    · exact ((m n).mpr (.inr hn)).elim (fun z => absurd hn (hd a h1 b' h4 n z)) id
  constructor
  · clear hd
    have : ∀ A' : List (List Int), (∀ a ∈ A', a ∈ A) → A'.Nodup → (A'.flatMap fun a => B.map fun b => uni a b).Nodup := by
      intro A'
      induction A' with
      | nil => intro _ _; simp
      | cons a A' ih =>
        intro hsub hnd
        obtain ⟨n1, n2⟩ := List.nodup_cons.mp hnd
        rw [List.flatMap_cons]
        refine List.nodup_append.mpr ⟨?_, ih (fun x hx => hsub x (List.mem_cons_of_mem _ hx)) n2, fun x hx y hy e => ?_⟩
        · exact List.pairwise_map.mpr (hB.imp_of_mem fun {b b'} h1 h2 hne e => hne (left (hsub a (List.mem_cons_self ..)) (hsub a (List.mem_cons_self ..)) h1 h2 e).2)
        · obtain ⟨b, hb1, rfl⟩ := List.mem_map.mp hx
          obtain ⟨a2, ha2, hy2⟩ := List.mem_flatMap.mp hy
          obtain ⟨b2, hb2, rfl⟩ := List.mem_map.mp hy2
          have := (left (hsub a (List.mem_cons_self ..)) (hsub a2 (List.mem_cons_of_mem _ ha2)) hb1 hb2 e).1
          rw [this] at n1
          exact n1 ha2
    exact this A (fun _ h => h) hA
  · rw [List.length_flatMap]
    have : (A.map fun a => (B.map fun b => uni a b).length) = A.map fun _ => B.length := List.map_congr_left fun a _ => List.length_map ..
    rw [this, List.map_const', List.sum_replicate_nat]
/-! ### a ladder -/
def Xn (b i : Int) (t : Nat) : Int := if t = 0 then i else b + 2 * ((t : Int) - 1)
def En (b i : Int) (t : Nat) : List Int := [Xn b i t, Xn b i t + 1]
theorem xn_succ (b i : Int) (t : Nat) : Xn b i (t + 1) = b + 2 * (t : Int) := by unfold Xn; rw [if_neg (by omega)]; omega
theorem xn_lt {b i : Int} (hi : i + 1 < b) {s t : Nat} (h : s < t) : Xn b i s + 1 < Xn b i t := by
  unfold Xn
  rw [if_neg (show ¬ t = 0 by omega)]
  split <;> omega
theorem en_asc (b i : Int) (t : Nat) : Asc (En b i t) := List.pairwise_cons.mpr ⟨fun n hn => by rw [List.mem_singleton.mp hn]; omega, List.pairwise_singleton _ _⟩
theorem mem_en {b i n : Int} {t : Nat} : n ∈ En b i t ↔ n = Xn b i t ∨ n = Xn b i t + 1 := by unfold En; simp
/-- the pairs below -/
def Es (b i : Int) (t : Nat) : List (List Int) := (List.range t).map (En b i)
theorem mem_es {b i : Int} {t : Nat} {u : List Int} : u ∈ Es b i t ↔ ∃ s, s < t ∧ u = En b i s := by
  unfold Es
  rw [List.mem_map]
  exact ⟨fun ⟨s, h1, h2⟩ => ⟨s, List.mem_range.mp h1, h2.symm⟩, fun ⟨s, h1, h2⟩ => ⟨s, List.mem_range.mpr h1, h2.symm⟩⟩
theorem es_nodup {b i : Int} (hi : i + 1 < b) (t : Nat) : (Es b i t).Nodup := by
  unfold Es
  refine List.pairwise_map.mpr (List.nodup_range.imp_of_mem fun {s s'} _ _ hne e => ?_)
  have e1 : Xn b i s = Xn b i s' := by
    have : En b i s = En b i s' := e
    unfold En at this
    injection this
  rcases Nat.lt_or_gt_of_ne hne with h | h
  · have := xn_lt hi h; omega
  · have := xn_lt hi h; omega
/-- an and of the two of a step -/
theorem ladder_step (w : Wf ands fa) {b i x : Int} (hi : i + 1 < b) {t : Nat} {p : Int × Int} (hfx : fa ≤ x) (hx : In_ ands fa x) (hp : atI ands (x - fa) = some p) (e1 : p.1 / 2 = Xn b i t) (e2 : p.2 / 2 = Xn b i t + 1) (hlt : Xn b i t + 1 < x)
    (h1 : ∀ u, Mc ands fa (Xn b i t) u ↔ u ∈ [Xn b i t] :: Es b i t) (h2 : ∀ u, Mc ands fa (Xn b i t + 1) u ↔ u ∈ [Xn b i t + 1] :: Es b i t) (u : List Int) : Mc ands fa x u ∧ x ∉ u ↔ u ∈ Es b i (t + 1) := by
  have low : ∀ s, s < t + 1 → x ∉ En b i s := fun s hs hm => by
    rcases Nat.lt_or_eq_of_le (Nat.le_of_lt_succ hs) with h | h
    · have := xn_lt hi h
      rcases mem_en.mp hm with e | e <;> omega
    · subst h
      rcases mem_en.mp hm with e | e <;> omega
  have offE : ∀ s, s < t + 1 → off ands fa (En b i s) x = true := fun s hs => by
    refine (off_and w hfx hp (low s hs)).mpr ?_
    rw [e1, e2]
    rcases Nat.lt_or_eq_of_le (Nat.le_of_lt_succ hs) with h | h
    · exact ⟨((h1 _).mpr (List.mem_cons_of_mem _ (mem_es.mpr ⟨s, h, rfl⟩))).off_, ((h2 _).mpr (List.mem_cons_of_mem _ (mem_es.mpr ⟨s, h, rfl⟩))).off_⟩
    · subst h
      exact ⟨cutF_leaf (mem_en.mpr (.inl rfl)), cutF_leaf (mem_en.mpr (.inr rfl))⟩
  rw [mem_es]
  constructor
  · rintro ⟨m, hxu⟩
    obtain ⟨⟨a, ha, ma⟩, c, hc, mc⟩ := mc_kids w hfx hp hxu m.asc m.off_
    rw [e1] at ma
    rw [e2] at mc
    have hit : ∀ s, s < t + 1 → sub (En b i s) u = true → u = En b i s := fun s hs hsu => (m.min _ (en_asc b i s) hsu (offE s hs)).symm
    rcases List.mem_cons.mp ((h1 a).mp ma) with rfl | ha2
    · rcases List.mem_cons.mp ((h2 c).mp mc) with rfl | hc2
      · refine ⟨t, Nat.lt_succ_self _, hit t (Nat.lt_succ_self _) (sub_iff.mpr fun n hn => ?_)⟩
        rcases mem_en.mp hn with rfl | rfl
        · exact sub_iff.mp ha _ (List.mem_singleton.mpr rfl)
        · exact sub_iff.mp hc _ (List.mem_singleton.mpr rfl)
      · obtain ⟨s, hs, rfl⟩ := mem_es.mp hc2
        exact ⟨s, by omega, hit s (by omega) hc⟩
    · obtain ⟨s, hs, rfl⟩ := mem_es.mp ha2
      exact ⟨s, by omega, hit s (by omega) ha⟩
  · rintro ⟨s, hs, rfl⟩
    refine ⟨⟨en_asc b i s, offE s hs, fun T hT hsT hoT => ?_⟩, low s hs⟩
    have hxT : x ∉ T := fun z => low s hs (sub_iff.mp hsT x z)
    rcases Nat.lt_or_eq_of_le (Nat.le_of_lt_succ hs) with h | h
    · have ho := ((off_and w hfx hp hxT).mp hoT).1
      rw [e1] at ho
      exact ((h1 _).mpr (List.mem_cons_of_mem _ (mem_es.mpr ⟨s, h, rfl⟩))).min T hT hsT ho
    · subst h
      obtain ⟨⟨a, ha, ma⟩, c, hc, mc⟩ := mc_kids w hfx hp hxT hT hoT
      rw [e1] at ma
      rw [e2] at mc
      have noE : ∀ s', s' < s → sub (En b i s') (En b i s) = true → False := fun s' hs' hsub => by
        have := sub_iff.mp hsub _ (mem_en.mpr (.inl rfl))
        have hlt' := xn_lt hi hs'
        rcases mem_en.mp this with e | e <;> omega
      have hX : Xn b i s ∈ T := by
        rcases List.mem_cons.mp ((h1 a).mp ma) with rfl | ha2
        · exact sub_iff.mp ha _ (List.mem_singleton.mpr rfl)
        · obtain ⟨s', hs', rfl⟩ := mem_es.mp ha2
          exact (noE s' hs' (sub_trans ha hsT)).elim
      have hY : Xn b i s + 1 ∈ T := by
        rcases List.mem_cons.mp ((h2 c).mp mc) with rfl | hc2
        · exact sub_iff.mp hc _ (List.mem_singleton.mpr rfl)
        · obtain ⟨s', hs', rfl⟩ := mem_es.mp hc2
          exact (noE s' hs' (sub_trans hc hsT)).elim
      refine asc_ext hT (en_asc b i s) fun n => ⟨sub_iff.mp hsT n, fun hn => ?_⟩
      rcases mem_en.mp hn with rfl | rfl
      · exact hX
      · exact hY
/-- what a ladder is: bases, heights -/
structure Lad (ands : List (Int × Int)) (fa b i : Int) (h : Nat) : Prop where
  i1 : 1 ≤ i
  i2 : i + 1 < fa
  b1 : fa ≤ b
  b2 : b + 2 * (h : Int) < fa + ands.length
  two : ∀ t, t < h → ∃ p q, atI ands (b + 2 * (t : Int) - fa) = some p ∧ atI ands (b + 2 * (t : Int) + 1 - fa) = some q ∧ (p.1 / 2 = Xn b i t ∧ p.2 / 2 = Xn b i t + 1) ∧ q.1 / 2 = Xn b i t ∧ q.2 / 2 = Xn b i t + 1
  top : ∃ p, atI ands (b + 2 * (h : Int) - fa) = some p ∧ p.1 / 2 = Xn b i h ∧ p.2 / 2 = Xn b i h + 1
theorem en_ne (b i : Int) (t : Nat) : En b i t ≠ [] := fun z => nomatch z
theorem ladder_ok (w : Wf ands fa) {b i : Int} {h : Nat} (L : Lad ands fa b i h) : ∀ t, t ≤ h → (∀ u, Mc ands fa (Xn b i t) u ↔ u ∈ [Xn b i t] :: Es b i t) ∧ ∀ u, Mc ands fa (Xn b i t + 1) u ↔ u ∈ [Xn b i t + 1] :: Es b i t
  | 0, _ => by
    have e : Xn b i 0 = i := rfl
    have h1 := L.i1; have h2 := L.i2
    rw [e]
    refine ⟨fun u => ?_, fun u => ?_⟩
    · rw [mc_leaf (by omega) (by omega)]; simp [Es]
    · rw [mc_leaf (by omega) (by omega)]; simp [Es]
  | t + 1, ht => by
    obtain ⟨g1, g2⟩ := ladder_ok w L t (by omega)
    obtain ⟨p, q, hp, hq, ⟨p1, p2⟩, q1, q2⟩ := L.two t (by omega)
    have hb1 := L.b1; have hb2 := L.b2; have h1 := L.i1; have h2 := L.i2; have hfa := w.1
    have hi : i + 1 < b := by omega
    have hlt : Xn b i t + 1 < b + 2 * (t : Int) := by rw [← xn_succ b i t]; exact xn_lt hi (Nat.lt_succ_self t)
    rw [xn_succ]
    refine ⟨fun u => ?_, fun u => ?_⟩
    · exact mc_own (by omega) (ladder_step w hi (by omega) ⟨by omega, by omega⟩ hp p1 p2 hlt g1 g2) (mem_es.mpr ⟨0, by omega, rfl⟩) (en_ne b i 0) u
    · exact mc_own (by omega) (ladder_step w hi (by omega) ⟨by omega, by omega⟩ hq q1 q2 (by omega) g1 g2) (mem_es.mpr ⟨0, by omega, rfl⟩) (en_ne b i 0) u
/-- the ands of a ladder have few least sets -/
theorem ladder_in (w : Wf ands fa) {b i x : Int} {h : Nat} (L : Lad ands fa b i h) (h0 : b ≤ x) (h1 : x ≤ b + 2 * h) : ∃ t, t ≤ h ∧ ∀ u, Mc ands fa x u ∧ x ∉ u ↔ u ∈ Es b i (t + 1) := by
  have hb1 := L.b1; have hb2 := L.b2; have g1 := L.i1; have g2 := L.i2; have hfa := w.1
  have hi : i + 1 < b := by omega
  obtain ⟨k, hk⟩ := Int.eq_ofNat_of_zero_le (show 0 ≤ x - b by omega)
  have hx : x = b + k := by omega
  by_cases he : k = 2 * h
  · obtain ⟨p, hp, p1, p2⟩ := L.top
    obtain ⟨m1, m2⟩ := ladder_ok w L h (Nat.le_refl _)
    have hlt : Xn b i h + 1 < b + 2 * (h : Int) := by rw [← xn_succ b i h]; exact xn_lt hi (Nat.lt_succ_self h)
    have ex : x = b + 2 * (h : Int) := by omega
    subst ex
    exact ⟨h, Nat.le_refl _, ladder_step w hi (by omega) ⟨by omega, by omega⟩ hp p1 p2 hlt m1 m2⟩
  · have ht : k / 2 < h := by omega
    obtain ⟨p, q, hp, hq, ⟨p1, p2⟩, q1, q2⟩ := L.two (k / 2) ht
    obtain ⟨m1, m2⟩ := ladder_ok w L (k / 2) (by omega)
    have hlt : Xn b i (k / 2) + 1 < b + 2 * ((k / 2 : Nat) : Int) := by rw [← xn_succ b i (k / 2)]; exact xn_lt hi (Nat.lt_succ_self _)
    refine ⟨k / 2, by omega, ?_⟩
    by_cases hev : k % 2 = 0
    · have ex : x = b + 2 * ((k / 2 : Nat) : Int) := by omega
      rw [ex]
      exact ladder_step w hi (by omega) ⟨by omega, by omega⟩ hp p1 p2 hlt m1 m2
    · have ex : x = b + 2 * ((k / 2 : Nat) : Int) + 1 := by omega
      rw [ex]
      exact ladder_step w hi (by omega) ⟨by omega, by omega⟩ hq q1 q2 (by omega) m1 m2
/-- the top's least sets -/
def Ts (b i : Int) (h : Nat) : List (List Int) := [b + 2 * (h : Int)] :: Es b i (h + 1)
theorem top_ok (w : Wf ands fa) {b i : Int} {h : Nat} (L : Lad ands fa b i h) : (∀ u, Mc ands fa (b + 2 * (h : Int)) u ↔ u ∈ Ts b i h) ∧ (Ts b i h).Nodup ∧ (Ts b i h).length = h + 2 ∧ ∀ a ∈ Ts b i h, Asc a ∧ a.length ≤ 2 ∧ a ≠ [] ∧ ∀ n ∈ a, (n = i ∨ n = i + 1) ∨ (b ≤ n ∧ n ≤ b + 2 * h) := by
  have hb1 := L.b1; have hb2 := L.b2; have g1 := L.i1; have g2 := L.i2; have hfa := w.1
  have hi : i + 1 < b := by omega
  obtain ⟨p, hp, p1, p2⟩ := L.top
  obtain ⟨m1, m2⟩ := ladder_ok w L h (Nat.le_refl _)
  have hlt : Xn b i h + 1 < b + 2 * (h : Int) := by rw [← xn_succ b i h]; exact xn_lt hi (Nat.lt_succ_self h)
  have hst := ladder_step w hi (x := b + 2 * (h : Int)) (by omega) ⟨by omega, by omega⟩ hp p1 p2 hlt m1 m2
  refine ⟨mc_own (by omega) hst (mem_es.mpr ⟨0, by omega, rfl⟩) (en_ne b i 0), List.nodup_cons.mpr ⟨fun z => ?_, es_nodup hi _⟩, ?_, fun a ha => ?_⟩
  · obtain ⟨s, _, e⟩ := mem_es.mp z
    unfold En at e
    injection e with _ e2
    cases e2
  · unfold Ts Es
    rw [List.length_cons, List.length_map, List.length_range]
  · rcases List.mem_cons.mp ha with rfl | ha
    · exact ⟨List.pairwise_singleton _ _, by simp, by simp, fun n hn => .inr (by rw [List.mem_singleton.mp hn]; omega)⟩
    · obtain ⟨s, hs, rfl⟩ := mem_es.mp ha
      refine ⟨en_asc b i s, by simp [En], en_ne b i s, fun n hn => ?_⟩
      cases s with
      | zero =>
        have e : Xn b i 0 = i := rfl
        rcases mem_en.mp hn with e2 | e2 <;> rw [e] at e2
        · exact .inl (.inl e2)
        · exact .inl (.inr e2)
      | succ s =>
        refine .inr ?_
        rcases mem_en.mp hn with e2 | e2 <;> rw [xn_succ] at e2 <;> omega
end K56

/-! K56L -/
namespace K56
open PySem PySem.Spec L2 Ty
/-! ### the ladders' nets -/
def pairB (ands : List (Int × Int)) (x l r : Int) : Bool := match atI ands (x - 7) with
  | some p => decide (p.1 / 2 = l) && decide (p.2 / 2 = r)
  | none => false
theorem pairB_at {ands : List (Int × Int)} {x l r : Int} (h : pairB ands x l r = true) : ∃ p, atI ands (x - 7) = some p ∧ p.1 / 2 = l ∧ p.2 / 2 = r := by
  unfold pairB at h
  cases ha : atI ands (x - 7) with
  | none => rw [ha] at h; cases h
  | some p =>
    rw [ha] at h
    dsimp only at h
    rw [Bool.and_eq_true, decide_eq_true_eq, decide_eq_true_eq] at h
    exact ⟨p, rfl, h.1, h.2⟩
def ladB (ands : List (Int × Int)) (b i : Int) (h : Nat) : Bool :=
  (List.range h).all (fun t => pairB ands (b + 2 * (t : Int)) (Xn b i t) (Xn b i t + 1) && pairB ands (b + 2 * (t : Int) + 1) (Xn b i t) (Xn b i t + 1)) && pairB ands (b + 2 * (h : Int)) (Xn b i h) (Xn b i h + 1)
theorem ladB_ok {ands : List (Int × Int)} {b i : Int} {h : Nat} (hb : ladB ands b i h = true) (i1 : 1 ≤ i) (i2 : i + 1 < 7) (b1 : 7 ≤ b) (b2 : b + 2 * (h : Int) < 7 + ands.length) : Lad ands 7 b i h := by
  unfold ladB at hb
  rw [Bool.and_eq_true, List.all_eq_true] at hb
  refine ⟨i1, i2, b1, b2, fun t ht => ?_, pairB_at hb.2⟩
  have := hb.1 t (List.mem_range.mpr ht)
  rw [Bool.and_eq_true] at this
  obtain ⟨p, hp, p1⟩ := pairB_at this.1
  obtain ⟨q, hq, q1⟩ := pairB_at this.2
  exact ⟨p, q, hp, hq, p1, q1⟩
def wfB (ands : List (Int × Int)) : Bool := ands.zipIdx.all fun x => decide (0 ≤ x.1.1) && decide (x.1.1 < 2 * (7 + (x.2 : Int))) && (decide (0 ≤ x.1.2) && decide (x.1.2 < 2 * (7 + (x.2 : Int))))
theorem wfB_ok {ands : List (Int × Int)} (h : wfB ands = true) : Wf ands 7 := by
  refine ⟨by decide, fun k p hp => ?_⟩
  unfold wfB at h
  rw [List.all_eq_true] at h
  have hz : ands.zipIdx[k]? = some (p, k) := by rw [List.getElem?_zipIdx, hp]; simp
  have := h _ (List.mem_of_getElem? hz)
  simp only [Bool.and_eq_true, decide_eq_true_eq] at this
  exact this
def netB (ands : List (Int × Int)) (a b c : Nat) : Bool :=
  decide (ands.length = 2 * (a + b + c) + 5) && wfB ands && (ladB ands 7 1 a && ladB ands (8 + 2 * a) 3 b && ladB ands (9 + 2 * a + 2 * b) 5 c) &&
  (pairB ands (10 + 2 * (a + b + c)) (7 + 2 * a) (8 + 2 * a + 2 * b) && pairB ands (11 + 2 * (a + b + c)) (10 + 2 * (a + b + c)) (9 + 2 * a + 2 * b + 2 * c))
def menu : List (Nat × Nat × Nat) := [(5, 5, 8), (8, 8, 3)] ++ (List.range 64).map fun k => (4 + k % 4, 4 + k / 4 % 4, 4 + k / 16)
def ladF (h : Nat × Nat × Nat) : Bool := (m__law_ladders [(h.1 : Int), (h.2.1 : Int), (h.2.2 : Int)]).elim false fun ands => netB ands h.1 h.2.1 h.2.2
theorem menu_ok : menu.all ladF = true := by decide +kernel
theorem ladF_ok {h : Nat × Nat × Nat} (hm : ladF h = true) : ∃ ands, m__law_ladders [(h.1 : Int), (h.2.1 : Int), (h.2.2 : Int)] = some ands ∧ netB ands h.1 h.2.1 h.2.2 = true := by
  unfold ladF at hm
  generalize m__law_ladders [(h.1 : Int), (h.2.1 : Int), (h.2.2 : Int)] = o at hm
  cases o with
  | none => cases hm
  | some ands => exact ⟨ands, rfl, hm⟩
theorem all_of {α : Type} {f : α → Bool} {xs : List α} (h : xs.all f = true) {x : α} (hx : x ∈ xs) : f x = true := List.all_eq_true.mp h x hx
theorem ladders_ok {a b c : Nat} (h : (a, b, c) ∈ menu) : ∃ ands, m__law_ladders [(a : Int), (b : Int), (c : Int)] = some ands ∧ netB ands a b c = true := ladF_ok (h := (a, b, c)) (all_of menu_ok h)
theorem mem_menu {a b c : Nat} (h : (4 ≤ a ∧ a < 8) ∧ (4 ≤ b ∧ b < 8) ∧ (4 ≤ c ∧ c < 8)) : (a, b, c) ∈ menu := by
  unfold menu
  refine List.mem_append_right _ (List.mem_map.mpr ⟨(a - 4) + 4 * (b - 4) + 16 * (c - 4), List.mem_range.mpr (by omega), ?_⟩)
  refine Prod.ext (by dsimp only; omega) (Prod.ext (by dsimp only; omega) (by dsimp only; omega))
end K56

/-! K56U -/
namespace K56
open PySem PySem.Spec L2 Ty
def cnt (a b c : Nat) : Nat := (1 + (a + 2) * (b + 2)) * (c + 2)
structure NetC (ands : List (Int × Int)) (a b c : Nat) : Prop where
  w : Wf ands 7
  len : ands.length = 2 * (a + b + c) + 5
  few : ∀ (j : Nat) cl, (foldC 6 7 ands).2[j]? = some cl → j + 1 < ands.length → cl.length ≤ 500
  last : ∃ cl, (foldC 6 7 ands).2[ands.length - 1]? = some cl ∧ cl.length = cnt a b c
theorem netC_of {ands : List (Int × Int)} {a b c : Nat} (hn : netB ands a b c = true) (ha : a ≤ 8) (hb : b ≤ 8) (hc : c ≤ 8) : NetC ands a b c := by
  unfold netB at hn
  simp only [Bool.and_eq_true, decide_eq_true_eq] at hn
  obtain ⟨⟨⟨hlen, hw⟩, ⟨l1, l2⟩, l3⟩, hJ, hL⟩ := hn
  have w := wfB_ok hw
  have L1 := ladB_ok l1 (by omega) (by omega) (by omega) (by omega)
  have L2 := ladB_ok l2 (by omega) (by omega) (by omega) (by omega)
  have L3 := ladB_ok l3 (by omega) (by omega) (by omega) (by omega)
  obtain ⟨pJ, hpJ, eJ1, eJ2⟩ := pairB_at hJ
  obtain ⟨pL, hpL, eL1, eL2⟩ := pairB_at hL
  obtain ⟨t1, n1, d1, k1⟩ := top_ok w L1
  obtain ⟨t2, n2, d2, k2⟩ := top_ok w L2
  obtain ⟨t3, n3, d3, k3⟩ := top_ok w L3
  have st := foldC_st w (size := 6) (by decide)
  have hl2 := st.l2
  -- the first join
  have dj : ∀ u ∈ Ts 7 1 a, ∀ v ∈ Ts (8 + 2 * (a : Int)) 3 b, ∀ n ∈ u, n ∉ v := fun u hu v hv n hn hn2 => by
    have h1 := (k1 u hu).2.2.2 n hn
    have h2 := (k2 v hv).2.2.2 n hn2
    omega
  have hjJ : ∀ u, Mc ands 7 (10 + 2 * ((a : Int) + b + c)) u ∧ 10 + 2 * ((a : Int) + b + c) ∉ u ↔ u ∈ (Ts 7 1 a).flatMap fun x => (Ts (8 + 2 * (a : Int)) 3 b).map fun y => uni x y :=
    mc_join w (by omega) ⟨by omega, by omega⟩ hpJ (by rw [eJ1]; exact t1) (by rw [eJ2]; exact t2) dj (fun u hu hx => by have := (k1 u hu).2.2.2 _ hx; omega) (fun u hu hx => by have := (k2 u hu).2.2.2 _ hx; omega)
  obtain ⟨nJ, lJ⟩ := join_nodup n1 n2 (fun u hu => (k1 u hu).1) (fun u hu => (k2 u hu).1) dj
  rw [d1, d2] at lJ
  have kJ : ∀ u ∈ (Ts 7 1 a).flatMap fun x => (Ts (8 + 2 * (a : Int)) 3 b).map fun y => uni x y, Asc u ∧ u.length ≤ 4 ∧ u ≠ [] ∧ ∀ n ∈ u, (1 ≤ n ∧ n ≤ 4) ∨ (7 ≤ n ∧ n ≤ 8 + 2 * (a : Int) + 2 * b) := fun u hu => by
    obtain ⟨x, hx, hu⟩ := List.mem_flatMap.mp hu
    obtain ⟨y, hy, rfl⟩ := List.mem_map.mp hu
    obtain ⟨_, x2, x3, x4⟩ := k1 x hx
    obtain ⟨_, y2, _, y4⟩ := k2 y hy
    refine ⟨uni_asc x y, by have := @uni_le x y; omega, fun z => ?_, fun n hn => ?_⟩
    · cases x with
      | nil => exact x3 rfl
      | cons n x =>
        have : n ∈ uni (n :: x) y := mem_uni.mpr (.inl (List.mem_cons_self ..))
        rw [z] at this; cases this
    · rcases mem_uni.mp hn with hn | hn
      · have := x4 n hn; omega
      · have := y4 n hn; omega
  obtain ⟨u0, hu0⟩ : ∃ u0, u0 ∈ (Ts 7 1 a).flatMap fun x => (Ts (8 + 2 * (a : Int)) 3 b).map fun y => uni x y := by
    cases hz : (Ts 7 1 a).flatMap fun x => (Ts (8 + 2 * (a : Int)) 3 b).map fun y => uni x y with
    | nil =>
      rw [hz] at lJ
      have : 0 < (a + 2) * (b + 2) := Nat.mul_pos (by omega) (by omega)
      simp at lJ
    | cons u0 _ => exact ⟨u0, List.mem_cons_self ..⟩
  have hoJ := mc_own (by omega) hjJ hu0 (kJ u0 hu0).2.2.1
  generalize hA : ((Ts 7 1 a).flatMap fun x => (Ts (8 + 2 * (a : Int)) 3 b).map fun y => uni x y) = AJ at *
  -- the last join
  have kA : ∀ u ∈ [10 + 2 * ((a : Int) + b + c)] :: AJ, Asc u ∧ u.length ≤ 4 ∧ ∀ n ∈ u, n = 10 + 2 * ((a : Int) + b + c) ∨ (1 ≤ n ∧ n ≤ 4) ∨ (7 ≤ n ∧ n ≤ 8 + 2 * (a : Int) + 2 * b) := fun u hu => by
    rcases List.mem_cons.mp hu with rfl | hu
    · exact ⟨List.pairwise_singleton _ _, by simp, fun n hn => .inl (List.mem_singleton.mp hn)⟩
    · obtain ⟨g1, g2, _, g3⟩ := kJ u hu
      exact ⟨g1, g2, fun n hn => .inr (g3 n hn)⟩
  have nA : ([10 + 2 * ((a : Int) + b + c)] :: AJ).Nodup := List.nodup_cons.mpr ⟨fun z => by
    have := (kJ _ z).2.2.2 _ (List.mem_singleton.mpr rfl)
    omega, nJ⟩
  have dl : ∀ u ∈ [10 + 2 * ((a : Int) + b + c)] :: AJ, ∀ v ∈ Ts (9 + 2 * (a : Int) + 2 * b) 5 c, ∀ n ∈ u, n ∉ v := fun u hu v hv n hn hn2 => by
    have h1 := (kA u hu).2.2 n hn
    have h2 := (k3 v hv).2.2.2 n hn2
    omega
  have hlast : ∀ u, Mc ands 7 (11 + 2 * ((a : Int) + b + c)) u ∧ 11 + 2 * ((a : Int) + b + c) ∉ u ↔ u ∈ ([10 + 2 * ((a : Int) + b + c)] :: AJ).flatMap fun x => (Ts (9 + 2 * (a : Int) + 2 * b) 5 c).map fun y => uni x y :=
    mc_join w (by omega) ⟨by omega, by omega⟩ hpL (by rw [eL1]; exact hoJ) (by rw [eL2]; exact t3) dl (fun u hu hx => by have := (kA u hu).2.2 _ hx; omega) (fun u hu hx => by have := (k3 u hu).2.2.2 _ hx; omega)
  obtain ⟨nL, lL⟩ := join_nodup nA n3 (fun u hu => (kA u hu).1) (fun u hu => (k3 u hu).1) dl
  have hab : (a + 2) * (b + 2) ≤ 10 * 10 := Nat.mul_le_mul (by omega) (by omega)
  refine ⟨w, hlen, fun j cl hcl hj => ?_, ?_⟩
  · obtain ⟨hf, hcn, _⟩ := found_spec w ⟨by decide, by decide⟩ hcl
    by_cases h1 : (7 : Int) + j ≤ 7 + 2 * (a : Int)
    · obtain ⟨t, ht, hE⟩ := ladder_in w L1 (x := 7 + j) (by omega) h1
      have := nodup_le hcn fun u hu => (hE u).mp ((hf u).mp hu).1
      unfold Es at this
      rw [List.length_map, List.length_range] at this
      omega
    by_cases h2 : (7 : Int) + j ≤ 8 + 2 * (a : Int) + 2 * b
    · obtain ⟨t, ht, hE⟩ := ladder_in w L2 (x := 7 + j) (by omega) h2
      have := nodup_le hcn fun u hu => (hE u).mp ((hf u).mp hu).1
      unfold Es at this
      rw [List.length_map, List.length_range] at this
      omega
    by_cases h3 : (7 : Int) + j ≤ 9 + 2 * (a : Int) + 2 * b + 2 * c
    · obtain ⟨t, ht, hE⟩ := ladder_in w L3 (x := 7 + j) (by omega) h3
      have := nodup_le hcn fun u hu => (hE u).mp ((hf u).mp hu).1
      unfold Es at this
      rw [List.length_map, List.length_range] at this
      omega
    have ex : (7 : Int) + j = 10 + 2 * ((a : Int) + b + c) := by omega
    rw [ex] at hf
    have := nodup_le hcn fun u hu => (hjJ u).mp ((hf u).mp hu).1
    omega
  · have hjl : ands.length - 1 < (foldC 6 7 ands).2.length := by omega
    have hcl := List.getElem?_eq_getElem hjl
    refine ⟨_, hcl, ?_⟩
    obtain ⟨hf, hcn, _⟩ := found_spec w ⟨by decide, by decide⟩ hcl
    have ex : (7 : Int) + ((ands.length - 1 : Nat) : Int) = 11 + 2 * ((a : Int) + b + c) := by omega
    rw [ex] at hf
    have hperm : ((foldC 6 7 ands).2[ands.length - 1]).Perm (([10 + 2 * ((a : Int) + b + c)] :: AJ).flatMap fun x => (Ts (9 + 2 * (a : Int) + 2 * b) 5 c).map fun y => uni x y) := by
      refine (List.perm_ext_iff_of_nodup hcn nL).mpr fun u => ?_
      rw [hf u, hlast u]
      refine ⟨And.left, fun hu => ⟨hu, ?_⟩⟩
      obtain ⟨x, hx, hu⟩ := List.mem_flatMap.mp hu
      obtain ⟨y, hy, rfl⟩ := List.mem_map.mp hu
      have := (kA x hx).2.1
      have := (k3 y hy).2.1
      have := @uni_le x y
      omega
    rw [hperm.length_eq, lL, d3, List.length_cons, lJ]
    unfold cnt
    rw [Nat.add_comm 1]
theorem sortL_asc {u : List Int} (h : Asc u) : sortL u = u := asc_ext (asc_sortL h.nodup) h fun n => (sortL_perm u).mem_iff
theorem sortP_id {c : List (List Int)} (h : c.Pairwise fun a b => leC a b = true) : sortP (c.map fun x => ((x.length : Int), x)) = c.map fun x => ((x.length : Int), x) :=
  List.mergeSort_of_pairwise (List.pairwise_map.mpr h)
theorem many_ok (row : Int) : m__law_many_cuts row = some true := by
  refine Tot.eq ?_
  unfold m__law_many_cuts
  obtain ⟨x, y, z, hd, hx, hy, hz⟩ := digits3_ok row
  refine tE hd (tG (line_le (by show 3 ≤ _; omega)) (tFm (g := fun d : Int => 4 + d) (fun d _ => rfl) ?_))
  refine tB (R := fun hs : List Int => ∃ a b c : Nat, hs = [(a : Int), (b : Int), (c : Int)] ∧ (a, b, c) ∈ menu ∧ (a ≤ 8 ∧ b ≤ 8 ∧ c ≤ 8)) (tD (fun hlt => ?_) (fun _ => tR ⟨(4 + x).toNat, (4 + y).toNat, (4 + z).toNat, ?_, mem_menu (by omega), by omega⟩)) ?_
  · have h0 := Int.emod_nonneg (row / 64) (b := 4) (by decide)
    generalize (row / 64) % 4 = m at *
    have h55 : ((5 : Nat), (5 : Nat), (8 : Nat)) ∈ menu := List.mem_append_left _ (List.mem_cons_self ..)
    have h88 : ((8 : Nat), (8 : Nat), (3 : Nat)) ∈ menu := List.mem_append_left _ (List.mem_cons_of_mem _ (List.mem_cons_self ..))
    have : m = 0 ∨ m = 1 ∨ m = 2 := by omega
    rcases this with rfl | rfl | rfl
    · exact tE rfl (tR ⟨5, 5, 8, rfl, h55, by omega⟩)
    · exact tE rfl (tR ⟨5, 5, 8, rfl, h55, by omega⟩)
    · exact tE rfl (tR ⟨8, 8, 3, rfl, h88, by omega⟩)
  · show [4 + x, 4 + y, 4 + z] = _
    rw [show ((((4 + x).toNat : Nat)) : Int) = 4 + x by omega, show ((((4 + y).toNat : Nat)) : Int) = 4 + y by omega, show ((((4 + z).toNat : Nat)) : Int) = 4 + z by omega]
  · rintro hs ⟨a, b, c, rfl, hm, ha, hb, hc⟩
    obtain ⟨ands, hl, hnet⟩ := ladders_ok hm
    have N := netC_of hnet ha hb hc
    have hlen := N.len
    obtain ⟨cl, hcl, hcn⟩ := N.last
    refine tE hl (tE (a := (⟨6, [], ands⟩, ())) rfl (tE (a := (a : Int)) rfl (tE (a := (b : Int)) rfl (tG (.inl ⟨Int.lt_trans (show -(2 ^ 64 : Int) < 0 by decide) (by omega), Int.lt_of_le_of_lt (show (a : Int) + 2 ≤ 10 by omega) (by decide)⟩) (tE (a := (c : Int)) rfl ?_)))))
    have hprod : ((a : Int) + 2) * ((b : Int) + 2) = (((a + 2) * (b + 2) : Nat) : Int) := by simp
    have hab : (a + 2) * (b + 2) ≤ 10 * 10 := Nat.mul_le_mul (by omega) (by omega)
    have hcount : ((1 : Int) + ((a : Int) + 2) * ((b : Int) + 2)) * ((c : Int) + 2) = ((cnt a b c : Nat) : Int) := by unfold cnt; simp
    have hcb : cnt a b c ≤ 101 * 10 := Nat.mul_le_mul (by omega) (by omega)
    have hcp : 0 < cnt a b c := Nat.mul_pos (by omega) (by omega)
    refine tG (.inr ⟨Int.lt_trans (show -(2 ^ 64 : Int) < 0 by decide) (by omega), Int.lt_of_le_of_lt (show (c : Int) + 2 ≤ 10 by omega) (by decide)⟩) (tLe fun count hct => ?_)
    rw [hcount] at hct
    subst hct
    have e1 : m_Net_first_and ⟨6, [], ands⟩ = some 7 := rfl
    rcases cuts_ok N.w (size := 6) (by omega) ⟨by decide, by decide⟩ e1 rfl with ⟨hall, er⟩ | ⟨⟨c2, hc2, hbig⟩, er⟩
    · have hle : cnt a b c ≤ 500 := by rw [← hcn]; exact hall cl (List.mem_of_getElem? hcl)
      refine tX ⟨_, er, ?_⟩
      have st := foldC_st N.w (size := 6) (by decide)
      have hl2 := st.l2
      have hat : atI (foldC 6 7 ands).2 ((ands.length : Int) - 1) = some cl := by rw [atI_pos (by omega), show ((ands.length : Int) - 1).toNat = ands.length - 1 by omega]; exact hcl
      obtain ⟨hf, hnd, hpw⟩ := found_spec N.w ⟨by decide, by decide⟩ hcl
      have ex : (7 : Int) + ((ands.length - 1 : Nat) : Int) = 6 + (ands.length : Int) := by omega
      rw [ex] at hf
      dsimp only
      refine tE (a := false) (cF (dF (by omega)) (bI (a := false) (cF (by rw [dT (show ((foldC 6 7 ands).2.length : Int) = (ands.length : Int) by omega)]; rfl) (bI hat (by rw [dT (show (cl.length : Int) = ((cnt a b c : Nat) : Int) by omega)]; rfl))) rfl)) (tC (fun q => nomatch q) (fun _ => tE hat (tG (line_le (by omega)) (tFm (g := fun u : List Int => ((u.length : Int), u)) (fun u _ => rfl) ?_))))
      rw [sortP_id hpw]
      refine tE (a := false) ?_ (tC (fun q => nomatch q) (fun _ => ?_))
      · refine cF (by rw [dT rfl]; rfl) (gI ⟨by omega, by omega⟩ (gI (line_le (by rw [rangeL_len]; omega)) (bI (a := (rangeL 0 (((cnt a b c : Nat) : Int) - 1)).map fun _ => false) (fmO_all fun k hk => ?_) ?_)))
        · have hk := mem_rangeL hk
          obtain ⟨n, rfl⟩ := Int.eq_ofNat_of_zero_le hk.1
          have h1 : n < cl.length := by omega
          have h2 : n + 1 < cl.length := by omega
          refine bI (a := ((cl[n].length : Int), cl[n])) ?_ (bI (a := ((cl[n + 1].length : Int), cl[n + 1])) ?_ (congrArg some (congrArg some (dF fun e => ?_))))
          · rw [atI_pos (by omega), Int.toNat_natCast, List.getElem?_map, List.getElem?_eq_getElem h1]; rfl
          · rw [atI_pos (by omega), show ((n : Int) + 1).toNat = n + 1 by omega, List.getElem?_map, List.getElem?_eq_getElem h2]; rfl
          · have e2 := (Prod.ext_iff.mp e).2
            dsimp only at e2
            exact (List.pairwise_iff_getElem.mp hnd) n (n + 1) h1 h2 (by omega) e2
        · rw [dF (fun hmem => by obtain ⟨_, _, e⟩ := List.mem_map.mp hmem; cases e)]
      · refine tG ⟨by decide, by decide⟩ (tForX (fun _ _ => True) trivial (fun j k _ hk _ => ?_) (fun _ _ => tR rfl))
        obtain ⟨rfl, hj⟩ := rangeL_at hk
        refine tG ⟨by omega, by omega⟩ (tG (by omega) (tAt (Int.emod_nonneg _ (by omega)) (by rw [List.length_map]; have := Int.emod_lt_of_pos (row / (0 + (j : Int) + 3)) (b := ((cnt a b c : Nat) : Int)) (by omega); omega) fun v hv => ?_))
        obtain ⟨u, hu, rfl⟩ := List.mem_map.mp (mem_of_atI hv)
        obtain ⟨⟨mu, hxu⟩, hul⟩ := (hf u).mp hu
        have hin : In_ ands 7 (6 + (ands.length : Int)) := ⟨by omega, by omega⟩
        have hic := (icut_iff N.w hin mu.asc).mpr ⟨mu, hxu⟩
        refine tE (a := false) (cF rfl (bI (a := false) (cF (by rw [dT (sortL_asc mu.asc).symm]; rfl) (bI (is_cut_ok (u := u) N.w (by omega) hin (by omega)) (by rw [hic]; rfl))) rfl)) (tC (fun q => nomatch q) (fun _ => tR trivial))
    · have hbg : 500 < cnt a b c := by
        obtain ⟨j, hj⟩ := List.getElem?_of_mem hc2
        have hjl := (List.getElem?_eq_some_iff.mp hj).1
        have hl2 := (foldC_st N.w (size := 6) (by decide)).l2
        by_cases he : j + 1 < ands.length
        · have := N.few j c2 hj he; omega
        · have : j = ands.length - 1 := by omega
          subst this
          rw [hcl] at hj
          cases hj
          omega
      refine tX ⟨_, er, ?_⟩
      exact tC (fun _ => tR (by rw [dT (show (500 : Int) < ((cnt a b c : Nat) : Int) by omega)]; rfl)) (fun q => by rw [dT rfl] at q; cases q)
theorem cell_tot (ns : List Int) (k : Int) : Tot (m__law_cell ns k) fun _ => True := let ⟨v, h⟩ := cell_ok ns k; ⟨v, h, trivial⟩
theorem literal_tot {r fa count : Int} (h : 1 ≤ fa) (h2 : fa ≤ count) : Tot (m__law_literal r fa count) fun v => 0 ≤ v ∧ v < 2 * count := let ⟨v, h1, h2⟩ := literal_ok (r := r) h h2; ⟨v, h1, h2⟩
theorem refused_ok {net : S_Net} {size : Int} (h : size < 1 ∨ 6 < size) : m__law_refused net size = some true := by
  unfold m__law_refused
  refine exI_ex (e := ("InvalidCount", [])) ?_ (cT (dT rfl) rfl)
  unfold m_cuts_of
  refine cT ?_ rfl
  rcases h with h | h
  · rw [dF (show ¬ (1 : Int) ≤ size by omega)]; rfl
  · rw [dF (show ¬ size ≤ (6 : Int) by omega)]; cases decide ((1 : Int) ≤ size) <;> rfl
theorem law_ok (script : List Int) : m_law script = some true := by
  refine Tot.eq ?_
  unfold m_law
  refine tB (cell_tot script 0) fun r0 _ => ?_
  obtain ⟨a, b, c, d, e, hdig, ha, hb, hc, hd, he⟩ := digits_ok r0
  refine tE hdig (tE (a := e) rfl ?_)
  refine tB (R := fun hs : List Int => ∃ a c, hs = [a, b, c, d, e] ∧ (0 ≤ a ∧ a ≤ 5) ∧ ((a ≤ 3 ∧ 0 ≤ c ∧ c ≤ 5) ∨ (6 ≤ c ∧ c ≤ 12))) (tC (fun _ => ?_) (fun _ => tR ⟨a, c, rfl, by omega, .inl (by omega)⟩)) ?_
  · refine tE (a := a) rfl (tE (a := [a + 2, b, c, d, e]) rfl (tB (cell_tot script 40) fun r2 _ => tE (a := [a + 2, b, 6 + r2 % 7, d, e]) rfl (tR ⟨a + 2, 6 + r2 % 7, rfl, by omega, .inr (by omega)⟩)))
  · rintro sizes ⟨a, c, rfl, ha, hc⟩
    refine tE (a := a) rfl (tE (a := b) rfl (tLe fun fa hfa => tE (a := c) rfl (tG ⟨by omega, by omega⟩ ?_)))
    refine tForR (fun k (ands : List (Int × Int)) => (ands.length : Int) = k ∧ Wf ands fa) (by omega) ⟨rfl, by omega, fun k p h => by simp at h⟩ ?_ ?_
    · rintro k ands hk1 hk2 ⟨hl, w⟩
      refine tB (cell_tot script _) fun r3 _ => tB (literal_tot (by omega) (by omega)) fun x hx => tB (literal_tot (by omega) (by omega)) fun y hy => tG (line_lt (by omega)) (tR ⟨by rw [List.length_append, List.length_singleton]; omega, w.1, fun j p h => ?_⟩)
      rcases snoc_at h with ⟨_, h⟩ | ⟨rfl, rfl⟩
      · exact w.2 j p h
      · rw [hl]; exact ⟨hx, hy⟩
    · rintro ands ⟨hl, w⟩
      refine tE (a := a) rfl (tE (a := b) rfl (tG ⟨by omega, by omega⟩ (tG (line_le (by rw [rangeL_len2]; omega)) (tFm (g := fun k : Int => ((0 : Int), k)) (fun x _ => rfl) (tE (a := (⟨a, (rangeL 0 b).map fun k => ((0 : Int), k), ands⟩, ())) rfl (tE (a := d) rfl (tE (a := e) rfl ?_)))))))
      have e1 : m_Net_first_and ⟨a, (rangeL 0 b).map fun k => ((0 : Int), k), ands⟩ = some fa := by
        show some ((1 + a) + (((rangeL 0 b).map fun k => ((0 : Int), k)).length : Int)) = _
        rw [List.length_map, rangeL_len2]
        exact congrArg some (by omega)
      refine tD (fun _ => tB (cell_tot script 7) fun r7 _ => tE (many_ok r7) (tR rfl)) (fun _ => tC (fun hz => ?_) (fun hz => ?_))
      · have hde : d = 0 ∨ d = 7 := by simpa using hz
        refine tB (cell_tot script 41) fun r4 _ => tLe fun far hfar => tB (cell_tot script 42) fun r5 _ => tAt (Int.emod_nonneg _ (by decide)) (Int.emod_lt_of_pos _ (by decide)) fun v hv => tE (refused_ok ?_) (tR rfl)
        have hfr := Int.emod_nonneg r4 (b := 1000) (by decide)
        have := mem_of_atI hv
        simp only [List.mem_cons, List.not_mem_nil, or_false] at this
        omega
      · have hde : ¬ d = 0 ∧ ¬ d = 7 := by simpa using hz
        have hs : 1 ≤ d ∧ d ≤ 6 := by omega
        refine tE (a := c) rfl (tD (fun hbig => ?_) (fun hsm => tE (a := c) rfl (tG ⟨by omega, by omega⟩ ?_)))
        · exact tE (greater_ok w (by omega) (by omega) (by omega) hs e1 rfl) (tR rfl)
        · have st := foldC_st w hs.2
          have hl2 := st.l2
          have h11 : fa + (ands.length : Int) ≤ 11 := by omega
          refine tForX (fun j due => due = (foldC d fa ands).2.take j) (by simp) (fun j k due hk hP => ?_) (fun due hP => ?_)
          · obtain ⟨rfl, hj⟩ := rangeL_at hk
            rw [Int.zero_add]
            have hjl : j < (foldC d fa ands).2.length := by omega
            have hcj := List.getElem?_eq_getElem hjl
            have hdl : due.length ≤ 5 := by rw [hP, List.length_take]; omega
            refine tB (subsets_ok (by omega) hs) fun r hr => ?_
            have hrl := hr.2.1
            have hpow : 2 ^ (fa + (j : Int) - 1).toNat ≤ 2 ^ 11 := Nat.pow_le_pow_right (by decide) (by omega)
            refine tG (line_le (by omega)) (tFm (g := fun u : List Int => ((u.length : Int), u)) (fun u _ => rfl) (tLe fun near hnear => tG (line_le (by unfold sortP; rw [List.length_mergeSort, List.length_map]; omega)) ?_))
            have hnr : near = ands.take (j + 1) := by
              rw [hnear]
              unfold cutL
              have s1 : HT.sIx ands.length 0 none = 0 := rfl
              have s2 : HT.sIx ands.length ands.length (some ((j : Int) + 1)) = j + 1 := by
                show (if (j : Int) + 1 < 0 then ((j : Int) + 1 + (ands.length : Int)).toNat else min ((j : Int) + 1).toNat ands.length) = _
                rw [if_neg (by omega)]
                omega
              rw [s1, s2]
              rfl
            refine tE (a := (((sortP (r.map fun u => ((u.length : Int), u))).filter fun q => icut ands fa (fa + j) q.2).map fun q => q.2)) (fmO_fm (p := fun q : Int × List Int => icut ands fa (fa + j) q.2) (g := fun q => q.2) fun q hq => ?_) ?_
            · have hq2 : q ∈ r.map fun u => ((u.length : Int), u) := (List.mergeSort_perm _ _).mem_iff.mp hq
              obtain ⟨u, hu, rfl⟩ := List.mem_map.mp hq2
              have hul := ((hr.2.2 u).mp hu).2.2
              rw [hnr]
              have hin : In_ (ands.take (j + 1)) fa (fa + j) := ⟨by omega, by rw [List.length_take]; omega⟩
              refine bI (is_cut_ok (u := u) (wf_take w (j + 1)) (by rw [List.length_take]; omega) hin (by omega)) ?_
              rw [icut_take w (by omega) (by omega) (by omega)]
            · have hdue : ((sortP (r.map fun u => ((u.length : Int), u))).filter fun q => icut ands fa (fa + j) q.2).map (fun q => q.2) = (foldC d fa ands).2[j] := by
                rw [← due_ok w h11 hs hcj hr, ← sortP_srt, List.filter_map]
                rfl
              rw [hdue]
              refine tG (line_lt (by omega)) (tR ?_)
              show due ++ [_] = (foldC d fa ands).2.take (j + 1)
              rw [List.take_add_one, hcj, hP]; rfl
          · have hdue : due = (foldC d fa ands).2 := by rw [hP, rangeL_len2]; exact List.take_of_length_le (by omega)
            have hfew := few_cuts w h11 hs
            refine tE (a := false) (cF (by rw [dT rfl]; rfl) (bI (a := b) rfl (gI ⟨by omega, by omega⟩ (gI (line_le (by rw [rangeL_len2]; omega)) (bI (fmO_all (g := fun k : Int => ((0 : Int), k)) fun x _ => rfl) (by rw [dT rfl]; rfl)))))) (tC (fun q => nomatch q) (fun _ => ?_))
            rcases cuts_ok w (by omega) hs e1 rfl with ⟨_, er⟩ | ⟨⟨c2, hc2, hbg⟩, _⟩
            · refine tX ⟨_, er, ?_⟩
              dsimp only
              rw [hdue]
              refine tE (same_cuts (by omega) fun c hc => ⟨hfew c hc, found_small w (by omega) hs.2 c hc⟩) (tE (a := true) (cT rfl (congrArg some (dT rfl))) (tR rfl))
            · have := hfew c2 hc2; omega
end K56

/-! K56Z -/
namespace K56
open PySem PySem.Spec L2 Ty
def spLaw (K : PySem.W.Frag) (Pt : Addr) : Sp := fun vs H Q _ => ∃ (a : Addr) (ns : List Int), vs = [.ref a] ∧ H Pt = some (.tbl #[]) ∧ SqL K H a (ns.map V.int) ∧ ns.length ≤ 63 ∧ ∀ H2, Q (.bl true) H2
section
variable {P : Program} {w : World} {K : PySem.W.Frag} {mg : Str → Option Value} {base : Heap}
theorem ok_top (T : Txt P K mg) {Pt : Addr} (TB : LamX.TabB base mg T.ct Pt) : FnG P w K mg base 7 T.f_law T.d_law ["script"] (spLaw K Pt) := (ok_law T TB).imp fun vs H Q E ⟨a, ns, ev, hP, hS, hl, hq⟩ => by
  subst ev
  obtain ⟨F, hW, g, hS2⟩ := top_T (tq := tq) hP hS
  refine ⟨ns, true, F, law_ok ns, hW, g, Slots.cons (fp := []) ⟨rfl, _, rfl, a, rfl, hS2⟩ .nil, fun v F2 H2 fp W2 p2 => ?_⟩
  rw [(val_P p2).2]; exact hq H2
end
theorem all_mk {l : PySem.W.OpenLaw} {w : World} {K : PySem.W.Frag} {h : Heap} {mg : Str → Option Value} {fa : Addr} (X : K.In h) (G : h.Ns mainGlobals mg) (hfa : mg "law" = some (.ref fa))
    {f1 : Addr}
    {od1 an1 : Option Addr}
    {sl1 : Array (Option Value)}
    {oc1 kV1 dc1 pm1 cd1 ct1 : Value}
    {f2 : Addr}
    {od2 an2 : Option Addr}
    {sl2 : Array (Option Value)}
    {oc2 kV2 dc2 pm2 cd2 ct2 : Value}
    {f3 : Addr}
    {od3 an3 : Option Addr}
    {sl3 : Array (Option Value)}
    {oc3 kV3 dc3 pm3 cd3 ct3 : Value}
    {f4 : Addr}
    {od4 an4 : Option Addr}
    {sl4 : Array (Option Value)}
    {oc4 kV4 dc4 pm4 cd4 ct4 : Value}
    {f5 : Addr}
    {od5 an5 : Option Addr}
    {sl5 : Array (Option Value)}
    {oc5 kV5 dc5 pm5 cd5 ct5 : Value}
    {f6 : Addr}
    {od6 an6 : Option Addr}
    {sl6 : Array (Option Value)}
    {oc6 kV6 dc6 pm6 cd6 ct6 : Value}
    {P6 : Addr}
    {PR6 : List Value}
    {f7 : Addr}
    {od7 an7 : Option Addr}
    {sl7 : Array (Option Value)}
    {oc7 kV7 dc7 pm7 cd7 ct7 : Value}
    {f8 : Addr}
    {od8 an8 : Option Addr}
    {sl8 : Array (Option Value)}
    {oc8 kV8 dc8 pm8 ct8 : Value}
    {cq Pt : Addr}
    {f9 : Addr}
    {od9 an9 : Option Addr}
    {sl9 : Array (Option Value)}
    {oc9 kV9 dc9 pm9 cd9 ct9 : Value}
    {f10 : Addr}
    {od10 an10 : Option Addr}
    {sl10 : Array (Option Value)}
    {oc10 kV10 dc10 pm10 cd10 ct10 : Value}
    {f11 : Addr}
    {od11 an11 : Option Addr}
    {sl11 : Array (Option Value)}
    {oc11 kV11 dc11 pm11 cd11 ct11 : Value}
    {f12 : Addr}
    {od12 an12 : Option Addr}
    {sl12 : Array (Option Value)}
    {oc12 kV12 dc12 pm12 cd12 ct12 : Value}
    {f13 : Addr}
    {od13 an13 : Option Addr}
    {sl13 : Array (Option Value)}
    {oc13 kV13 dc13 pm13 cd13 ct13 : Value}
    {f14 : Addr}
    {od14 an14 : Option Addr}
    {sl14 : Array (Option Value)}
    {oc14 kV14 dc14 pm14 cd14 ct14 : Value}
    {f15 : Addr}
    {od15 an15 : Option Addr}
    {sl15 : Array (Option Value)}
    {oc15 kV15 dc15 pm15 cd15 ct15 : Value}
    {f16 : Addr}
    {od16 an16 : Option Addr}
    {sl16 : Array (Option Value)}
    {oc16 kV16 dc16 pm16 cd16 ct16 : Value}
    {f17 : Addr}
    {od17 an17 : Option Addr}
    {sl17 : Array (Option Value)}
    {oc17 kV17 dc17 pm17 cd17 ct17 : Value}
    {f18 : Addr}
    {od18 an18 : Option Addr}
    {sl18 : Array (Option Value)}
    {oc18 kV18 dc18 pm18 cd18 ct18 : Value}
    {f19 : Addr}
    {od19 an19 : Option Addr}
    {sl19 : Array (Option Value)}
    {oc19 kV19 dc19 pm19 cd19 ct19 : Value}
    {CNet : Addr}
    {CEvergateError : Addr}
    {CInvalidCount : Addr}
    {CTooHard : Addr}
    {tMOST_CUTS : Tok}
    {tMOST_SIZE : Tok}
    (aCNet : PySem.W.nsIn K mainGlobals "Net" = some (some (.ref CNet)))
    (aCEvergateError : PySem.W.nsIn K mainGlobals "EvergateError" = some (some (.ref CEvergateError)))
    (aCInvalidCount : PySem.W.nsIn K mainGlobals "InvalidCount" = some (some (.ref CInvalidCount)))
    (aCTooHard : PySem.W.nsIn K mainGlobals "TooHard" = some (some (.ref CTooHard)))
    (a1 : PySem.W.nsIn K mainGlobals "_law_digits" = some (some (.ref f1)))
    (l1 : K.lookup f1 = some ⟨oc1, od1, .func (PySem.W.fnOf "_law_digits" "_law_digits" (defArgs s__law_digits) (defBody s__law_digits) (defScope s__law_digits) .none kV1 dc1 pm1 an1 cd1 ct1), sl1⟩)
    (c1 : PySem.W.codeIn K cd1 "_law_digits" = true)
    (k1 : PySem.W.keepIn K (.ref f1) = true)
    (a2 : PySem.W.findIn K (.ref CNet) "__init__" = some (some (.ref f2)))
    (l2 : K.lookup f2 = some ⟨oc2, od2, .func (PySem.W.fnOf "__init__" "Net.__init__" (defArgs s_Net_init) (defBody s_Net_init) (defScope s_Net_init) .none kV2 dc2 pm2 an2 cd2 ct2), sl2⟩)
    (c2 : PySem.W.codeIn K cd2 "Net.__init__" = true)
    (k2 : PySem.W.keepIn K (.ref f2) = true)
    (i2 : PySem.W.isFn K (.ref f2) = true)
    (a3 : PySem.W.nsIn K mainGlobals "_law_cell" = some (some (.ref f3)))
    (l3 : K.lookup f3 = some ⟨oc3, od3, .func (PySem.W.fnOf "_law_cell" "_law_cell" (defArgs s__law_cell) (defBody s__law_cell) (defScope s__law_cell) .none kV3 dc3 pm3 an3 cd3 ct3), sl3⟩)
    (c3 : PySem.W.codeIn K cd3 "_law_cell" = true)
    (k3 : PySem.W.keepIn K (.ref f3) = true)
    (a4 : PySem.W.nsIn K mainGlobals "_law_literal" = some (some (.ref f4)))
    (l4 : K.lookup f4 = some ⟨oc4, od4, .func (PySem.W.fnOf "_law_literal" "_law_literal" (defArgs s__law_literal) (defBody s__law_literal) (defScope s__law_literal) .none kV4 dc4 pm4 an4 cd4 ct4), sl4⟩)
    (c4 : PySem.W.codeIn K cd4 "_law_literal" = true)
    (k4 : PySem.W.keepIn K (.ref f4) = true)
    (a5 : PySem.W.nsIn K mainGlobals "_law_ladders" = some (some (.ref f5)))
    (l5 : K.lookup f5 = some ⟨oc5, od5, .func (PySem.W.fnOf "_law_ladders" "_law_ladders" (defArgs s__law_ladders) (defBody s__law_ladders) (defScope s__law_ladders) .none kV5 dc5 pm5 an5 cd5 ct5), sl5⟩)
    (c5 : PySem.W.codeIn K cd5 "_law_ladders" = true)
    (k5 : PySem.W.keepIn K (.ref f5) = true)
    (a6 : PySem.W.findIn K (.ref CNet) "first_and" = some (some (.ref P6)))
    (pg6 : PySem.W.specialIn K (.ref P6) "__get__" = some (some (.builtin "property.__get__")))
    (pt6 : PySem.W.takesIn K (.ref P6) = some true)
    (pr6 : PySem.W.recIn K P6 "property" = some (.ref f6 :: PR6))
    (l6 : K.lookup f6 = some ⟨oc6, od6, .func (PySem.W.fnOf "first_and" "Net.first_and" (defArgs s_Net_first_and) (defBody s_Net_first_and) (defScope s_Net_first_and) .none kV6 dc6 pm6 an6 cd6 ct6), sl6⟩)
    (c6 : PySem.W.codeIn K cd6 "Net.first_and" = true)
    (k6 : PySem.W.keepIn K (.ref f6) = true)
    (a7 : PySem.W.nsIn K mainGlobals "contains_other" = some (some (.ref f7)))
    (l7 : K.lookup f7 = some ⟨oc7, od7, .func (PySem.W.fnOf "contains_other" "contains_other" (defArgs s_contains_other) (defBody s_contains_other) (defScope s_contains_other) .none kV7 dc7 pm7 an7 cd7 ct7), sl7⟩)
    (c7 : PySem.W.codeIn K cd7 "contains_other" = true)
    (k7 : PySem.W.keepIn K (.ref f7) = true)
    (a8 : PySem.W.nsIn K mainGlobals "united" = some (some (.ref f8)))
    (l8 : K.lookup f8 = some ⟨oc8, od8, .func (PySem.W.fnOf "united" "united" (defArgs s_united) (defBody s_united) (defScope s_united) .none kV8 dc8 pm8 an8 (.ref cq) ct8), sl8⟩)
    (c8 : PySem.W.codeIn K (.ref cq) "united" = true)
    (yCH : PySem.W.codeHdIn K cq Pt = true)
    (yNT : K.lookup Pt = none)
    (k8 : PySem.W.keepIn K (.ref f8) = true)
    (a9 : PySem.W.nsIn K mainGlobals "cuts_of" = some (some (.ref f9)))
    (l9 : K.lookup f9 = some ⟨oc9, od9, .func (PySem.W.fnOf "cuts_of" "cuts_of" (defArgs s_cuts_of) (defBody s_cuts_of) (defScope s_cuts_of) .none kV9 dc9 pm9 an9 cd9 ct9), sl9⟩)
    (c9 : PySem.W.codeIn K cd9 "cuts_of" = true)
    (k9 : PySem.W.keepIn K (.ref f9) = true)
    (a10 : PySem.W.nsIn K mainGlobals "_law_cut_off" = some (some (.ref f10)))
    (l10 : K.lookup f10 = some ⟨oc10, od10, .func (PySem.W.fnOf "_law_cut_off" "_law_cut_off" (defArgs s__law_cut_off) (defBody s__law_cut_off) (defScope s__law_cut_off) .none kV10 dc10 pm10 an10 cd10 ct10), sl10⟩)
    (c10 : PySem.W.codeIn K cd10 "_law_cut_off" = true)
    (k10 : PySem.W.keepIn K (.ref f10) = true)
    (a11 : PySem.W.nsIn K mainGlobals "_law_is_cut" = some (some (.ref f11)))
    (l11 : K.lookup f11 = some ⟨oc11, od11, .func (PySem.W.fnOf "_law_is_cut" "_law_is_cut" (defArgs s__law_is_cut) (defBody s__law_is_cut) (defScope s__law_is_cut) .none kV11 dc11 pm11 an11 cd11 ct11), sl11⟩)
    (c11 : PySem.W.codeIn K cd11 "_law_is_cut" = true)
    (k11 : PySem.W.keepIn K (.ref f11) = true)
    (a12 : PySem.W.nsIn K mainGlobals "_law_many_cuts" = some (some (.ref f12)))
    (l12 : K.lookup f12 = some ⟨oc12, od12, .func (PySem.W.fnOf "_law_many_cuts" "_law_many_cuts" (defArgs s__law_many_cuts) (defBody s__law_many_cuts) (defScope s__law_many_cuts) .none kV12 dc12 pm12 an12 cd12 ct12), sl12⟩)
    (c12 : PySem.W.codeIn K cd12 "_law_many_cuts" = true)
    (k12 : PySem.W.keepIn K (.ref f12) = true)
    (a13 : PySem.W.nsIn K mainGlobals "_law_refused" = some (some (.ref f13)))
    (l13 : K.lookup f13 = some ⟨oc13, od13, .func (PySem.W.fnOf "_law_refused" "_law_refused" (defArgs s__law_refused) (defBody s__law_refused) (defScope s__law_refused) .none kV13 dc13 pm13 an13 cd13 ct13), sl13⟩)
    (c13 : PySem.W.codeIn K cd13 "_law_refused" = true)
    (k13 : PySem.W.keepIn K (.ref f13) = true)
    (a14 : PySem.W.nsIn K mainGlobals "_law_without_more" = some (some (.ref f14)))
    (l14 : K.lookup f14 = some ⟨oc14, od14, .func (PySem.W.fnOf "_law_without_more" "_law_without_more" (defArgs s__law_without_more) (defBody s__law_without_more) (defScope s__law_without_more) .none kV14 dc14 pm14 an14 cd14 ct14), sl14⟩)
    (c14 : PySem.W.codeIn K cd14 "_law_without_more" = true)
    (k14 : PySem.W.keepIn K (.ref f14) = true)
    (a15 : PySem.W.nsIn K mainGlobals "_law_merged_cuts" = some (some (.ref f15)))
    (l15 : K.lookup f15 = some ⟨oc15, od15, .func (PySem.W.fnOf "_law_merged_cuts" "_law_merged_cuts" (defArgs s__law_merged_cuts) (defBody s__law_merged_cuts) (defScope s__law_merged_cuts) .none kV15 dc15 pm15 an15 cd15 ct15), sl15⟩)
    (c15 : PySem.W.codeIn K cd15 "_law_merged_cuts" = true)
    (k15 : PySem.W.keepIn K (.ref f15) = true)
    (a16 : PySem.W.nsIn K mainGlobals "_law_same" = some (some (.ref f16)))
    (l16 : K.lookup f16 = some ⟨oc16, od16, .func (PySem.W.fnOf "_law_same" "_law_same" (defArgs s__law_same) (defBody s__law_same) (defScope s__law_same) .none kV16 dc16 pm16 an16 cd16 ct16), sl16⟩)
    (c16 : PySem.W.codeIn K cd16 "_law_same" = true)
    (k16 : PySem.W.keepIn K (.ref f16) = true)
    (a17 : PySem.W.nsIn K mainGlobals "_law_greater" = some (some (.ref f17)))
    (l17 : K.lookup f17 = some ⟨oc17, od17, .func (PySem.W.fnOf "_law_greater" "_law_greater" (defArgs s__law_greater) (defBody s__law_greater) (defScope s__law_greater) .none kV17 dc17 pm17 an17 cd17 ct17), sl17⟩)
    (c17 : PySem.W.codeIn K cd17 "_law_greater" = true)
    (k17 : PySem.W.keepIn K (.ref f17) = true)
    (a18 : PySem.W.nsIn K mainGlobals "_law_subsets" = some (some (.ref f18)))
    (l18 : K.lookup f18 = some ⟨oc18, od18, .func (PySem.W.fnOf "_law_subsets" "_law_subsets" (defArgs s__law_subsets) (defBody s__law_subsets) (defScope s__law_subsets) .none kV18 dc18 pm18 an18 cd18 ct18), sl18⟩)
    (c18 : PySem.W.codeIn K cd18 "_law_subsets" = true)
    (k18 : PySem.W.keepIn K (.ref f18) = true)
    (a19 : PySem.W.nsIn K mainGlobals "law" = some (some (.ref f19)))
    (l19 : K.lookup f19 = some ⟨oc19, od19, .func (PySem.W.fnOf "law" "law" (defArgs s_law) (defBody s_law) (defScope s_law) .none kV19 dc19 pm19 an19 cd19 ct19), sl19⟩)
    (c19 : PySem.W.codeIn K cd19 "law" = true)
    (k19 : PySem.W.keepIn K (.ref f19) = true)
    (pgNet : PySem.W.plainGet K CNet Str.empty = true)
    (hdNet : PySem.W.hasDictIn K CNet = true)
    (poNet : PySem.W.plainOver K CNet = true)
    (saNet : PySem.W.findIn K (.ref CNet) "__setattr__" = some (some (.builtin "object.__setattr__")))
    (mkNet : PySem.W.makesIn K CNet = true)
    (kcNet : PySem.W.keepIn K (.ref CNet) = true)
    (nNet_input_count : PySem.W.findIn K (.ref CNet) "input_count" = some none)
    (nNet_latches : PySem.W.findIn K (.ref CNet) "latches" = some none)
    (nNet_ands : PySem.W.findIn K (.ref CNet) "ands" = some none)
    (xqInvalidCount : PySem.W.excIn K CInvalidCount [.type "ValueError", .type "Exception", .type "BaseException", .type "object"] "ValueError.__new__" = true)
    (xkInvalidCount : PySem.W.keepIn K (.ref CInvalidCount) = true)
    (xsInvalidCount : PySem.W.subIn K (.ref CInvalidCount) (.type "BaseException") = some true)
    (xtInvalidCount : PySem.W.typeIn K (.ref CInvalidCount) = some (.type "type"))
    (ehgInvalidCount : PySem.W.findIn K (.ref CInvalidCount) "__getattribute__" = some (some (.builtin "BaseException.__getattribute__")))
    (ehkInvalidCount : PySem.W.findIn K (.ref CInvalidCount) "__getattr__" = some none)
    (ehsInvalidCount : PySem.W.subIn K (.ref CInvalidCount) (.type "BaseException") = some true)
    (ehdInvalidCount : PySem.W.hasDictIn K CInvalidCount = true)
    (ehaInvalidCount : PySem.W.findIn K (.ref CInvalidCount) "__class__" = some (some (.builtin "object.__class__")))
    (ehnInvalidCount : PySem.W.specialIn K (.builtin "object.__class__") "__get__" = some (some (.builtin "getset_descriptor.__get__")))
    (ehtInvalidCount : PySem.W.takesIn K (.builtin "object.__class__") = some true)
    (ehmInvalidCount : PySem.W.mroIn K CInvalidCount (.type "object") = some true)
    (xqTooHard : PySem.W.excIn K CTooHard [.type "ValueError", .type "Exception", .type "BaseException", .type "object"] "ValueError.__new__" = true)
    (xkTooHard : PySem.W.keepIn K (.ref CTooHard) = true)
    (xsTooHard : PySem.W.subIn K (.ref CTooHard) (.type "BaseException") = some true)
    (xtTooHard : PySem.W.typeIn K (.ref CTooHard) = some (.type "type"))
    (ehgTooHard : PySem.W.findIn K (.ref CTooHard) "__getattribute__" = some (some (.builtin "BaseException.__getattribute__")))
    (ehkTooHard : PySem.W.findIn K (.ref CTooHard) "__getattr__" = some none)
    (ehsTooHard : PySem.W.subIn K (.ref CTooHard) (.type "BaseException") = some true)
    (ehdTooHard : PySem.W.hasDictIn K CTooHard = true)
    (ehaTooHard : PySem.W.findIn K (.ref CTooHard) "__class__" = some (some (.builtin "object.__class__")))
    (ehnTooHard : PySem.W.specialIn K (.builtin "object.__class__") "__get__" = some (some (.builtin "getset_descriptor.__get__")))
    (ehtTooHard : PySem.W.takesIn K (.builtin "object.__class__") = some true)
    (ehmTooHard : PySem.W.mroIn K CTooHard (.type "object") = some true)
    (ybInvalidCount_InvalidCount : PySem.W.subIn K (.ref CInvalidCount) (.type "BaseException") = some true)
    (yiInvalidCount_InvalidCount : PySem.W.isClsIn K CInvalidCount = true)
    (ytInvalidCount_InvalidCount : PySem.W.typeIn K (.ref CInvalidCount) = some (.type "type"))
    (ysInvalidCount_InvalidCount : PySem.W.subIn K (.ref CInvalidCount) (.ref CInvalidCount) = some true)
    (ybTooHard_TooHard : PySem.W.subIn K (.ref CTooHard) (.type "BaseException") = some true)
    (yiTooHard_TooHard : PySem.W.isClsIn K CTooHard = true)
    (ytTooHard_TooHard : PySem.W.typeIn K (.ref CTooHard) = some (.type "type"))
    (ysTooHard_TooHard : PySem.W.subIn K (.ref CTooHard) (.ref CTooHard) = some true)
    (znInvalidCount_EvergateError : (Value.ref CInvalidCount == Value.ref CEvergateError) = false)
    (ziInvalidCount_EvergateError : PySem.W.isClsIn K CEvergateError = true)
    (ztInvalidCount_EvergateError : PySem.W.typeIn K (.ref CEvergateError) = some (.type "type"))
    (zsInvalidCount_EvergateError : PySem.W.subIn K (.ref CInvalidCount) (.ref CEvergateError) = some true)
    (znTooHard_EvergateError : (Value.ref CTooHard == Value.ref CEvergateError) = false)
    (ziTooHard_EvergateError : PySem.W.isClsIn K CEvergateError = true)
    (ztTooHard_EvergateError : PySem.W.typeIn K (.ref CEvergateError) = some (.type "type"))
    (zsTooHard_EvergateError : PySem.W.subIn K (.ref CTooHard) (.ref CEvergateError) = some true)
    (z_enumerate : PySem.W.nsIn K mainGlobals "enumerate" = some none)
    (z_int : PySem.W.nsIn K mainGlobals "int" = some none)
    (z_isinstance : PySem.W.nsIn K mainGlobals "isinstance" = some none)
    (z_len : PySem.W.nsIn K mainGlobals "len" = some none)
    (z_list : PySem.W.nsIn K mainGlobals "list" = some none)
    (z_max : PySem.W.nsIn K mainGlobals "max" = some none)
    (z_min : PySem.W.nsIn K mainGlobals "min" = some none)
    (z_range : PySem.W.nsIn K mainGlobals "range" = some none)
    (z_repr : PySem.W.nsIn K mainGlobals "repr" = some none)
    (z_set : PySem.W.nsIn K mainGlobals "set" = some none)
    (z_sorted : PySem.W.nsIn K mainGlobals "sorted" = some none)
    (z_tuple : PySem.W.nsIn K mainGlobals "tuple" = some none)
    (z_MOST_CUTS : PySem.W.nsIn K mainGlobals "MOST_CUTS" = some (some (.int 500 tMOST_CUTS)))
    (z_MOST_SIZE : PySem.W.nsIn K mainGlobals "MOST_SIZE" = some (some (.int 6 tMOST_SIZE)))
    (yhT : h.get? Pt = some { cls := .none, data := .fields #[] })
    : LawAtG l w K 7 63 "script" mg fa h := by
  have e := hfa.symm.trans (PySem.W.mg_of X G a19)
  cases e
  refine ⟨PySem.W.fnOf "law" "law" (defArgs s_law) (defBody s_law) (defScope s_law) .none kV19 dc19 pm19 an19 cd19 ct19, cq, Pt, spLaw K Pt, yhT, yNT, PySem.W.codeHd_of_K X yCH, fun s v => .of_eq rfl, fun H a ns hl hP hS => ⟨a, ns, rfl, hP, hS, hl, fun _ => rfl⟩, fun base _ _ TB => ?_⟩
  have T : { T : Txt l.prog K mg // T.f_law = fa ∧ T.d_law = PySem.W.fnOf "law" "law" (defArgs s_law) (defBody s_law) (defScope s_law) .none kV19 dc19 pm19 an19 cd19 ct19 ∧ T.ct = cq } := ⟨{
    f__law_digits := f1
    d__law_digits := _
    F__law_digits := fun_mk (st := s__law_digits) l1 c1 k1
    b__law_digits := (fun_mk (st := s__law_digits) l1 c1 k1).binds (ps := ["row", "bases"]) fun _ _ _ _ _ _ us hl => match us, hl with | [_, _], _ => rfl
    g__law_digits := PySem.W.mg_of X G a1
    k__law_digits := k1
    f_Net_init := f2
    d_Net_init := _
    F_Net_init := fun_mk (st := s_Net_init) l2 c2 k2
    b_Net_init := (fun_mk (st := s_Net_init) l2 c2 k2).binds (ps := ["self", "input_count", "latches", "ands"]) fun _ _ _ _ _ _ us hl => match us, hl with | [_, _, _, _], _ => rfl
    f__law_cell := f3
    d__law_cell := _
    F__law_cell := fun_mk (st := s__law_cell) l3 c3 k3
    b__law_cell := (fun_mk (st := s__law_cell) l3 c3 k3).binds (ps := ["script", "k"]) fun _ _ _ _ _ _ us hl => match us, hl with | [_, _], _ => rfl
    g__law_cell := PySem.W.mg_of X G a3
    k__law_cell := k3
    f__law_literal := f4
    d__law_literal := _
    F__law_literal := fun_mk (st := s__law_literal) l4 c4 k4
    b__law_literal := (fun_mk (st := s__law_literal) l4 c4 k4).binds (ps := ["row", "first_and", "count"]) fun _ _ _ _ _ _ us hl => match us, hl with | [_, _, _], _ => rfl
    g__law_literal := PySem.W.mg_of X G a4
    k__law_literal := k4
    f__law_ladders := f5
    d__law_ladders := _
    F__law_ladders := fun_mk (st := s__law_ladders) l5 c5 k5
    b__law_ladders := (fun_mk (st := s__law_ladders) l5 c5 k5).binds (ps := ["heights"]) fun _ _ _ _ _ _ us hl => match us, hl with | [_], _ => rfl
    g__law_ladders := PySem.W.mg_of X G a5
    k__law_ladders := k5
    f_Net_first_and := f6
    d_Net_first_and := _
    F_Net_first_and := fun_mk (st := s_Net_first_and) l6 c6 k6
    b_Net_first_and := (fun_mk (st := s_Net_first_and) l6 c6 k6).binds (ps := ["self"]) fun _ _ _ _ _ _ us hl => match us, hl with | [_], _ => rfl
    f_contains_other := f7
    d_contains_other := _
    F_contains_other := fun_mk (st := s_contains_other) l7 c7 k7
    b_contains_other := (fun_mk (st := s_contains_other) l7 c7 k7).binds (ps := ["cut", "others"]) fun _ _ _ _ _ _ us hl => match us, hl with | [_, _], _ => rfl
    g_contains_other := PySem.W.mg_of X G a7
    k_contains_other := k7
    ct := cq
    FC_united := ⟨⟨_, _, _, _, _, _, _, _, rfl, l8, c8⟩⟩
    f_united := f8
    d_united := _
    F_united := fun_mk (st := s_united) l8 c8 k8
    b_united := (fun_mk (st := s_united) l8 c8 k8).binds (ps := ["first", "second", "size"]) fun _ _ _ _ _ _ us hl => match us, hl with | [_, _, _], _ => rfl
    g_united := PySem.W.mg_of X G a8
    k_united := k8
    f_cuts_of := f9
    d_cuts_of := _
    F_cuts_of := fun_mk (st := s_cuts_of) l9 c9 k9
    b_cuts_of := (fun_mk (st := s_cuts_of) l9 c9 k9).binds (ps := ["net", "size"]) fun _ _ _ _ _ _ us hl => match us, hl with | [_, _], _ => rfl
    g_cuts_of := PySem.W.mg_of X G a9
    k_cuts_of := k9
    f__law_cut_off := f10
    d__law_cut_off := _
    F__law_cut_off := fun_mk (st := s__law_cut_off) l10 c10 k10
    b__law_cut_off := (fun_mk (st := s__law_cut_off) l10 c10 k10).binds (ps := ["ands", "first_and", "leaves"]) fun _ _ _ _ _ _ us hl => match us, hl with | [_, _, _], _ => rfl
    g__law_cut_off := PySem.W.mg_of X G a10
    k__law_cut_off := k10
    f__law_is_cut := f11
    d__law_is_cut := _
    F__law_is_cut := fun_mk (st := s__law_is_cut) l11 c11 k11
    b__law_is_cut := (fun_mk (st := s__law_is_cut) l11 c11 k11).binds (ps := ["ands", "first_and", "node", "leaves"]) fun _ _ _ _ _ _ us hl => match us, hl with | [_, _, _, _], _ => rfl
    g__law_is_cut := PySem.W.mg_of X G a11
    k__law_is_cut := k11
    f__law_many_cuts := f12
    d__law_many_cuts := _
    F__law_many_cuts := fun_mk (st := s__law_many_cuts) l12 c12 k12
    b__law_many_cuts := (fun_mk (st := s__law_many_cuts) l12 c12 k12).binds (ps := ["row"]) fun _ _ _ _ _ _ us hl => match us, hl with | [_], _ => rfl
    g__law_many_cuts := PySem.W.mg_of X G a12
    k__law_many_cuts := k12
    f__law_refused := f13
    d__law_refused := _
    F__law_refused := fun_mk (st := s__law_refused) l13 c13 k13
    b__law_refused := (fun_mk (st := s__law_refused) l13 c13 k13).binds (ps := ["net", "size"]) fun _ _ _ _ _ _ us hl => match us, hl with | [_, _], _ => rfl
    g__law_refused := PySem.W.mg_of X G a13
    k__law_refused := k13
    f__law_without_more := f14
    d__law_without_more := _
    F__law_without_more := fun_mk (st := s__law_without_more) l14 c14 k14
    b__law_without_more := (fun_mk (st := s__law_without_more) l14 c14 k14).binds (ps := ["unions"]) fun _ _ _ _ _ _ us hl => match us, hl with | [_], _ => rfl
    g__law_without_more := PySem.W.mg_of X G a14
    k__law_without_more := k14
    f__law_merged_cuts := f15
    d__law_merged_cuts := _
    F__law_merged_cuts := fun_mk (st := s__law_merged_cuts) l15 c15 k15
    b__law_merged_cuts := (fun_mk (st := s__law_merged_cuts) l15 c15 k15).binds (ps := ["ands", "first_and", "size"]) fun _ _ _ _ _ _ us hl => match us, hl with | [_, _, _], _ => rfl
    g__law_merged_cuts := PySem.W.mg_of X G a15
    k__law_merged_cuts := k15
    f__law_same := f16
    d__law_same := _
    F__law_same := fun_mk (st := s__law_same) l16 c16 k16
    b__law_same := (fun_mk (st := s__law_same) l16 c16 k16).binds (ps := ["actual", "due"]) fun _ _ _ _ _ _ us hl => match us, hl with | [_, _], _ => rfl
    g__law_same := PySem.W.mg_of X G a16
    k__law_same := k16
    f__law_greater := f17
    d__law_greater := _
    F__law_greater := fun_mk (st := s__law_greater) l17 c17 k17
    b__law_greater := (fun_mk (st := s__law_greater) l17 c17 k17).binds (ps := ["net", "ands", "first_and", "size"]) fun _ _ _ _ _ _ us hl => match us, hl with | [_, _, _, _], _ => rfl
    g__law_greater := PySem.W.mg_of X G a17
    k__law_greater := k17
    f__law_subsets := f18
    d__law_subsets := _
    F__law_subsets := fun_mk (st := s__law_subsets) l18 c18 k18
    b__law_subsets := (fun_mk (st := s__law_subsets) l18 c18 k18).binds (ps := ["limit", "size"]) fun _ _ _ _ _ _ us hl => match us, hl with | [_, _], _ => rfl
    g__law_subsets := PySem.W.mg_of X G a18
    k__law_subsets := k18
    f_law := fa
    d_law := _
    F_law := fun_mk (st := s_law) l19 c19 k19
    b_law := (fun_mk (st := s_law) l19 c19 k19).binds (ps := ["script"]) fun _ _ _ _ _ _ us hl => match us, hl with | [_], _ => rfl
    g_law := PySem.W.mg_of X G a19
    k_law := k19
    C_Net := CNet
    cl_Net := ⟨pgNet, hdNet, poNet, saNet⟩
    g_Net := PySem.W.mg_of X G aCNet
    at_Net_input_count := ⟨⟨pgNet, hdNet, poNet, saNet⟩, nNet_input_count⟩
    at_Net_latches := ⟨⟨pgNet, hdNet, poNet, saNet⟩, nNet_latches⟩
    at_Net_ands := ⟨⟨pgNet, hdNet, poNet, saNet⟩, nNet_ands⟩
    mk_Net := ⟨mkNet, a2, i2, kcNet⟩
    pp_Net_first_and := P6
    pr_Net_first_and := ⟨a6, pg6, pt6, _, pr6⟩
    C_EvergateError := CEvergateError
    g_EvergateError := PySem.W.mg_of X G aCEvergateError
    C_InvalidCount := CInvalidCount
    g_InvalidCount := PySem.W.mg_of X G aCInvalidCount
    C_TooHard := CTooHard
    g_TooHard := PySem.W.mg_of X G aCTooHard
    xq_InvalidCount := xqInvalidCount
    xk_InvalidCount := xkInvalidCount
    xs_InvalidCount := xsInvalidCount
    xt_InvalidCount := xtInvalidCount
    xe_InvalidCount := ⟨ehgInvalidCount, ehkInvalidCount, ehsInvalidCount, ehdInvalidCount, ehaInvalidCount, ehnInvalidCount, ehtInvalidCount, ehmInvalidCount⟩
    xq_TooHard := xqTooHard
    xk_TooHard := xkTooHard
    xs_TooHard := xsTooHard
    xt_TooHard := xtTooHard
    xe_TooHard := ⟨ehgTooHard, ehkTooHard, ehsTooHard, ehdTooHard, ehaTooHard, ehnTooHard, ehtTooHard, ehmTooHard⟩
    xp_InvalidCount_InvalidCount := exm_mk ybInvalidCount_InvalidCount yiInvalidCount_InvalidCount ytInvalidCount_InvalidCount ysInvalidCount_InvalidCount
    xp_TooHard_TooHard := exm_mk ybTooHard_TooHard yiTooHard_TooHard ytTooHard_TooHard ysTooHard_TooHard
    xi_InvalidCount_EvergateError := kit_mk znInvalidCount_EvergateError ziInvalidCount_EvergateError ztInvalidCount_EvergateError zsInvalidCount_EvergateError
    xi_TooHard_EvergateError := kit_mk znTooHard_EvergateError ziTooHard_EvergateError ztTooHard_EvergateError zsTooHard_EvergateError
    g_enumerate := PySem.W.mg_none_of X G z_enumerate
    g_int := PySem.W.mg_none_of X G z_int
    g_isinstance := PySem.W.mg_none_of X G z_isinstance
    g_len := PySem.W.mg_none_of X G z_len
    g_list := PySem.W.mg_none_of X G z_list
    g_max := PySem.W.mg_none_of X G z_max
    g_min := PySem.W.mg_none_of X G z_min
    g_range := PySem.W.mg_none_of X G z_range
    g_repr := PySem.W.mg_none_of X G z_repr
    g_set := PySem.W.mg_none_of X G z_set
    g_sorted := PySem.W.mg_none_of X G z_sorted
    g_tuple := PySem.W.mg_none_of X G z_tuple
    t_MOST_CUTS := tMOST_CUTS
    g_MOST_CUTS := PySem.W.mg_of X G z_MOST_CUTS
    t_MOST_SIZE := tMOST_SIZE
    g_MOST_SIZE := PySem.W.mg_of X G z_MOST_SIZE
  }, rfl, rfl, rfl⟩
  obtain ⟨T, e1, e2, e3⟩ := T
  rw [← e1, ← e2]
  exact ok_top T (by rw [e3]; exact TB)
theorem walk {l : PySem.W.OpenLaw} {q : Program} {loose : List Str} {XP : (Str → Option Value) → Heap → Prop} {YP : World → Heap → Prop} {d : DefRec} {K : Params → PySem.W.Frag} (hn : l.most = some 63) (hdf : d.params.defaults = [])
    (hY : ∀ (w : World) (h : Heap), YP w h → (K w.params).In h)
    (F : ∀ (w : World) (mg : Str → Option Value) (fa : Addr) (h : Heap), YP w h → (K w.params).In h → h.Ns mainGlobals mg → mg d.name = some (.ref fa) → LawAtG l w (K w.params) 7 63 "script" mg fa h) :
    PySem.W.WalkO q loose XP YP l.row.toRowW d [] (fun f vs => PySem.call f vs) :=
  Ty.walk_ofGT (n := 63) (k := 7) (x := "script") hn (by decide) hdf ⟨rfl, by decide, by decide⟩ hY F
end K56
open PySem PySem.W PyProof.Rows in
set_option maxRecDepth 100000 in
set_option maxHeartbeats 0 in
theorem PySem.Challenge.cw_evergate_k56_cuts_holds : PySem.Challenge.rw_evergate_k56_cuts.Holds := by
  w_on; o_law; k_head; (case hw => w_witness2)
  k_fill
  refine K56.walk (l := PySem.Challenge.rw_evergate_k56_cuts) rfl rfl (fun w h Y => PySem.W.km_in_of Y) ?F
  case F =>
    intro w mg fa h Y KX G hmg
    refine' K56.all_mk KX G hmg ?aCNet ?aCEvergateError ?aCInvalidCount ?aCTooHard ?a1 ?l1 ?c1 ?k1 ?a2 ?l2 ?c2 ?k2 ?i2 ?a3 ?l3 ?c3 ?k3 ?a4 ?l4 ?c4 ?k4 ?a5 ?l5 ?c5 ?k5 ?a6 ?pg6 ?pt6 ?pr6 ?l6 ?c6 ?k6 ?a7 ?l7 ?c7 ?k7 ?a8 ?l8 ?c8 ?yCH ?yNT ?k8 ?a9 ?l9 ?c9 ?k9 ?a10 ?l10 ?c10 ?k10 ?a11 ?l11 ?c11 ?k11 ?a12 ?l12 ?c12 ?k12 ?a13 ?l13 ?c13 ?k13 ?a14 ?l14 ?c14 ?k14 ?a15 ?l15 ?c15 ?k15 ?a16 ?l16 ?c16 ?k16 ?a17 ?l17 ?c17 ?k17 ?a18 ?l18 ?c18 ?k18 ?a19 ?l19 ?c19 ?k19 ?pgNet ?hdNet ?poNet ?saNet ?mkNet ?kcNet ?nNet_input_count ?nNet_latches ?nNet_ands ?xqInvalidCount ?xkInvalidCount ?xsInvalidCount ?xtInvalidCount ?ehgInvalidCount ?ehkInvalidCount ?ehsInvalidCount ?ehdInvalidCount ?ehaInvalidCount ?ehnInvalidCount ?ehtInvalidCount ?ehmInvalidCount ?xqTooHard ?xkTooHard ?xsTooHard ?xtTooHard ?ehgTooHard ?ehkTooHard ?ehsTooHard ?ehdTooHard ?ehaTooHard ?ehnTooHard ?ehtTooHard ?ehmTooHard ?ybInvalidCount_InvalidCount ?yiInvalidCount_InvalidCount ?ytInvalidCount_InvalidCount ?ysInvalidCount_InvalidCount ?ybTooHard_TooHard ?yiTooHard_TooHard ?ytTooHard_TooHard ?ysTooHard_TooHard ?znInvalidCount_EvergateError ?ziInvalidCount_EvergateError ?ztInvalidCount_EvergateError ?zsInvalidCount_EvergateError ?znTooHard_EvergateError ?ziTooHard_EvergateError ?ztTooHard_EvergateError ?zsTooHard_EvergateError ?z_enumerate ?z_int ?z_isinstance ?z_len ?z_list ?z_max ?z_min ?z_range ?z_repr ?z_set ?z_sorted ?z_tuple ?z_MOST_CUTS ?z_MOST_SIZE ?yhT
    (case aCNet => k_is)
    (case aCEvergateError => k_is)
    (case aCInvalidCount => k_is)
    (case aCTooHard => k_is)
    (case a1 => k_is)
    (case l1 => k_is)
    (case c1 => k_is)
    (case k1 => k_is)
    (case a2 => k_is)
    (case l2 => k_is)
    (case c2 => k_is)
    (case k2 => k_is)
    (case i2 => k_is)
    (case a3 => k_is)
    (case l3 => k_is)
    (case c3 => k_is)
    (case k3 => k_is)
    (case a4 => k_is)
    (case l4 => k_is)
    (case c4 => k_is)
    (case k4 => k_is)
    (case a5 => k_is)
    (case l5 => k_is)
    (case c5 => k_is)
    (case k5 => k_is)
    (case a6 => k_is)
    (case pg6 => k_is)
    (case pt6 => k_is)
    (case pr6 => k_is)
    (case l6 => k_is)
    (case c6 => k_is)
    (case k6 => k_is)
    (case a7 => k_is)
    (case l7 => k_is)
    (case c7 => k_is)
    (case k7 => k_is)
    (case a8 => k_is)
    (case l8 => k_is)
    (case c8 => k_is)
    (case yCH => first | k_is | kernel_rfl)
    (case yNT => first | rfl | kernel_rfl | decide +kernel)
    (case k8 => k_is)
    (case a9 => k_is)
    (case l9 => k_is)
    (case c9 => k_is)
    (case k9 => k_is)
    (case a10 => k_is)
    (case l10 => k_is)
    (case c10 => k_is)
    (case k10 => k_is)
    (case a11 => k_is)
    (case l11 => k_is)
    (case c11 => k_is)
    (case k11 => k_is)
    (case a12 => k_is)
    (case l12 => k_is)
    (case c12 => k_is)
    (case k12 => k_is)
    (case a13 => k_is)
    (case l13 => k_is)
    (case c13 => k_is)
    (case k13 => k_is)
    (case a14 => k_is)
    (case l14 => k_is)
    (case c14 => k_is)
    (case k14 => k_is)
    (case a15 => k_is)
    (case l15 => k_is)
    (case c15 => k_is)
    (case k15 => k_is)
    (case a16 => k_is)
    (case l16 => k_is)
    (case c16 => k_is)
    (case k16 => k_is)
    (case a17 => k_is)
    (case l17 => k_is)
    (case c17 => k_is)
    (case k17 => k_is)
    (case a18 => k_is)
    (case l18 => k_is)
    (case c18 => k_is)
    (case k18 => k_is)
    (case a19 => k_is)
    (case l19 => k_is)
    (case c19 => k_is)
    (case k19 => k_is)
    (case pgNet => k_is)
    (case hdNet => k_is)
    (case poNet => k_is)
    (case saNet => k_is)
    (case mkNet => k_is)
    (case kcNet => k_is)
    (case nNet_input_count => k_is)
    (case nNet_latches => k_is)
    (case nNet_ands => k_is)
    (case xqInvalidCount => k_exc)
    (case xkInvalidCount => k_is)
    (case xsInvalidCount => k_is)
    (case xtInvalidCount => k_is)
    (case ehgInvalidCount => k_is)
    (case ehkInvalidCount => k_is)
    (case ehsInvalidCount => k_is)
    (case ehdInvalidCount => k_is)
    (case ehaInvalidCount => k_is)
    (case ehnInvalidCount => k_is)
    (case ehtInvalidCount => k_is)
    (case ehmInvalidCount => k_is)
    (case xqTooHard => k_exc)
    (case xkTooHard => k_is)
    (case xsTooHard => k_is)
    (case xtTooHard => k_is)
    (case ehgTooHard => k_is)
    (case ehkTooHard => k_is)
    (case ehsTooHard => k_is)
    (case ehdTooHard => k_is)
    (case ehaTooHard => k_is)
    (case ehnTooHard => k_is)
    (case ehtTooHard => k_is)
    (case ehmTooHard => k_is)
    (case ybInvalidCount_InvalidCount => k_is)
    (case yiInvalidCount_InvalidCount => k_is)
    (case ytInvalidCount_InvalidCount => k_is)
    (case ysInvalidCount_InvalidCount => k_is)
    (case ybTooHard_TooHard => k_is)
    (case yiTooHard_TooHard => k_is)
    (case ytTooHard_TooHard => k_is)
    (case ysTooHard_TooHard => k_is)
    (case znInvalidCount_EvergateError => rfl)
    (case ziInvalidCount_EvergateError => k_is)
    (case ztInvalidCount_EvergateError => k_is)
    (case zsInvalidCount_EvergateError => k_is)
    (case znTooHard_EvergateError => rfl)
    (case ziTooHard_EvergateError => k_is)
    (case ztTooHard_EvergateError => k_is)
    (case zsTooHard_EvergateError => k_is)
    (case z_enumerate => k_is)
    (case z_int => k_is)
    (case z_isinstance => k_is)
    (case z_len => k_is)
    (case z_list => k_is)
    (case z_max => k_is)
    (case z_min => k_is)
    (case z_range => k_is)
    (case z_repr => k_is)
    (case z_set => k_is)
    (case z_sorted => k_is)
    (case z_tuple => k_is)
    (case z_MOST_CUTS => k_is)
    (case z_MOST_SIZE => k_is)
    (case yhT => exact PySem.W.km_tabs_of Y _ List.mem_cons_self)
#print axioms PySem.Challenge.cw_evergate_k56_cuts_holds

