import PyProof.Rows.All
import Wide.All
import OpenK.AllK
import Wide.FinOn
import HandS.ForMost
import HandS.ForExc
import HandS.Walk
import PyProof.Rows.TupDisplay
import HandS.IsInst
import HandS.Words
import HandS.ExcInit
import KE.KExcSuper
import KE.KSuper
import HandS.ExcIs
import HandS.ExcField
import HandS.TryOnly
import HandS.SetFor
import HandS.Strs
import HandS.Conv
import HandS.FStr
import KE.KExcIs
import HandS.Property
import HandS.SortKw
import PyProof.WalkInts
import KE.KMinKey
import HandS.Text
import HandS.RevRange
import HandS.Codes
import HandS.OwnEq
import HandS.More
import HandS.Wide
import KE.KeyNested
import HandS.TupLen
import HandS.Ends
import HandS.RaiseMore
import PyProof.ReprRoads
import HandS.TupAny
import HandS.Iter
import PyProof.EnumMake
import PyProof.Draws
import KE.GoesMore
import HandS.Lambda
import HandS.EndTab
import KE.KNestM
import KE.KLam
import HandS.SortInts
import PyProof.ListTruth
import PyProof.P3In
import KE.SortData
import PyProof.Rows.RuleM_int
import PyProof.LongRange
import HandS.ExcValue
import KE.DataMinMax
import HandS.MapJoin
import PySem.Challenge.RW_evergate_k68_coded_machines
import KE.BitLaws
import PyProof.ReprLen
import PyProof.P3Eq
import KE.RegKSuper
set_option Elab.async false
set_option linter.all false
set_option maxRecDepth 100000
set_option maxHeartbeats 4000000
/-! Ty1 -/
namespace Ty
open PySem PySem.Spec L2

/-! ### slots: what is known of a value -/
structure Slot where
  P : Hp → Hp → List Addr → Option V → Prop
  mono : ∀ {F H F' H' : Hp} {fp : List Addr} {o : Option V}, Same F F' → Same H H' → P F H fp o → P F' H' fp o
  st : Prop
  mm : st → ∀ {F H F' H' : Hp} {fp : List Addr} {o : Option V}, Same F F' → (∀ a ∈ fp, H' a = H a) → P F H fp o → P F' H' fp o

inductive Slots (F H : Hp) : List Addr → List (Option V) → List Slot → Prop
  | nil : Slots F H [] [] []
  | cons {fp os : List Addr} {o : Option V} {σ : List (Option V)} {s : Slot} {Γ : List Slot} : s.P F H fp o → Slots F H os σ Γ → Slots F H (fp ++ os) (o :: σ) (s :: Γ)

theorem Slots.mono {F H F' H' : Hp} (hF : Same F F') (hH : Same H H') : ∀ {os σ Γ}, Slots F H os σ Γ → Slots F' H' os σ Γ
  | _, _, _, .nil => .nil
  | _, _, _, .cons p r => .cons (Slot.mono _ hF hH p) (Slots.mono hF hH r)

/-- all slots of the list bear a change elsewhere -/
def Stb (Γ : List Slot) : Prop := ∀ s ∈ Γ, s.st
theorem Stb.nil : Stb [] := fun _ h => nomatch h
theorem Stb.cons {s : Slot} {Γ : List Slot} (h : s.st) (r : Stb Γ) : Stb (s :: Γ) := fun x hx => by
  rcases List.mem_cons.mp hx with rfl | hx
  · exact h
  · exact r x hx
theorem Slots.mm {F H F' H' : Hp} (hF : Same F F') {os σ Γ} (h : Slots F H os σ Γ) : Stb Γ → (∀ a ∈ os, H' a = H a) → Slots F' H' os σ Γ := by
  induction h with
  | nil => intro _ _; exact .nil
  | @cons fp os o σ s Γ p r ih =>
    intro b k
    exact .cons (s.mm (b s List.mem_cons_self) hF (fun a ha => k a (List.mem_append_left _ ha)) p)
      (ih (fun x hx => b x (List.mem_cons_of_mem _ hx)) (fun a ha => k a (List.mem_append_right _ ha)))
theorem Slots.length {F H : Hp} : ∀ {os σ Γ}, Slots F H os σ Γ → σ.length = Γ.length
  | _, _, _, .nil => rfl
  | _, _, _, .cons _ r => congrArg (· + 1) r.length
theorem Slots.append {F H : Hp} : ∀ {os σ Γ os' σ' Γ'}, Slots F H os σ Γ → Slots F H os' σ' Γ' → Slots F H (os ++ os') (σ ++ σ') (Γ ++ Γ')
  | _, _, _, _, _, _, .nil, s => s
  | _, _, _, _, _, _, .cons p r, s => by
    rw [List.append_assoc]
    exact .cons p (Slots.append r s)

/-- the i-th slot taken out, and something put in its place -/
theorem Slots.at {F H : Hp} : ∀ {os σ Γ i s}, Slots F H os σ Γ → Γ[i]? = some s →
    ∃ o fp r, σ[i]? = some o ∧ s.P F H fp o ∧ os.Perm (fp ++ r) ∧
      ∀ {F' H' : Hp} {fp' : List Addr} {o' : Option V} {s' : Slot}, s'.P F' H' fp' o' →
        (∀ s0 ∈ Γ, ∀ fp0 o0, (∀ a ∈ fp0, a ∈ r) → s0.P F H fp0 o0 → s0.P F' H' fp0 o0) →
        ∃ os', Slots F' H' os' (σ.set i o') (Γ.set i s') ∧ os'.Perm (fp' ++ r)
  | _, _, _, i, s, .nil, e => by simp at e
  | _, _, _, 0, s, .cons (fp := fp) (os := os) (o := o) (σ := σ) (s := s0) (Γ := Γ) p r, e => by
    simp at e; subst e
    refine ⟨o, fp, os, rfl, p, List.Perm.refl _, ?_⟩
    intro F' H' fp' o' s' q k
    have all : ∀ {os σ Γ'}, Slots F H os σ Γ' → (∀ s ∈ Γ', ∀ fp0 o0, (∀ a ∈ fp0, a ∈ os) → s.P F H fp0 o0 → s.P F' H' fp0 o0) → Slots F' H' os σ Γ' := by
      intro os σ Γ' h
      induction h with
      | nil => intro _; exact .nil
      | cons p r ih =>
        intro k
        exact .cons (k _ List.mem_cons_self _ _ (fun a ha => List.mem_append_left _ ha) p) (ih fun s hs fp0 o0 hf q => k s (List.mem_cons_of_mem _ hs) fp0 o0 (fun a ha => List.mem_append_right _ (hf a ha)) q)
    exact ⟨fp' ++ os, .cons q (all r fun s hs fp0 o0 hf q => k s (List.mem_cons_of_mem _ hs) fp0 o0 hf q), List.Perm.refl _⟩
  | _, _, _, i + 1, s, .cons (fp := fp) (os := os) (o := o) (σ := σ) (s := s0) (Γ := Γ) p r, e => by
    obtain ⟨o1, fp1, r1, e1, p1, q1, k1⟩ := Slots.at (i := i) (s := s) r (by simpa using e)
    refine ⟨o1, fp1, fp ++ r1, by simpa using e1, p1, ?_, ?_⟩
    · refine (List.Perm.append_left fp q1).trans ?_
      rw [← List.append_assoc, ← List.append_assoc]
      exact List.Perm.append_right r1 List.perm_append_comm
    · intro F' H' fp' o' s' q k
      obtain ⟨os', h1, h2⟩ := k1 q (fun s hs fp0 o0 hf q => k s (List.mem_cons_of_mem _ hs) fp0 o0 (fun a ha => List.mem_append_right _ (hf a ha)) q)
      refine ⟨fp ++ os', .cons (k s0 List.mem_cons_self fp o (fun a ha => List.mem_append_left _ ha) p) h1, ?_⟩
      refine (List.Perm.append_left fp h2).trans ?_
      rw [← List.append_assoc, ← List.append_assoc]
      exact List.Perm.append_right r1 List.perm_append_comm

/-! ### the world: the caller's heaps, the frozen heap F, the heap H, what is owned -/
structure Bs where
  F : Hp
  H : Hp
  os : List Addr
structure Wo (B : Bs) (F H : Hp) (os : List Addr) : Prop where
  sub : Same F H
  nd : os.Nodup
  oF : ∀ a ∈ os, F a = none
  oH : ∀ a ∈ os, ∃ o, H a = some o
  bF : Same B.F F
  bH : ∀ a o, B.H a = some o → a ∉ B.os → H a = some o
  bN : ∀ a o, F a = some o → B.F a = some o ∨ B.H a = none ∨ a ∈ B.os
  bO : ∀ a ∈ os, B.H a = none ∨ a ∈ B.os
section
variable {B : Bs} {F H F' H' : Hp} {os os' : List Addr}
theorem Wo.perm (W : Wo B F H os) (p : os.Perm os') : Wo B F H os' :=
  ⟨W.sub, p.nodup_iff.mp W.nd, fun a h => W.oF a (p.mem_iff.mpr h), fun a h => W.oH a (p.mem_iff.mpr h), W.bF, W.bH, W.bN, fun a h => W.bO a (p.mem_iff.mpr h)⟩
theorem Wo.drop {a b : List Addr} (W : Wo B F H (a ++ b)) : Wo B F H b :=
  ⟨W.sub, (List.nodup_append.mp W.nd).2.1, fun x h => W.oF x (List.mem_append_right _ h), fun x h => W.oH x (List.mem_append_right _ h), W.bF, W.bH, W.bN, fun x h => W.bO x (List.mem_append_right _ h)⟩
theorem Wo.dropR {a b : List Addr} (W : Wo B F H (a ++ b)) : Wo B F H a := (W.perm List.perm_append_comm).drop
theorem Wo.bFree (W : Wo B F H os) {p : Addr} (h : H p = none) : B.H p = none ∨ p ∈ B.os := by
  cases q : B.H p with
  | none => exact .inl rfl
  | some o =>
    refine .inr ?_
    by_cases hp : p ∈ B.os
    · exact hp
    · rw [W.bH p o q hp] at h; cases h
theorem Wo.free (W : Wo B F H os) {p : Addr} (h : H p = none) : F p = none ∧ p ∉ os := by
  refine ⟨?_, fun hp => ?_⟩
  · cases q : F p with
    | none => rfl
    | some o => rw [W.sub p o q] at h; cases h
  · obtain ⟨o, e⟩ := W.oH p hp
    rw [e] at h; cases h
theorem same_upd {H : Hp} {p : Addr} {o : HO} (h : H p = none) : Same H (upd H p o) := fun a u e => by
  rw [upd_ne (ne_of_none e h)]; exact e
/-- a new frozen object -/
theorem Wo.newF (W : Wo B F H os) {p : Addr} {o : HO} (h : H p = none) : Wo B (upd F p o) (upd H p o) os := by
  obtain ⟨f0, n0⟩ := W.free h
  refine ⟨fun a u e => ?_, W.nd, fun a ha => ?_, fun a ha => ?_, fun a u e => ?_, fun a u e hb => ?_, fun a u e => ?_, W.bO⟩
  · by_cases q : a = p
    · subst q; rw [upd_same] at e ⊢; exact e
    · rw [upd_ne q] at e ⊢; exact W.sub a u e
  · rw [upd_ne (fun q => n0 (by rw [← q]; exact ha))]; exact W.oF a ha
  · rw [upd_ne (fun q => n0 (by rw [← q]; exact ha))]; exact W.oH a ha
  · exact same_upd f0 a u (W.bF a u e)
  · exact same_upd h a u (W.bH a u e hb)
  · by_cases q : a = p
    · subst q; exact .inr (W.bFree h)
    · rw [upd_ne q] at e; exact W.bN a u e
/-- a new owned object -/
theorem Wo.newO (W : Wo B F H os) {p : Addr} {o : HO} (h : H p = none) : Wo B F (upd H p o) (p :: os) := by
  obtain ⟨f0, n0⟩ := W.free h
  refine ⟨fun a u e => same_upd h a u (W.sub a u e), List.nodup_cons.mpr ⟨n0, W.nd⟩, fun a ha => ?_, fun a ha => ?_, W.bF, fun a u e hb => same_upd h a u (W.bH a u e hb), W.bN, fun a ha => ?_⟩
  · rcases List.mem_cons.mp ha with rfl | ha
    · exact f0
    · exact W.oF a ha
  · rcases List.mem_cons.mp ha with rfl | ha
    · exact ⟨o, upd_same⟩
    · obtain ⟨u, e⟩ := W.oH a ha; exact ⟨u, same_upd h a u e⟩
  · rcases List.mem_cons.mp ha with rfl | ha
    · exact W.bFree h
    · exact W.bO a ha
/-- an owned object changes -/
theorem Wo.write (W : Wo B F H os) {p : Addr} {o : HO} (hp : p ∈ os) : Wo B F (upd H p o) os := by
  have nf : ∀ a u, F a = some u → a ≠ p := fun a u e q => by subst q; rw [W.oF a hp] at e; cases e
  refine ⟨fun a u e => by rw [upd_ne (nf a u e)]; exact W.sub a u e, W.nd, W.oF, fun a ha => ?_, W.bF, fun a u e hb => ?_, W.bN, W.bO⟩
  · by_cases q : a = p
    · subst q; exact ⟨o, upd_same⟩
    · rw [upd_ne q]; exact W.oH a ha
  · have q : a ≠ p := fun q => by
      subst q
      rcases W.bO a hp with z | z
      · rw [z] at e; cases e
      · exact hb z
    rw [upd_ne q]; exact W.bH a u e hb
/-- owned objects become frozen -/
theorem Wo.freeze {a b : List Addr} (W : Wo B F H (a ++ b)) : ∃ F', Wo B F' H b ∧ Same F F' ∧ ∀ x ∈ a, F' x = H x := by
  classical
  have nd := List.nodup_append.mp W.nd
  refine ⟨fun x => if x ∈ a then H x else F x, ⟨fun x o e => ?_, nd.2.1, fun x hx => ?_, fun x hx => W.oH x (List.mem_append_right _ hx), fun x o e => ?_, W.bH, fun x o e => ?_, fun x hx => W.bO x (List.mem_append_right _ hx)⟩, fun x o e => ?_, fun x hx => if_pos hx⟩
  · by_cases q : x ∈ a
    · simp only [q, if_true] at e; exact e
    · simp only [q, if_false] at e; exact W.sub x o e
  · have q : x ∉ a := fun q => (nd.2.2 x q x hx) rfl
    simp only [q, if_false]; exact W.oF x (List.mem_append_right _ hx)
  · have q : x ∉ a := fun q => by
      have z := W.oF x (List.mem_append_left _ q)
      rw [W.bF x o e] at z; cases z
    simp only [q, if_false]; exact W.bF x o e
  · by_cases q : x ∈ a
    · exact .inr (W.bO x (List.mem_append_left _ q))
    · simp only [q, if_false] at e; exact W.bN x o e
  · have q : x ∉ a := fun q => by
      have z := W.oF x (List.mem_append_left _ q)
      rw [e] at z; cases z
    simp only [q, if_false]; exact e
end

/-- a state told from an entry within -/
theorem Wo.trans {B : Bs} {F1 H1 F2 H2 : Hp} {os1 os2 : List Addr} (W1 : Wo B F1 H1 os1) (W2 : Wo ⟨F1, H1, os1⟩ F2 H2 os2) : Wo B F2 H2 os2 := by
  refine ⟨W2.sub, W2.nd, W2.oF, W2.oH, W1.bF.trans W2.bF, fun a o e hb => ?_, fun a o e => ?_, fun a ha => ?_⟩
  · refine W2.bH a o (W1.bH a o e hb) fun z => ?_
    rcases W1.bO a z with q | q
    · rw [q] at e; cases e
    · exact hb q
  · rcases W2.bN a o e with q | q | q
    · exact W1.bN a o q
    · exact .inr (W1.bFree q)
    · exact .inr (W1.bO a q)
  · rcases W2.bO a ha with q | q
    · exact W1.bFree q
    · exact W1.bO a q
theorem Wo.self {B : Bs} {F H : Hp} {os : List Addr} (W : Wo B F H os) : Wo ⟨F, H, os⟩ F H os :=
  ⟨W.sub, W.nd, W.oF, W.oH, fun _ _ h => h, fun _ _ h _ => h, fun _ _ h => .inl h, fun _ h => .inr h⟩

/-! ### the state of a frame -/
def Sta (B : Bs) (F H : Hp) (σ : List (Option V)) (Γ : List Slot) : Prop := ∃ os, Wo B F H os ∧ Slots F H os σ Γ
end Ty

/-! Ty2 -/
namespace Ty
open PySem PySem.Spec L2

/-! ### kinds of values -/
/-- frozen data: what of the frozen heap makes v the datum a -/
structure VP (α : Type) where
  R : Hp → V → α → Prop
  mono : ∀ {F F' : Hp} {v : V} {a : α}, Same F F' → R F v a → R F' v a
/-- owned data: at the addresses fp -/
structure OP (α : Type) where
  P : Hp → Hp → List Addr → V → α → Prop
  mono : ∀ {F H F' H' : Hp} {fp : List Addr} {v : V} {a : α}, Same F F' → Same H H' → P F H fp v a → P F' H' fp v a
  mm : ∀ {F H F' H' : Hp} {fp : List Addr} {v : V} {a : α}, Same F F' → (∀ x ∈ fp, H' x = H x) → P F H fp v a → P F' H' fp v a
section
variable {α β γ : Type}
def val (p : VP α) (a : α) : Slot where
  P := fun F _ fp o => fp = [] ∧ ∃ v, o = some v ∧ p.R F v a
  mono := fun hF _ h => let ⟨e, v, ev, r⟩ := h; ⟨e, v, ev, p.mono hF r⟩
  st := True
  mm := fun _ {_ _ _ _ _ _} hF _ h => let ⟨e, v, ev, r⟩ := h; ⟨e, v, ev, p.mono hF r⟩
def dead : Slot where
  P := fun _ _ fp _ => fp = []
  mono := fun {_ _ _ _ _ _} _ _ h => h
  st := True
  mm := fun {_ _ _ _ _ _ _} _ _ h => h
def own (O : OP α) (a : α) : Slot where
  P := fun F H fp o => ∃ v, o = some v ∧ O.P F H fp v a
  mono := fun hF hH h => let ⟨v, ev, r⟩ := h; ⟨v, ev, O.mono hF hH r⟩
  st := True
  mm := fun _ {_ _ _ _ _ _} hF hH h => let ⟨v, ev, r⟩ := h; ⟨v, ev, O.mm hF hH r⟩
/-- something owned that is looked at: its data by the whole heap -/
def bor (p : VP α) (a : α) : Slot where
  P := fun _ H fp o => fp = [] ∧ ∃ v, o = some v ∧ p.R H v a
  mono := fun _ hH h => let ⟨e, v, ev, r⟩ := h; ⟨e, v, ev, p.mono hH r⟩
  st := False
  mm := fun h => h.elim

theorem Paired.mon {α β : Type} {R R' : α → β → Prop} (h : ∀ a b, R a b → R' a b) : ∀ {xs ys}, Paired R xs ys → Paired R' xs ys
  | _, _, .nil => .nil
  | _, _, .cons r t => .cons (h _ _ r) (Paired.mon h t)
def pInt : VP Int := ⟨fun _ v i => v = .int i, fun _ h => h⟩
def pBl : VP Bool := ⟨fun _ v b => v = .bl b, fun _ h => h⟩
def pStr : VP Str := ⟨fun _ v s => v = .str s, fun _ h => h⟩
def pNon : VP Unit := ⟨fun _ v _ => v = .non, fun _ h => h⟩
def pOpt (p : VP α) : VP (Option α) where
  R := fun F v o => match o with | none => v = .non | some a => p.R F v a ∧ v ≠ .non
  mono := fun {F F' v a} hF h => by
    cases a with
    | none => exact h
    | some a => exact ⟨p.mono hF h.1, h.2⟩
def pL (p : VP α) : VP (List α) where
  R := fun F v xs => ∃ l vs, v = .ref l ∧ F l = some (.lst vs) ∧ Paired (p.R F) vs xs
  mono := fun hF h => let ⟨l, vs, e, h1, h2⟩ := h; ⟨l, vs, e, hF _ _ h1, Paired.mon (fun _ _ r => p.mono hF r) h2⟩
/-- a tuple of any length -/
def pTup (p : VP α) : VP (List α) where
  R := fun F v xs => ∃ l vs, v = .ref l ∧ F l = some (.tup vs) ∧ Paired (p.R F) vs xs
  mono := fun hF h => let ⟨l, vs, e, h1, h2⟩ := h; ⟨l, vs, e, hF _ _ h1, Paired.mon (fun _ _ r => p.mono hF r) h2⟩
def pT2 (p : VP α) (q : VP β) : VP (α × β) where
  R := fun F v x => ∃ l a b, v = .ref l ∧ F l = some (.tup [a, b]) ∧ p.R F a x.1 ∧ q.R F b x.2
  mono := fun hF h => let ⟨l, a, b, e, h1, h2, h3⟩ := h; ⟨l, a, b, e, hF _ _ h1, p.mono hF h2, q.mono hF h3⟩
def pT3 (p : VP α) (q : VP β) (r : VP γ) : VP (α × β × γ) where
  R := fun F v x => ∃ l a b c, v = .ref l ∧ F l = some (.tup [a, b, c]) ∧ p.R F a x.1 ∧ q.R F b x.2.1 ∧ r.R F c x.2.2
  mono := fun hF h => let ⟨l, a, b, c, e, h1, h2, h3, h4⟩ := h; ⟨l, a, b, c, e, hF _ _ h1, p.mono hF h2, q.mono hF h3, r.mono hF h4⟩
/-- the script: it may be locked -/
def pScr (K : PySem.W.Frag) : VP (List Int) where
  R := fun F v ns => ∃ l, v = .ref l ∧ SqL K F l (ns.map V.int)
  mono := fun hF h => let ⟨l, e, h1⟩ := h; ⟨l, e, Same.seq hF h1⟩
/-- an owned list of frozen items -/
def oL (p : VP α) : OP (List α) where
  P := fun F H fp v xs => ∃ l vs, v = .ref l ∧ fp = [l] ∧ H l = some (.lst vs) ∧ Paired (p.R F) vs xs
  mono := fun hF hH h => let ⟨l, vs, e, ef, h1, h2⟩ := h; ⟨l, vs, e, ef, hH _ _ h1, Paired.mon (fun _ _ r => p.mono hF r) h2⟩
  mm := fun hF hH h => let ⟨l, vs, e, ef, h1, h2⟩ := h; ⟨l, vs, e, ef, by rw [hH l (by rw [ef]; exact List.mem_cons_self)]; exact h1, Paired.mon (fun _ _ r => p.mono hF r) h2⟩
/-- an owned list that is looked at: its items frozen -/
def borL (p : VP α) (xs : List α) : Slot where
  P := fun F H fp o => fp = [] ∧ ∃ l vs, o = some (.ref l) ∧ H l = some (.lst vs) ∧ Paired (p.R F) vs xs
  mono := fun hF hH h => let ⟨ef, l, vs, e, h1, h2⟩ := h; ⟨ef, l, vs, e, hH _ _ h1, Paired.mon (fun _ _ r => p.mono hF r) h2⟩
  st := False
  mm := fun h => h.elim
end
abbrev vInt (i : Int) : Slot := val pInt i
abbrev vBl (b : Bool) : Slot := val pBl b
abbrev vStr (s : Str) : Slot := val pStr s
abbrev vNon : Slot := val pNon ()

/-! ### views -/
section
variable {α β γ : Type}
/-- a list whose items are frozen, frozen or owned itself -/
def LV (s : Slot) (p : VP α) (xs : List α) : Prop := ∀ F H fp o, Same F H → s.P F H fp o → ∃ l vs, o = some (.ref l) ∧ H l = some (.lst vs) ∧ Paired (p.R F) vs xs
theorem LV.val {p : VP α} {xs : List α} : LV (val (pL p) xs) p xs := fun F H fp o hS h => let ⟨_, v, e, l, vs, ev, h1, h2⟩ := h; ⟨l, vs, by rw [e, ev], hS _ _ h1, h2⟩
theorem LV.own {p : VP α} {xs : List α} : LV (own (oL p) xs) p xs := fun F H fp o _ h => let ⟨v, e, l, vs, ev, _, h1, h2⟩ := h; ⟨l, vs, by rw [e, ev], h1, h2⟩
theorem LV.bor {p : VP α} {xs : List α} : LV (borL p xs) p xs := fun F H fp o _ h => let ⟨_, l, vs, e, h1, h2⟩ := h; ⟨l, vs, e, h1, h2⟩
/-- a list that may be locked -/
def SV (K : PySem.W.Frag) (s : Slot) (p : VP α) (xs : List α) : Prop := ∀ F H fp o, Same F H → s.P F H fp o → ∃ l vs, o = some (.ref l) ∧ SqL K H l vs ∧ Paired (p.R F) vs xs
theorem LV.sv {K : PySem.W.Frag} {s : Slot} {p : VP α} {xs : List α} (h : LV s p xs) : SV K s p xs := fun F H fp o hS q => let ⟨l, vs, e, h1, h2⟩ := h F H fp o hS q; ⟨l, vs, e, SqL.of h1, h2⟩
theorem paired_map_int {F : Hp} : ∀ (ns : List Int), Paired (pInt.R F) (ns.map V.int) ns
  | [] => .nil
  | _ :: r => .cons rfl (paired_map_int r)
theorem map_int_of {F : Hp} : ∀ {vs : List V} {ns : List Int}, Paired (pInt.R F) vs ns → vs = ns.map V.int
  | _, _, .nil => rfl
  | _, _, .cons r t => by rw [show _ = V.int _ from r, map_int_of t]; rfl
theorem SV.scr {K : PySem.W.Frag} {ns : List Int} : SV K (Ty.val (pScr K) ns) pInt ns := fun F H fp o hS h => let ⟨_, v, e, l, ev, h1⟩ := h; ⟨l, _, by rw [e, ev], Same.seq hS h1, paired_map_int ns⟩
/-- a tuple of any length -/
def TV (s : Slot) (p : VP α) (xs : List α) : Prop := ∀ F H fp o, Same F H → s.P F H fp o → ∃ l vs, o = some (.ref l) ∧ H l = some (.tup vs) ∧ Paired (p.R F) vs xs
theorem TV.val {p : VP α} {xs : List α} : TV (Ty.val (pTup p) xs) p xs := fun F H fp o hS h => let ⟨_, v, e, l, vs, ev, h1, h2⟩ := h; ⟨l, vs, by rw [e, ev], hS _ _ h1, h2⟩
/-- a value without a heap -/
def Flat (p : VP α) : Prop := ∀ F F' v a, p.R F v a → p.R F' v a
theorem Flat.int : Flat pInt := fun _ _ _ _ h => h
theorem Flat.bl : Flat pBl := fun _ _ _ _ h => h
theorem Flat.str : Flat pStr := fun _ _ _ _ h => h
theorem Flat.non : Flat pNon := fun _ _ _ _ h => h
theorem Flat.opt {p : VP α} (h : Flat p) : Flat (pOpt p) := fun F F' v a q => by
  cases a with
  | none => exact q
  | some a => exact ⟨h F F' v a q.1, q.2⟩
/-- any value, its data by the whole heap -/
def Vw (s : Slot) (p : VP α) (a : α) : Prop := ∀ F H fp o, Same F H → s.P F H fp o → ∃ v, o = some v ∧ p.R H v a
theorem Vw.val {p : VP α} {a : α} : Vw (Ty.val p a) p a := fun F H fp o hS h => let ⟨_, v, e, r⟩ := h; ⟨v, e, p.mono hS r⟩
theorem Vw.bor {p : VP α} {a : α} : Vw (Ty.bor p a) p a := fun F H fp o hS h => let ⟨_, v, e, r⟩ := h; ⟨v, e, r⟩
theorem LV.vw {s : Slot} {p : VP α} {xs : List α} (h : LV s p xs) : Vw s (pL p) xs := fun F H fp o hS q => let ⟨l, vs, e, h1, h2⟩ := h F H fp o hS q; ⟨_, e, l, vs, rfl, h1, Paired.mon (fun _ _ r => p.mono hS r) h2⟩
theorem val_P {p : VP α} {a : α} {F H : Hp} {fp : List Addr} {v : V} (h : (Ty.val p a).P F H fp (some v)) : fp = [] ∧ p.R F v a := by
  obtain ⟨e, v', ev, r⟩ := h
  cases ev; exact ⟨e, r⟩
end

/-! ### contexts: a body, or a block of a comprehension, whatever the state where it starts -/
structure Fa (P : Program) (w : World) (K : PySem.W.Frag) (mg : Str → Option Value) (base : Heap) (k : Nat) where
  I : Type
  X : I → Cx
  hP : ∀ i, (X i).prog = P
  hw : ∀ i, (X i).w = w
  hK : ∀ i, (X i).K = K
  hM : ∀ i, (X i).mg = mg
  hB : ∀ i, (X i).base = base
  cm : Bool
  hC : ∀ i, (X i).calm = cm
  hR : cm = true → ∀ i, Room k (X i).A
  hU : ∀ i, (X i).A.units + 64 < cLine
  W : WX
  tk : ∀ i, Takes (X i) W
  hN : ∀ i, (X i).N.Nodup
  hO : ∀ i, PassesOwn (model (X i).prog (X i).w) (X i).A (X i).env (X i).xe
section
variable {P : Program} {w : World} {K : PySem.W.Frag} {mg : Str → Option Value} {base : Heap} {k : Nat}
/-- where an expression stands: the world, and the frame told by Γ somewhere within what is owned -/
structure In (B : Bs) (F H : Hp) (os : List Addr) (σ : List (Option V)) (Γ : List Slot) : Prop where
  W : Wo B F H os
  S : ∃ o2 r, os.Perm (o2 ++ r) ∧ Slots F H o2 σ Γ
theorem In.step {B : Bs} {F H F' H' : Hp} {fp os : List Addr} {σ : List (Option V)} {Γ : List Slot} (I : In B F H os σ Γ) (hF : Same F F') (hH : Same H H') (W : Wo B F' H' (fp ++ os)) : In B F' H' (fp ++ os) σ Γ := by
  obtain ⟨_, o2, r, p, S⟩ := I
  exact ⟨W, o2, r ++ fp, (List.perm_append_comm.trans (List.Perm.append_right fp p)).trans (by rw [List.append_assoc]), S.mono hF hH⟩
theorem In.step0 {B : Bs} {F H F' H' : Hp} {os : List Addr} {σ : List (Option V)} {Γ : List Slot} (I : In B F H os σ Γ) (hF : Same F F') (hH : Same H H') (W : Wo B F' H' os) : In B F' H' os σ Γ := I.step (fp := []) hF hH W
/-- e gives a value told by r; all that was stands, what is new is the value's -/
def XV (Y : Fa P w K mg base k) (e : Expr) (Γ : List Slot) (r : Slot) : Prop :=
  ∃ t : TE, (∀ i, PE (Y.X i) e t) ∧ ∀ (B : Bs) (F H : Hp) (os : List Addr) (σ : List (Option V)) (Q : VK), In B F H os σ Γ →
    (∀ v F' H' fp, Same F F' → Same H H' → Wo B F' H' (fp ++ os) → r.P F' H' fp (some v) → Q v H') → t σ H Q
def XT (Y : Fa P w K mg base k) (e : Expr) (Γ : List Slot) (b : Bool) : Prop :=
  ∃ t : TT, (∀ i, PT (Y.X i) e t) ∧ ∀ (B : Bs) (F H : Hp) (os : List Addr) (σ : List (Option V)) (Q : Bool → Hp → Prop), In B F H os σ Γ →
    (∀ F' H', Same F F' → Same H H' → Wo B F' H' os → Q b H') → t σ H Q
def XW (Y : Fa P w K mg base k) (e : Expr) (Γ : List Slot) (b : Bool) : Prop :=
  ∃ t : TT, (∀ i, PW (Y.X i) e t) ∧ ∀ (B : Bs) (F H : Hp) (os : List Addr) (σ : List (Option V)) (Q : Bool → Hp → Prop), In B F H os σ Γ →
    (∀ F' H', Same F F' → Same H H' → Wo B F' H' os → Q b H') → t σ H Q
def XA (Y : Fa P w K mg base k) (es : List Expr) (Γ As : List Slot) : Prop :=
  ∃ t : TA, (∀ i, PA (Y.X i) es t) ∧ ∀ (B : Bs) (F H : Hp) (os : List Addr) (σ : List (Option V)) (Q : List V → Hp → Prop), In B F H os σ Γ →
    (∀ vs F' H' fp, Same F F' → Same H H' → Wo B F' H' (fp ++ os) → Slots F' H' fp (vs.map some) As → Q vs H') → t σ H Q
/-- a two-place operation on values -/
def Op2 (r : R2) (a b c : Slot) : Prop := ∀ (B : Bs) (F H : Hp) (x y : V) (fx fy os : List Addr) (Q : VK), Wo B F H (fy ++ (fx ++ os)) → a.P F H fx (some x) → b.P F H fy (some y) →
  (∀ v F' H' fp, Same F F' → Same H H' → Wo B F' H' (fp ++ os) → c.P F' H' fp (some v) → Q v H') → r x y H Q
def Op1 (r : V → Hp → VK → Prop) (a c : Slot) : Prop := ∀ (B : Bs) (F H : Hp) (x : V) (fx os : List Addr) (Q : VK), Wo B F H (fx ++ os) → a.P F H fx (some x) →
  (∀ v F' H' fp, Same F F' → Same H H' → Wo B F' H' (fp ++ os) → c.P F' H' fp (some v) → Q v H') → r x H Q
/-- a call of a known value -/
def OpA (r : List V → Hp → VK → Prop) (As : List Slot) (c : Slot) : Prop := ∀ (B : Bs) (F H : Hp) (vs : List V) (fx os : List Addr) (Q : VK), Wo B F H (fx ++ os) → Slots F H fx (vs.map some) As →
  (∀ v F' H' fp, Same F F' → Same H H' → Wo B F' H' (fp ++ os) → c.P F' H' fp (some v) → Q v H') → r vs H Q
variable {Y : Fa P w K mg base k} {e ea eb : Expr} {es : List Expr} {Γ : List Slot} {a b c r : Slot} {pos : Pos}

theorem same_refl {H : Hp} : Same H H := fun _ _ h => h
theorem val_no {α : Type} {p : VP α} {z : α} {F H : Hp} {fp : List Addr} {v : Option V} (h : (val p z).P F H fp v) : fp = [] := h.1
/-! ### atoms -/
theorem x_int {z : Int} {j : Nat} : XV Y (.Constant (.int z) j pos) Γ (vInt z) :=
  ⟨_, fun _ => pe_int, fun _ F H os σ Q I q => q _ F H [] same_refl same_refl I.W ⟨rfl, _, rfl, rfl⟩⟩
theorem x_bl {z : Bool} {j : Nat} : XV Y (.Constant (.bool z) j pos) Γ (vBl z) :=
  ⟨_, fun _ => pe_bl, fun _ F H os σ Q I q => q _ F H [] same_refl same_refl I.W ⟨rfl, _, rfl, rfl⟩⟩
theorem x_str {z : Str} {j : Nat} : XV Y (.Constant (.str z) j pos) Γ (vStr z) :=
  ⟨_, fun _ => pe_str, fun _ F H os σ Q I q => q _ F H [] same_refl same_refl I.W ⟨rfl, _, rfl, rfl⟩⟩
theorem x_non {j : Nat} : XV Y (.Constant .none j pos) Γ vNon :=
  ⟨_, fun _ => pe_non, fun _ F H os σ Q I q => q _ F H [] same_refl same_refl I.W ⟨rfl, _, rfl, rfl⟩⟩
theorem In.slot {B : Bs} {F H : Hp} {os : List Addr} {σ : List (Option V)} {i : Nat} {s : Slot} (I : In B F H os σ Γ) (hs : Γ[i]? = some s) : ∃ o fp, σ[i]? = some o ∧ s.P F H fp o := by
  obtain ⟨_, o2, r, p, S⟩ := I
  obtain ⟨o, fp, _, e, p, _⟩ := S.at hs
  exact ⟨o, fp, e, p⟩
/-- a name -/
theorem x_var {α : Type} {p : VP α} {z : α} (i : Nat) {x : Str} (hs : Γ[i]? = some (val p z) := by rfl) (hN : ∀ j, (Y.X j).N[i]? = some x := by intro _; rfl)
    (hv : ∀ j, Vis (Y.X j).env.scope x := by intro _; first | exact Or.inl rfl | exact Or.inr (Or.inl rfl) | exact Or.inr (Or.inr rfl)) (hd : (x == ("__debug__" : Str)) = false := by decide) (hcd : (x == ("__classdict__" : Str)) = false := by decide) : XV Y (.Name x pos) Γ (val p z) := by
  refine ⟨_, fun j => pe_var (hN j) (hv j) hd hcd, fun B F H os σ Q I q => ?_⟩
  obtain ⟨o, fp, e, ef, v, ev, h⟩ := I.slot hs
  subst ev
  exact ⟨v, e, q v F H [] same_refl same_refl I.W ⟨rfl, v, rfl, h⟩⟩
/-- an owned list's name, looked at -/
theorem x_varL {α : Type} {p : VP α} {z : List α} (i : Nat) {x : Str} (hs : Γ[i]? = some (own (oL p) z) := by rfl) (hN : ∀ j, (Y.X j).N[i]? = some x := by intro _; rfl)
    (hv : ∀ j, Vis (Y.X j).env.scope x := by intro _; first | exact Or.inl rfl | exact Or.inr (Or.inl rfl) | exact Or.inr (Or.inr rfl)) (hd : (x == ("__debug__" : Str)) = false := by decide) (hcd : (x == ("__classdict__" : Str)) = false := by decide) : XV Y (.Name x pos) Γ (borL p z) := by
  refine ⟨_, fun j => pe_var (hN j) (hv j) hd hcd, fun B F H os σ Q I q => ?_⟩
  obtain ⟨o, fp, e, v, ev, l, vs, el, _, h1, h2⟩ := I.slot hs
  subst ev; subst el
  exact ⟨_, e, q _ F H [] same_refl same_refl I.W ⟨rfl, l, vs, rfl, h1, h2⟩⟩
/-- a module's constant -/
theorem x_glob {α : Type} {p : VP α} {z : α} {x : Str} {v : V} {u : Value} (hm : mg x = some u) (hr : RelV v u) (hz : ∀ F, p.R F v z) (hg : ∀ j, Gl (Y.X j) x := by intro _; rfl) (hd : (x == ("__debug__" : Str)) = false := by decide) : XV Y (.Name x pos) Γ (val p z) :=
  ⟨_, fun j => pe_glob (hg j) (by rw [Y.hM]; exact hm) hr hd, fun _ F H os σ Q I q => q v F H [] same_refl same_refl I.W ⟨rfl, _, rfl, hz F⟩⟩

/-! ### operators -/
/-- two in a row -/
theorem two {ta tb : TE} {B : Bs} {F H : Hp} {os : List Addr} {σ : List (Option V)} {Q : VK} {R : V → V → Hp → Prop} (I : In B F H os σ Γ)
    (ra : ∀ (B : Bs) (F H : Hp) (os : List Addr) (σ : List (Option V)) (Q : VK), In B F H os σ Γ → (∀ v F' H' fp, Same F F' → Same H H' → Wo B F' H' (fp ++ os) → a.P F' H' fp (some v) → Q v H') → ta σ H Q)
    (rb : ∀ (B : Bs) (F H : Hp) (os : List Addr) (σ : List (Option V)) (Q : VK), In B F H os σ Γ → (∀ v F' H' fp, Same F F' → Same H H' → Wo B F' H' (fp ++ os) → b.P F' H' fp (some v) → Q v H') → tb σ H Q)
    (h : ∀ x y F' H' fx fy, Same F F' → Same H H' → Wo B F' H' (fy ++ (fx ++ os)) → a.P F' H' fx (some x) → b.P F' H' fy (some y) → R x y H') : ta σ H fun x H1 => tb σ H1 fun y H2 => R x y H2 := by
  refine ra B F H os σ _ I fun x F1 H1 fx f1 e1 W1 p1 => ?_
  refine rb B F1 H1 _ σ _ (I.step f1 e1 W1) fun y F2 H2 fy f2 e2 W2 p2 => ?_
  exact h x y F2 H2 fx fy (f1.trans f2) (e1.trans e2) W2 (a.mono f2 e2 p1) p2
theorem x_op {op : Operator} {r2 : R2} (ho : ∀ i, OpR (Y.X i) (binaryOp op) r2) (h : Op2 r2 a b c) (ha : XV Y ea Γ a) (hb : XV Y eb Γ b) : XV Y (.BinOp ea op eb pos) Γ c := by
  obtain ⟨ta, pa, ra⟩ := ha
  obtain ⟨tb, pb, rb⟩ := hb
  refine ⟨_, fun i => pe_op (ho i) (pa i) (pb i), fun B F H os σ Q I q => ?_⟩
  refine two (Q := Q) I ra rb fun x y F2 H2 fx fy f2 e2 W2 p1 p2 => ?_
  exact h B F2 H2 x y fx fy os Q W2 p1 p2 fun v F3 H3 fp f3 e3 W3 p3 => q v F3 H3 fp (f2.trans f3) (e2.trans e3) W3 p3
theorem x_cmp {op : CmpOp} {r2 : R2} (ho : ∀ i, OpR (Y.X i) (compareOp op) r2) (h : Op2 r2 a b c) (hm : behindInMarks op eb = false) (ha : XV Y ea Γ a) (hb : XV Y eb Γ b) : XV Y (.Compare ea [op] [eb] pos) Γ c := by
  obtain ⟨ta, pa, ra⟩ := ha
  obtain ⟨tb, pb, rb⟩ := hb
  refine ⟨_, fun i => pe_cmpR (ho i) (pa i) (pb i) hm, fun B F H os σ Q I q => ?_⟩
  refine two (Q := Q) I ra rb fun x y F2 H2 fx fy f2 e2 W2 p1 p2 => ?_
  exact h B F2 H2 x y fx fy os Q W2 p1 p2 fun v F3 H3 fp f3 e3 W3 p3 => q v F3 H3 fp (f2.trans f3) (e2.trans e3) W3 p3
theorem vbl {z : Bool} {F H : Hp} {fp : List Addr} {v : V} (h : (vBl z).P F H fp (some v)) : v = .bl z := (val_P h).2
theorem vint {z : Int} {F H : Hp} {fp : List Addr} {v : V} (h : (vInt z).P F H fp (some v)) : v = .int z := (val_P h).2
theorem Wo.flat {α : Type} {p : VP α} {z : α} {B : Bs} {F H F1 H1 : Hp} {fp os : List Addr} {v : Option V} (W : Wo B F H (fp ++ os)) (h : (val p z).P F1 H1 fp v) : Wo B F H os := W.drop
theorem xt_cmp {op : CmpOp} {r2 : R2} {z : Bool} (ho : ∀ i, OpR (Y.X i) (compareOp op) r2) (h : Op2 r2 a b (vBl z)) (hm : behindInMarks op eb = false) (ha : XV Y ea Γ a) (hb : XV Y eb Γ b) : XT Y (.Compare ea [op] [eb] pos) Γ z := by
  obtain ⟨ta, pa, ra⟩ := ha
  obtain ⟨tb, pb, rb⟩ := hb
  refine ⟨_, fun i => pt_cmpR (ho i) (pa i) (pb i) hm, fun B F H os σ Q I q => ?_⟩
  refine two (Q := fun _ _ => True) I ra rb fun x y F2 H2 fx fy f2 e2 W2 p1 p2 => ?_
  exact h B F2 H2 x y fx fy os _ W2 p1 p2 fun v F3 H3 fp f3 e3 W3 p3 => ⟨z, vbl p3, q F3 H3 (f2.trans f3) (e2.trans e3) W3.drop⟩
/-- a op1 b op2 c, b an int -/
theorem xt_chain {op op' : CmpOp} {r2 r2' : R2} {ec : Expr} {z z' u : Bool} {n : Int} (ho : ∀ i, OpR (Y.X i) (compareOp op) r2) (ho' : ∀ i, OpR (Y.X i) (compareOp op') r2') (h : Op2 r2 a (vInt n) (vBl z)) (h' : z = true → Op2 r2' (vInt n) c (vBl z'))
    (hu : u = (z && z')) (ha : XV Y ea Γ a) (hb : XV Y eb Γ (vInt n)) (hc : z = true → XV Y ec Γ c) (hm : lastMarks [op, op'] [eb, ec] = false := by with_unfolding_all rfl) : XT Y (.Compare ea [op, op'] [eb, ec] pos) Γ u := by
  subst hu
  obtain ⟨ta, pa, ra⟩ := ha
  obtain ⟨tb, pb, rb⟩ := hb
  cases z with
  | true =>
    obtain ⟨tc, pc, rc⟩ := hc rfl
    refine ⟨_, fun i => pt_chain (ho i) (ho' i) (pa i) (pb i) (pc i) hm, fun B F H os σ Q I q => ?_⟩
    refine two (Q := fun _ _ => True) I ra rb fun x y F2 H2 fx fy f2 e2 W2 p1 p2 => ?_
    obtain rfl := val_no p2
    refine h B F2 H2 x y fx [] os _ W2 p1 p2 fun v F3 H3 fp f3 e3 W3 p3 => ?_
    refine ⟨true, vbl p3, ?_⟩
    show tc σ H3 _
    have W3' := W3.drop
    refine rc B F3 H3 os σ _ (I.step0 (f2.trans f3) (e2.trans e3) W3') fun z4 F4 H4 fp4 f4 e4 W4 p4 => ?_
    refine h' rfl B F4 H4 y z4 [] fp4 os _ W4 ((vInt n).mono (f3.trans f4) (e3.trans e4) p2) p4 fun v5 F5 H5 fp5 f5 e5 W5 p5 => ?_
    exact ⟨z', vbl p5, q F5 H5 (((f2.trans f3).trans f4).trans f5) (((e2.trans e3).trans e4).trans e5) W5.drop⟩
  | false =>
    have dum : ∃ tc, ∀ i, PE (Y.X i) ec tc := ⟨fun _ _ _ => False, fun i => ⟨fun _ _ _ _ _ _ h => h.elim⟩⟩
    obtain ⟨tc, pc⟩ := dum
    refine ⟨_, fun i => pt_chain (ho i) (ho' i) (pa i) (pb i) (pc i) hm, fun B F H os σ Q I q => ?_⟩
    refine two (Q := fun _ _ => True) I ra rb fun x y F2 H2 fx fy f2 e2 W2 p1 p2 => ?_
    refine h B F2 H2 x y fx fy os _ W2 p1 p2 fun v F3 H3 fp f3 e3 W3 p3 => ?_
    refine ⟨false, vbl p3, ?_⟩
    show ∃ k, V.bl false = .bl k ∧ _
    exact ⟨false, rfl, q F3 H3 (f2.trans f3) (e2.trans e3) W3.drop⟩
theorem x_chain {op op' : CmpOp} {r2 r2' : R2} {ec : Expr} {z z' u : Bool} {n : Int} (ho : ∀ i, OpR (Y.X i) (compareOp op) r2) (ho' : ∀ i, OpR (Y.X i) (compareOp op') r2') (h : Op2 r2 a (vInt n) (vBl z)) (h' : z = true → Op2 r2' (vInt n) c (vBl z'))
    (hu : u = (z && z')) (ha : XV Y ea Γ a) (hb : XV Y eb Γ (vInt n)) (hc : z = true → XV Y ec Γ c) (hm : lastMarks [op, op'] [eb, ec] = false := by with_unfolding_all rfl) : XV Y (.Compare ea [op, op'] [eb, ec] pos) Γ (vBl u) := by
  subst hu
  obtain ⟨ta, pa, ra⟩ := ha
  obtain ⟨tb, pb, rb⟩ := hb
  cases z with
  | true =>
    obtain ⟨tc, pc, rc⟩ := hc rfl
    refine ⟨_, fun i => pe_chain (ho i) (ho' i) (pa i) (pb i) (pc i) hm, fun B F H os σ Q I q => ?_⟩
    refine two (Q := fun _ _ => True) I ra rb fun x y F2 H2 fx fy f2 e2 W2 p1 p2 => ?_
    obtain rfl := val_no p2
    refine h B F2 H2 x y fx [] os _ W2 p1 p2 fun v F3 H3 fp f3 e3 W3 p3 => ?_
    refine ⟨true, vbl p3, ?_⟩
    show tc σ H3 _
    have W3' := W3.drop
    refine rc B F3 H3 os σ _ (I.step0 (f2.trans f3) (e2.trans e3) W3') fun z4 F4 H4 fp4 f4 e4 W4 p4 => ?_
    refine h' rfl B F4 H4 y z4 [] fp4 os _ W4 ((vInt n).mono (f3.trans f4) (e3.trans e4) p2) p4 fun v5 F5 H5 fp5 f5 e5 W5 p5 => ?_
    exact q v5 F5 H5 fp5 (((f2.trans f3).trans f4).trans f5) (((e2.trans e3).trans e4).trans e5) W5 p5
  | false =>
    have dum : ∃ tc, ∀ i, PE (Y.X i) ec tc := ⟨fun _ _ _ => False, fun i => ⟨fun _ _ _ _ _ _ h => h.elim⟩⟩
    obtain ⟨tc, pc⟩ := dum
    refine ⟨_, fun i => pe_chain (ho i) (ho' i) (pa i) (pb i) (pc i) hm, fun B F H os σ Q I q => ?_⟩
    refine two (Q := fun _ _ => True) I ra rb fun x y F2 H2 fx fy f2 e2 W2 p1 p2 => ?_
    refine h B F2 H2 x y fx fy os _ W2 p1 p2 fun v F3 H3 fp f3 e3 W3 p3 => ?_
    refine ⟨false, vbl p3, ?_⟩
    show Q (.bl false) H3
    exact q _ F3 H3 [] (f2.trans f3) (e2.trans e3) W3.drop ⟨rfl, _, rfl, rfl⟩
theorem x_un {op : UnaryOp} {r1 : V → Hp → VK → Prop} (ho : ∀ i, UnR (Y.X i) (unaryOp op) r1) (h : Op1 r1 a c) (ha : XV Y ea Γ a) : XV Y (.UnaryOp op ea pos) Γ c := by
  obtain ⟨ta, pa, ra⟩ := ha
  refine ⟨_, fun i => pe_un (ho i) (pa i), fun B F H os σ Q I q => ?_⟩
  refine ra B F H os σ _ I fun x F1 H1 fx f1 e1 W1 p1 => ?_
  exact h B F1 H1 x fx os Q W1 p1 fun v F3 H3 fp f3 e3 W3 p3 => q v F3 H3 fp (f1.trans f3) (e1.trans e3) W3 p3

/-! ### tests -/
theorem xt_val {z : Bool} (h : XV Y e Γ (vBl z)) (he : ∀ i whole, isTrue e (Y.X i).env whole = (do let v ← whole; standAt e.pos; holding [v] (truthy v)) := by intro _ _; rfl) : XT Y e Γ z := by
  obtain ⟨t, p, r⟩ := h
  refine ⟨_, fun i => pt_val (p i) (he i), fun B F H os σ Q I q => ?_⟩
  refine r B F H os σ _ I fun v F1 H1 fp f1 e1 W1 p1 => ?_
  exact ⟨z, vbl p1, q F1 H1 f1 e1 W1.drop⟩
theorem xw_pt {z : Bool} (h : XW Y e Γ z) : XT Y e Γ z := let ⟨t, p, r⟩ := h; ⟨t, fun i => (p i).pt, r⟩
theorem xw_and1 {z : Bool} (h : XT Y e Γ z) : XW Y (.BoolOp .And [e] pos) Γ z := let ⟨t, p, r⟩ := h; ⟨t, fun i => pw_and1 (p i), r⟩
theorem xw_or1 {z : Bool} (h : XT Y e Γ z) : XW Y (.BoolOp .Or [e] pos) Γ z := let ⟨t, p, r⟩ := h; ⟨t, fun i => pw_or1 (p i), r⟩
theorem pw_dum {i : Y.I} : PW (Y.X i) e (fun _ _ _ => False) := ⟨fun _ _ _ _ _ _ _ h => h.elim⟩
theorem pe_dum {i : Y.I} : PE (Y.X i) e (fun _ _ _ => False) := ⟨fun _ _ _ _ _ _ h => h.elim⟩
theorem xw_and {z z' u : Bool} (h : XT Y ea Γ z) (h2 : z = true → XW Y (.BoolOp .And (eb :: es) pos) Γ z') (hu : u = (z && z')) : XW Y (.BoolOp .And (ea :: eb :: es) pos) Γ u := by
  subst hu
  obtain ⟨t, p, r⟩ := h
  cases z with
  | true =>
    obtain ⟨t2, p2, r2⟩ := h2 rfl
    refine ⟨_, fun i => pw_and (p i) (p2 i), fun B F H os σ Q I q => ?_⟩
    refine r B F H os σ _ I fun F1 H1 f1 e1 W1 => ?_
    show t2 σ H1 Q
    exact r2 B F1 H1 os σ _ (I.step0 f1 e1 W1) fun F2 H2 f2 e2 W2 => q F2 H2 (f1.trans f2) (e1.trans e2) W2
  | false =>
    refine ⟨_, fun i => pw_and (p i) pw_dum, fun B F H os σ Q I q => ?_⟩
    refine r B F H os σ _ I fun F1 H1 f1 e1 W1 => ?_
    show Q false H1
    exact q F1 H1 f1 e1 W1
theorem xw_or {z z' u : Bool} (h : XT Y ea Γ z) (h2 : z = false → XW Y (.BoolOp .Or (eb :: es) pos) Γ z') (hu : u = (z || z')) : XW Y (.BoolOp .Or (ea :: eb :: es) pos) Γ u := by
  subst hu
  obtain ⟨t, p, r⟩ := h
  cases z with
  | false =>
    obtain ⟨t2, p2, r2⟩ := h2 rfl
    refine ⟨_, fun i => pw_or (p i) (p2 i), fun B F H os σ Q I q => ?_⟩
    refine r B F H os σ _ I fun F1 H1 f1 e1 W1 => ?_
    show t2 σ H1 Q
    exact r2 B F1 H1 os σ _ (I.step0 f1 e1 W1) fun F2 H2 f2 e2 W2 => q F2 H2 (f1.trans f2) (e1.trans e2) W2
  | true =>
    refine ⟨_, fun i => pw_or (p i) pw_dum, fun B F H os σ Q I q => ?_⟩
    refine r B F H os σ _ I fun F1 H1 f1 e1 W1 => ?_
    show Q true H1
    exact q F1 H1 f1 e1 W1
theorem xt_not {z u : Bool} (h : XT Y e Γ z) (hu : u = !z) : XT Y (.UnaryOp .Not e pos) Γ u := by
  subst hu
  obtain ⟨t, p, r⟩ := h
  exact ⟨_, fun i => pt_not (p i), fun B F H os σ Q I q => r B F H os σ _ I fun F1 H1 f1 e1 W1 => q F1 H1 f1 e1 W1⟩
/-- as values, all bools -/
theorem x_one {op : BoolOp} (h : XV Y e Γ r) : XV Y (.BoolOp op [e] pos) Γ r := let ⟨t, p, r⟩ := h; ⟨t, fun i => pe_one (p i), r⟩
theorem x_and {z z' u : Bool} (h : XV Y ea Γ (vBl z)) (h2 : z = true → XV Y (.BoolOp .And (eb :: es) pos) Γ (vBl z')) (hu : u = (z && z')) : XV Y (.BoolOp .And (ea :: eb :: es) pos) Γ (vBl u) := by
  subst hu
  obtain ⟨t, p, r⟩ := h
  cases z with
  | true =>
    obtain ⟨t2, p2, r2⟩ := h2 rfl
    refine ⟨_, fun i => pe_and (p i) (p2 i), fun B F H os σ Q I q => ?_⟩
    refine r B F H os σ _ I fun v F1 H1 fp f1 e1 W1 p1 => ?_
    refine ⟨true, vbl p1, ?_⟩
    show t2 σ H1 Q
    exact r2 B F1 H1 os σ _ (I.step0 f1 e1 W1.drop) fun v F2 H2 fp f2 e2 W2 p2 => q v F2 H2 fp (f1.trans f2) (e1.trans e2) W2 p2
  | false =>
    refine ⟨_, fun i => pe_and (p i) pe_dum, fun B F H os σ Q I q => ?_⟩
    refine r B F H os σ _ I fun v F1 H1 fp f1 e1 W1 p1 => ?_
    refine ⟨false, vbl p1, ?_⟩
    show Q (.bl false) H1
    exact q _ F1 H1 [] f1 e1 W1.drop ⟨rfl, _, rfl, rfl⟩
theorem x_ite {ec : Expr} {z : Bool} (hc : XT Y ec Γ z) (h1 : z = true → XV Y ea Γ r) (h2 : z = false → XV Y eb Γ r) : XV Y (.IfExp ec ea eb pos) Γ r := by
  obtain ⟨t, p, rr⟩ := hc
  cases z with
  | true =>
    obtain ⟨t2, p2, r2⟩ := h1 rfl
    refine ⟨_, fun i => pe_ifExp (p i) (p2 i) pe_dum, fun B F H os σ Q I q => ?_⟩
    refine rr B F H os σ _ I fun F1 H1 f1 e1 W1 => ?_
    show t2 σ H1 Q
    exact r2 B F1 H1 os σ _ (I.step0 f1 e1 W1) fun v F2 H2 fp f2 e2 W2 p2 => q v F2 H2 fp (f1.trans f2) (e1.trans e2) W2 p2
  | false =>
    obtain ⟨t2, p2, r2⟩ := h2 rfl
    refine ⟨_, fun i => pe_ifExp (p i) pe_dum (p2 i), fun B F H os σ Q I q => ?_⟩
    refine rr B F H os σ _ I fun F1 H1 f1 e1 W1 => ?_
    show t2 σ H1 Q
    exact r2 B F1 H1 os σ _ (I.step0 f1 e1 W1) fun v F2 H2 fp f2 e2 W2 p2 => q v F2 H2 fp (f1.trans f2) (e1.trans e2) W2 p2
/-- another reading of the value -/
theorem XV.as (h : XV Y e Γ a) (k : ∀ F H fp o, Same F H → a.P F H fp o → b.P F H fp o) : XV Y e Γ b := by
  obtain ⟨t, p, r⟩ := h
  exact ⟨t, p, fun B F H os σ Q I q => r B F H os σ _ I fun v F1 H1 fp f1 e1 W1 p1 => q v F1 H1 fp f1 e1 W1 (k F1 H1 fp _ W1.sub p1)⟩

/-! ### arguments -/
theorem xa_nil : XA Y [] Γ [] := ⟨_, fun _ => pa_nil, fun B F H os σ Q I q => q [] F H [] same_refl same_refl I.W .nil⟩
theorem xa_cons {As : List Slot} (h : XV Y e Γ a) (hr : XA Y es Γ As) (hs : ∀ i, starEach (e :: es) (Y.X i).env = (false, eval e (Y.X i).env) :: starEach es (Y.X i).env := by intro _; rfl) : XA Y (e :: es) Γ (a :: As) := by
  obtain ⟨t, p, r⟩ := h
  obtain ⟨t2, p2, r2⟩ := hr
  refine ⟨_, fun i => pa_cons (p i) (p2 i) (hs i), fun B F H os σ Q I q => ?_⟩
  refine r B F H os σ _ I fun v F1 H1 fp f1 e1 W1 p1 => ?_
  refine r2 B F1 H1 _ σ _ (I.step f1 e1 W1) fun vs F2 H2 fp2 f2 e2 W2 S2 => ?_
  refine q (v :: vs) F2 H2 (fp ++ fp2) (f1.trans f2) (e1.trans e2) (W2.perm ?_) (.cons (a.mono f2 e2 p1) S2)
  rw [← List.append_assoc]
  exact List.Perm.append_right os List.perm_append_comm
end

/-! ### ints, bools, texts -/
section
variable {a b c : Slot} {i j : Int}
theorem o_II {g : Int → Int → V} (h : ∀ F H, c.P F H [] (some (g i j))) : Op2 (rI0 g) (vInt i) (vInt j) c := fun B F H x y fx fy os Q W p1 p2 q => by
  obtain rfl := vint p1
  obtain rfl := vint p2
  exact ⟨i, j, rfl, rfl, q _ F H [] same_refl same_refl W.drop.drop (h F H)⟩
theorem o_IIc {C : Int → Int → Prop} {g : Int → Int → V} (hC : C i j) (h : ∀ F H, c.P F H [] (some (g i j))) : Op2 (rI C g) (vInt i) (vInt j) c := fun B F H x y fx fy os Q W p1 p2 q => by
  obtain rfl := vint p1
  obtain rfl := vint p2
  exact ⟨i, j, rfl, rfl, hC, q _ F H [] same_refl same_refl W.drop.drop (h F H)⟩
theorem o_int {g : Int → Int → Int} : Op2 (rI0 fun i j => .int (g i j)) (vInt i) (vInt j) (vInt (g i j)) := o_II fun _ _ => ⟨rfl, _, rfl, rfl⟩
theorem o_bl {g : Int → Int → Bool} : Op2 (rI0 fun i j => .bl (g i j)) (vInt i) (vInt j) (vBl (g i j)) := o_II fun _ _ => ⟨rfl, _, rfl, rfl⟩
theorem o_intC {C : Int → Int → Prop} {g : Int → Int → Int} (hC : C i j) : Op2 (rI C fun i j => .int (g i j)) (vInt i) (vInt j) (vInt (g i j)) := o_IIc hC fun _ _ => ⟨rfl, _, rfl, rfl⟩
/-- == of flat values -/
theorem o_eq {α β : Type} {p : VP α} {q' : VP β} {u : α} {v : β} {z : Bool} (h : ∀ F x y, p.R F x u → q'.R F y v → scal x y = true ∧ decide (x = y) = z) : Op2 rEq (val p u) (val q' v) (vBl z) := fun B F H x y fx fy os Q W p1 p2 q => by
  obtain ⟨e1, e2⟩ := h F x y (val_P p1).2 (val_P p2).2
  exact ⟨e1, by rw [e2]; exact q _ F H [] same_refl same_refl W.drop.drop ⟨rfl, _, rfl, rfl⟩⟩
theorem o_ne {α β : Type} {p : VP α} {q' : VP β} {u : α} {v : β} {z : Bool} (h : ∀ F x y, p.R F x u → q'.R F y v → scal x y = true ∧ (!decide (x = y)) = z) : Op2 rNe (val p u) (val q' v) (vBl z) := fun B F H x y fx fy os Q W p1 p2 q => by
  obtain ⟨e1, e2⟩ := h F x y (val_P p1).2 (val_P p2).2
  exact ⟨e1, by rw [e2]; exact q _ F H [] same_refl same_refl W.drop.drop ⟨rfl, _, rfl, rfl⟩⟩
theorem o_eqI : Op2 rEq (vInt i) (vInt j) (vBl (decide (i = j))) := o_eq fun F x y h1 h2 => by
  cases h1; cases h2
  refine ⟨rfl, ?_⟩
  by_cases e : i = j <;> simp [e]
theorem o_neI : Op2 rNe (vInt i) (vInt j) (vBl (!decide (i = j))) := o_ne fun F x y h1 h2 => by
  cases h1; cases h2
  refine ⟨rfl, ?_⟩
  by_cases e : i = j <;> simp [e]
theorem o_neS {x y : Str} : Op2 rNe (vStr x) (vStr y) (vBl (!decide (x = y))) := o_ne fun F x1 y1 h1 h2 => by
  cases h1; cases h2
  refine ⟨rfl, ?_⟩
  by_cases e : x = y <;> simp [e]
end
end Ty

/-! Ty3 -/
namespace Ty
open PySem PySem.Spec L2

section
variable {P : Program} {w : World} {K : PySem.W.Frag} {mg : Str → Option Value} {base : Heap} {k : Nat}
variable {Y : Fa P w K mg base k} {i : Y.I} {e ea eb tg iter : Expr} {es : List Expr} {st : Stmt} {rest body orelse : List Stmt} {Γ Γ' Γ1 Γ2 : List Slot} {a b c r : Slot} {pos : Pos} {B : Bs} {D : Ends}

/-! ### slots read otherwise: frozen, forgotten -/
/-- s may be read as s': what of its own (x) is frozen or forgotten, what (y) stays its own -/
def WkS (s s' : Slot) : Prop := ∀ (F H : Hp) (fp : List Addr) (o : Option V), Same F H → s.P F H fp o → ∃ x y, fp = x ++ y ∧ ∀ F', Same F F' → Same F' H → (∀ q ∈ x, F' q = H q) → s'.P F' H y o
theorem WkS.refl {s : Slot} : WkS s s := fun F H fp o _ h => ⟨[], fp, rfl, fun F' hF _ _ => s.mono hF (fun _ _ h => h) h⟩
theorem WkS.dead {s : Slot} : WkS s dead := fun F H fp o _ h => ⟨fp, [], by simp, fun _ _ _ _ => rfl⟩
theorem WkS.list {α : Type} {p : VP α} {xs : List α} : WkS (own (oL p) xs) (val (pL p) xs) := fun F H fp o _ h => by
  obtain ⟨v, e, l, vs, el, ef, h1, h2⟩ := h
  subst ef
  exact ⟨[l], [], rfl, fun F' hF hs hx => ⟨rfl, v, e, l, vs, el, by rw [hx l List.mem_cons_self]; exact h1, Paired.mon (fun _ _ r => p.mono hF r) h2⟩⟩
/-- the same value, said otherwise -/
theorem WkS.val {α β : Type} {p : VP α} {q : VP β} {x : α} {y : β} (h : ∀ F v, p.R F v x → q.R F v y) : WkS (val p x) (val q y) := fun F H fp o _ g => by
  obtain ⟨e, v, ev, r⟩ := g
  exact ⟨[], fp, rfl, fun F' hF _ _ => ⟨e, v, ev, h F' v (p.mono hF r)⟩⟩
theorem WkS.opt {α : Type} {p : VP α} {x : α} (h : ∀ F v, p.R F v x → v ≠ .non) : WkS (Ty.val p x) (Ty.val (pOpt p) (Option.some x)) := WkS.val fun F v r => ⟨r, h F v r⟩
theorem WkS.optN {α : Type} {p : VP α} : WkS vNon (Ty.val (pOpt p) (Option.none : Option α)) := WkS.val fun F v r => r
inductive WkL : List Slot → List Slot → Prop
  | nil : WkL [] []
  | cons {s s' : Slot} {Γ Γ' : List Slot} : WkS s s' → WkL Γ Γ' → WkL (s :: Γ) (s' :: Γ')
theorem WkL.refl : ∀ {Γ : List Slot}, WkL Γ Γ
  | [] => .nil
  | _ :: _ => .cons .refl WkL.refl
theorem Slots.wk {F H : Hp} (hS : Same F H) {Γ Γ' : List Slot} (w : WkL Γ Γ') : ∀ {os σ}, Slots F H os σ Γ → ∃ x y, os.Perm (x ++ y) ∧ ∀ F', Same F F' → Same F' H → (∀ q ∈ x, F' q = H q) → Slots F' H y σ Γ' := by
  induction w with
  | nil => intro os σ h; cases h; exact ⟨[], [], .refl _, fun _ _ _ _ => .nil⟩
  | cons h w ih =>
    intro os σ g
    cases g with
    | @cons fp os o σ _ _ p q =>
      obtain ⟨x1, y1, e1, k1⟩ := h F H fp o hS p
      obtain ⟨x2, y2, e2, k2⟩ := ih q
      refine ⟨x1 ++ x2, y1 ++ y2, ?_, fun F' hF hs hx => .cons (k1 F' hF hs fun q hq => hx q (List.mem_append_left _ hq)) (k2 F' hF hs fun q hq => hx q (List.mem_append_right _ hq))⟩
      subst e1
      refine (List.Perm.append_left (x1 ++ y1) e2).trans ?_
      rw [List.append_assoc, List.append_assoc]
      refine List.Perm.append_left x1 ?_
      rw [← List.append_assoc, ← List.append_assoc]
      exact List.Perm.append_right y2 List.perm_append_comm
theorem Sta.wk {F H : Hp} {σ : List (Option V)} (S : Sta B F H σ Γ) (w : WkL Γ Γ') : ∃ F', Sta B F' H σ Γ' := by
  obtain ⟨os, W, S1⟩ := S
  obtain ⟨x, y, e, kk⟩ := S1.wk W.sub w
  obtain ⟨F', W', hF, hx⟩ := (W.perm e).freeze
  exact ⟨F', y, W', kk F' hF W'.sub hx⟩
theorem XV.wk (h : XV Y e Γ a) (hw : WkS a b) : XV Y e Γ b := by
  obtain ⟨t, p, rd⟩ := h
  refine ⟨t, p, fun B F H os σ Q I q => rd B F H os σ _ I fun v F1 H1 fp f1 e1 W1 p1 => ?_⟩
  obtain ⟨x, y, e, kk⟩ := hw F1 H1 fp _ W1.sub p1
  subst e
  rw [List.append_assoc] at W1
  obtain ⟨F', W', hF, hx⟩ := W1.freeze
  exact q v F' H1 y (f1.trans hF) e1 W' (kk F' hF W'.sub hx)

/-! ### statements -/
/-- the rest of a block, run from here -/
def cont (X : Cx) (rest : List Stmt) (D : Ends) : L2.St → Hp → Prop := fun σ H => ∀ pins s, Inv X pins σ H s → wpAny (model X.prog X.w) X.A (execs rest X.env) (SP X pins D) X.xe s
def Go (Y : Fa P w K mg base k) (i : Y.I) (sts : List Stmt) (D : Ends) (B : Bs) (Γ : List Slot) : Prop := ∀ F H σ, Sta B F H σ Γ → cont (Y.X i) sts D σ H
/-- a state that Γ tells -/
def Nx (B : Bs) (Γ : List Slot) : L2.St → Hp → Prop := fun σ H => ∃ F, Sta B F H σ Γ
/-- a value that is left, nothing else kept -/
def Fi (B : Bs) (s : Slot) : VK := fun v H => ∃ F fp, Wo B F H fp ∧ s.P F H fp (some v)
theorem pss_cont {X : Cx} : PSs X body (fun D σ H => cont X body D σ H) := ⟨fun pins s σ H D I h => h pins s I⟩
theorem go_nil (h : ∀ σ H, Nx B Γ σ H → D.nx σ H) : Go Y i [] D B Γ := fun F H σ S pins s I => wpAny_execs_nil ⟨σ, H, I, h σ H ⟨F, S⟩⟩
theorem go_ps {t : TS} (hp : PS (Y.X i) st t) (h : ∀ F H σ, Sta B F H σ Γ → t { D with nx := cont (Y.X i) rest D } σ H) : Go Y i (st :: rest) D B Γ := fun F H σ S pins s I => by
  refine wpAny_execs_cons (thn (hp.run pins s σ H _ I (h F H σ S)) fun f s1 q => ?_)
  cases f with
  | next =>
    obtain ⟨σ', H', I', q⟩ := q
    exact q pins s1 I'
  | ret v => exact q
  | brk => exact q
  | cont => exact q
theorem go_wk (h : Go Y i rest D B Γ') (hw : WkL Γ Γ') : Go Y i rest D B Γ := fun F H σ S => let ⟨F', S'⟩ := S.wk hw; h F' H σ S'
/-- the end of a branch: what follows the if -/
theorem go_join (h : Go Y i rest D B Γ) : Go Y i [] { D with nx := cont (Y.X i) rest D } B Γ := go_nil fun σ H ⟨F, S⟩ => h F H σ S
theorem go_nx (hw : WkL Γ Γ') : Go Y i [] { D with nx := Nx B Γ' } B Γ := go_nil fun σ H ⟨F, S⟩ => S.wk hw
/-- an expression run from a state -/
theorem Sta.in {F H : Hp} {σ : List (Option V)} {os : List Addr} (W : Wo B F H os) (S : Slots F H os σ Γ) : In B F H os σ Γ := ⟨W, os, [], by simp, S⟩
theorem Sta.to {F H F' H' : Hp} {σ : List (Option V)} {os : List Addr} (S : Slots F H os σ Γ) (hF : Same F F') (hH : Same H H') (W : Wo B F' H' os) : Sta B F' H' σ Γ := ⟨os, W, S.mono hF hH⟩
theorem go_ret (h : XV Y e Γ r) (hd : ∀ v H, Fi B r v H → D.rt v H) : Go Y i (.Return (some e) pos :: rest) D B Γ := by
  obtain ⟨t, p, rd⟩ := h
  refine go_ps (ps_ret (p i)) fun F H σ ⟨os, W, S⟩ => ?_
  exact rd B F H os σ _ (Sta.in W S) fun v F1 H1 fp f1 e1 W1 p1 => hd v H1 ⟨F1, fp, W1.dropR, p1⟩
theorem go_expr (h : XV Y e Γ r) (hg : Go Y i rest D B Γ) (hs : swapsWith e none pos.line (Y.X i).env = pure false := by rfl) : Go Y i (.Expr e pos :: rest) D B Γ := by
  obtain ⟨t, p, rd⟩ := h
  refine go_ps (ps_expr (p i) hs) fun F H σ ⟨os, W, S⟩ => ?_
  exact rd B F H os σ _ (Sta.in W S) fun v F1 H1 fp f1 e1 W1 p1 => hg F1 H1 σ (Sta.to S f1 e1 W1.drop)
theorem go_if {z : Bool} (hc : XT Y e Γ z) (h1 : z = true → Go Y i body { D with nx := cont (Y.X i) rest D } B Γ) (h2 : z = false → Go Y i orelse { D with nx := cont (Y.X i) rest D } B Γ) : Go Y i (.If e body orelse pos :: rest) D B Γ := by
  obtain ⟨t, p, rd⟩ := hc
  refine go_ps (ps_if (p i) pss_cont pss_cont) fun F H σ ⟨os, W, S⟩ => ?_
  refine rd B F H os σ _ (Sta.in W S) fun F1 H1 f1 e1 W1 => ?_
  cases z with
  | true =>
    show cont (Y.X i) body _ σ H1
    exact h1 rfl F1 H1 σ (Sta.to S f1 e1 W1)
  | false =>
    show cont (Y.X i) orelse _ σ H1
    exact h2 rfl F1 H1 σ (Sta.to S f1 e1 W1)
theorem cont_mono {X : Cx} {sts : List Stmt} {D D' : Ends} {σ : L2.St} {H : Hp} (h : cont X sts D σ H) (h1 : ∀ σ H, D.nx σ H → D'.nx σ H) (h2 : ∀ v H, D.rt v H → D'.rt v H) (h3 : ∀ σ H, D.bk σ H → D'.bk σ H) (h4 : ∀ σ H, D.ct σ H → D'.ct σ H) : cont X sts D' σ H := fun pins s I => by
  refine thn (h pins s I) fun f s1 q => ?_
  cases f with
  | next => obtain ⟨σ', H', I', q⟩ := q; exact ⟨σ', H', I', h1 _ _ q⟩
  | ret v => obtain ⟨x, σ', H', I', r, q⟩ := q; exact ⟨x, σ', H', I', r, h2 _ _ q⟩
  | brk => obtain ⟨σ', H', I', q⟩ := q; exact ⟨σ', H', I', h3 _ _ q⟩
  | cont => obtain ⟨σ', H', I', q⟩ := q; exact ⟨σ', H', I', h4 _ _ q⟩
/-- both branches come to the one state Γ', from which it goes on -/
theorem go_ifJ (Γ' : List Slot) {z : Bool} (hc : XT Y e Γ z) (h1 : z = true → Go Y i body { D with nx := Nx B Γ' } B Γ) (h2 : z = false → Go Y i orelse { D with nx := Nx B Γ' } B Γ) (hg : Go Y i rest D B Γ') : Go Y i (.If e body orelse pos :: rest) D B Γ :=
  go_if hc (fun hz F H σ S => cont_mono (h1 hz F H σ S) (fun σ' H' ⟨F', S'⟩ => hg F' H' σ' S') (fun _ _ q => q) (fun _ _ q => q) (fun _ _ q => q))
    (fun hz F H σ S => cont_mono (h2 hz F H σ S) (fun σ' H' ⟨F', S'⟩ => hg F' H' σ' S') (fun _ _ q => q) (fun _ _ q => q) (fun _ _ q => q))

/-! ### targets -/
/-- the target takes a value told by r; ws: the slots that it writes -/
def XG (Y : Fa P w K mg base k) (tg : Expr) (ws : List Nat) (r : Slot) (Γ Γ' : List Slot) : Prop :=
  (Γ'.length = Γ.length ∧ ∀ j, j ∉ ws → Γ'[j]? = Γ[j]?) ∧ ∃ g : TG, (∀ i, PG (Y.X i) tg g) ∧ ∀ (F H : Hp) (fp os : List Addr) (σ : List (Option V)) (v : V) (Q : L2.St → Hp → Prop), Same F H → r.P F H fp (some v) → Slots F H os σ Γ →
    (∀ σ' os' d, (σ'.length = σ.length ∧ ∀ j, j ∉ ws → σ'[j]? = σ[j]?) → (fp ++ os).Perm (d ++ os') → Slots F H os' σ' Γ' → Q σ' H) → g v σ H Q
def XGs (Y : Fa P w K mg base k) (tgs : List Expr) (ws : List Nat) (rs : List Slot) (Γ Γ' : List Slot) : Prop :=
  (Γ'.length = Γ.length ∧ ∀ j, j ∉ ws → Γ'[j]? = Γ[j]?) ∧ ∃ g : TGs, (∀ i, PGs (Y.X i) tgs g) ∧ ∀ (F H : Hp) (fp os : List Addr) (σ : List (Option V)) (vs : List V) (Q : L2.St → Hp → Prop), Same F H → Slots F H fp (vs.map some) rs → Slots F H os σ Γ →
    (∀ σ' os' d, (σ'.length = σ.length ∧ ∀ j, j ∉ ws → σ'[j]? = σ[j]?) → (fp ++ os).Perm (d ++ os') → Slots F H os' σ' Γ' → Q σ' H) → g vs σ H Q
theorem Slots.put {F H : Hp} {fp os : List Addr} {o : Option V} {σ : List (Option V)} {j : Nat} (S : Slots F H os σ Γ) (h : r.P F H fp o) (hj : j < Γ.length) : ∃ os' d, Slots F H os' (σ.set j o) (Γ.set j r) ∧ (fp ++ os).Perm (d ++ os') := by
  obtain ⟨o3, fp3, r3, e3, p3, q3, k3⟩ := S.at (List.getElem?_eq_getElem hj)
  obtain ⟨os', h1, h2⟩ := k3 h (fun s0 _ fp0 o0 _ x => x)
  refine ⟨os', fp3, h1, ?_⟩
  refine (List.Perm.append_left fp q3).trans ?_
  rw [← List.append_assoc]
  refine (List.Perm.append_right r3 List.perm_append_comm).trans ?_
  rw [List.append_assoc]
  exact List.Perm.append_left fp3 h2.symm
theorem xg_name (j : Nat) {x : Str} (hj : Nat.blt j Γ.length = true := by rfl) (hi : ∀ i, (Y.X i).N[j]? = some x := by intro _; rfl) (hx : ∀ i, Loc (Y.X i).env.scope x := by intro _; first | exact Or.inl rfl | exact Or.inr rfl)
    (hf : ∀ i, (Y.X i).fn x = true ∨ (Y.X i).env.scope.names.lookup x = some .local := by intro _; first | exact Or.inl rfl | exact Or.inr rfl) : XG Y (.Name x pos) [j] r Γ (Γ.set j r) := by
  refine ⟨⟨by simp, fun q hq => List.getElem?_set_ne (fun z => hq (by simp [z]))⟩, _, fun i => pg_name (Y.hN i) (hi i) (hx i) (hf i), fun F H fp os σ v Q hS p S q => ?_⟩
  obtain ⟨os', d, h1, h2⟩ := S.put p (Nat.le_of_ble_eq_true hj)
  exact q _ os' d ⟨by simp, fun q hq => List.getElem?_set_ne (fun z => hq (by simp [z]))⟩ h2 h1
theorem xgs_nil : XGs Y [] [] [] Γ Γ := by
  refine ⟨⟨rfl, fun _ _ => rfl⟩, _, fun i => pgs_nil, fun F H fp os σ vs Q hS p S q => ?_⟩
  have e := p.length
  obtain rfl : vs = [] := List.eq_nil_of_length_eq_zero (by simpa using e)
  exact ⟨rfl, q σ os fp ⟨rfl, fun _ _ => rfl⟩ (.refl _) S⟩
theorem Slots.cons_inv {F H : Hp} {fp : List Addr} {o : Option V} {σ : List (Option V)} {s : Slot} {Γ : List Slot} (S : Slots F H fp (o :: σ) (s :: Γ)) : ∃ f1 f2, fp = f1 ++ f2 ∧ s.P F H f1 o ∧ Slots F H f2 σ Γ := by
  cases S with
  | cons p r => exact ⟨_, _, rfl, p, r⟩
theorem xgs_cons {t : Expr} {ts : List Expr} {w1 w2 : List Nat} {rs : List Slot} (h1 : XG Y t w1 r Γ Γ1) (h2 : XGs Y ts w2 rs Γ1 Γ2) (hs : ∀ i, (assignEach (t :: ts) (Y.X i).env).map (·.2) = assign t (Y.X i).env :: (assignEach ts (Y.X i).env).map (·.2) := by intro _; rfl) : XGs Y (t :: ts) (w1 ++ w2) (r :: rs) Γ Γ2 := by
  obtain ⟨⟨l1, k1⟩, g1, p1, q1⟩ := h1
  obtain ⟨⟨l2, k2⟩, g2, p2, q2⟩ := h2
  refine ⟨⟨by rw [l2, l1], fun j hj => ?_⟩, _, fun i => pgs_cons (p1 i) (p2 i) (hs i), fun F H fp os σ vs Q hS p S q => ?_⟩
  · rw [k2 j (fun z => hj (List.mem_append_right _ z)), k1 j (fun z => hj (List.mem_append_left _ z))]
  · match vs, p with
    | [], p => have e := p.length; simp at e
    | v :: vs, p =>
      obtain ⟨f1, f2, rfl, pv, pr⟩ := Slots.cons_inv p
      refine ⟨v, vs, rfl, q1 F H f1 os σ v _ hS pv S fun σ1 os1 d1 ⟨m1, n1⟩ W1 S1 => ?_⟩
      refine q2 F H f2 os1 σ1 vs _ hS pr S1 fun σ2 os2 d2 ⟨m2, n2⟩ W3 S2 => q σ2 os2 (d1 ++ d2) ⟨by rw [m2, m1], fun j hj => ?_⟩ ?_ S2
      · rw [n2 j (fun z => hj (List.mem_append_right _ z)), n1 j (fun z => hj (List.mem_append_left _ z))]
      · have a1 : (f1 ++ f2 ++ os).Perm (f2 ++ (f1 ++ os)) := by
          rw [← List.append_assoc]
          exact List.Perm.append_right os List.perm_append_comm
        refine a1.trans ((List.Perm.append_left f2 W1).trans ?_)
        have a2 : (f2 ++ (d1 ++ os1)).Perm (d1 ++ (f2 ++ os1)) := by
          rw [← List.append_assoc, ← List.append_assoc]
          exact List.Perm.append_right os1 List.perm_append_comm
        refine a2.trans ?_
        rw [List.append_assoc]
        exact List.Perm.append_left d1 W3
theorem xg_tup2 {α β : Type} {p : VP α} {q : VP β} {x : α × β} {t1 t2 : Expr} {n : Nat} {ws : List Nat} (h : XGs Y [t1, t2] ws [val p x.1, val q x.2] Γ Γ') (hn : ∀ i, (assignEach [t1, t2] (Y.X i).env).length = 2 := by intro _; rfl) (hst : ∀ i, (assignEach [t1, t2] (Y.X i).env).findIdx? (·.1) = none := by intro _; rfl) (hcm : Y.cm = true := by rfl) :
    XG Y (.Tuple [t1, t2] n pos) ws (val (pT2 p q) x) Γ Γ' := by
  obtain ⟨kk, g, pp, qq⟩ := h
  refine ⟨kk, _, fun i => by have := pg_tup (X := Y.X i) (k := n) (pos := pos) ((Y.hC i).trans hcm) (pp i) (hn i) (hst i); rw [Y.hK i] at this; exact this, fun F H fp os σ v Q hS pv S q => ?_⟩
  obtain ⟨rfl, l, a, b, ev, h1, h2, h3⟩ := val_P pv
  subst ev
  exact ⟨l, [a, b], rfl, SqT.of (hS _ _ h1), rfl, qq F H [] os σ [a, b] Q hS (Slots.cons (fp := []) ⟨rfl, _, rfl, h2⟩ (Slots.cons (fp := []) ⟨rfl, _, rfl, h3⟩ .nil)) S q⟩
theorem xg_tup3 {α β γ : Type} {p : VP α} {q : VP β} {u : VP γ} {x : α × β × γ} {t1 t2 t3 : Expr} {n : Nat} {ws : List Nat} (h : XGs Y [t1, t2, t3] ws [val p x.1, val q x.2.1, val u x.2.2] Γ Γ') (hn : ∀ i, (assignEach [t1, t2, t3] (Y.X i).env).length = 3 := by intro _; rfl) (hst : ∀ i, (assignEach [t1, t2, t3] (Y.X i).env).findIdx? (·.1) = none := by intro _; rfl) (hcm : Y.cm = true := by rfl) :
    XG Y (.Tuple [t1, t2, t3] n pos) ws (val (pT3 p q u) x) Γ Γ' := by
  obtain ⟨kk, g, pp, qq⟩ := h
  refine ⟨kk, _, fun i => by have := pg_tup (X := Y.X i) (k := n) (pos := pos) ((Y.hC i).trans hcm) (pp i) (hn i) (hst i); rw [Y.hK i] at this; exact this, fun F H fp os σ v Q hS pv S q => ?_⟩
  obtain ⟨rfl, l, a, b, c, ev, h1, h2, h3, h4⟩ := val_P pv
  subst ev
  exact ⟨l, [a, b, c], rfl, SqT.of (hS _ _ h1), rfl, qq F H [] os σ [a, b, c] Q hS (Slots.cons (fp := []) ⟨rfl, _, rfl, h2⟩ (Slots.cons (fp := []) ⟨rfl, _, rfl, h3⟩ (Slots.cons (fp := []) ⟨rfl, _, rfl, h4⟩ .nil))) S q⟩
/-- x = e -/
theorem go_set (j : Nat) {x : Str} {pos' : Pos} (he : XV Y e Γ r) (hg : Go Y i rest D B (Γ.set j r)) (hj : Nat.blt j Γ.length = true := by rfl) (hi : (Y.X i).N[j]? = some x := by rfl) (hx : Loc (Y.X i).env.scope x := by first | exact Or.inl rfl | exact Or.inr rfl)
    (hs : swapsWith e (some (.Name x pos')) pos.line (Y.X i).env = pure false := by rfl) (hf : (Y.X i).fn x = true ∨ (Y.X i).env.scope.names.lookup x = some .local := by first | exact Or.inl rfl | exact Or.inr rfl) : Go Y i (.Assign [.Name x pos'] e pos :: rest) D B Γ := by
  obtain ⟨t, p, rd⟩ := he
  refine go_ps (ps_set (Y.hN i) hi hx (p i) hs hf) fun F H σ ⟨os, W, S⟩ => ?_
  refine rd B F H os σ _ (Sta.in W S) fun v F1 H1 fp f1 e1 W1 p1 => ?_
  obtain ⟨os', d, h1, h2⟩ := (S.mono f1 e1).put p1 (Nat.le_of_ble_eq_true hj)
  exact hg F1 H1 _ ⟨os', (W1.perm h2).drop, h1⟩
/-- target = e -/
theorem go_asg {ws : List Nat} (he : XV Y e Γ r) (ht : XG Y tg ws r Γ Γ') (hg : Go Y i rest D B Γ') (hs : swapsWithSole [tg] e pos.line (Y.X i).env = pure false := by rfl) (hw : swappedStores [tg] e (Y.X i).env = pure none := by rfl) (h1 : (assignEach [tg] (Y.X i).env).map (·.2) = [assign tg (Y.X i).env] := by rfl) :
    Go Y i (.Assign [tg] e pos :: rest) D B Γ := by
  obtain ⟨t, p, rd⟩ := he
  obtain ⟨_, g, pg, qg⟩ := ht
  refine go_ps (ps_asg (p i) (pg i) hs hw h1) fun F H σ ⟨os, W, S⟩ => ?_
  refine rd B F H os σ _ (Sta.in W S) fun v F1 H1 fp f1 e1 W1 p1 => ?_
  exact qg F1 H1 fp os σ v _ W1.sub p1 (S.mono f1 e1) fun σ' os' d _ W' S' => hg F1 H1 σ' ⟨os', (W1.perm W').drop, S'⟩
/-! ### what is walked -/
/-- an iterator of things told by rs; ro: while the whole heap stands -/
def Wk (ro : Prop) (J : It) (F H : Hp) (rs : List Slot) : Prop := ∀ F1 H1, Same F F1 → (ro → Same H H1) → Same F1 H1 → J.stop rs.length H1 ∧
  ∀ (n : Nat) (r : Slot), rs[n]? = some r → J.go n H1 ∧ ∀ v H2, J.yld n H1 v H2 → Same H1 H2 ∧ ∀ (B : Bs) (os : List Addr), Wo B F1 H1 os → ∃ F2, Same F1 F2 ∧ Wo B F2 H2 os ∧ r.P F2 H2 [] (some v)
def XI (Y : Fa P w K mg base k) (tg iter : Expr) (Γ : List Slot) (ro : Prop) (rs : List Slot) : Prop :=
  ∃ wi : TI, (∀ i, PI (Y.X i) tg iter wi) ∧ ∀ (B : Bs) (F H : Hp) (os : List Addr) (σ : List (Option V)) (R : It → Hp → Prop), In B F H os σ Γ → (∀ J F' H', Same F F' → Same H H' → Wo B F' H' os → Wk ro J F' H' rs → R J H') → wi σ H R
theorem XI.ro {ro : Prop} {rs : List Slot} (h : XI Y tg iter Γ False rs) : XI Y tg iter Γ ro rs := by
  obtain ⟨wi, p, q⟩ := h
  exact ⟨wi, p, fun B F H os σ R I k => q B F H os σ R I fun J F' H' f e W w' => k J F' H' f e W fun F1 H1 a _ c => w' F1 H1 a (fun z => z.elim) c⟩
theorem paired_at' {α β : Type} {G : α → β → Prop} : ∀ {xs : List α} {ys : List β}, Paired G xs ys → ∀ {n : Nat} {y : β}, ys[n]? = some y → ∃ x, xs[n]? = some x ∧ G x y
  | _, _, .nil, n, x, e => by simp at e
  | _, _, .cons r t, 0, x, e => by simp at e; subst e; exact ⟨_, rfl, r⟩
  | _, _, .cons r t, n + 1, x, e => paired_at' t (n := n) (by simpa using e)
/-- over a list that stands still, by what is known of it at every heap that comes -/
theorem wk_list {α : Type} {p : VP α} {xs : List α} {ro : Prop} {F H : Hp} {l : Addr} {vs : List V} (hl : ∀ F1 H1, Same F F1 → (ro → Same H H1) → Same F1 H1 → SqL K H1 l vs) (hp : Paired (p.R F) vs xs) : Wk ro (Itl K l) F H (xs.map (val p)) := by
  intro F1 H1 a b c
  have q := hl F1 H1 a b c
  have hlen := Paired.length hp
  refine ⟨⟨vs, q, by simp [hlen]⟩, fun n r hr => ?_⟩
  rw [List.getElem?_map] at hr
  obtain ⟨x, ex, er⟩ := Option.map_eq_some_iff.mp hr
  obtain ⟨v, ev, rv⟩ := paired_at' hp ex
  refine ⟨⟨vs, v, q, ev⟩, fun u H2 y => ?_⟩
  obtain ⟨e1, y⟩ := y
  subst e1
  refine ⟨fun _ _ h => h, fun B os W => ⟨F1, same_refl, W, ?_⟩⟩
  have e2 := y vs q
  rw [ev] at e2
  cases e2
  subst er
  exact ⟨rfl, v, rfl, p.mono a rv⟩
theorem xi_list {α : Type} {p : VP α} {xs : List α} (h : XV Y iter Γ (val (pL p) xs)) : XI Y tg iter Γ False (xs.map (val p)) := by
  obtain ⟨t, pe, rd⟩ := h
  refine ⟨_, fun i => by have := pi_list (X := Y.X i) (tg := tg) (pe i); rw [Y.hK i] at this; exact this, fun B F H os σ R I kk => ?_⟩
  refine rd B F H os σ _ I fun v F1 H1 fp f1 e1 W1 p1 => ?_
  obtain ⟨_, l, vs, ev, h1, h2⟩ := val_P p1
  subst ev
  exact ⟨l, rfl, ⟨vs, SqL.of (W1.sub _ _ h1)⟩, kk _ F1 H1 f1 e1 W1.drop (wk_list (fun F2 H2 a _ c => SqL.of (c _ _ (a _ _ h1))) h2)⟩
theorem xi_tup {α : Type} {p : VP α} {xs : List α} (h : XV Y iter Γ (val (pTup p) xs)) : XI Y tg iter Γ False (xs.map (val p)) := by
  obtain ⟨t, pe, rd⟩ := h
  refine ⟨_, fun i => by have := pi_tup (X := Y.X i) (tg := tg) (pe i); rw [Y.hK i] at this; exact this, fun B F H os σ R I kk => ?_⟩
  refine rd B F H os σ _ I fun v F1 H1 fp f1 e1 W1 p1 => ?_
  obtain ⟨_, l, vs, ev, h1, hp⟩ := val_P p1
  subst ev
  refine ⟨l, rfl, ⟨vs, SqT.of (W1.sub _ _ h1)⟩, kk _ F1 H1 f1 e1 W1.drop ?_⟩
  intro F2 H2 a b c
  have q : SqT K H2 l vs := SqT.of (c _ _ (a _ _ h1))
  have hlen := Paired.length hp
  refine ⟨⟨vs, q, by simp [hlen]⟩, fun n r hr => ?_⟩
  rw [List.getElem?_map] at hr
  obtain ⟨x, ex, er⟩ := Option.map_eq_some_iff.mp hr
  obtain ⟨v, ev, rv⟩ := paired_at' hp ex
  refine ⟨⟨vs, v, q, ev⟩, fun u H3 y => ?_⟩
  obtain ⟨e1, y⟩ := y
  subst e1
  refine ⟨fun _ _ h => h, fun B os W => ⟨F2, same_refl, W, ?_⟩⟩
  have e2 := y vs q
  rw [ev] at e2
  cases e2
  subst er
  exact ⟨rfl, v, rfl, p.mono a rv⟩
/-- lo, lo + 1, .. below hi -/
def rangeL (lo hi : Int) : List Int := (List.range (hi - lo).toNat).map fun (n : Nat) => lo + (n : Int)
theorem wk_range {ro : Prop} {F H : Hp} {lo hi : Int} : Wk ro (Itr lo (hi - lo).toNat) F H ((rangeL lo hi).map (val pInt)) := by
  intro F1 H1 a b c
  refine ⟨by show (hi - lo).toNat ≤ _; simp [rangeL], fun n r hr => ?_⟩
  rw [List.getElem?_map] at hr
  obtain ⟨x, ex, er⟩ := Option.map_eq_some_iff.mp hr
  unfold rangeL at ex
  rw [List.getElem?_map] at ex
  obtain ⟨m, em, e3⟩ := Option.map_eq_some_iff.mp ex
  have hn : n < (hi - lo).toNat := by
    have := (List.getElem?_eq_some_iff.mp em).1
    simpa using this
  rw [List.getElem?_range hn] at em
  cases em
  refine ⟨hn, fun u H2 y => ?_⟩
  obtain ⟨e1, e2⟩ := y
  subst e1; subst e2; subst er; subst e3
  exact ⟨fun _ _ h => h, fun B os W => ⟨F1, same_refl, W, rfl, _, rfl, rfl⟩⟩
theorem xi_range1 {n : Int} {p' : Pos} (hm : mg "range" = none) (h : XV Y e Γ (vInt n)) (hn : -(2 ^ 62) ≤ n ∧ n < 2 ^ 62) (hg : ∀ i, Gl (Y.X i) "range" := by intro _; rfl) (hs : ∀ i, starEach [e] (Y.X i).env = [(false, eval e (Y.X i).env)] := by intro _; rfl) : XI Y tg (.Call (.Name "range" p') [e] [] pos) Γ False ((rangeL 0 n).map (val pInt)) := by
  obtain ⟨t, pe, rd⟩ := h
  refine ⟨_, fun i => pi_range1 (hg i) (by rw [Y.hM]; exact hm) (pa_cons (pe i) pa_nil (by rw [hs i]; rfl)) (hs i), fun B F H os σ R I kk => ?_⟩
  refine rd B F H os σ _ I fun v F1 H1 fp f1 e1 W1 p1 => ?_
  obtain rfl := vint p1
  refine ⟨n, rfl, hn.1, hn.2, ?_⟩
  have := kk (Itr 0 (n - 0).toNat) F1 H1 f1 e1 W1.drop wk_range
  rw [Int.sub_zero] at this
  exact this
/-- enumerate(xs) of a list that stands still -/
theorem xi_enum {α : Type} {p : VP α} {xs : List α} {p' tpos : Pos} {elts : List Expr} {kk : Nat} (hm : mg "enumerate" = none) (h : XV Y e Γ (val (pL p) xs)) (hg : ∀ i, Gl (Y.X i) "enumerate" := by intro _; rfl) (hs : ∀ i, starEach [e] (Y.X i).env = [(false, eval e (Y.X i).env)] := by intro _; rfl) :
    XI Y (.Tuple elts kk tpos) (.Call (.Name "enumerate" p') [e] [] pos) Γ False ((xs.zipIdx).map fun (x : α × Nat) => val (pT2 pInt p) ((x.2 : Int), x.1)) := by
  obtain ⟨t, pe, rd⟩ := h
  refine ⟨_, fun i => by have := pi_enum (X := Y.X i) (p := p') (pos := pos) (tpos := tpos) (elts := elts) (kk := kk) (hg i) (by rw [Y.hM]; exact hm) (pa_cons (pe i) pa_nil (by rw [hs i]; rfl)) (hs i); rw [Y.hK i] at this; exact this, fun B F H os σ R I q => ?_⟩
  refine rd B F H os σ _ I fun v F1 H1 fp f1 e1 W1 p1 => ?_
  obtain ⟨_, l, vs, ev, h1, hp⟩ := val_P p1
  subst ev
  refine ⟨l, vs, rfl, SqL.of (W1.sub _ _ h1), q _ F1 H1 f1 e1 W1.drop ?_⟩
  intro F2 H2 a b c
  have ql : SqL K H2 l vs := SqL.of (c _ _ (a _ _ h1))
  have hlen := Paired.length hp
  refine ⟨⟨vs, ql, by simp [hlen]⟩, fun n r hr => ?_⟩
  rw [List.getElem?_map] at hr
  obtain ⟨x, ex, er⟩ := Option.map_eq_some_iff.mp hr
  rw [List.getElem?_zipIdx] at ex
  obtain ⟨x', ex', e3⟩ := Option.map_eq_some_iff.mp ex
  subst e3
  obtain ⟨v, ev, rv⟩ := paired_at' hp ex'
  refine ⟨⟨vs, v, ql, ev⟩, fun u H3 y => ?_⟩
  obtain ⟨T, x2, e4, hT, e5, y⟩ := y
  subst e4; subst e5
  have e2 := y vs ql
  rw [ev] at e2
  cases e2
  subst er
  refine ⟨same_upd hT, fun B os W => ?_⟩
  have hF2 := (W.free hT).1
  exact ⟨upd F2 T (.tup [.int (n : Nat), v]), same_upd hF2, W.newF hT, rfl, _, rfl, T, _, _, rfl, upd_same, by simp [pInt], p.mono (fun _ _ z => same_upd hF2 _ _ (a _ _ z)) rv⟩

/-! ### loops -/
/-- how a loop's turn (or the loop) ends -/
inductive Fl (ρ S : Type) where
  | next (s : S)
  | brk (s : S)
  | ret (r : ρ)
def forF {α S ρ : Type} : List α → S → (α → S → Option (Fl ρ S)) → Option (Fl ρ S)
  | [], s, _ => some (.next s)
  | x :: xs, s, f => (f x s).bind fun
    | .next s' => forF xs s' f
    | .brk s' => some (.brk s')
    | .ret r => some (.ret r)
def whileF {S ρ : Type} : Nat → S → (S → Option (Fl ρ S)) → Option (Fl ρ S)
  | 0, _, _ => none
  | n + 1, s, f => (f s).bind fun
    | .next s' => whileF n s' f
    | .brk s' => some (.brk s')
    | .ret r => some (.ret r)
/-- what a turn's ways out lead to -/
def LE {ρ S : Type} (B : Bs) (Γf : S → List Slot) (Sr : ρ → Slot) (out : Fl ρ S) : Ends where
  nx := fun σ H => ∃ s', out = .next s' ∧ Nx B (Γf s') σ H
  ct := fun σ H => ∃ s', out = .next s' ∧ Nx B (Γf s') σ H
  bk := fun σ H => ∃ s', out = .brk s' ∧ Nx B (Γf s') σ H
  rt := fun v H => ∃ r, out = .ret r ∧ Fi B (Sr r) v H
/-- a target's reading from what runs it -/
def contG (X : Cx) (tg : Expr) : TG := fun v σ H Q => ∀ (pins : List (Addr × Obj)) (s : Shared) (u : Value), Inv X pins σ H s → RelV v u → wpAny (model X.prog X.w) X.A (assign tg X.env u) (fun _ s' => ∃ σ' H', Inv X pins σ' H' s' ∧ Q σ' H') X.xe s
theorem pg_contG {X : Cx} : PG X tg (contG X tg) := ⟨fun pins s σ H v u Q I r h => h pins s u I r⟩
def contT (X : Cx) (e : Expr) : TT := fun σ H Q => ∀ (pins : List (Addr × Obj)) (s : Shared), Inv X pins σ H s → wpAny (model X.prog X.w) X.A (isTrue e X.env (eval e X.env)) (TP X pins σ Q) X.xe s
/-- the entry made the base, and back -/
theorem Sta.enter {F H : Hp} {σ : L2.St} (S : Sta B F H σ Γ) : ∃ os, Wo B F H os ∧ Sta ⟨F, H, os⟩ F H σ Γ := by
  obtain ⟨os, W, S⟩ := S
  exact ⟨os, W, os, W.self, S⟩
theorem Sta.leave {F1 H1 F H : Hp} {os : List Addr} {σ : L2.St} (W : Wo B F1 H1 os) (S : Sta ⟨F1, H1, os⟩ F H σ Γ) : Sta B F H σ Γ := by
  obtain ⟨o2, W2, S⟩ := S
  exact ⟨o2, W.trans W2, S⟩
theorem Fi.leave {F1 H1 : Hp} {os : List Addr} {v : V} {H : Hp} (W : Wo B F1 H1 os) (S : Fi ⟨F1, H1, os⟩ r v H) : Fi B r v H := by
  obtain ⟨F, fp, W2, p⟩ := S
  exact ⟨F, fp, W.trans W2, p⟩
theorem Sta.bF {F H : Hp} {σ : L2.St} (S : Sta B F H σ Γ) : Same B.F F := let ⟨_, W, _⟩ := S; W.bF
theorem Sta.sub {F H : Hp} {σ : L2.St} (S : Sta B F H σ Γ) : Same F H := let ⟨_, W, _⟩ := S; W.sub
theorem go_for {α T ρ : Type} {xs : List α} {rs : α → Slot} (Γf : T → List Slot) {Sr : ρ → Slot} {s0 : T} {f : α → T → Option (Fl ρ T)} {o : Fl ρ T}
    (hi : XI Y tg iter Γ False (xs.map rs)) (h0 : WkL Γ (Γf s0)) (ho : forF xs s0 f = some o)
    (hb : ∀ B1 x s out, x ∈ xs → f x s = some out → (∀ r, out = .ret r → o = .ret r) → (∀ F H os, Wo B1 F H os → Wo B F H os) → ∃ ws Γ1, XG Y tg ws (rs x) (Γf s) Γ1 ∧ Go Y i body (LE B1 Γf Sr out) B1 Γ1)
    (hr : ∀ s, (o = .next s ∨ o = .brk s) → Go Y i rest D B (Γf s)) (hret : ∀ r, o = .ret r → ∀ v H, Fi B (Sr r) v H → D.rt v H)
    (hs : ∀ x, foldedSetIterable iter (Y.X i).env x = pure x := by intro _; rfl) (hcm : Y.cm = true := by rfl) : Go Y i (.For tg iter body [] pos :: rest) D B Γ := by
  obtain ⟨wi, pi, qi⟩ := hi
  refine go_ps (ps_for (Y.hO i) ((Y.hC i).trans hcm) (pi i) pg_contG pss_cont hs) fun F H σ ⟨os0, W0, S0⟩ => ?_
  refine qi B F H os0 σ _ (Sta.in W0 S0) fun J F1 H1 f1 e1 W1 wk => ?_
  obtain ⟨os, W, S1⟩ := (Sta.to S0 f1 e1 W1).enter
  obtain ⟨F2, S2⟩ := S1.wk h0
  refine ⟨fun n m σ' H' => n ≤ xs.length ∧ m = xs.length - n ∧ ∃ (s : T) (F' : Hp), Sta ⟨F1, H1, os⟩ F' H' σ' (Γf s) ∧ forF (xs.drop n) s f = some o, ⟨xs.length - 0, Nat.zero_le _, rfl, s0, F2, S2, by simpa using ho⟩, ?_⟩
  rintro n m σ' H' ⟨hn, rfl, s, F', S', hfo⟩
  obtain ⟨w1, w2⟩ := wk F' H' S'.bF (fun z => z.elim) S'.sub
  by_cases hlt : n < xs.length
  · have hx : xs[n]? = some xs[n] := List.getElem?_eq_getElem hlt
    have hdrop : xs.drop n = xs[n] :: xs.drop (n + 1) := List.drop_eq_getElem_cons hlt
    rw [hdrop] at hfo
    unfold forF at hfo
    obtain ⟨out, hout, hfo⟩ := Option.bind_eq_some_iff.mp hfo
    obtain ⟨g1, g2⟩ := w2 n (rs xs[n]) (by rw [List.getElem?_map, hx]; rfl)
    obtain ⟨ws, Γ1, hxg, hgo⟩ := hb ⟨F1, H1, os⟩ xs[n] s out (List.getElem_mem hlt) hout (fun r e => by subst e; simpa using hfo.symm) (fun _ _ _ W' => W.trans W')
    refine .inr ⟨g1, fun σ2 H2 => ∃ s', out = .next s' ∧ Nx ⟨F1, H1, os⟩ (Γf s') σ2 H2, ?_, ?_⟩
    · rintro σ2 H2 ⟨s', rfl, F3, S3⟩
      exact ⟨xs.length - (n + 1), by omega, hlt, rfl, s', F3, S3, hfo⟩
    · intro v H2 y
      obtain ⟨e2, push⟩ := g2 v H2 y
      obtain ⟨o4, W4, S4⟩ := S'
      obtain ⟨F4, f4, W5, p5⟩ := push _ _ W4
      obtain ⟨_, g, pg, qg⟩ := hxg
      intro pins s9 u I r
      refine (pg i).run pins s9 σ' H2 v u _ I r (qg F4 H2 [] o4 σ' v _ W5.sub p5 (S4.mono f4 e2) fun σ5 o5 d _ W6 S5 => ?_)
      refine cont_mono (hgo F4 H2 σ5 ⟨o5, (W5.perm (by simpa using W6)).drop, S5⟩) (fun _ _ z => z) (fun v H z => ?_) (fun σ6 H6 z => ?_) (fun _ _ z => z)
      · obtain ⟨r, rfl, S6⟩ := z
        exact hret r (by simpa using hfo.symm) v H (S6.leave W)
      · obtain ⟨s', rfl, F6, S6⟩ := z
        exact hr s' (.inr (by simpa using hfo.symm)) F6 H6 σ6 (S6.leave W)
  · have e : n = xs.length := by omega
    subst e
    refine .inl ⟨by simpa using w1, ?_⟩
    rw [List.drop_length] at hfo
    unfold forF at hfo
    exact hr s (.inl (by simpa using hfo.symm)) F' H' σ' (S'.leave W)
end
end Ty

/-! Ty4 -/
namespace Ty
open PySem PySem.Spec L2

section
variable {P : Program} {w : World} {K : PySem.W.Frag} {mg : Str → Option Value} {base : Heap} {k : Nat}
variable {Y : Fa P w K mg base k} {i : Y.I} {e ea eb eo tg iter : Expr} {es : List Expr} {st : Stmt} {rest body orelse : List Stmt} {Γ Γ' Γ1 Γ2 As : List Slot} {a b c r s s' : Slot} {pos : Pos} {B : Bs} {D : Ends} {x : Str} {p' : Pos}

/-! ### calls of builtins -/
theorem x_callB {id : String} {rr : List V → Hp → VK → Prop} (hc : ∀ i, CallR (Y.X i) (.builtin id) rr) (hm : mg x = none) (hv : bootBuiltins x = some (.builtin id)) (h : OpA rr As c) (ha : XA Y (e :: es) Γ As) (hg : ∀ i, Gl (Y.X i) x := by intro _; rfl) (hn : x ≠ "__name__" := by decide) (hdb : (x == ("__debug__" : Str)) = false := by decide)
    (he : ∀ i, starEach (e :: es) (Y.X i).env = (false, eval e (Y.X i).env) :: starEach es (Y.X i).env := by intro _; rfl) (hpl : ∀ i, (backTo pos (starEach es (Y.X i).env)).any (·.1) = false := by intro _; rfl) : XV Y (.Call (.Name x p') (e :: es) [] pos) Γ c := by
  obtain ⟨t, pa, rd⟩ := ha
  refine ⟨_, fun i => pe_callB (hc i) (hg i) (by rw [Y.hM]; exact hm) hv (pa i) hn hdb (he i) (hpl i), fun B F H os σ Q I q => ?_⟩
  refine rd B F H os σ _ I fun vs F1 H1 fp f1 e1 W1 S1 => ?_
  exact h B F1 H1 vs fp os Q W1 S1 fun v F2 H2 fp2 f2 e2 W2 p2 => q v F2 H2 fp2 (f1.trans f2) (e1.trans e2) W2 p2
theorem x_callTy {id : String} {rr : List V → Hp → VK → Prop} (hc : ∀ i, CallR (Y.X i) (.type id) rr) (hm : mg x = none) (hv : bootBuiltins x = some (.type id)) (h : OpA rr As c) (ha : XA Y (e :: es) Γ As) (hg : ∀ i, Gl (Y.X i) x := by intro _; rfl) (hn : x ≠ "__name__" := by decide) (hdb : (x == ("__debug__" : Str)) = false := by decide)
    (he : ∀ i, starEach (e :: es) (Y.X i).env = (false, eval e (Y.X i).env) :: starEach es (Y.X i).env := by intro _; rfl) (hpl : ∀ i, (backTo pos (starEach es (Y.X i).env)).any (·.1) = false := by intro _; rfl) : XV Y (.Call (.Name x p') (e :: es) [] pos) Γ c := by
  obtain ⟨t, pa, rd⟩ := ha
  refine ⟨_, fun i => pe_callTy (hc i) (hg i) (by rw [Y.hM]; exact hm) hv (pa i) hn hdb (he i) (hpl i), fun B F H os σ Q I q => ?_⟩
  refine rd B F H os σ _ I fun vs F1 H1 fp f1 e1 W1 S1 => ?_
  exact h B F1 H1 vs fp os Q W1 S1 fun v F2 H2 fp2 f2 e2 W2 p2 => q v F2 H2 fp2 (f1.trans f2) (e1.trans e2) W2 p2
/-- one argument -/
theorem opA1 {rr : List V → Hp → VK → Prop} (h : Op1 (fun x H Q => rr [x] H Q) a c) : OpA rr [a] c := fun B F H vs fx os Q W S q => by
  match vs, S with
  | [], S => have e := S.length; simp at e
  | [v], S =>
    obtain ⟨f1, f2, rfl, p, S2⟩ := Slots.cons_inv S
    rw [List.append_assoc] at W
    have W' : Wo B F H (f1 ++ os) := (W.perm (by rw [← List.append_assoc, ← List.append_assoc]; exact List.Perm.append_right os List.perm_append_comm)).drop
    exact h B F H v f1 os Q W' p q
  | _ :: _ :: _, S => have e := S.length; simp at e
theorem opA2 {rr : List V → Hp → VK → Prop} (h : Op2 (fun x y H Q => rr [x, y] H Q) a b c) : OpA rr [a, b] c := fun B F H vs fx os Q W S q => by
  match vs, S with
  | [], S => have e := S.length; simp at e
  | [_], S => have e := S.length; simp at e
  | [v, u], S =>
    obtain ⟨f1, f2, rfl, p, S2⟩ := Slots.cons_inv S
    obtain ⟨f3, f4, rfl, p2, S3⟩ := Slots.cons_inv S2
    have W' : Wo B F H (f4 ++ (f3 ++ (f1 ++ os))) := W.perm (by
      have e1 : (f1 ++ (f3 ++ f4)).Perm (f4 ++ (f3 ++ f1)) := by
        refine List.perm_append_comm.trans ?_
        rw [← List.append_assoc]
        exact List.Perm.append_right f1 List.perm_append_comm
      have e2 := List.Perm.append_right os e1
      rw [List.append_assoc f4, List.append_assoc f3] at e2
      exact e2)
    exact h B F H v u f1 f3 os Q W'.drop p p2 q
  | _ :: _ :: _ :: _, S => have e := S.length; simp at e
theorem xa1 (h : XV Y e Γ a) (hs : ∀ i, starEach [e] (Y.X i).env = (false, eval e (Y.X i).env) :: starEach [] (Y.X i).env := by intro _; rfl) : XA Y [e] Γ [a] := xa_cons h xa_nil hs
theorem xa2 (h : XV Y ea Γ a) (h2 : XV Y eb Γ b) (hs2 : ∀ i, starEach [eb] (Y.X i).env = (false, eval eb (Y.X i).env) :: starEach [] (Y.X i).env := by intro _; rfl) (hs : ∀ i, starEach [ea, eb] (Y.X i).env = (false, eval ea (Y.X i).env) :: starEach [eb] (Y.X i).env := by intro _; rfl) : XA Y [ea, eb] Γ [a, b] := xa_cons h (xa_cons h2 xa_nil hs2) hs

/-! ### len, list(), tuple(), int(), max, min -/
def rLenK (K : PySem.W.Frag) : List V → Hp → VK → Prop := fun xs H Q => ∃ p ys, xs = [.ref p] ∧ (SqL K H p ys ∨ SqT K H p ys) ∧ Q (.int ys.length) H
def rListK (K : PySem.W.Frag) : List V → Hp → VK → Prop := fun xs H Q => ∃ p ys, xs = [.ref p] ∧ (SqL K H p ys ∨ SqT K H p ys) ∧ ∀ l, H l = none → Q (.ref l) (upd H l (.lst ys))
def rTupK (K : PySem.W.Frag) : List V → Hp → VK → Prop := fun xs H Q => ∃ p ys, xs = [.ref p] ∧ ((SqL K H p ys ∧ ∀ l, H l = none → Q (.ref l) (upd H l (.tup ys))) ∨ (SqT K H p ys ∧ Q (.ref p) H))
theorem c_len (Y : Fa P w K mg base k) (i : Y.I) : CallR (Y.X i) (.builtin "len") (rLenK K) := by have h := call_len_seq (X := Y.X i); rw [Y.hK i] at h; exact h
theorem c_list (Y : Fa P w K mg base k) (i : Y.I) : CallR (Y.X i) (.type "list") (rListK K) := by have h := call_list_of (X := Y.X i); rw [Y.hK i] at h; exact h
theorem c_tup (Y : Fa P w K mg base k) (i : Y.I) : CallR (Y.X i) (.type "tuple") (rTupK K) := by have h := call_tuple_of (X := Y.X i); rw [Y.hK i] at h; exact h
section
variable {α β : Type} {p : VP α} {q : VP β} {xs : List α}
theorem o_lenL (hs : SV K s p xs) : OpA (rLenK K) [s] (vInt (xs.length : Int)) := opA1 fun B F H v fx os Q W pv q => by
  obtain ⟨l, vs, ev, h1, h2⟩ := hs F H fx _ W.sub pv
  cases ev
  exact ⟨l, vs, rfl, .inl h1, q _ F H [] same_refl same_refl W.drop ⟨rfl, _, rfl, by show V.int _ = V.int _; rw [Paired.length h2]⟩⟩
theorem o_lenT (hs : TV s p xs) : OpA (rLenK K) [s] (vInt (xs.length : Int)) := opA1 fun B F H v fx os Q W pv q => by
  obtain ⟨l, vs, ev, h1, h2⟩ := hs F H fx _ W.sub pv
  cases ev
  exact ⟨l, vs, rfl, .inr (SqT.of h1), q _ F H [] same_refl same_refl W.drop ⟨rfl, _, rfl, by show V.int _ = V.int _; rw [Paired.length h2]⟩⟩
/-- a list made anew -/
theorem newL {B : Bs} {F H : Hp} {os : List Addr} {vs : List V} {l : Addr} {Q : VK} (W : Wo B F H os) (hl : H l = none) (hp : Paired (p.R F) vs xs)
    (q : ∀ v F' H' fp, Same F F' → Same H H' → Wo B F' H' (fp ++ os) → (own (oL p) xs).P F' H' fp (some v) → Q v H') : Q (.ref l) (upd H l (.lst vs)) :=
  q _ F _ [l] same_refl (same_upd hl) (W.newO hl) ⟨_, rfl, l, vs, rfl, rfl, upd_same, hp⟩
theorem o_listL (hs : SV K s p xs) : OpA (rListK K) [s] (own (oL p) xs) := opA1 fun B F H v fx os Q W pv q => by
  obtain ⟨l, vs, ev, h1, h2⟩ := hs F H fx _ W.sub pv
  cases ev
  exact ⟨l, vs, rfl, .inl h1, fun l' hl => newL W.drop hl h2 q⟩
/-- a frozen object made anew -/
theorem newF {B : Bs} {F H : Hp} {os : List Addr} {u : HO} {l : Addr} {Q : VK} {r : Slot} (W : Wo B F H os) (hl : H l = none) (hp : ∀ F', Same F F' → F' l = some u → r.P F' (upd H l u) [] (some (.ref l)))
    (q : ∀ v F' H' fp, Same F F' → Same H H' → Wo B F' H' (fp ++ os) → r.P F' H' fp (some v) → Q v H') : Q (.ref l) (upd H l u) :=
  q _ (upd F l u) _ [] (same_upd (W.free hl).1) (same_upd hl) (W.newF hl) (hp _ (same_upd (W.free hl).1) upd_same)
theorem o_tupL (hs : SV K s p xs) : OpA (rTupK K) [s] (val (pTup p) xs) := opA1 fun B F H v fx os Q W pv q => by
  obtain ⟨l, vs, ev, h1, h2⟩ := hs F H fx _ W.sub pv
  cases ev
  exact ⟨l, vs, rfl, .inl ⟨h1, fun l' hl => newF (r := val (pTup p) xs) W.drop hl (fun F' f e => ⟨rfl, _, rfl, l', vs, rfl, e, Paired.mon (fun _ _ r => p.mono f r) h2⟩) q⟩⟩
theorem o_intI {z : Int} : OpA (fun xs H Q => (∃ i, xs = [V.int i] ∧ Q (.int i) H) ∨ ∃ k, xs = [V.bl k] ∧ Q (.int (if k then 1 else 0)) H) [vInt z] (vInt z) := opA1 fun B F H v fx os Q W pv q => by
  obtain rfl := vint pv
  exact .inl ⟨z, rfl, q _ F H [] same_refl same_refl W.drop ⟨rfl, _, rfl, rfl⟩⟩
theorem o_intB {z : Bool} : OpA (fun xs H Q => (∃ i, xs = [V.int i] ∧ Q (.int i) H) ∨ ∃ k, xs = [V.bl k] ∧ Q (.int (if k then 1 else 0)) H) [vBl z] (vInt (if z then 1 else 0)) := opA1 fun B F H v fx os Q W pv q => by
  obtain rfl := vbl pv
  exact .inr ⟨z, rfl, q _ F H [] same_refl same_refl W.drop ⟨rfl, _, rfl, rfl⟩⟩
theorem o_max2 {m n : Int} : OpA (fun xs H Q => ∃ i j, xs = [V.int i, V.int j] ∧ Q (.int (if j > i then j else i)) H) [vInt m, vInt n] (vInt (if n > m then n else m)) := opA2 fun B F H x y fx fy os Q W p1 p2 q => by
  obtain rfl := vint p1
  obtain rfl := vint p2
  exact ⟨m, n, rfl, q _ F H [] same_refl same_refl W.drop.drop ⟨rfl, _, rfl, rfl⟩⟩
theorem o_min2 {m n : Int} : OpA (fun xs H Q => ∃ i j, xs = [V.int i, V.int j] ∧ Q (.int (if j < i then j else i)) H) [vInt m, vInt n] (vInt (if n < m then n else m)) := opA2 fun B F H x y fx fy os Q W p1 p2 q => by
  obtain rfl := vint p1
  obtain rfl := vint p2
  exact ⟨m, n, rfl, q _ F H [] same_refl same_refl W.drop.drop ⟨rfl, _, rfl, rfl⟩⟩

/-! ### displays -/
theorem slots_vals {F H : Hp} : ∀ {vs : List V} {xs : List α} {fp : List Addr}, Slots F H fp (vs.map some) (xs.map (val p)) → Paired (p.R F) vs xs
  | [], [], _, _ => .nil
  | [], _ :: _, _, S => by have e := S.length; simp at e
  | _ :: _, [], _, S => by have e := S.length; simp at e
  | v :: vs, x :: xs, fp, S => by
    rw [List.map_cons, List.map_cons] at S
    obtain ⟨f1, f2, rfl, pv, S2⟩ := Slots.cons_inv S
    exact .cons (val_P pv).2 (slots_vals S2)
theorem x_lst (ha : XA Y es Γ (xs.map (val p))) (hz : xs.length ≤ sizeLine) : XV Y (.List es pos) Γ (own (oL p) xs) := by
  obtain ⟨t, pa, rd⟩ := ha
  refine ⟨_, fun i => pe_lst (pa i), fun B F H os σ Q I q => ?_⟩
  refine rd B F H os σ _ I fun vs F1 H1 fp f1 e1 W1 S1 => ?_
  have hp := slots_vals S1
  exact ⟨by rw [Paired.length hp]; exact hz, fun p' hl => newL W1.drop hl hp fun v F' H' fp' f2 e2 => q v F' H' fp' (f1.trans f2) (e1.trans e2)⟩
theorem x_tupN (ha : XA Y es Γ (xs.map (val p))) (hz : xs.length ≤ sizeLine) {n : Nat} : XV Y (.Tuple es n pos) Γ (val (pTup p) xs) := by
  obtain ⟨t, pa, rd⟩ := ha
  refine ⟨_, fun i => pe_tup (pa i), fun B F H os σ Q I q => ?_⟩
  refine rd B F H os σ _ I fun vs F1 H1 fp f1 e1 W1 S1 => ?_
  have hp := slots_vals S1
  exact ⟨by rw [Paired.length hp]; exact hz, fun p' hl => newF (r := val (pTup p) xs) W1.drop hl (fun F' f e => ⟨rfl, _, rfl, p', vs, rfl, e, Paired.mon (fun _ _ r => p.mono f r) hp⟩) fun v F' H' fp' f2 e2 => q v F' H' fp' (f1.trans f2) (e1.trans e2)⟩
theorem x_tup2 {n : Nat} {u : α} {v : β} (ha : XA Y [ea, eb] Γ [val p u, val q v]) : XV Y (.Tuple [ea, eb] n pos) Γ (val (pT2 p q) (u, v)) := by
  obtain ⟨t, pa, rd⟩ := ha
  refine ⟨_, fun i => pe_tup (pa i), fun B F H os σ Q I kk => ?_⟩
  refine rd B F H os σ _ I fun vs F1 H1 fp f1 e1 W1 S1 => ?_
  match vs, S1 with
  | [], S => have e := S.length; simp at e
  | [_], S => have e := S.length; simp at e
  | [v1, v2], S =>
    obtain ⟨g1, g2, rfl, p1, S2⟩ := Slots.cons_inv S
    obtain ⟨g3, g4, rfl, p2, S3⟩ := Slots.cons_inv S2
    exact ⟨by show 2 ≤ sizeLine; decide, fun p' hl => newF (r := val (pT2 p q) (u, v)) W1.drop hl (fun F' f e => ⟨rfl, _, rfl, p', v1, v2, rfl, e, p.mono f (val_P p1).2, q.mono f (val_P p2).2⟩) fun v F' H' fp' f2 e2 => kk v F' H' fp' (f1.trans f2) (e1.trans e2)⟩
  | _ :: _ :: _ :: _, S => have e := S.length; simp at e
/-! ### subscripts -/
theorem paired_atI {F : Hp} {vs : List V} (h : Paired (p.R F) vs xs) {z : Int} {u : α} (hz : atI xs z = some u) : ∃ v, atI vs z = some v ∧ p.R F v u := by
  unfold atI at hz ⊢
  rw [← Paired.length h] at hz
  cases e : ixN vs.length z with
  | none => rw [e] at hz; cases hz
  | some j =>
    rw [e] at hz
    exact paired_at' h (by simpa using hz)
theorem x_ix {z : Int} {u : α} (ha : XV Y ea Γ s) (hs : SV K s p xs) (hb : XV Y eb Γ (vInt z)) (hz : atI xs z = some u) (hx : PlainIx eb := by exact fun _ _ => rfl) : XV Y (.Subscript ea eb pos) Γ (val p u) := by
  obtain ⟨ta, pa, ra⟩ := ha
  obtain ⟨tb, pb, rb⟩ := hb
  refine ⟨_, fun i => by have h := ix_list (X := Y.X i); rw [Y.hK i] at h; exact pe_ix h (pa i) (pb i) hx, fun B F H os σ Q I q => ?_⟩
  refine two (Q := fun _ _ => True) I ra rb fun x y F2 H2 fx fy f2 e2 W2 p1 p2 => ?_
  obtain rfl := vint p2
  obtain ⟨l, vs, ev, h1, h2⟩ := hs F2 H2 fx _ W2.sub p1
  cases ev
  obtain ⟨v, hv, rv⟩ := paired_atI h2 hz
  exact ⟨l, vs, z, v, rfl, rfl, h1, hv, q v F2 H2 [] f2 e2 W2.drop.drop ⟨rfl, _, rfl, rv⟩⟩
theorem x_ixT {z : Int} {u : α} (ha : XV Y ea Γ s) (hs : TV s p xs) (hb : XV Y eb Γ (vInt z)) (hz : atI xs z = some u) (hx : PlainIx eb := by exact fun _ _ => rfl) : XV Y (.Subscript ea eb pos) Γ (val p u) := by
  obtain ⟨ta, pa, ra⟩ := ha
  obtain ⟨tb, pb, rb⟩ := hb
  refine ⟨_, fun i => by have h := ix_tup (X := Y.X i); rw [Y.hK i] at h; exact pe_ix h (pa i) (pb i) hx, fun B F H os σ Q I q => ?_⟩
  refine two (Q := fun _ _ => True) I ra rb fun x y F2 H2 fx fy f2 e2 W2 p1 p2 => ?_
  obtain rfl := vint p2
  obtain ⟨l, vs, ev, h1, h2⟩ := hs F2 H2 fx _ W2.sub p1
  cases ev
  obtain ⟨v, hv, rv⟩ := paired_atI h2 hz
  exact ⟨l, vs, z, v, rfl, rfl, SqT.of h1, hv, q v F2 H2 [] f2 e2 W2.drop.drop ⟨rfl, _, rfl, rv⟩⟩
/-- an item of a tuple of known places -/
theorem x_ixC {z : Int} {u : β} {t0 : VP α} {y : α} (ht : ∀ F v, t0.R F v y → ∃ l vs v', v = .ref l ∧ F l = some (.tup vs) ∧ atI vs z = some v' ∧ q.R F v' u) (ha : XV Y ea Γ (val t0 y)) (hb : XV Y eb Γ (vInt z)) (hx : PlainIx eb := by exact fun _ _ => rfl) : XV Y (.Subscript ea eb pos) Γ (val q u) := by
  obtain ⟨ta, pa, ra⟩ := ha
  obtain ⟨tb, pb, rb⟩ := hb
  refine ⟨_, fun i => by have h := ix_tup (X := Y.X i); rw [Y.hK i] at h; exact pe_ix h (pa i) (pb i) hx, fun B F H os σ Q I kk => ?_⟩
  refine two (Q := fun _ _ => True) I ra rb fun x y F2 H2 fx fy f2 e2 W2 p1 p2 => ?_
  obtain rfl := vint p2
  obtain ⟨l, vs, v', ev, h1, h2, h3⟩ := ht F2 _ (val_P p1).2
  subst ev
  exact ⟨l, vs, z, v', rfl, rfl, SqT.of (W2.sub _ _ h1), h2, kk v' F2 H2 [] f2 e2 W2.drop.drop ⟨rfl, _, rfl, h3⟩⟩
theorem x_fst {u : α × β} (ha : XV Y ea Γ (val (pT2 p q) u)) (hb : XV Y eb Γ (vInt 0)) (hx : PlainIx eb := by exact fun _ _ => rfl) : XV Y (.Subscript ea eb pos) Γ (val p u.1) :=
  x_ixC (t0 := pT2 p q) (y := u) (fun F v h => let ⟨l, a, b, e, h1, h2, h3⟩ := h; ⟨l, _, a, e, h1, rfl, h2⟩) ha hb hx
theorem x_snd {u : α × β} (ha : XV Y ea Γ (val (pT2 p q) u)) (hb : XV Y eb Γ (vInt 1)) (hx : PlainIx eb := by exact fun _ _ => rfl) : XV Y (.Subscript ea eb pos) Γ (val q u.2) :=
  x_ixC (t0 := pT2 p q) (y := u) (fun F v h => let ⟨l, a, b, e, h1, h2, h3⟩ := h; ⟨l, _, b, e, h1, rfl, h3⟩) ha hb hx
theorem x_t31 {γ : Type} {o : VP γ} {u : α × β × γ} (ha : XV Y ea Γ (val (pT3 p q o) u)) (hb : XV Y eb Γ (vInt 0)) (hx : PlainIx eb := by exact fun _ _ => rfl) : XV Y (.Subscript ea eb pos) Γ (val p u.1) :=
  x_ixC (t0 := pT3 p q o) (y := u) (fun F v h => let ⟨l, a, b, c, e, h1, h2, h3, h4⟩ := h; ⟨l, _, a, e, h1, rfl, h2⟩) ha hb hx
theorem x_t32 {γ : Type} {o : VP γ} {u : α × β × γ} (ha : XV Y ea Γ (val (pT3 p q o) u)) (hb : XV Y eb Γ (vInt 1)) (hx : PlainIx eb := by exact fun _ _ => rfl) : XV Y (.Subscript ea eb pos) Γ (val q u.2.1) :=
  x_ixC (t0 := pT3 p q o) (y := u) (fun F v h => let ⟨l, a, b, c, e, h1, h2, h3, h4⟩ := h; ⟨l, _, b, e, h1, rfl, h3⟩) ha hb hx
theorem x_t33 {γ : Type} {o : VP γ} {u : α × β × γ} (ha : XV Y ea Γ (val (pT3 p q o) u)) (hb : XV Y eb Γ (vInt 2)) (hx : PlainIx eb := by exact fun _ _ => rfl) : XV Y (.Subscript ea eb pos) Γ (val o u.2.2) :=
  x_ixC (t0 := pT3 p q o) (y := u) (fun F v h => let ⟨l, a, b, c, e, h1, h2, h3, h4⟩ := h; ⟨l, _, c, e, h1, rfl, h4⟩) ha hb hx

/-! ### list + list, list * int, in -/
theorem Paired.app {α β : Type} {G : α → β → Prop} : ∀ {xs : List α} {ys : List β} {us : List α} {ws : List β}, Paired G xs ys → Paired G us ws → Paired G (xs ++ us) (ys ++ ws)
  | _, _, _, _, .nil, h => h
  | _, _, _, _, .cons r t, h => .cons r (Paired.app t h)
theorem o_cat {ys : List α} (h1 : LV a p xs) (h2 : LV b p ys) (hz : xs.length + ys.length ≤ sizeLine) : Op2 rCat a b (own (oL p) (xs ++ ys)) := fun B F H x y fx fy os Q W p1 p2 q => by
  obtain ⟨l2, vs2, e2, g2, r2⟩ := h2 F H fy _ W.sub p2
  obtain ⟨l1, vs1, e1, g1, r1⟩ := h1 F H fx _ W.sub p1
  cases e1; cases e2
  exact ⟨l1, l2, vs1, vs2, rfl, rfl, g1, g2, by rw [Paired.length r1, Paired.length r2]; exact hz, fun p' hp => newL W.drop.drop hp (Paired.app r1 r2) q⟩
theorem Paired.rep {α β : Type} {G : α → β → Prop} {xs : List α} {ys : List β} (h : Paired G xs ys) : ∀ n : Nat, Paired G (List.replicate n xs).flatten (List.replicate n ys).flatten
  | 0 => .nil
  | n + 1 => by rw [List.replicate_succ, List.replicate_succ, List.flatten_cons, List.flatten_cons]; exact Paired.app h (Paired.rep h n)
theorem o_rep {z : Int} (h1 : LV a p xs) (hz : -(2 ^ 63) ≤ z ∧ z < 2 ^ 63 ∧ xs.length * z.toNat ≤ sizeLine) : Op2 rRep a (vInt z) (own (oL p) (List.replicate z.toNat xs).flatten) := fun B F H x y fx fy os Q W p1 p2 q => by
  obtain rfl := vint p2
  obtain ⟨l1, vs1, e1, g1, r1⟩ := h1 F H fx _ W.sub p1
  cases e1
  exact ⟨l1, z, vs1, rfl, rfl, g1, hz.1, hz.2.1, by rw [Paired.length r1]; exact hz.2.2, fun p' hp => newL W.drop.drop hp (Paired.rep r1 _) q⟩
/-- items that == tells as equality does -/
def Eqv (p : VP α) [DecidableEq α] : Prop := ∀ F v a, p.R F v a → flatV v = true ∧ ∀ F' v' a', p.R F' v' a' → eqV v' v = decide (a' = a)
theorem Eqv.int : Eqv pInt := fun F v a h => by
  cases h
  refine ⟨rfl, fun F' v' a' h' => ?_⟩
  cases h'
  show (a' == a) = _
  rw [Bool.eq_iff_iff]; simp
theorem Eqv.str : Eqv pStr := fun F v a h => by
  cases h
  refine ⟨rfl, fun F' v' a' h' => ?_⟩
  cases h'
  show (a' == a) = _
  rw [Bool.eq_iff_iff]; simp
theorem inV_of [DecidableEq α] (E : Eqv p) {F F' : Hp} {v : V} {u : α} (hu : p.R F' v u) : ∀ {vs : List V} {xs : List α}, Paired (p.R F) vs xs → inV v vs = decide (u ∈ xs) ∧ vs.all flatV = true
  | _, _, .nil => ⟨by simp [inV], rfl⟩
  | _, _, .cons r t => by
    obtain ⟨i1, i2⟩ := inV_of E hu t
    have h1 := (E _ _ _ hu).2 _ _ _ r
    refine ⟨?_, by rw [List.all_cons, (E _ _ _ r).1, i2]; rfl⟩
    unfold inV at i1 ⊢
    rw [List.any_cons, i1, h1, ← Bool.decide_or]
    exact decide_eq_decide.mpr ⟨fun z => z.elim (fun z => List.mem_cons.mpr (.inl z.symm)) fun z => List.mem_cons_of_mem _ z, fun z => (List.mem_cons.mp z).elim (fun z => .inl z.symm) .inr⟩
theorem o_ninL [DecidableEq α] (E : Eqv p) {u : α} (hs : SV K s p xs) : Op2 (rIn K true) (val p u) s (vBl (!decide (u ∈ xs))) := fun B F H x y fx fy os Q W p1 p2 q => by
  obtain ⟨l, vs, ev, h1, h2⟩ := hs F H fy _ W.sub p2
  cases ev
  have hu := (val_P p1).2
  obtain ⟨i1, i2⟩ := inV_of E hu h2
  exact ⟨l, vs, rfl, .inl h1, (E _ _ _ hu).1, i2, q _ F H [] same_refl same_refl W.drop.drop ⟨rfl, _, rfl, by show V.bl (!(inV _ _)) = V.bl _; rw [i1]⟩⟩
theorem c_nin (Y : Fa P w K mg base k) (i : Y.I) : OpR (Y.X i) (compareOp .NotIn) (rIn K true) := by have h := op_notIn_seq (X := Y.X i); rw [Y.hK i] at h; exact h

/-! ### == of data -/
structure DE (p : VP α) [DecidableEq α] (ok : α → Prop) where
  enc : α → PyData
  dp : ∀ (K : PySem.W.Frag) F v a, p.R F v a → Dp K F v (enc a)
  sh : ∀ a, ok a → (enc a).canLay0 = true
  d : Nat
  hd : ∀ a, (enc a).depth ≤ d
  eq : ∀ a b, PyData.eqv (enc a) (enc b) = decide (a = b)
theorem Dp.mono {F F' : Hp} (h : Same F F') : ∀ {v d}, Dp K F v d → Dp K F' v d := fun {v d} q => by
  refine Dp.rec (motive_1 := fun v d _ => Dp K F' v d) (motive_2 := fun vs ds _ => DpAll K F' vs ds) ?_ ?_ ?_ ?_ ?_ ?_ ?_ ?_ q
  · exact .non
  · exact fun b => .bl b
  · exact fun b => .int b
  · exact fun b => .str b
  · exact fun {a xs ds} s _ ih => .lst (Same.seq h s) ih
  · intro a xs ds s _ ih
    refine .tup ?_ ih
    rcases s with (s | ⟨o, s⟩) | s
    · exact .inl (.inl (h _ _ s))
    · exact .inl (.inr ⟨o, h _ _ s⟩)
    · exact .inr s
  · exact .nil
  · exact fun _ _ i1 i2 => .cons i1 i2
def DE.int : DE pInt (fun _ => True) := ⟨fun i => .int i, fun K F v a h => by cases h; exact .int a, fun _ _ => rfl, 0, fun _ => Nat.le_refl _, fun a b => by rw [PyData.eqv, Bool.eq_iff_iff]; simp⟩
def DE.bl : DE pBl (fun _ => True) := ⟨fun i => .bool i, fun K F v a h => by cases h; exact .bl a, fun _ _ => rfl, 0, fun _ => Nat.le_refl _, fun a b => by rw [PyData.eqv, Bool.eq_iff_iff]; simp⟩
def DE.str : DE pStr (fun x => PyData.strOk x = true) := ⟨fun i => .str i, fun K F v a h => by cases h; exact .str a, fun a h => by rw [PyData.canLay0]; exact h, 0, fun _ => Nat.le_refl _, fun a b => by rw [PyData.eqv, Bool.eq_iff_iff]; simp⟩
theorem eqvAll_map {enc : α → PyData} [DecidableEq α] (h : ∀ a b, PyData.eqv (enc a) (enc b) = decide (a = b)) : ∀ xs ys : List α, PyData.eqvAll (xs.map enc) (ys.map enc) = decide (xs = ys)
  | [], [] => by simp [PyData.eqvAll]
  | [], _ :: _ => by simp [PyData.eqvAll]
  | _ :: _, [] => by simp [PyData.eqvAll]
  | x :: xs, y :: ys => by
    rw [List.map_cons, List.map_cons, PyData.eqvAll, h, eqvAll_map h xs ys, Bool.eq_iff_iff]
    simp
theorem dpAll_of {F : Hp} {enc : α → PyData} (h : ∀ v a, p.R F v a → Dp K F v (enc a)) : ∀ {vs : List V} {xs : List α}, Paired (p.R F) vs xs → DpAll K F vs (xs.map enc)
  | _, _, .nil => .nil
  | _, _, .cons r t => .cons (h _ _ r) (dpAll_of h t)
theorem canAll {enc : α → PyData} {ok : α → Prop} (h : ∀ a, ok a → (enc a).canLay0 = true) : ∀ xs : List α, (∀ a ∈ xs, ok a) → PyData.canLayAll0 (xs.map enc) = true
  | [], _ => by simp [PyData.canLayAll0]
  | x :: xs, k => by
    rw [List.map_cons, PyData.canLayAll0, h x (k x List.mem_cons_self), canAll h xs fun a ha => k a (List.mem_cons_of_mem _ ha)]; rfl
theorem depthAll_le {enc : α → PyData} {d : Nat} (h : ∀ a, (enc a).depth ≤ d) : ∀ xs : List α, PyData.depthAll (xs.map enc) ≤ d
  | [] => by simp [PyData.depthAll]
  | x :: xs => by
    rw [List.map_cons, PyData.depthAll]
    exact Nat.max_le.mpr ⟨h x, depthAll_le h xs⟩
def DE.list [DecidableEq α] {ok : α → Prop} (E : DE p ok) : DE (pL p) (fun xs => ∀ a ∈ xs, ok a) where
  enc := fun xs => .list (xs.map E.enc)
  dp := fun K F v a h => let ⟨l, vs, e, h1, h2⟩ := h; by subst e; exact .lst (SqL.of h1) (dpAll_of (E.dp K F) h2)
  sh := fun a h => by rw [PyData.canLay0]; exact canAll E.sh a h
  d := E.d + 1
  hd := fun a => by rw [PyData.depth]; exact Nat.succ_le_succ (depthAll_le E.hd a)
  eq := fun a b => by rw [PyData.eqv]; exact eqvAll_map E.eq a b
def DE.tup [DecidableEq α] {ok : α → Prop} (E : DE p ok) : DE (pTup p) (fun xs => ∀ a ∈ xs, ok a) where
  enc := fun xs => .tuple (xs.map E.enc)
  dp := fun K F v a h => let ⟨l, vs, e, h1, h2⟩ := h; by subst e; exact .tup (SqT.of h1) (dpAll_of (E.dp K F) h2)
  sh := fun a h => by rw [PyData.canLay0]; exact canAll E.sh a h
  d := E.d + 1
  hd := fun a => by rw [PyData.depth]; exact Nat.succ_le_succ (depthAll_le E.hd a)
  eq := fun a b => by rw [PyData.eqv]; exact eqvAll_map E.eq a b
def DE.t2 [DecidableEq α] [DecidableEq β] {ok : α → Prop} {ok' : β → Prop} (E : DE p ok) (E' : DE q ok') : DE (pT2 p q) (fun x => ok x.1 ∧ ok' x.2) where
  enc := fun x => .tuple [E.enc x.1, E'.enc x.2]
  dp := fun K F v a h => let ⟨l, u, w, e, h1, h2, h3⟩ := h; by subst e; exact .tup (SqT.of h1) (.cons (E.dp K F _ _ h2) (.cons (E'.dp K F _ _ h3) .nil))
  sh := fun a h => by simp [PyData.canLay0, PyData.canLayAll0, E.sh _ h.1, E'.sh _ h.2]
  d := max E.d E'.d + 1
  hd := fun a => by
    simp only [PyData.depth, PyData.depthAll]
    have h1 := E.hd a.1
    have h2 := E'.hd a.2
    omega
  eq := fun a b => by
    simp only [PyData.eqv, PyData.eqvAll, E.eq, E'.eq]
    rw [Bool.eq_iff_iff]
    simp [Prod.ext_iff]
def DE.t3 {γ : Type} {o : VP γ} [DecidableEq α] [DecidableEq β] [DecidableEq γ] {ok : α → Prop} {ok' : β → Prop} {ok2 : γ → Prop} (E : DE p ok) (E' : DE q ok') (E2 : DE o ok2) : DE (pT3 p q o) (fun x => ok x.1 ∧ ok' x.2.1 ∧ ok2 x.2.2) where
  enc := fun x => .tuple [E.enc x.1, E'.enc x.2.1, E2.enc x.2.2]
  dp := fun K F v a h => let ⟨l, u, w, z, e, h1, h2, h3, h4⟩ := h; by subst e; exact .tup (SqT.of h1) (.cons (E.dp K F _ _ h2) (.cons (E'.dp K F _ _ h3) (.cons (E2.dp K F _ _ h4) .nil)))
  sh := fun a h => by simp [PyData.canLay0, PyData.canLayAll0, E.sh _ h.1, E'.sh _ h.2.1, E2.sh _ h.2.2]
  d := max E.d (max E'.d E2.d) + 1
  hd := fun a => by
    simp only [PyData.depth, PyData.depthAll]
    have h1 := E.hd a.1
    have h2 := E'.hd a.2.1
    have h3 := E2.hd a.2.2
    omega
  eq := fun a b => by
    simp only [PyData.eqv, PyData.eqvAll, E.eq, E'.eq, E2.eq]
    rw [Bool.eq_iff_iff]
    simp [Prod.ext_iff]
def DE.opt [DecidableEq α] {ok : α → Prop} (E : DE p ok) (hn : ∀ a b, PyData.eqv (E.enc a) .none = false ∧ PyData.eqv .none (E.enc b) = false) : DE (pOpt p) (fun x => ∀ a, x = some a → ok a) where
  enc := fun x => match x with | none => .none | some a => E.enc a
  dp := fun K F v a h => by
    cases a with
    | none => cases h; exact .non
    | some a => exact E.dp K F v a h.1
  sh := fun a h => by
    cases a with
    | none => rfl
    | some a => exact E.sh a (h a rfl)
  d := E.d
  hd := fun a => by
    cases a with
    | none => exact Nat.zero_le _
    | some a => exact E.hd a
  eq := fun a b => by
    cases a with
    | none =>
      cases b with
      | none => rfl
      | some b => simp [(hn b b).2]
    | some a =>
      cases b with
      | none => simp [(hn a a).1]
      | some b => simp [E.eq]
theorem o_eqD [DecidableEq α] {ok : α → Prop} (E : DE p ok) (hE : E.d ≤ 64 := by decide) {u v : α} (ha : Vw a p u) (hb : Vw b p v) (h1 : ok u) (h2 : ok v) : Op2 (rEqD K) a b (vBl (decide (u = v))) := fun B F H x y fx fy os Q W p1 p2 q => by
  obtain ⟨y', ey, ry⟩ := hb F H fy _ W.sub p2
  obtain ⟨x', ex, rx⟩ := ha F H fx _ W.sub p1
  cases ex; cases ey
  have sh : ∀ z, ok z → SeqAt.shaped (E.enc z) = true := fun z hz => by
    unfold SeqAt.shaped
    rw [E.sh z hz, decide_eq_true (Nat.le_trans (E.hd z) hE)]; rfl
  exact ⟨E.enc u, E.enc v, E.dp K H _ _ rx, E.dp K H _ _ ry, sh u h1, sh v h2, q _ F H [] same_refl same_refl W.drop.drop ⟨rfl, _, rfl, by rw [E.eq]; rfl⟩⟩
theorem o_neD [DecidableEq α] {ok : α → Prop} (E : DE p ok) (hE : E.d ≤ 64 := by decide) {u v : α} (ha : Vw a p u) (hb : Vw b p v) (h1 : ok u) (h2 : ok v) : Op2 (rNeD K) a b (vBl (!decide (u = v))) := fun B F H x y fx fy os Q W p1 p2 q => by
  obtain ⟨y', ey, ry⟩ := hb F H fy _ W.sub p2
  obtain ⟨x', ex, rx⟩ := ha F H fx _ W.sub p1
  cases ex; cases ey
  have sh : ∀ z, ok z → SeqAt.shaped (E.enc z) = true := fun z hz => by
    unfold SeqAt.shaped
    rw [E.sh z hz, decide_eq_true (Nat.le_trans (E.hd z) hE)]; rfl
  exact ⟨E.enc u, E.enc v, E.dp K H _ _ rx, E.dp K H _ _ ry, sh u h1, sh v h2, q _ F H [] same_refl same_refl W.drop.drop ⟨rfl, _, rfl, by rw [E.eq]; rfl⟩⟩
theorem c_eqD (Y : Fa P w K mg base k) (i : Y.I) : OpR (Y.X i) (compareOp .Eq) (rEqD K) := by have h := op_eqD (X := Y.X i) (Y.hU i); rw [Y.hK i] at h; exact h
theorem c_neD (Y : Fa P w K mg base k) (i : Y.I) : OpR (Y.X i) (compareOp .NotEq) (rNeD K) := by have h := op_neD (X := Y.X i) (Y.hU i); rw [Y.hK i] at h; exact h

/-! ### owned lists that change -/
/-- a place that holds something owned -/
def PL (Y : Fa P w K mg base k) (e : Expr) (Γ : List Slot) (s : Slot) (up : Slot → List Slot) : Prop :=
  ∃ (t : TE) (Pv : L2.St → Hp → V → Prop), (∀ i, PE (Y.X i) e t) ∧ (∀ σ H H' v, Same H H' → Pv σ H v → Pv σ H' v) ∧
    (∀ (B : Bs) (F H : Hp) (os : List Addr) (σ : List (Option V)) (Q : VK), In B F H os σ Γ → (∀ v, Pv σ H v → Q v H) → t σ H Q) ∧
    ∀ (F H : Hp) (os : List Addr) (σ : List (Option V)) (v : V), Slots F H os σ Γ → Pv σ H v → ∃ fp r, os.Perm (fp ++ r) ∧ s.P F H fp (some v) ∧
      ∀ (F' H' : Hp) (fp' : List Addr) (s' : Slot), Same F F' → (∀ q ∈ r, H' q = H q) → s'.P F' H' fp' (some v) → ∃ os', Slots F' H' os' σ (up s') ∧ os'.Perm (fp' ++ r)
theorem pl_name (j : Nat) (hst : Stb Γ) (hs : Γ[j]? = some s := by rfl) (hso : ∀ F H fp o, s.P F H fp o → ∃ v, o = some v) (hN : ∀ i, (Y.X i).N[j]? = some x := by intro _; rfl)
    (hv : ∀ i, Vis (Y.X i).env.scope x := by intro _; first | exact Or.inl rfl | exact Or.inr (Or.inl rfl) | exact Or.inr (Or.inr rfl)) (hd : (x == ("__debug__" : Str)) = false := by decide) (hcd : (x == ("__classdict__" : Str)) = false := by decide) : PL Y (.Name x pos) Γ s (fun s' => Γ.set j s') := by
  refine ⟨_, fun σ H v => σ[j]? = some (some v), fun i => pe_var (hN i) (hv i) hd hcd, fun σ H H' v _ h => h, fun B F H os σ Q I q => ?_, fun F H os σ v S hv => ?_⟩
  · obtain ⟨o, fp, e, h⟩ := I.slot hs
    obtain ⟨v, rfl⟩ := hso F H fp o h
    exact ⟨v, e, q v e⟩
  · obtain ⟨o, fp, r, e, p, q, kk⟩ := S.at hs
    rw [hv] at e; cases e
    refine ⟨fp, r, q, p, fun F' H' fp' s' hF hk hs' => ?_⟩
    obtain ⟨os', h1, h2⟩ := kk hs' (fun s0 h0 fp0 o0 hf hp => s0.mm (hst s0 h0) hF (fun z hz => hk z (hf z hz)) hp)
    have es : σ.set j (some v) = σ := by
      obtain ⟨hj, e⟩ := List.getElem?_eq_some_iff.mp hv
      rw [← e]; exact List.set_getElem_self hj
    rw [es] at h1
    exact ⟨os', h1, h2⟩
theorem own_some {O : OP α} {u : α} : ∀ F H fp o, (own O u).P F H fp o → ∃ v, o = some v := fun F H fp o h => let ⟨v, e, _⟩ := h; ⟨v, e⟩
/-- what must be seen of the text of a call o.m(e) of a built-in's method -/
structure Bm1 (X : Cx) (o : Expr) (name : Str) (apos : Pos) (e : Expr) (cpos : Pos) : Prop where
  base : attributeBase o name X.env (eval o X.env) = eval o X.env
  few : ((backTo cpos (starEach [e] X.env)).all (fun x => !x.1) && (backToKw cpos (keywordEach [] X.env)).all (fun x => x.1.isSome) && decide (([e] : List Expr).length + ([] : List Keyword).length + (if ([] : List Keyword).isEmpty then 0 else 1) < 30)) = true
  line : (apos.endLine == cpos.line) = true
  st : starEach [e] X.env = (false, eval e X.env) :: starEach [] X.env
  pl : (backTo cpos (starEach [] X.env)).any (·.1) = false
/-- an owned object at l within a place is rewritten -/
theorem pl_write {F H : Hp} {os r : List Addr} {σ : List (Option V)} {l : Addr} {u : HO} {fy : List Addr} {s' : Slot} {v : V} {up : Slot → List Slot} (W : Wo B F H (fy ++ os)) (hp : os.Perm ([l] ++ r)) (hs' : s'.P F (upd H l u) [l] (some v))
    (kk : ∀ (F' H' : Hp) (fp' : List Addr) (s' : Slot), Same F F' → (∀ q ∈ r, H' q = H q) → s'.P F' H' fp' (some v) → ∃ os', Slots F' H' os' σ (up s') ∧ os'.Perm (fp' ++ r)) : Sta B F (upd H l u) σ (up s') := by
  have W1 : Wo B F H ([l] ++ r) := W.drop.perm hp
  have nr : ∀ q ∈ r, q ≠ l := fun q hq e => (List.nodup_append.mp W1.nd).2.2 l (by simp) q hq e.symm
  obtain ⟨os', h1, h2⟩ := kk F (upd H l u) [l] s' same_refl (fun q hq => upd_ne (nr q hq)) hs'
  exact ⟨os', (W1.write (by simp)).perm h2.symm, h1⟩
/-- xs.append(e) -/
theorem go_append {up : Slot → List Slot} {apos cpos : Pos} {u : α} (ho : PL Y eo Γ (own (oL p) xs) up) (he : XV Y e Γ (val p u)) (hz : xs.length < sizeLine) (hg : Go Y i rest D B (up (own (oL p) (xs ++ [u]))))
    (hb : Bm1 (Y.X i) eo "append" apos e cpos := by exact ⟨rfl, rfl, rfl, rfl, rfl⟩)
    (hs : swapsWith (.Call (.Attribute eo "append" apos) [e] [] cpos) none pos.line (Y.X i).env = pure false := by rfl) : Go Y i (.Expr (.Call (.Attribute eo "append" apos) [e] [] cpos) pos :: rest) D B Γ := by
  obtain ⟨t, Pv, pe, pst, rd, up'⟩ := ho
  obtain ⟨t2, pe2, rd2⟩ := he
  refine go_ps (ps_expr (pe_bm PySem.F.plainAttrs_list PySem.F.slot_list_append PySem.F.type_list_append mt_append (pe i) (pa_cons (pe2 i) pa_nil hb.st) hb.base hb.few hb.line hb.st hb.pl) hs) fun F H σ ⟨os, W, S⟩ => ?_
  refine rd B F H os σ _ (Sta.in W S) fun v hv => ?_
  obtain ⟨fp, r, hr, hp, _⟩ := up' F H os σ v S hv
  obtain ⟨v0, ev, l, vs, el, ef, h1, h2⟩ := hp
  cases ev; subst el; subst ef
  refine ⟨.inl ⟨rfl, vs, SqL.of h1⟩, rd2 B F H os σ _ (Sta.in W S) fun y F1 H1 fy f1 e1 W1 p1 => ?_⟩
  obtain ⟨fp1, r1, hr1, hp1, kk1⟩ := up' F1 H1 os σ _ (S.mono f1 e1) (pst _ _ _ _ e1 hv)
  obtain ⟨v1, ev1, l1, vs1, el1, ef1, g1, g2⟩ := hp1
  cases ev1; cases el1; subst ef1
  have ry := (val_P p1).2
  refine ⟨l, vs1, y, rfl, rfl, g1, by rw [Paired.length g2]; exact hz, ?_⟩
  exact hg F1 _ σ (pl_write W1 hr1 ⟨_, rfl, l, _, rfl, rfl, upd_same, Paired.app g2 (.cons ry .nil)⟩ kk1)
/-- xs[j] = e -/
theorem Paired.put {α β : Type} {G : α → β → Prop} {x : α} {y : β} (h : G x y) : ∀ {xs : List α} {ys : List β} (n : Nat), Paired G xs ys → Paired G (xs.set n x) (ys.set n y)
  | _, _, _, .nil => .nil
  | _, _, 0, .cons _ t => .cons h t
  | _, _, n + 1, .cons r t => .cons r (Paired.put h n t)
/-- the list behind xs[z] = u -/
def setI {α : Type} (xs : List α) (z : Int) (u : α) : Option (List α) := (ixN xs.length z).map fun j => xs.set j u
/-- what must be seen of the text of o[i] = e -/
structure Si (X : Cx) (o ei e : Expr) (pos' : Pos) (ln : Nat) : Prop where
  ha : ∀ v, assign (.Subscript o ei pos') X.env v = (do
      let ov ← holding [v] (eval o X.env)
      let iv ← holding [v, ov] (eval ei X.env)
      standAt pos'
      holding [v, ov, iv] (setItem ov iv v)
      release [v, ov, iv] [])
  hs : swapsWithSole [.Subscript o ei pos'] e ln X.env = pure false
  hw : swappedStores [.Subscript o ei pos'] e X.env = pure none
  h1 : (assignEach [.Subscript o ei pos'] X.env).map (·.2) = [assign (.Subscript o ei pos') X.env]
theorem go_setitem {up : Slot → List Slot} {pos' : Pos} {u : α} {z : Int} {xs' : List α} (ho : PL Y eo Γ (own (oL p) xs) up) (hi : XV Y eb Γ (vInt z)) (he : XV Y e Γ (val p u)) (hz : setI xs z u = some xs') (hg : Go Y i rest D B (up (own (oL p) xs')))
    (hsi : Si (Y.X i) eo eb e pos' pos.line := by exact ⟨fun _ => rfl, rfl, rfl, rfl⟩) : Go Y i (.Assign [.Subscript eo eb pos'] e pos :: rest) D B Γ := by
  obtain ⟨t, Pv, pe, pst, rd, up'⟩ := ho
  obtain ⟨t2, pe2, rd2⟩ := he
  obtain ⟨t3, pe3, rd3⟩ := hi
  refine go_ps (ps_asg (pe2 i) (pg_sub (pe i) (pe3 i) set_list hsi.ha) hsi.hs hsi.hw hsi.h1) fun F H σ ⟨os, W, S⟩ => ?_
  refine rd2 B F H os σ _ (Sta.in W S) fun y F1 H1 fy f1 e1 W1 p1 => ?_
  have I1 := (Sta.in W S).step f1 e1 W1
  refine rd B F1 H1 _ σ _ I1 fun v hv => ?_
  refine rd3 B F1 H1 _ σ _ I1 fun y2 F2 H2 fy2 f2 e2 W2 p2 => ?_
  obtain rfl := vint p2
  have ry := (val_P ((val p u).mono f2 e2 p1)).2
  obtain ⟨fp1, r1, hr1, hp1, kk1⟩ := up' F2 H2 os σ _ (S.mono (f1.trans f2) (e1.trans e2)) (pst _ _ _ _ e2 hv)
  obtain ⟨v1, ev1, l1, vs1, el1, ef1, g1, g2⟩ := hp1
  cases ev1; subst el1; subst ef1
  unfold setI at hz
  obtain ⟨j, hj, rfl⟩ := Option.map_eq_some_iff.mp hz
  refine ⟨l1, vs1, z, j, rfl, rfl, g1, by rw [Paired.length g2]; exact hj, ?_⟩
  refine hg F2 _ σ (pl_write (fy := fy2 ++ fy) (by rw [List.append_assoc]; exact W2) hr1 ⟨_, rfl, l1, _, rfl, rfl, upd_same, Paired.put ry j g2⟩ kk1)
end
end
end Ty

/-! Ty5 -/
namespace Ty
open PySem PySem.Spec L2
open PyProof.Rows (envOfC)

section
variable {P : Program} {w : World} {K : PySem.W.Frag} {mg : Str → Option Value} {base : Heap} {k : Nat}

/-! ### defs -/
/-- a pure def: on frozen arguments it gives what its mirror gives, and all else stands -/
def spP {ι ρ : Type} (As : ι → List Slot) (m : ι → Option ρ) (Sr : ρ → Slot) : Sp := fun vs H Q _ => ∃ (z : ι) (r : ρ) (F : Hp), m z = some r ∧ Same F H ∧ Slots F H [] (vs.map some) (As z) ∧
  ∀ v F' H' fp, Wo ⟨F, H, []⟩ F' H' fp → (Sr r).P F' H' fp (some v) → Q v H'
/-- the body's context -/
def fb (P : Program) (w : World) (K : PySem.W.Frag) (mg : Str → Option Value) (base : Heap) (N : List Str) (qual : Str) (st : Stmt) (f : Addr) (cdv : Value) (A : Around) (outer : List Env) (s : Shared) (H : Hp) (E : XK) (k : Nat) (hr : Room k (A.deeper (envOfC qual (defScope st) s.heap.objs.size f cdv))) (nd : N.Nodup) : Fa P w K mg base k where
  I := Unit
  X := fun _ => (cxOf CX0 P w K mg base N qual (defScope st) f cdv A outer s H E).nox
  hP := fun _ => rfl
  hw := fun _ => rfl
  hK := fun _ => rfl
  hM := fun _ => rfl
  hB := fun _ => rfl
  cm := true
  hC := fun _ => rfl
  hR := fun _ _ => hr
  hU := fun _ => hr.units
  W := fun _ _ _ _ => False
  tk := fun _ => takes0
  hN := fun _ => nd
  hO := fun _ => PassesOwn.never
/-- the ends of a def's body -/
def DF (B : Bs) (s : Slot) : Ends := { nx := fun _ H => Fi B s .non H, rt := Fi B s }
theorem slots_dead {F H : Hp} : ∀ n : Nat, Slots F H [] (List.replicate n none) (List.replicate n dead)
  | 0 => .nil
  | n + 1 => by
    rw [List.replicate_succ, List.replicate_succ]
    exact Slots.cons (fp := []) rfl (slots_dead n)
theorem wo_nil {F H : Hp} (h : Same F H) : Wo ⟨F, H, []⟩ F H [] := ⟨h, List.nodup_nil, fun _ z => (nomatch z), fun _ z => (nomatch z), fun _ _ h => h, fun _ _ h _ => h, fun _ _ h => .inl h, fun _ z => (nomatch z)⟩
theorem fn_pure {ι ρ : Type} {As : ι → List Slot} {m : ι → Option ρ} {Sr : ρ → Slot} {x qual : Str} {st : Stmt} {f : Addr} {fd : FuncData} {N ps : List Str} (Fn : Fun K x qual st f fd) (S : FnScope N ps (defScope st)) (hlen : ∀ z, (As z).length = ps.length)
    (body : ∀ (cdv : Value) (A : Around) (outer : List Env) (s : Shared) (H : Hp) (E : XK) (hr : Room k (A.deeper (envOfC qual (defScope st) s.heap.objs.size f cdv))) (z : ι) (r : ρ) (B : Bs), m z = some r →
      Go (fb P w K mg base N qual st f cdv A outer s H E k hr S.nd) () (defBody st) (DF B (Sr r)) B (As z ++ List.replicate (N.length - ps.length) dead)) : FnOk P w K mg base CX0 (k + 1) f fd ps (spP As m Sr) := by
  refine Fn.ok S (fun vs H Q E h => ?_) (fun cdv A outer s H vs Q E hr h => ?_)
  · obtain ⟨z, r, F, _, _, Sl, _⟩ := h
    have e := Sl.length
    rw [List.length_map] at e
    rw [e, hlen]
  · obtain ⟨z, r, F, hm, hS, Sl, q⟩ := h
    refine ⟨_, pss_cont, ?_⟩
    have go := body cdv A outer s H E hr z r ⟨F, H, []⟩ hm
    have S0 : Sta ⟨F, H, []⟩ F H (L2.start N vs) (As z ++ List.replicate (N.length - ps.length) dead) := by
      refine ⟨[], wo_nil hS, ?_⟩
      unfold L2.start
      have e := Sl.length
      rw [List.length_map, hlen] at e
      rw [e]
      exact Slots.append Sl (slots_dead _)
    exact cont_mono (go F H _ S0) (fun σ H' ⟨F', fp, W', p'⟩ => q .non F' H' fp W' p') (fun v H' ⟨F', fp, W', p'⟩ => q v F' H' fp W' p') (fun _ _ z => z.elim) (fun _ _ z => z.elim)
variable {Y : Fa P w K mg base k} {i : Y.I} {e ea eb eo tg iter elt : Expr} {es : List Expr} {rest body : List Stmt} {Γ Γ' Γ1 Γ2 : List Slot} {a b c r s : Slot} {pos : Pos} {B : Bs} {D : Ends} {x : Str} {p' : Pos}
/-- all of them own nothing -/
def NoOwn : List Slot → Prop
  | [] => True
  | s :: r => (∀ F H fp o, s.P F H fp o → fp = []) ∧ NoOwn r
theorem no_val {α : Type} {p : VP α} {u : α} : ∀ F H fp o, (val p u).P F H fp o → fp = [] := fun F H fp o h => h.1
theorem no_bor {α : Type} {p : VP α} {u : α} : ∀ F H fp o, (bor p u).P F H fp o → fp = [] := fun F H fp o h => h.1
theorem no_borL {α : Type} {p : VP α} {u : List α} : ∀ F H fp o, (borL p u).P F H fp o → fp = [] := fun F H fp o h => h.1
theorem NoOwn.nil {F H : Hp} : ∀ {As : List Slot} {fp : List Addr} {vs : List V}, NoOwn As → Slots F H fp (vs.map some) As → fp = []
  | [], _, [], _, S => by cases S; rfl
  | [], _, _ :: _, _, S => by have e := S.length; simp at e
  | _ :: _, _, [], _, S => by have e := S.length; simp at e
  | s :: As, fp, v :: vs, h, S => by
    rw [List.map_cons] at S
    obtain ⟨f1, f2, rfl, p, S2⟩ := Slots.cons_inv S
    rw [h.1 F H f1 _ p, NoOwn.nil h.2 S2]; rfl
/-- behind a pure call -/
theorem Wo.called {F H F' H' : Hp} {os fp : List Addr} (W : Wo B F H os) (W4 : Wo ⟨F, H, []⟩ F' H' fp) : Same F F' ∧ Same H H' ∧ Wo B F' H' (fp ++ os) := by
  have hH : Same H H' := fun a o e => W4.bH a o e (by simp)
  refine ⟨W4.bF, hH, ?_⟩
  have own_old : ∀ q ∈ os, F' q = none := fun q hq => by
    cases z : F' q with
    | none => rfl
    | some u =>
      obtain ⟨o, ho⟩ := W.oH q hq
      rcases W4.bN q u z with y | y | y
      · have y' : F q = some u := y
        rw [W.oF q hq] at y'; cases y'
      · have y' : H q = none := y
        rw [ho] at y'; cases y'
      · exact nomatch y
  refine ⟨W4.sub, List.nodup_append.mpr ⟨W4.nd, W.nd, fun q hq q' hq' e => ?_⟩, fun q hq => ?_, fun q hq => ?_, W.bF.trans W4.bF, fun q u e hb => hH q u (W.bH q u e hb), fun q u e => ?_, fun q hq => ?_⟩
  · subst e
    obtain ⟨o, ho⟩ := W.oH q hq'
    rcases W4.bO q hq with y | y
    · have y' : H q = none := y
      rw [ho] at y'; cases y'
    · exact nomatch y
  · rcases List.mem_append.mp hq with hq | hq
    · exact W4.oF q hq
    · exact own_old q hq
  · rcases List.mem_append.mp hq with hq | hq
    · exact W4.oH q hq
    · obtain ⟨o, ho⟩ := W.oH q hq
      exact ⟨o, hH q o ho⟩
  · rcases W4.bN q u e with y | y | y
    · exact W.bN q u y
    · exact .inr (W.bFree y)
    · exact nomatch y
  · rcases List.mem_append.mp hq with hq | hq
    · rcases W4.bO q hq with y | y
      · exact W.bFree y
      · exact nomatch y
    · exact W.bO q hq
/-- f(e, ..) of a pure def on frozen arguments -/
theorem x_call {ι ρ : Type} {As : ι → List Slot} {m : ι → Option ρ} {Sr : ρ → Slot} {args : List Slot} {z : ι} {q : ρ} {j : Nat} {f : Addr} {fd : FuncData} {ps : List Str} (Fn : FnOk P w K mg base CX0 j f fd ps (spP As m Sr)) (hj : j ≤ k) (hm : mg x = some (.ref f)) (hk : PySem.W.keepIn K (.ref f) = true) (hb : Binds K fd ps [])
    (ha : XA Y (e :: es) Γ args) (hargs : args = As z) (hno : NoOwn args) (hq : m z = some q) (hg : ∀ i, Gl (Y.X i) x := by intro _; rfl) (hdb : (x == ("__debug__" : Str)) = false := by decide)
    (he : ∀ i, starEach (e :: es) (Y.X i).env = (false, eval e (Y.X i).env) :: starEach es (Y.X i).env := by intro _; rfl) (hpl : ∀ i, (backTo pos (starEach es (Y.X i).env)).any (·.1) = false := by intro _; rfl) (hcm : Y.cm = true := by rfl) : XV Y (.Call (.Name x p') (e :: es) [] pos) Γ (Sr q) := by
  subst hargs
  obtain ⟨t, pa, rd⟩ := ha
  have FF : ∀ i, FnOk (Y.X i).prog (Y.X i).w (Y.X i).K (Y.X i).mg (Y.X i).base CX0 j f fd ps (spP As m Sr) := fun i => by rw [Y.hP i, Y.hw i, Y.hK i, Y.hM i, Y.hB i]; exact Fn
  refine ⟨_, fun i => pe_call (FF i) ((Y.hR hcm i).mono hj) (hg i) (by rw [Y.hM i]; exact hm) (by rw [Y.hK i]; exact hk) (by rw [Y.hK i]; exact hb) .nil pass0 (pa i) hdb (he i) (hpl i), fun B F H os σ Q I kk => ?_⟩
  refine rd B F H os σ _ I fun vs F1 H1 fp f1 e1 W1 S1 => ?_
  obtain rfl := hno.nil S1
  rw [List.append_nil]
  refine ⟨z, q, F1, hq, W1.sub, S1, fun v F2 H2 fp W2 p2 => ?_⟩
  obtain ⟨f2, e2, W3⟩ := W1.called W2
  exact kk v F2 H2 fp (f1.trans f2) (e1.trans e2) W3 p2
/-- .. where the arguments are looked at (frozen or owned) and the answer has no heap -/
theorem x_callF {ι ρ : Type} {As : ι → List Slot} {m : ι → Option ρ} {pr : VP ρ} {args : List Slot} {z : ι} {q : ρ} {j : Nat} {f : Addr} {fd : FuncData} {ps : List Str} (Fn : FnOk P w K mg base CX0 j f fd ps (spP As m (val pr))) (hfl : Flat pr) (hj : j ≤ k) (hm : mg x = some (.ref f)) (hk : PySem.W.keepIn K (.ref f) = true) (hb : Binds K fd ps [])
    (ha : XA Y (e :: es) Γ args) (hargs : ∀ F H (vs : List V), Same F H → Slots F H [] (vs.map some) args → Slots H H [] (vs.map some) (As z)) (hno : NoOwn args) (hq : m z = some q) (hg : ∀ i, Gl (Y.X i) x := by intro _; rfl) (hdb : (x == ("__debug__" : Str)) = false := by decide)
    (he : ∀ i, starEach (e :: es) (Y.X i).env = (false, eval e (Y.X i).env) :: starEach es (Y.X i).env := by intro _; rfl) (hpl : ∀ i, (backTo pos (starEach es (Y.X i).env)).any (·.1) = false := by intro _; rfl) (hcm : Y.cm = true := by rfl) : XV Y (.Call (.Name x p') (e :: es) [] pos) Γ (val pr q) := by
  obtain ⟨t, pa, rd⟩ := ha
  have FF : ∀ i, FnOk (Y.X i).prog (Y.X i).w (Y.X i).K (Y.X i).mg (Y.X i).base CX0 j f fd ps (spP As m (val pr)) := fun i => by rw [Y.hP i, Y.hw i, Y.hK i, Y.hM i, Y.hB i]; exact Fn
  refine ⟨_, fun i => pe_call (FF i) ((Y.hR hcm i).mono hj) (hg i) (by rw [Y.hM i]; exact hm) (by rw [Y.hK i]; exact hk) (by rw [Y.hK i]; exact hb) .nil pass0 (pa i) hdb (he i) (hpl i), fun B F H os σ Q I kk => ?_⟩
  refine rd B F H os σ _ I fun vs F1 H1 fp f1 e1 W1 S1 => ?_
  obtain rfl := hno.nil S1
  rw [List.append_nil]
  refine ⟨z, q, H1, hq, same_refl, hargs F1 H1 vs W1.sub S1, fun v F2 H2 fp W2 p2 => ?_⟩
  have hH : Same H1 H2 := fun a o e => W2.bH a o e (by simp)
  have W : Wo B F1 H1 os := W1
  have W3 : Wo B F1 H2 os := ⟨W.sub.trans hH, W.nd, W.oF, fun a ha => let ⟨o, ho⟩ := W.oH a ha; ⟨o, hH a o ho⟩, W.bF, fun a o e hb => hH a o (W.bH a o e hb), W.bN, W.bO⟩
  exact kk v F1 H2 [] f1 (e1.trans hH) W3 ⟨rfl, v, rfl, hfl _ _ _ _ (val_P p2).2⟩
theorem Slots.one {F H : Hp} {os : List Addr} {o : Option V} {σ : List (Option V)} {s : Slot} {Γ : List Slot} (h : Slots F H os (o :: σ) (s :: Γ)) (he : os = []) : s.P F H [] o ∧ Slots F H [] σ Γ := by
  cases h with
  | @cons fp os _ _ _ _ hp hr =>
    obtain ⟨e1, e2⟩ := List.append_eq_nil_iff.mp he
    subst e1; subst e2
    exact ⟨hp, hr⟩
/-- how the arguments that are looked at are read -/
inductive AV : List Slot → List Slot → Prop
  | nil : AV [] []
  | cons {α : Type} {s : Slot} {p : VP α} {u : α} {As Bs : List Slot} : Vw s p u → AV As Bs → AV (s :: As) (val p u :: Bs)
theorem AV.to {As Cs : List Slot} (h : AV As Cs) : ∀ F H (vs : List V), Same F H → Slots F H [] (vs.map some) As → Slots H H [] (vs.map some) Cs := by
  induction h with
  | nil =>
    intro F H vs hS Sl
    have e := Sl.length
    cases vs with
    | nil => exact .nil
    | cons v vs => simp at e
  | @cons α s p u As Cs hv _ ih =>
    intro F H vs hS Sl
    have e := Sl.length
    cases vs with
    | nil => simp at e
    | cons v vs =>
      rw [List.map_cons] at Sl
      obtain ⟨hp, hr⟩ := Sl.one rfl
      have i1 := ih F H vs hS hr
      obtain ⟨v', ev, rv⟩ := hv F H [] _ hS hp
      cases ev
      exact Slots.cons (fp := []) ⟨rfl, v, rfl, rv⟩ i1
end
end Ty

/-! Ty6 -/
namespace Ty
open PySem PySem.Spec L2
section
variable {P : Program} {w : World} {K : PySem.W.Frag} {mg : Str → Option Value} {base : Heap} {k : Nat}
/-! ### comprehensions -/
/-- the blocks of a comprehension, wherever they start -/
def Fa.blk (Y : Fa P w K mg base k) (scope : Scope) : Fa P w K mg base k where
  I := Y.I × Shared × Hp × Addr × List (Str × Addr) × List Addr
  X := fun j => (Y.X j.1).blk j.2.1 j.2.2.1 scope (compEnvC scope j.2.2.2.2.1 j.2.2.2.1 (Y.X j.1).env) j.2.2.2.2.2
  hP := fun j => Y.hP j.1
  hw := fun j => Y.hw j.1
  hK := fun j => Y.hK j.1
  hM := fun j => Y.hM j.1
  hB := fun j => Y.hB j.1
  cm := Y.cm
  hC := fun j => Y.hC j.1
  hR := fun h j => Y.hR h j.1
  hU := fun j => Y.hU j.1
  W := fun _ _ _ _ => False
  tk := fun _ => takes0
  hN := fun j => Y.hN j.1
  hO := fun j => PassesOwn.never
variable {Y : Fa P w K mg base k} {i : Y.I} {e ea eb eo tg iter elt : Expr} {es ifs : List Expr} {rest body : List Stmt} {Γ Γ' Γ1 Γ2 : List Slot} {a b c r s : Slot} {pos : Pos} {B : Bs} {D : Ends} {x : Str} {p' : Pos} {scope : Scope}
/-- readings from what runs them, for a whole family -/
def cE (Y : Fa P w K mg base k) (e : Expr) : TE := fun σ H Q => ∀ (i : Y.I) (pins : List (Addr × Obj)) (s : Shared), Inv (Y.X i) pins σ H s → wpAny (model (Y.X i).prog (Y.X i).w) (Y.X i).A (eval e (Y.X i).env) (EP (Y.X i) pins σ Q) (Y.X i).xe s
theorem pe_cE (i : Y.I) : PE (Y.X i) e (cE Y e) := ⟨fun pins s σ H Q I h => h i pins s I⟩
def cG (Y : Fa P w K mg base k) (tg : Expr) : TG := fun v σ H Q => ∀ (i : Y.I) (pins : List (Addr × Obj)) (s : Shared) (u : Value), Inv (Y.X i) pins σ H s → RelV v u → wpAny (model (Y.X i).prog (Y.X i).w) (Y.X i).A (assign tg (Y.X i).env u) (fun _ s' => ∃ σ' H', Inv (Y.X i) pins σ' H' s' ∧ Q σ' H') (Y.X i).xe s
theorem pg_cG (i : Y.I) : PG (Y.X i) tg (cG Y tg) := ⟨fun pins s σ H v u Q I r h => h i pins s u I r⟩
def cTs (Y : Fa P w K mg base k) (ifs : List Expr) : TT := fun σ H Q => ∀ (i : Y.I) (pins : List (Addr × Obj)) (s : Shared), Inv (Y.X i) pins σ H s →
  wpAny (model (Y.X i).prog (Y.X i).w) (Y.X i).A (forIn ifs true fun c r => if r = true then do let ok ← isTrue c (Y.X i).env (eval c (Y.X i).env); pure (ForInStep.yield ok) else pure (ForInStep.yield r)) (TP (Y.X i) pins σ Q) (Y.X i).xe s
theorem pts_cTs (i : Y.I) : PTs (Y.X i) ifs (cTs Y ifs) := ⟨fun pins s σ H Q I h => h i pins s I⟩
/-- the tests of a clause -/
def XTs (Y : Fa P w K mg base k) (ifs : List Expr) (Γ : List Slot) (b : Bool) : Prop :=
  ∃ t : TT, (∀ i, PTs (Y.X i) ifs t) ∧ ∀ (B : Bs) (F H : Hp) (os : List Addr) (σ : List (Option V)) (Q : Bool → Hp → Prop), In B F H os σ Γ → (∀ F' H', Same F F' → Same H H' → Wo B F' H' os → Q b H') → t σ H Q
theorem xts_nil : XTs Y [] Γ true := ⟨_, fun _ => pts_nil, fun B F H os σ Q I q => q F H same_refl same_refl I.W⟩
theorem xts_one {z : Bool} (h : XT Y e Γ z) : XTs Y [e] Γ z := let ⟨t, p, r⟩ := h; ⟨t, fun i => pts_one (p i), r⟩
/-- a clause with a test: none where it is left out -/
def fmO {α β : Type} : List α → (α → Option (Option β)) → Option (List β)
  | [], _ => some []
  | x :: xs, f => (f x).bind fun o => (fmO xs f).bind fun r => some (o.toList ++ r)
theorem wipe_get {σ : L2.St} : ∀ {vs : List Nat} {j : Nat}, (wipe σ vs)[j]? = if j ∈ vs ∧ j < σ.length then some none else σ[j]?
  | [], j => by simp [wipe]
  | v :: vs, j => by
    unfold wipe
    by_cases hj : v = j
    · subst hj
      by_cases hl : v < σ.length
      · rw [List.getElem?_set_self (by rw [wipe_length]; exact hl), if_pos ⟨List.mem_cons_self, hl⟩]
      · rw [if_neg (fun z => hl z.2), List.getElem?_eq_none (by rw [List.length_set, wipe_length]; omega), List.getElem?_eq_none (by omega)]
    · rw [List.getElem?_set_ne hj, wipe_get (vs := vs) (j := j)]
      have : (j ∈ v :: vs) ↔ j ∈ vs := by
        constructor
        · intro z
          rcases List.mem_cons.mp z with z | z
          · exact absurd z.symm hj
          · exact z
        · exact List.mem_cons_of_mem _
      simp only [this]
/-- slots at which the frame is not looked at -/
theorem Slots.ext {F H : Hp} : ∀ {os : List Addr} {σ σ' : List (Option V)} {Γ : List Slot}, Slots F H os σ Γ → σ'.length = σ.length → (∀ (j : Nat) (s : Slot), Γ[j]? = some s → s = dead ∨ σ'[j]? = σ[j]?) → Slots F H os σ' Γ
  | _, _, [], _, .nil, _, _ => .nil
  | _, _, _ :: _, _, .nil, e, _ => by simp at e
  | _, _, [], _, .cons _ _, e, _ => by simp at e
  | _, _, o' :: σ', _, .cons (s := s) (o := o) p r, e, h => by
    refine .cons ?_ (Slots.ext r (by simpa using e) fun j s hs => by have := h (j + 1) s (by simpa using hs); simpa using this)
    rcases h 0 s rfl with z | z
    · subst z; exact p
    · have : o' = o := by simpa using z
      rw [this]; exact p
theorem wipe_eq {σ σ' : L2.St} {vs ws : List Nat} (hw : ∀ j ∈ ws, j ∈ vs) (hl : σ'.length = (wipe σ vs).length) (h : ∀ j, j ∉ ws → σ'[j]? = (wipe σ vs)[j]?) : wipe σ' vs = wipe σ vs := by
  apply List.ext_getElem?
  intro j
  rw [wipe_get, wipe_get]
  rw [wipe_length] at hl
  by_cases hj : j ∈ vs
  · by_cases h2 : j < σ.length
    · rw [if_pos ⟨hj, by rw [hl]; exact h2⟩, if_pos ⟨hj, h2⟩]
    · rw [if_neg (fun z => h2 (by rw [← hl]; exact z.2)), if_neg (fun z => h2 z.2), List.getElem?_eq_none (by omega), List.getElem?_eq_none (by omega)]
  · rw [if_neg (fun z => hj z.1), if_neg (fun z => hj z.1), h j (fun z => hj (hw j z)), wipe_get, if_neg (fun z => hj z.1)]
/-- what a comprehension asks of its text -/
structure Lc (Y : Fa P w K mg base k) (iter : Expr) (scope : Scope) (own : List (Str × Nat)) : Prop where
  ok : ∀ i, BlkOk (Y.X i).N (Y.X i).env.scope scope own
  hs : ∀ i x, foldedSetIterable iter (Y.X i).env x = pure x
/-- the slots are not looked at -/
def DeadAt (Γ : List Slot) : List Nat → Prop
  | [] => True
  | j :: r => Γ[j]? = some dead ∧ DeadAt Γ r
theorem DeadAt.get {Γ : List Slot} : ∀ {l : List Nat}, DeadAt Γ l → ∀ j ∈ l, Γ[j]? = some dead
  | j :: r, h, x, hx => by
    rcases List.mem_cons.mp hx with rfl | hx
    · exact h.1
    · exact DeadAt.get h.2 x hx
/-- the reading of a comprehension -/
theorem lc_run {α β : Type} {xs : List α} {rs : α → Slot} {q : VP β} {f : α → Option (Option β)} {ys : List β} {own : List (Str × Nat)} (hz : xs.length ≤ sizeLine) (hf : fmO xs f = some ys) (hd0 : DeadAt Γ (own.map (·.2)))
    (hb : ∀ x o, x ∈ xs → f x = some o → ∃ ws Γ1, (ws.all fun j => (own.map (·.2)).contains j) = true ∧ XG (Y.blk scope) tg ws (rs x) Γ Γ1 ∧ XTs (Y.blk scope) ifs Γ1 o.isSome ∧ ∀ y, o = some y → XV (Y.blk scope) elt Γ1 (val q y))
    {wi : TI} (hw : ∀ (B : Bs) (F H : Hp) (os : List Addr) (σ : List (Option V)) (R : It → Hp → Prop), In B F H os σ Γ → (∀ J F' H', Same F F' → Same H H' → Wo B F' H' os → Wk True J F' H' (xs.map rs) → R J H') → wi σ H R)
    {F H : Hp} {os : List Addr} {σ : List (Option V)} {Q : VK} (I : In B F H os σ Γ) (kk : ∀ v F' H' fp, Same F F' → Same H H' → Wo B F' H' (fp ++ os) → (Ty.own (oL q) ys).P F' H' fp (some v) → Q v H') :
    tLc wi (cG (Y.blk scope) tg) (cTs (Y.blk scope) ifs) (cE (Y.blk scope) elt) (own.map (·.2)) σ H Q := by
  have hd := hd0.get
  refine hw B F H os σ _ I fun J F1 H1 f1 e1 W1 wk Dl hD => ?_
  obtain ⟨_, o2, r0, hperm, S0⟩ := I
  have S1 : Slots F1 H1 o2 (wipe σ (own.map (·.2))) Γ := (S0.mono f1 e1).ext (wipe_length _ _) fun j s hs => by
    by_cases hj : j ∈ own.map (·.2)
    · left
      have := hd j hj
      rw [hs] at this; exact Option.some.inj this
    · right
      rw [wipe_get, if_neg (fun z => hj z.1)]
  refine ⟨fun n m H' => n ≤ xs.length ∧ m = xs.length - n ∧ ∃ (F' : Hp) (vs : List V) (acc rr : List β), Wo B F' H' (Dl :: os) ∧ Same F1 F' ∧ Same H1 H' ∧ H' Dl = some (.lst vs) ∧ Paired (q.R F') vs acc ∧ acc.length ≤ n ∧ fmO (xs.drop n) f = some rr ∧ ys = acc ++ rr,
    ⟨xs.length - 0, Nat.zero_le _, rfl, F1, [], [], ys, W1.newO hD, same_refl, same_upd hD, upd_same, .nil, Nat.zero_le _, by simpa using hf, rfl⟩, ?_⟩
  rintro n m H' ⟨hn, rfl, F', vs, acc, rr, W', fF, fH, hDl, hp, hacc, hrr, hys⟩
  obtain ⟨w1, w2⟩ := wk F' H' fF (fun _ => fH) W'.sub
  by_cases hlt : n < xs.length
  · have hx : xs[n]? = some xs[n] := List.getElem?_eq_getElem hlt
    have hdrop : xs.drop n = xs[n] :: xs.drop (n + 1) := List.drop_eq_getElem_cons hlt
    rw [hdrop] at hrr
    unfold fmO at hrr
    obtain ⟨o, ho, hrr⟩ := Option.bind_eq_some_iff.mp hrr
    obtain ⟨r2, hr2, hrr⟩ := Option.bind_eq_some_iff.mp hrr
    obtain ⟨g1, g2⟩ := w2 n (rs xs[n]) (by rw [List.getElem?_map, hx]; rfl)
    refine .inr ⟨g1, fun H'' => n + 1 ≤ xs.length ∧ ∃ (F' : Hp) (vs : List V) (acc rr : List β), Wo B F' H'' (Dl :: os) ∧ Same F1 F' ∧ Same H1 H'' ∧ H'' Dl = some (.lst vs) ∧ Paired (q.R F') vs acc ∧ acc.length ≤ n + 1 ∧ fmO (xs.drop (n + 1)) f = some rr ∧ ys = acc ++ rr, ?_, ?_⟩
    · rintro H'' ⟨hn', rest⟩
      exact ⟨xs.length - (n + 1), by omega, hn', rfl, rest⟩
    · intro v H2 y
      obtain ⟨e2, push⟩ := g2 v H2 y
      obtain ⟨F2, f2, W2, p2⟩ := push B _ W'
      obtain ⟨ws, Γ1, hws0, ⟨_, g, pg, qg⟩, ⟨tt, ptt, rtt⟩, hel⟩ := hb xs[n] o (List.getElem_mem hlt) ho
      have hws : ∀ j ∈ ws, j ∈ own.map (·.2) := fun j hj => List.contains_iff_mem.mp (List.all_eq_true.mp hws0 j hj)
      intro j pins sh u Iv rv
      refine (pg j).run pins sh _ H2 v u _ Iv rv (qg F2 H2 [] o2 _ v _ W2.sub p2 (S1.mono (fF.trans f2) (fH.trans e2)) fun σ' os' d ⟨l', k'⟩ pp S' => ⟨wipe_eq hws l' k', ?_⟩)
      have I2 : In B F2 H2 (Dl :: os) σ' Γ1 := ⟨W2, os', Dl :: (d ++ r0), by
        have a1 : os.Perm ((d ++ os') ++ r0) := hperm.trans (List.Perm.append_right r0 (by simpa using pp))
        refine (List.Perm.cons Dl a1).trans ?_
        have a2 : (Dl :: ((d ++ os') ++ r0)).Perm (Dl :: (os' ++ (d ++ r0))) := List.Perm.cons Dl (by rw [← List.append_assoc]; exact List.Perm.append_right r0 List.perm_append_comm)
        exact a2.trans List.perm_middle.symm, S'⟩
      intro j2 pins2 s2 Iv2
      refine (ptt j2).run pins2 s2 σ' H2 _ Iv2 (rtt B F2 H2 _ σ' _ I2 fun F3 H3 f3 e3 W3 => ?_)
      cases o with
      | none =>
        show n + 1 ≤ xs.length ∧ _
        refine ⟨hlt, F3, vs, acc, r2, W3, (fF.trans f2).trans f3, (fH.trans e2).trans e3, e3 _ _ (e2 _ _ hDl), Paired.mon (fun _ _ r => q.mono (f2.trans f3) r) hp, by omega, hr2, ?_⟩
        have : r2 = rr := by simpa using hrr
        rw [hys, this]
      | some yv =>
        show cE (Y.blk scope) elt σ' H3 _
        obtain ⟨te, pte, rte⟩ := hel yv rfl
        intro j3 pins3 s3 Iv3
        refine (pte j3).run pins3 s3 σ' H3 _ Iv3 (rte B F3 H3 _ σ' _ (I2.step0 f3 e3 W3) fun yy F4 H4 fp4 f4 e4 W4 p4 => ?_)
        have hD4 : H4 Dl = some (.lst vs) := e4 _ _ (e3 _ _ (e2 _ _ hDl))
        have hlen := Paired.length hp
        refine ⟨vs, hD4, by omega, hlt, F4, vs ++ [yy], acc ++ [yv], r2, ?_, ((fF.trans f2).trans f3).trans f4, ?_, upd_same, Paired.app (Paired.mon (fun _ _ r => q.mono ((f2.trans f3).trans f4) r) hp) (.cons (val_P p4).2 .nil), by simp; omega, hr2, ?_⟩
        · exact W4.drop.write List.mem_cons_self
        · intro z u hu
          rw [upd_ne (ne_of_none hu hD)]
          exact ((fH.trans e2).trans e3).trans e4 z u hu
        · have : [yv] ++ r2 = rr := by simpa using hrr
          rw [hys, ← this, List.append_assoc]
  · have e : n = xs.length := by omega
    subst e
    refine .inl ⟨by simpa using w1, ?_⟩
    rw [List.drop_length] at hrr
    unfold fmO at hrr
    have : rr = [] := by simpa using hrr.symm
    subst this
    rw [List.append_nil] at hys
    subst hys
    exact kk _ F' H' [Dl] (f1.trans fF) (e1.trans fH) W' ⟨_, rfl, Dl, vs, rfl, rfl, hDl, hp⟩
/-- [elt for tg in iter if ..] -/
theorem x_lc {α β : Type} {xs : List α} {rs : α → Slot} {q : VP β} {f : α → Option (Option β)} {ys : List β} {own : List (Str × Nat)} (hi : XI Y tg iter Γ True (xs.map rs)) (L : Lc Y iter scope own) (hz : xs.length ≤ sizeLine) (hf : fmO xs f = some ys) (hd0 : DeadAt Γ (own.map (·.2)))
    (hb : ∀ x o, x ∈ xs → f x = some o → ∃ ws Γ1, (ws.all fun j => (own.map (·.2)).contains j) = true ∧ XG (Y.blk scope) tg ws (rs x) Γ Γ1 ∧ XTs (Y.blk scope) ifs Γ1 o.isSome ∧ ∀ y, o = some y → XV (Y.blk scope) elt Γ1 (val q y)) (hcm : Y.cm = true := by rfl) :
    XV Y (.ListComp elt [⟨tg, iter, ifs, 0⟩] scope pos) Γ (Ty.own (oL q) ys) := by
  obtain ⟨wi, pi, hw⟩ := hi
  exact ⟨_, fun i => pe_lc ((Y.hC i).trans hcm) (Y.hN i) (pi i) (L.ok i) (fun s H C cl fp => pg_cG (Y := Y.blk scope) (i, s, H, C, cl, fp)) (fun s H C cl fp => pts_cTs (Y := Y.blk scope) (i, s, H, C, cl, fp)) (fun s H C cl fp => pe_cE (Y := Y.blk scope) (i, s, H, C, cl, fp)) (L.hs i),
    fun B F H os σ Q I kk => lc_run hz hf hd0 hb hw I kk⟩
/-- x = [elt for tg in iter if ..], x a plain local -/
theorem go_setLc {α β : Type} {xs : List α} {rs : α → Slot} {q : VP β} {f : α → Option (Option β)} {ys : List β} {own : List (Str × Nat)} (j : Nat) {py cpos : Pos} (hi : XI Y tg iter Γ True (xs.map rs)) (L : Lc Y iter scope own) (hz : xs.length ≤ sizeLine) (hf : fmO xs f = some ys) (hd0 : DeadAt Γ (own.map (·.2)))
    (hb : ∀ x o, x ∈ xs → f x = some o → ∃ ws Γ1, (ws.all fun j => (own.map (·.2)).contains j) = true ∧ XG (Y.blk scope) tg ws (rs x) Γ Γ1 ∧ XTs (Y.blk scope) ifs Γ1 o.isSome ∧ ∀ y, o = some y → XV (Y.blk scope) elt Γ1 (val q y))
    (hg : Go Y i rest D B (Γ.set j (Ty.own (oL q) ys))) (hj : Nat.blt j Γ.length = true := by rfl) (hy : (Y.X i).N[j]? = some x := by rfl) (hyl : (Y.X i).env.scope.names.lookup x = some .local := by rfl)
    (hsw : swapsWith (.ListComp elt [⟨tg, iter, ifs, 0⟩] scope cpos) (some (.Name x py)) pos.line (Y.X i).env = pure true) (hcm : Y.cm = true := by rfl) : Go Y i (.Assign [.Name x py] (.ListComp elt [⟨tg, iter, ifs, 0⟩] scope cpos) pos :: rest) D B Γ := by
  obtain ⟨wi, pi, hw⟩ := hi
  refine go_ps (ps_setLc ((Y.hC i).trans hcm) (Y.hN i) hy hyl hsw (pi i) (L.ok i) (fun s H C cl fp => pg_cG (Y := Y.blk scope) (i, s, H, C, cl, fp)) (fun s H C cl fp => pts_cTs (Y := Y.blk scope) (i, s, H, C, cl, fp)) (fun s H C cl fp => pe_cE (Y := Y.blk scope) (i, s, H, C, cl, fp)) (L.hs i)) fun F H σ ⟨os, W, S⟩ => ?_
  refine lc_run hz hf hd0 hb hw (Sta.in W S) fun v F1 H1 fp f1 e1 W1 p1 => ?_
  obtain ⟨os', d, h1, h2⟩ := (S.mono f1 e1).put p1 (Nat.le_of_ble_eq_true hj)
  exact hg F1 H1 _ ⟨os', (W1.perm h2).drop, h1⟩
end
end Ty

/-! Ty7 -/
namespace Ty
open PySem PySem.Spec L2
open PyProof.Rows (envOfC)
section
variable {P : Program} {w : World} {K : PySem.W.Frag} {mg : Str → Option Value} {base : Heap} {k : Nat}
variable {Y : Fa P w K mg base k} {i : Y.I} {e ea eb eo tg iter elt : Expr} {es ifs : List Expr} {rest body : List Stmt} {Γ Γ' Γ1 Γ2 Δ Δ' : List Slot} {a b c r s s' : Slot} {pos : Pos} {B : Bs} {D : Ends} {x f : Str} {p' : Pos} {C : Addr} {ns : List Str}

/-! ### objects -/
/-- an owned instance: its attributes told by Δ -/
def obj (C : Addr) (ns : List Str) (Δ : List Slot) : Slot where
  P := fun F H fp o => ∃ (x dx : Addr) (vs : List V) (os : List Addr), o = some (.ref x) ∧ fp = x :: dx :: os ∧ H x = some (.ins C dx (ns.zip vs)) ∧ H dx = some (.own x) ∧ vs.length = ns.length ∧ Slots F H os (vs.map some) Δ
  mono := fun hF hH h => let ⟨x, dx, vs, os, e1, e2, h1, h2, h3, h4⟩ := h; ⟨x, dx, vs, os, e1, e2, hH _ _ h1, hH _ _ h2, h3, h4.mono hF hH⟩
  st := Stb Δ
  mm := fun hs {_ _ _ _ _ _} hF hH h => let ⟨x, dx, vs, os, e1, e2, h1, h2, h3, h4⟩ := h
    ⟨x, dx, vs, os, e1, e2, by rw [hH x (by rw [e2]; simp)]; exact h1, by rw [hH dx (by rw [e2]; simp)]; exact h2, h3, h4.mm hF hs fun q hq => hH q (by rw [e2]; simp [hq])⟩
/-- a frozen instance -/
def pObj {α : Type} (C : Addr) (ns : List Str) (sl : α → List Slot) : VP α where
  R := fun F v z => ∃ (x dx : Addr) (vs : List V), v = .ref x ∧ F x = some (.ins C dx (ns.zip vs)) ∧ vs.length = ns.length ∧ Slots F F [] (vs.map some) (sl z)
  mono := fun hF h => let ⟨x, dx, vs, e1, h1, h3, h4⟩ := h; ⟨x, dx, vs, e1, hF _ _ h1, h3, h4.mono hF hF⟩
/-- an owned instance that is looked at -/
def bobj (C : Addr) (ns : List Str) (Δ : List Slot) : Slot where
  P := fun F H fp o => fp = [] ∧ ∃ (x dx : Addr) (vs : List V) (os : List Addr), o = some (.ref x) ∧ H x = some (.ins C dx (ns.zip vs)) ∧ vs.length = ns.length ∧ Slots F H os (vs.map some) Δ
  mono := fun hF hH h => let ⟨e0, x, dx, vs, os, e1, h1, h3, h4⟩ := h; ⟨e0, x, dx, vs, os, e1, hH _ _ h1, h3, h4.mono hF hH⟩
  st := False
  mm := fun h => h.elim
theorem zip_lookup : ∀ {ns : List Str} {vs : List V} {j : Nat} {f : Str} {v : V}, ns.Nodup → vs.length = ns.length → ns[j]? = some f → vs[j]? = some v → (ns.zip vs).lookup f = some v
  | [], _, _, _, _, _, _, e, _ => by simp at e
  | n :: ns, [], _, _, _, _, h, _, _ => by simp at h
  | n :: ns, u :: vs, 0, f, v, nd, h, e, e2 => by
    simp at e e2; subst e; subst e2
    simp [List.lookup]
  | n :: ns, u :: vs, j + 1, f, v, nd, h, e, e2 => by
    have nd' := List.nodup_cons.mp nd
    have hm : f ∈ ns := List.mem_of_getElem? (show ns[j]? = some f by simpa using e)
    have hb : (f == n) = false := by simpa using fun z : f = n => nd'.1 (z ▸ hm)
    rw [List.zip_cons_cons, List.lookup_cons, hb]
    exact zip_lookup nd'.2 (by simpa using h) (by simpa using e) (by simpa using e2)
theorem zip_lookup_none : ∀ {ns : List Str} {vs : List V} {f : Str}, f ∉ ns → (ns.zip vs).lookup f = none
  | [], _, _, _ => rfl
  | n :: ns, [], _, _ => rfl
  | n :: ns, u :: vs, f, h => by
    have hb : (f == n) = false := by simpa using fun z : f = n => h (by simp [z])
    rw [List.zip_cons_cons, List.lookup_cons, hb]
    exact zip_lookup_none fun z => h (List.mem_cons_of_mem _ z)
theorem zip_new : ∀ {ns : List Str} {vs : List V} {f : Str} {v : V}, vs.length = ns.length → f ∉ ns → putF f v (ns.zip vs) = (ns ++ [f]).zip (vs ++ [v])
  | [], [], f, v, _, _ => rfl
  | [], _ :: _, _, _, h, _ => by simp at h
  | n :: ns, [], _, _, h, _ => by simp at h
  | n :: ns, u :: vs, f, v, h, hf => by
    have hne : ¬ n = f := fun z => hf (by simp [z])
    rw [List.zip_cons_cons, putF, if_neg hne, zip_new (by simpa using h) (fun z => hf (List.mem_cons_of_mem _ z))]; rfl
/-- what is asked of a class for an attribute -/
structure At (K : PySem.W.Frag) (C : Addr) (f : Str) : Prop where
  cl : Cls K C
  no : NoAttr K C f
/-- an instance that may be read: each attribute's value told by Δ -/
def OV (s : Slot) (C : Addr) (ns : List Str) (Δ : List Slot) : Prop := ∀ F H fp o, Same F H → s.P F H fp o → ∃ (x dx : Addr) (vs : List V) (os : List Addr), o = some (.ref x) ∧ H x = some (.ins C dx (ns.zip vs)) ∧ vs.length = ns.length ∧ Slots F H os (vs.map some) Δ
theorem OV.obj : OV (obj C ns Δ) C ns Δ := fun F H fp o _ h => let ⟨x, dx, vs, os, e1, _, h1, _, h3, h4⟩ := h; ⟨x, dx, vs, os, e1, h1, h3, h4⟩
theorem OV.bobj : OV (bobj C ns Δ) C ns Δ := fun F H fp o _ h => let ⟨_, x, dx, vs, os, e1, h1, h3, h4⟩ := h; ⟨x, dx, vs, os, e1, h1, h3, h4⟩
theorem OV.val {α : Type} {sl : α → List Slot} {z : α} : OV (Ty.val (pObj C ns sl) z) C ns (sl z) := fun F H fp o hS h => let ⟨_, v, ev, x, dx, vs, e1, h1, h3, h4⟩ := h; ⟨x, dx, vs, [], by rw [ev, e1], hS _ _ h1, h3, h4.mono same_refl hS⟩
/-- e.f, the attribute's value frozen -/
theorem x_fld {α : Type} {p : VP α} {u : α} (j : Nat) (he : XV Y e Γ s) (ho : OV s C ns Δ) (hA : At K C f) (hj : Δ[j]? = some (val p u) := by rfl) (hn : ns[j]? = some f := by rfl) (nd : ns.Nodup := by decide +kernel) (hb : ∀ i, attributeBase e f (Y.X i).env (eval e (Y.X i).env) = eval e (Y.X i).env := by intro _; rfl) : XV Y (.Attribute e f pos) Γ (val p u) := by
  obtain ⟨t, pe, rd⟩ := he
  refine ⟨_, fun i => by have h := pe_fld (pos := pos) (pe i) (hb i); rw [Y.hK i] at h; exact h, fun B F H os σ Q I q => ?_⟩
  refine rd B F H os σ _ I fun v F1 H1 fp f1 e1 W1 p1 => ?_
  obtain ⟨x, dx, vs, o2, ev, h1, h2, h3⟩ := ho F1 H1 fp _ W1.sub p1
  cases ev
  obtain ⟨o, fp', r', e3, p3, _, _⟩ := h3.at hj
  obtain ⟨_, v', ev, rv⟩ := p3
  subst ev
  have e4 : vs[j]? = some v' := by
    rw [List.getElem?_map] at e3
    obtain ⟨y, hy, ey⟩ := Option.map_eq_some_iff.mp e3
    cases ey; exact hy
  exact ⟨x, C, dx, _, v', rfl, h1, hA.cl, hA.no, zip_lookup nd h2 hn e4, q v' F1 H1 [] f1 e1 W1.drop ⟨rfl, v', rfl, rv⟩⟩
/-- e.f, an owned list within, looked at -/
theorem x_fldL {α : Type} {p : VP α} {u : List α} (j : Nat) (he : XV Y e Γ s) (ho : OV s C ns Δ) (hA : At K C f) (hj : Δ[j]? = some (own (oL p) u) := by rfl) (hn : ns[j]? = some f := by rfl) (nd : ns.Nodup := by decide +kernel) (hb : ∀ i, attributeBase e f (Y.X i).env (eval e (Y.X i).env) = eval e (Y.X i).env := by intro _; rfl) : XV Y (.Attribute e f pos) Γ (borL p u) := by
  obtain ⟨t, pe, rd⟩ := he
  refine ⟨_, fun i => by have h := pe_fld (pos := pos) (pe i) (hb i); rw [Y.hK i] at h; exact h, fun B F H os σ Q I q => ?_⟩
  refine rd B F H os σ _ I fun v F1 H1 fp f1 e1 W1 p1 => ?_
  obtain ⟨x, dx, vs, o2, ev, h1, h2, h3⟩ := ho F1 H1 fp _ W1.sub p1
  cases ev
  obtain ⟨o, fp', r', e3, p3, _, _⟩ := h3.at hj
  obtain ⟨v', ev, l, ws, el, ef, g1, g2⟩ := p3
  subst ev
  have e4 : vs[j]? = some v' := by
    rw [List.getElem?_map] at e3
    obtain ⟨y, hy, ey⟩ := Option.map_eq_some_iff.mp e3
    cases ey; exact hy
  exact ⟨x, C, dx, _, v', rfl, h1, hA.cl, hA.no, zip_lookup nd h2 hn e4, q v' F1 H1 [] f1 e1 W1.drop ⟨rfl, l, ws, by rw [el], g1, g2⟩⟩
/-- a place within an owned instance at a place -/
theorem pl_fld {up : Slot → List Slot} (j : Nat) (ho : PL Y eo Γ (obj C ns Δ) up) (hA : At K C f) (hst : Stb Δ) (hso : ∀ F H fp o, s.P F H fp o → ∃ v, o = some v) (hj : Δ[j]? = some s := by rfl) (hn : ns[j]? = some f := by rfl) (nd : ns.Nodup := by decide +kernel) (hb : ∀ i, attributeBase eo f (Y.X i).env (eval eo (Y.X i).env) = eval eo (Y.X i).env := by intro _; rfl) :
    PL Y (.Attribute eo f pos) Γ s (fun s' => up (obj C ns (Δ.set j s'))) := by
  obtain ⟨t, Pv, pe, pst, rd, up'⟩ := ho
  refine ⟨_, fun σ H v => ∃ x dx vs, Pv σ H (.ref x) ∧ H x = some (.ins C dx (ns.zip vs)) ∧ vs.length = ns.length ∧ vs[j]? = some v, fun i => by have h := pe_fld (pos := pos) (pe i) (hb i); rw [Y.hK i] at h; exact h,
    fun σ H H' v hH h => let ⟨x, dx, vs, h1, h2, h3, h4⟩ := h; ⟨x, dx, vs, pst _ _ _ _ hH h1, hH _ _ h2, h3, h4⟩, fun B F H os σ Q I q => ?_, fun F H os σ v S hv => ?_⟩
  · refine rd B F H os σ _ I fun v hv => ?_
    obtain ⟨_, o2, r, hp, S⟩ := I
    obtain ⟨fp, r2, hr2, hp2, _⟩ := up' F H o2 σ v S hv
    obtain ⟨x, dx, vs, o3, e1, e2, h1, h2, h3, h4⟩ := hp2
    cases e1
    obtain ⟨o, fp', r', e3, p3, _, _⟩ := h4.at hj
    obtain ⟨v', rfl⟩ := hso _ _ _ _ p3
    have e4 : vs[j]? = some v' := by
      rw [List.getElem?_map] at e3
      obtain ⟨y, hy, ey⟩ := Option.map_eq_some_iff.mp e3
      cases ey; exact hy
    exact ⟨x, C, dx, _, v', rfl, h1, hA.cl, hA.no, zip_lookup nd h3 hn e4, q v' ⟨x, dx, vs, hv, h1, h3, e4⟩⟩
  · obtain ⟨x, dx, vs, hv1, h1, h2, h3⟩ := hv
    obtain ⟨fp, r2, hr2, hp2, kk⟩ := up' F H os σ _ S hv1
    obtain ⟨x', dx', vs', o3, e1, e2, g1, g2, g3, g4⟩ := hp2
    cases e1
    rw [h1] at g1
    have ez : ns.zip vs = ns.zip vs' := by
      have := Option.some.inj g1
      injection this
    have ed : dx = dx' := by
      have := Option.some.inj g1
      injection this
    subst ed
    have ev : vs = vs' := by
      have a1 : (ns.zip vs).map (·.2) = (ns.zip vs').map (·.2) := by rw [ez]
      rw [List.map_snd_zip (by omega), List.map_snd_zip (by omega)] at a1
      exact a1
    subst ev
    obtain ⟨o, fp', r', e3, p3, q3, k3⟩ := g4.at hj
    have eo' : o = some v := by
      rw [List.getElem?_map, h3] at e3
      exact (Option.some.inj e3).symm
    subst eo'
    subst e2
    refine ⟨fp', (x :: dx :: r') ++ r2, ?_, p3, fun F' H' fp2 s' hF hk hs' => ?_⟩
    · refine hr2.trans ?_
      have a1 : (x :: dx :: o3).Perm (fp' ++ (x :: dx :: r')) := by
        have : (x :: dx :: o3).Perm (x :: dx :: (fp' ++ r')) := (q3.cons dx).cons x
        refine this.trans ?_
        have a2 : (fp' ++ (x :: dx :: r')).Perm (x :: (fp' ++ (dx :: r'))) := List.perm_middle
        have a3 : (fp' ++ (dx :: r')).Perm (dx :: (fp' ++ r')) := List.perm_middle
        exact (a2.trans (a3.cons x)).symm
      have a4 := List.Perm.append_right r2 a1
      rw [List.append_assoc] at a4
      exact a4
    · obtain ⟨os', t1, t2⟩ := k3 hs' (fun s0 h0 fp0 o0 hf hp => s0.mm (hst s0 h0) hF (fun q hq => hk q (by simp [hf q hq])) hp)
      have es : (vs.map some).set j (some v) = vs.map some := by
        obtain ⟨hj', e⟩ := List.getElem?_eq_some_iff.mp e3
        rw [← e]; exact List.set_getElem_self hj'
      rw [es] at t1
      obtain ⟨os2, u1, u2⟩ := kk F' H' (x :: dx :: os') (obj C ns (Δ.set j s')) hF (fun q hq => hk q (by simp [hq])) ⟨x, dx, vs, os', rfl, rfl, by rw [hk x (by simp)]; exact h1, by rw [hk dx (by simp)]; exact g2, h2, t1⟩
      refine ⟨os2, u1, u2.trans ?_⟩
      have a1 : (x :: dx :: os').Perm (x :: dx :: (fp2 ++ r')) := (t2.cons dx).cons x
      have a2 : (fp2 ++ (x :: dx :: r')).Perm (x :: (fp2 ++ (dx :: r'))) := List.perm_middle
      have a3 : (fp2 ++ (dx :: r')).Perm (dx :: (fp2 ++ r')) := List.perm_middle
      have a5 := List.Perm.append_right r2 (a1.trans (a2.trans (a3.cons x)).symm)
      rw [List.append_assoc] at a5
      exact a5
/-- o.f = e, a new attribute -/
theorem go_newfld {up : Slot → List Slot} {pos' : Pos} (ho : PL Y eo Γ (obj C ns Δ) up) (he : XV Y e Γ r) (hA : At K C f) (hst : Stb Δ) (hr : r.st) (hg : Go Y i rest D B (up (obj C (ns ++ [f]) (Δ ++ [r])))) (hn : ns.contains f = false := by decide +kernel) (hl : Nat.blt ns.length 1000 = true := by rfl)
    (hs : swapsWith e (some (.Attribute eo f pos')) pos.line (Y.X i).env = pure false := by rfl) : Go Y i (.Assign [.Attribute eo f pos'] e pos :: rest) D B Γ := by
  obtain ⟨t, Pv, pe, pst, rd, up'⟩ := ho
  obtain ⟨t2, pe2, rd2⟩ := he
  refine go_ps (ps_fld (pe i) (pe2 i) hs) fun F H σ ⟨os, W, S⟩ => ?_
  refine rd2 B F H os σ _ (Sta.in W S) fun y F1 H1 fy f1 e1 W1 p1 => ?_
  refine rd B F1 H1 _ σ _ ((Sta.in W S).step f1 e1 W1) fun v hv => ?_
  obtain ⟨fp, r2, hr2, hp2, kk⟩ := up' F1 H1 os σ v (S.mono f1 e1) hv
  obtain ⟨x, dx, vs, o3, ex, e2, g1, g2, g3, g4⟩ := hp2
  cases ex
  subst e2
  have W2 : Wo B F1 H1 (fy ++ ((x :: dx :: o3) ++ r2)) := W1.perm (List.Perm.append_left fy hr2)
  have nd2 := W2.nd
  have hx : ∀ q, q ∈ fy ∨ q ∈ dx :: o3 ∨ q ∈ r2 → q ≠ x := fun q hq e => by
    subst e
    have a1 := List.nodup_append.mp nd2
    rcases hq with hq | hq | hq
    · exact a1.2.2 q hq q (by simp) rfl
    · have a2 := List.nodup_append.mp a1.2.1
      exact (List.nodup_cons.mp a2.1).1 hq
    · have a2 := List.nodup_append.mp a1.2.1
      exact a2.2.2 q (by simp) q hq rfl
  rw [Y.hK i]
  refine ⟨x, C, dx, _, rfl, g1, hA.cl, hA.no, ?_, ?_⟩
  · rw [List.length_zip]
    have := Nat.le_of_ble_eq_true hl
    omega
  have hnf : f ∉ ns := fun z => by
    have := List.contains_iff_mem.mpr z
    rw [hn] at this; cases this
  rw [zip_new g3 hnf]
  have W3 : Wo B F1 (upd H1 x (.ins C dx ((ns ++ [f]).zip (vs ++ [y])))) (fy ++ ((x :: dx :: o3) ++ r2)) := W2.write (by simp)
  have hfy : ∀ q ∈ fy, q ≠ x := fun q hq => hx q (.inl hq)
  have g5 : Slots F1 (upd H1 x (.ins C dx ((ns ++ [f]).zip (vs ++ [y])))) o3 (vs.map some) Δ := g4.mm same_refl hst fun q hq => upd_ne (hx q (by simp [hq]))
  have p5 : r.P F1 (upd H1 x (.ins C dx ((ns ++ [f]).zip (vs ++ [y])))) fy (some y) := r.mm hr same_refl (fun q hq => upd_ne (hfy q hq)) p1
  have t6 := g5.append (Slots.cons p5 .nil)
  rw [List.append_nil, show vs.map some ++ [some y] = (vs ++ [y]).map some by simp] at t6
  have hdx : dx ≠ x := hx dx (by simp)
  obtain ⟨os2, v1, v2⟩ := kk F1 (upd H1 x (.ins C dx ((ns ++ [f]).zip (vs ++ [y])))) (x :: dx :: (o3 ++ fy)) (obj C (ns ++ [f]) (Δ ++ [r])) same_refl (fun q hq => upd_ne (hx q (by simp [hq]))) ⟨x, dx, vs ++ [y], o3 ++ fy, rfl, rfl, upd_same, by rw [upd_ne hdx]; exact g2, by simp [g3], t6⟩
  refine hg F1 _ σ ⟨os2, (W3.perm ?_).perm v2.symm, v1⟩
  have b1 : (fy ++ ((x :: dx :: o3) ++ r2)).Perm (x :: dx :: ((fy ++ o3) ++ r2)) := by
    have c1 : (fy ++ (x :: (dx :: (o3 ++ r2)))).Perm (x :: (fy ++ (dx :: (o3 ++ r2)))) := List.perm_middle
    have c2 : (fy ++ (dx :: (o3 ++ r2))).Perm (dx :: (fy ++ (o3 ++ r2))) := List.perm_middle
    have c3 := c1.trans (c2.cons x)
    rw [List.append_assoc]; exact c3
  refine b1.trans ?_
  exact ((List.Perm.append_right r2 List.perm_append_comm).cons dx).cons x
/-- all of them frozen values -/
def AllV : List Slot → Prop
  | [] => True
  | s :: r => (∃ (α : Type) (p : VP α) (u : α), s = Ty.val p u) ∧ AllV r
theorem AllV.no {F H : Hp} : ∀ {Γ : List Slot} {os : List Addr} {σ : List (Option V)}, AllV Γ → Slots F H os σ Γ → os = [] ∧ Slots F F [] σ Γ
  | [], _, _, _, S => by cases S; exact ⟨rfl, .nil⟩
  | s :: Γ, _, _, h, S => by
    cases S with
    | @cons fp os o σ _ _ p q =>
      obtain ⟨⟨α, p', u, rfl⟩, h2⟩ := h
      obtain ⟨e1, v, e2, rv⟩ := p
      obtain ⟨e3, t⟩ := AllV.no h2 q
      subst e1; subst e3
      exact ⟨rfl, Slots.cons (fp := []) ⟨rfl, v, e2, rv⟩ t⟩
/-- an owned instance frozen -/
theorem WkS.obj {α : Type} {sl : α → List Slot} {z : α} (hw : WkL Δ (sl z)) (hv : AllV (sl z)) : WkS (Ty.obj C ns Δ) (Ty.val (pObj C ns sl) z) := fun F H fp o hS h => by
  obtain ⟨x, dx, vs, os, e1, e2, h1, h2, h3, h4⟩ := h
  obtain ⟨xx, yy, hp, kk⟩ := h4.wk hS hw
  obtain ⟨rfl, _⟩ := hv.no (kk H hS same_refl fun _ _ => rfl)
  subst e2
  refine ⟨x :: dx :: os, [], by simp, fun F' hF hs hx => ⟨rfl, _, e1, x, dx, vs, rfl, by rw [hx x (by simp)]; exact h1, h3, (hv.no (kk F' hF hs fun q hq => hx q ?_)).2⟩⟩
  have := hp.mem_iff.mpr (by simpa using hq)
  simp [this]

/-! ### what is handed in is kept by name -/
/-- s, held at the value v -/
def hold (s : Slot) (v : V) : Slot where
  P := fun F H fp o => o = some v ∧ s.P F H fp o
  mono := fun hF hH h => ⟨h.1, s.mono hF hH h.2⟩
  st := s.st
  mm := fun hs {_ _ _ _ _ _} hF hH h => ⟨h.1, s.mm hs hF hH h.2⟩
theorem pl_hold {v0 : V} (j : Nat) (hst : Stb Γ) (hs : Γ[j]? = some (hold s v0) := by rfl) (hN : ∀ i, (Y.X i).N[j]? = some x := by intro _; rfl)
    (hv : ∀ i, Vis (Y.X i).env.scope x := by intro _; first | exact Or.inl rfl | exact Or.inr (Or.inl rfl) | exact Or.inr (Or.inr rfl)) (hd : (x == ("__debug__" : Str)) = false := by decide) (hcd : (x == ("__classdict__" : Str)) = false := by decide) : PL Y (.Name x pos) Γ s (fun s' => Γ.set j (hold s' v0)) := by
  refine ⟨_, fun σ H v => σ[j]? = some (some v), fun i => pe_var (hN i) (hv i) hd hcd, fun σ H H' v _ h => h, fun B F H os σ Q I q => ?_, fun F H os σ v S hv => ?_⟩
  · obtain ⟨o, fp, e, h⟩ := I.slot hs
    obtain ⟨rfl, _⟩ := h
    exact ⟨v0, e, q v0 e⟩
  · obtain ⟨o, fp, r, e, p, q, kk⟩ := S.at hs
    rw [hv] at e; cases e
    obtain ⟨e0, p⟩ := p
    refine ⟨fp, r, q, p, fun F' H' fp' s' hF hk hs' => ?_⟩
    obtain ⟨os', h1, h2⟩ := kk (s' := hold s' v0) ⟨e0, hs'⟩ (fun s0 h0 fp0 o0 hf hp => s0.mm (hst s0 h0) hF (fun z hz => hk z (hf z hz)) hp)
    have es : σ.set j (some v) = σ := by
      obtain ⟨hj, e⟩ := List.getElem?_eq_some_iff.mp hv
      rw [← e]; exact List.set_getElem_self hj
    rw [es] at h1
    exact ⟨os', h1, h2⟩
theorem x_varH {v0 : V} (j : Nat) (hs : Γ[j]? = some (hold (obj C ns Δ) v0) := by rfl) (hN : ∀ i, (Y.X i).N[j]? = some x := by intro _; rfl)
    (hv : ∀ i, Vis (Y.X i).env.scope x := by intro _; first | exact Or.inl rfl | exact Or.inr (Or.inl rfl) | exact Or.inr (Or.inr rfl)) (hd : (x == ("__debug__" : Str)) = false := by decide) (hcd : (x == ("__classdict__" : Str)) = false := by decide) : XV Y (.Name x pos) Γ (bobj C ns Δ) := by
  refine ⟨_, fun i => pe_var (hN i) (hv i) hd hcd, fun B F H os σ Q I q => ?_⟩
  obtain ⟨o, fp, e, _, y, dx, vs, o2, e1, e2, h1, h2, h3, h4⟩ := I.slot hs
  subst e1
  exact ⟨_, e, q _ F H [] same_refl same_refl I.W ⟨rfl, y, dx, vs, o2, rfl, h1, h3, h4⟩⟩
theorem obj_some : ∀ F H fp o, (obj C ns Δ).P F H fp o → ∃ v, o = some v := fun F H fp o h => let ⟨_, _, _, _, e, _⟩ := h; ⟨_, e⟩
/-! ### defs that change their first argument -/
def spM {ι μ ρ : Type} (s0 : ι → Slot) (As : ι → List Slot) (m : ι → Option (μ × ρ)) (s1 : μ → Slot) (Sr : ρ → Slot) : Sp := fun vs H Q _ => ∃ (z : ι) (r : μ × ρ) (F : Hp) (fp : List Addr) (v0 : V) (ws : List V), vs = v0 :: ws ∧ m z = some r ∧ Wo ⟨F, H, fp⟩ F H fp ∧ (s0 z).P F H fp (some v0) ∧ Slots F H [] (ws.map some) (As z) ∧
  ∀ v F' H' f1 f2, Wo ⟨F, H, fp⟩ F' H' (f2 ++ f1) → (s1 r.1).P F' H' f1 (some v0) → (Sr r.2).P F' H' f2 (some v) → Q v H'
/-- the ends of such a body -/
def DM {μ ρ : Type} (B : Bs) (v0 : V) (s1 : μ → Slot) (Sr : ρ → Slot) (r : μ × ρ) : Ends where
  nx := fun _ H => ∃ F f1 f2, Wo B F H (f2 ++ f1) ∧ (s1 r.1).P F H f1 (some v0) ∧ (Sr r.2).P F H f2 (some .non)
  rt := fun v H => ∃ F f1 f2, Wo B F H (f2 ++ f1) ∧ (s1 r.1).P F H f1 (some v0) ∧ (Sr r.2).P F H f2 (some v)
theorem fn_mut {ι μ ρ : Type} {s0 : ι → Slot} {As : ι → List Slot} {m : ι → Option (μ × ρ)} {s1 : μ → Slot} {Sr : ρ → Slot} {x qual : Str} {st : Stmt} {f : Addr} {fd : FuncData} {N ps : List Str} (Fn : Fun K x qual st f fd) (S : FnScope N ps (defScope st)) (hlen : ∀ z, (As z).length + 1 = ps.length)
    (body : ∀ (cdv : Value) (A : Around) (outer : List Env) (s : Shared) (H : Hp) (E : XK) (hr : Room k (A.deeper (envOfC qual (defScope st) s.heap.objs.size f cdv))) (z : ι) (r : μ × ρ) (v0 : V) (B : Bs), m z = some r →
      Go (fb P w K mg base N qual st f cdv A outer s H E k hr S.nd) () (defBody st) (DM B v0 s1 Sr r) B (hold (s0 z) v0 :: As z ++ List.replicate (N.length - ps.length) dead)) : FnOk P w K mg base CX0 (k + 1) f fd ps (spM s0 As m s1 Sr) := by
  refine Fn.ok S (fun vs H Q E h => ?_) (fun cdv A outer s H vs Q E hr h => ?_)
  · obtain ⟨z, r, F, fp, v0, ws, rfl, _, _, _, Sl, _⟩ := h
    have e := Sl.length
    rw [List.length_map] at e
    rw [List.length_cons, e, hlen]
  · obtain ⟨z, r, F, fp, v0, ws, rfl, hm, hW, hp, Sl, q⟩ := h
    refine ⟨_, pss_cont, ?_⟩
    have go := body cdv A outer s H E hr z r v0 ⟨F, H, fp⟩ hm
    have S0 : Sta ⟨F, H, fp⟩ F H (L2.start N (v0 :: ws)) (hold (s0 z) v0 :: As z ++ List.replicate (N.length - ps.length) dead) := by
      refine ⟨fp, hW, ?_⟩
      unfold L2.start
      have e := Sl.length
      rw [List.length_map] at e
      rw [List.length_cons, e, hlen]
      have e1 := Slots.cons (s := hold (s0 z) v0) ⟨rfl, hp⟩ (Slots.append Sl (slots_dead (F := F) (H := H) (N.length - ps.length)))
      simpa using e1
    exact cont_mono (go F H _ S0) (fun σ H' ⟨F', f1, f2, W', p', q'⟩ => q .non F' H' f1 f2 W' p' q') (fun v H' ⟨F', f1, f2, W', p', q'⟩ => q v F' H' f1 f2 W' p' q') (fun _ _ z => z.elim) (fun _ _ z => z.elim)
/-- the body falls off its end -/
theorem go_nilM {μ ρ : Type} {v0 : V} {s1 : μ → Slot} {Sr : ρ → Slot} {r : μ × ρ} (j : Nat) (hs : Γ[j]? = some (hold (s1 r.1) v0) := by rfl) (hr : ∀ F H, (Sr r.2).P F H [] (some .non) := by intro _ _; exact ⟨rfl, _, rfl, rfl⟩) : Go Y i [] (DM B v0 s1 Sr r) B Γ :=
  go_nil fun σ H ⟨F, os, W, S⟩ => by
    obtain ⟨o, fp, r', e, p, q, _⟩ := S.at hs
    obtain ⟨rfl, p⟩ := p
    exact ⟨F, fp, [], (W.perm q).dropR, p, hr _ _⟩
/-- behind a call that changes what is at fp -/
theorem Wo.calledM {F H F' H' : Hp} {os fp r fp' : List Addr} (W : Wo B F H os) (hp : os.Perm (fp ++ r)) (W4 : Wo ⟨F, H, fp⟩ F' H' fp') : Same F F' ∧ (∀ q ∈ r, H' q = H q) ∧ Wo B F' H' (fp' ++ r) := by
  have W1 := W.perm hp
  have nd := List.nodup_append.mp W1.nd
  have hr : ∀ q ∈ r, q ∉ fp := fun q hq hf => nd.2.2 q hf q hq rfl
  have hH : ∀ q ∈ r, H' q = H q := fun q hq => by
    obtain ⟨o, ho⟩ := W1.oH q (List.mem_append_right _ hq)
    rw [ho]; exact W4.bH q o ho (hr q hq)
  have own_old : ∀ q ∈ r, F' q = none := fun q hq => by
    cases z : F' q with
    | none => rfl
    | some u =>
      obtain ⟨o, ho⟩ := W1.oH q (List.mem_append_right _ hq)
      rcases W4.bN q u z with y | y | y
      · have y' : F q = some u := y
        rw [W1.oF q (List.mem_append_right _ hq)] at y'; cases y'
      · have y' : H q = none := y
        rw [ho] at y'; cases y'
      · exact absurd y (hr q hq)
  refine ⟨W4.bF, hH, W4.sub, List.nodup_append.mpr ⟨W4.nd, nd.2.1, fun q hq q' hq' e => ?_⟩, fun q hq => ?_, fun q hq => ?_, W.bF.trans W4.bF, fun q u e hb => ?_, fun q u e => ?_, fun q hq => ?_⟩
  · subst e
    rcases W4.bO q hq with y | y
    · have y' : H q = none := y
      obtain ⟨o, ho⟩ := W1.oH q (List.mem_append_right _ hq')
      rw [ho] at y'; cases y'
    · exact hr q hq' y
  · rcases List.mem_append.mp hq with hq | hq
    · exact W4.oF q hq
    · exact own_old q hq
  · rcases List.mem_append.mp hq with hq | hq
    · exact W4.oH q hq
    · obtain ⟨o, ho⟩ := W1.oH q (List.mem_append_right _ hq)
      exact ⟨o, by rw [hH q hq]; exact ho⟩
  · by_cases hf : q ∈ fp
    · exfalso
      rcases W1.bO q (List.mem_append_left _ hf) with z | z
      · rw [z] at e; cases e
      · exact hb z
    · exact W4.bH q u (W.bH q u e hb) hf
  · rcases W4.bN q u e with y | y | y
    · exact W.bN q u y
    · exact .inr (W.bFree y)
    · exact .inr (W1.bO q (List.mem_append_left _ y))
  · rcases List.mem_append.mp hq with hq | hq
    · rcases W4.bO q hq with y | y
      · exact W.bFree y
      · exact W1.bO q (List.mem_append_left _ y)
    · exact W1.bO q (List.mem_append_right _ hq)
theorem Wo.here {F H : Hp} {os fp r : List Addr} (W : Wo B F H os) (hp : os.Perm (fp ++ r)) : Wo ⟨F, H, fp⟩ F H fp := (W.perm hp).dropR.self
theorem lookup_no {vs : List V} (hns : ns.contains f = false) : (ns.zip vs).lookup f = none := zip_lookup_none fun z => by
  have := List.contains_iff_mem.mpr z
  rw [hns] at this; cases this
/-- C(e, ..): a new instance -/
theorem x_make {ι μ ρ : Type} {s0 : ι → Slot} {As : ι → List Slot} {m : ι → Option (μ × ρ)} {s1 : μ → Slot} {Sr : ρ → Slot} {args : List Slot} {z : ι} {q : μ × ρ} {j : Nat} {g : Addr} {fd : FuncData} {ps : List Str}
    (Fn : FnOk P w K mg base CX0 j g fd ps (spM s0 As m s1 Sr)) (hj : j + 1 ≤ k) (M : Mk K C g) (hm : mg x = some (.ref C)) (hb : Binds K fd ps []) (ha : XA Y (e :: es) Γ args) (hargs : args = As z) (hno : NoOwn args) (h0 : s0 z = obj C [] []) (hq : m z = some q) (hr : Sr q.2 = vNon)
    (hg : ∀ i, Gl (Y.X i) x := by intro _; rfl) (hdb : (x == ("__debug__" : Str)) = false := by decide)
    (he : ∀ i, starEach (e :: es) (Y.X i).env = (false, eval e (Y.X i).env) :: starEach es (Y.X i).env := by intro _; rfl) (hpl : ∀ i, (backTo pos (starEach es (Y.X i).env)).any (·.1) = false := by intro _; rfl) (hcm : Y.cm = true := by rfl) : XV Y (.Call (.Name x p') (e :: es) [] pos) Γ (s1 q.1) := by
  subst hargs
  obtain ⟨t, pa, rd⟩ := ha
  have FF : ∀ i, FnOk (Y.X i).prog (Y.X i).w (Y.X i).K (Y.X i).mg (Y.X i).base CX0 j g fd ps (spM s0 As m s1 Sr) := fun i => by rw [Y.hP i, Y.hw i, Y.hK i, Y.hM i, Y.hB i]; exact Fn
  refine ⟨_, fun i => pe_make (by rw [Y.hK i]; exact M) (FF i) ((Y.hR hcm i).mono hj) (hg i) (by rw [Y.hM i]; exact hm) (by rw [Y.hK i]; exact hb) .nil pass0 (pa i) hdb (he i) (hpl i), fun B F H os σ Q I kk => ?_⟩
  refine rd B F H os σ _ I fun vs F1 H1 fp f1 e1 W1 S1 => ?_
  obtain rfl := hno.nil S1
  intro a dx ha hdx hne
  rw [List.append_nil]
  have hdx' : (upd H1 dx (.own a)) a = none := by rw [upd_ne (fun z => hne z.symm)]; exact ha
  have W1' : Wo B F1 H1 os := W1
  have W2 : Wo B F1 (upd (upd H1 dx (.own a)) a (.ins C dx [])) (a :: dx :: os) := (W1'.newO hdx).newO hdx'
  have e3 : Same H1 (upd (upd H1 dx (.own a)) a (.ins C dx [])) := (same_upd hdx).trans (same_upd hdx')
  refine ⟨z, q, F1, [a, dx], .ref a, vs, rfl, hq, W2.here (fp := [a, dx]) (r := os) (.refl _), ?_, S1.mono same_refl e3, fun v F2 H2 fp1 fp2 W3 p2 p3 => ?_⟩
  · rw [h0]
    exact ⟨a, dx, [], [], rfl, rfl, upd_same, by rw [upd_ne hne]; exact upd_same, rfl, .nil⟩
  · rw [hr] at p3
    obtain ⟨rfl, rv⟩ := val_P p3
    refine ⟨rv, ?_⟩
    obtain ⟨c1, c2, W4⟩ := Wo.calledM (os := a :: dx :: os) (fp := [a, dx]) (r := os) W2 (.refl _) W3
    refine kk _ F2 H2 fp1 (f1.trans c1) (e1.trans ?_) W4 p2
    intro b u hb
    refine W3.bH b u (e3 b u hb) ?_
    intro hm
    rcases List.mem_cons.mp hm with rfl | hm
    · rw [ha] at hb; cases hb
    · obtain rfl := List.mem_singleton.mp hm
      rw [hdx] at hb; cases hb
end
end Ty

/-! Ty8 -/
namespace Ty
open PySem PySem.Spec L2
open PyProof.Rows (envOfC)
section
variable {P : Program} {w : World} {K : PySem.W.Frag} {mg : Str → Option Value} {base : Heap} {k : Nat}
variable {Y : Fa P w K mg base k} {i : Y.I} {e ea eb eo ev tg iter elt : Expr} {es ifs : List Expr} {rest body : List Stmt} {Γ Γ' Γ1 Γ2 Δ Δ' : List Slot} {a b c r s s' : Slot} {pos : Pos} {B : Bs} {D : Ends} {x f : Str} {p' : Pos} {C : Addr} {ns : List Str}

/-! ### dicts -/
/-- a kind of key: ints, texts, or tuples of them -/
structure DQ (κ : Type) where
  pk : VP κ
  T : Type
  dT : DecidableEq T
  enc : κ → T
  inj : ∀ a b, enc a = enc b → a = b
  ho : List (T × V) → HO
  hinj : ∀ a b, ho a = ho b → a = b
  get : ∀ {F H : Hp} {a : Addr} {v : V} {k : κ} {kvs : List (T × V)}, Same F H → pk.R F v k → H a = some (ho kvs) → DGet H a v (valV kvs (enc k))
  put : ∀ {F H : Hp} {a : Addr} {v y : V} {k : κ} {kvs : List (T × V)}, Same F H → pk.R F v k → H a = some (ho kvs) → kvs.length < sizeLine → DPut H a v y (upd H a (ho (putK kvs (enc k) y)))
instance {κ : Type} (q : DQ κ) : DecidableEq q.T := q.dT
def dInt : DQ Int where
  pk := pInt
  T := Key
  dT := inferInstance
  enc := fun i => .inl i
  inj := fun a b h => Sum.inl.inj h
  ho := .dK
  hinj := fun a b h => by injection h
  get := fun _ hv h => by cases hv; exact DGet.k (k := .inl _) h
  put := fun _ hv h hl => by cases hv; exact DPut.k (k := .inl _) h hl
def dStr : DQ Str where
  pk := pStr
  T := Key
  dT := inferInstance
  enc := fun i => .inr i
  inj := fun a b h => Sum.inr.inj h
  ho := .dK
  hinj := fun a b h => by injection h
  get := fun _ hv h => by cases hv; exact DGet.k (k := .inr _) h
  put := fun _ hv h hl => by cases hv; exact DPut.k (k := .inr _) h hl
/-- keys that are tuples -/
def dTup {κ : Type} (pk : VP κ) (enc : κ → List Key) (inj : ∀ a b, enc a = enc b → a = b) (h : ∀ F v k, pk.R F v k → ∃ b, v = .ref b ∧ F b = some (.tup ((enc k).map kV))) : DQ κ where
  pk := pk
  T := List Key
  dT := inferInstance
  enc := enc
  inj := inj
  ho := .dT
  hinj := fun a b h => by injection h
  get := fun hS hv hd => by obtain ⟨b, rfl, hb⟩ := h _ _ _ hv; exact DGet.t hd (hS _ _ hb)
  put := fun hS hv hd hl => by obtain ⟨b, rfl, hb⟩ := h _ _ _ hv; exact DPut.t hd (hS _ _ hb) hl
def dII : DQ (Int × Int) := dTup (pT2 pInt pInt) (fun x => [.inl x.1, .inl x.2]) (fun a b h => by simp at h; exact Prod.ext h.1 h.2) fun F v k h => by
  obtain ⟨l, a, b, rfl, h1, h2, h3⟩ := h
  cases h2; cases h3
  exact ⟨l, rfl, h1⟩
theorem map_inl_inj : ∀ {a b : List Int}, a.map (fun i => (Sum.inl i : Key)) = b.map Sum.inl → a = b
  | [], [], _ => rfl
  | [], _ :: _, h => by simp at h
  | _ :: _, [], h => by simp at h
  | x :: a, y :: b, h => by
    simp only [List.map_cons, List.cons.injEq, Sum.inl.injEq] at h
    rw [h.1, map_inl_inj h.2]
def dInts : DQ (List Int) := dTup (pTup pInt) (fun x => x.map Sum.inl) (fun a b h => map_inl_inj h) fun F v k h => by
  obtain ⟨l, vs, rfl, h1, h2⟩ := h
  refine ⟨l, rfl, ?_⟩
  rw [h1, map_int_of h2, List.map_map]; rfl
section
variable {κ β α : Type} [DecidableEq κ]
def dget (kvs : List (κ × β)) (k : κ) : Option β := (kvs.find? fun kv => decide (kv.1 = k)).map (·.2)
def dput (kvs : List (κ × β)) (k : κ) (v : β) : List (κ × β) := if (kvs.any fun kv => decide (kv.1 = k)) = true then kvs.map (fun kv => if kv.1 = k then (kv.1, v) else kv) else kvs ++ [(k, v)]
variable {q : DQ κ} {p : VP β}
abbrev DRel (q : DQ κ) (p : VP β) (F : Hp) (vs : List (q.T × V)) (kvs : List (κ × β)) : Prop := Paired (fun a b => a.1 = q.enc b.1 ∧ p.R F a.2 b.2) vs kvs
theorem dget_some {F : Hp} {vs : List (q.T × V)} {kvs : List (κ × β)} (h : DRel q p F vs kvs) {k : κ} {u : β} (hu : dget kvs k = some u) : ∃ v, valV vs (q.enc k) = some v ∧ p.R F v u := by
  unfold DRel at h
  induction h with
  | nil => cases hu
  | @cons a b as bs hab _ ih =>
    by_cases e : b.1 = k
    · have : a.1 = q.enc k := by rw [hab.1, e]
      refine ⟨a.2, valV_pos this, ?_⟩
      have : b.2 = u := by simpa [dget, List.find?_cons, e] using hu
      rw [← this]; exact hab.2
    · have : ¬ a.1 = q.enc k := fun z => e (q.inj _ _ (by rw [← hab.1, z]))
      rw [valV_neg this]
      exact ih (by simpa [dget, List.find?_cons, e] using hu)
theorem dget_none {F : Hp} {vs : List (q.T × V)} {kvs : List (κ × β)} (h : DRel q p F vs kvs) {k : κ} (hu : dget kvs k = none) : valV vs (q.enc k) = none := by
  unfold DRel at h
  induction h with
  | nil => rfl
  | @cons a b as bs hab _ ih =>
    by_cases e : b.1 = k
    · simp [dget, List.find?_cons, e] at hu
    · have : ¬ a.1 = q.enc k := fun z => e (q.inj _ _ (by rw [← hab.1, z]))
      rw [valV_neg this]
      exact ih (by simpa [dget, List.find?_cons, e] using hu)
theorem dget_isSome {F : Hp} {vs : List (q.T × V)} {kvs : List (κ × β)} (h : DRel q p F vs kvs) (k : κ) : (valV vs (q.enc k)).isSome = (dget kvs k).isSome := by
  cases e : dget kvs k with
  | none => rw [dget_none h e]; rfl
  | some u =>
    obtain ⟨v, hv, _⟩ := dget_some h e
    rw [hv]; rfl
theorem drel_any {F : Hp} {vs : List (q.T × V)} {kvs : List (κ × β)} (h : DRel q p F vs kvs) (k : κ) : (vs.any fun kv => decide (kv.1 = q.enc k)) = kvs.any fun kv => decide (kv.1 = k) := by
  unfold DRel at h
  induction h with
  | nil => rfl
  | @cons a b as bs hab _ ih =>
    rw [List.any_cons, List.any_cons, ih]
    congr 1
    by_cases e : b.1 = k
    · simp [e, hab.1]
    · have : ¬ a.1 = q.enc k := fun z => e (q.inj _ _ (by rw [← hab.1, z]))
      simp [e, this]
theorem drel_put {F : Hp} {vs : List (q.T × V)} {kvs : List (κ × β)} (h : DRel q p F vs kvs) (k : κ) {v : V} {u : β} (hv : p.R F v u) : DRel q p F (putK vs (q.enc k) v) (dput kvs k u) := by
  unfold putK dput
  rw [drel_any h k]
  by_cases hc : (kvs.any fun kv => decide (kv.1 = k)) = true
  · rw [if_pos hc, if_pos hc]
    clear hc
    unfold DRel at h ⊢
    induction h with
    | nil => exact .nil
    | @cons a b as bs hab _ ih =>
      rw [List.map_cons, List.map_cons]
      refine .cons ?_ ih
      by_cases e : b.1 = k
      · have : a.1 = q.enc k := by rw [hab.1, e]
        rw [if_pos e, if_pos this]
        exact ⟨hab.1, hv⟩
      · have : ¬ a.1 = q.enc k := fun z => e (q.inj _ _ (by rw [← hab.1, z]))
        rw [if_neg e, if_neg this]
        exact hab
  · rw [if_neg hc, if_neg hc]
    exact Paired.app h (.cons ⟨rfl, hv⟩ .nil)
theorem drel_mono {F F' : Hp} (hF : Same F F') {vs : List (q.T × V)} {kvs : List (κ × β)} (h : DRel q p F vs kvs) : DRel q p F' vs kvs := Paired.mon (fun _ _ r => ⟨r.1, p.mono hF r.2⟩) h
/-- an owned dict -/
def oD (q : DQ κ) (p : VP β) : OP (List (κ × β)) where
  P := fun F H fp v kvs => ∃ d vs, v = .ref d ∧ fp = [d] ∧ H d = some (q.ho vs) ∧ DRel q p F vs kvs
  mono := fun hF hH h => let ⟨d, vs, e, ef, h1, h2⟩ := h; ⟨d, vs, e, ef, hH _ _ h1, drel_mono hF h2⟩
  mm := fun hF hH h => let ⟨d, vs, e, ef, h1, h2⟩ := h; ⟨d, vs, e, ef, by rw [hH d (by rw [ef]; exact List.mem_cons_self)]; exact h1, drel_mono hF h2⟩
/-- a dict that is looked at -/
def borD (q : DQ κ) (p : VP β) (kvs : List (κ × β)) : Slot where
  P := fun F H fp o => fp = [] ∧ ∃ d vs, o = some (.ref d) ∧ H d = some (q.ho vs) ∧ DRel q p F vs kvs
  mono := fun hF hH h => let ⟨ef, d, vs, e, h1, h2⟩ := h; ⟨ef, d, vs, e, hH _ _ h1, drel_mono hF h2⟩
  st := False
  mm := fun h => h.elim
/-- a frozen dict -/
def pD (q : DQ κ) (p : VP β) : VP (List (κ × β)) where
  R := fun F v kvs => ∃ d vs, v = .ref d ∧ F d = some (q.ho vs) ∧ DRel q p F vs kvs
  mono := fun hF h => let ⟨d, vs, e, h1, h2⟩ := h; ⟨d, vs, e, hF _ _ h1, drel_mono hF h2⟩
def DV (s : Slot) (q : DQ κ) (p : VP β) (kvs : List (κ × β)) : Prop := ∀ F H fp o, Same F H → s.P F H fp o → ∃ d vs, o = some (.ref d) ∧ H d = some (q.ho vs) ∧ DRel q p F vs kvs
theorem DV.own {kvs : List (κ × β)} : DV (Ty.own (oD q p) kvs) q p kvs := fun F H fp o _ h => let ⟨v, e, d, vs, ev, _, h1, h2⟩ := h; ⟨d, vs, by rw [e, ev], h1, h2⟩
theorem DV.bor {kvs : List (κ × β)} : DV (borD q p kvs) q p kvs := fun F H fp o _ h => let ⟨_, d, vs, e, h1, h2⟩ := h; ⟨d, vs, e, h1, h2⟩
theorem DV.val {kvs : List (κ × β)} : DV (Ty.val (pD q p) kvs) q p kvs := fun F H fp o hS h => let ⟨_, v, e, d, vs, ev, h1, h2⟩ := h; ⟨d, vs, by rw [e, ev], hS _ _ h1, h2⟩
theorem WkS.dict {kvs : List (κ × β)} : WkS (Ty.own (oD q p) kvs) (Ty.val (pD q p) kvs) := fun F H fp o _ h => by
  obtain ⟨v, e, l, vs, el, ef, h1, h2⟩ := h
  subst ef
  exact ⟨[l], [], rfl, fun F' hF hs hx => ⟨rfl, v, e, l, vs, el, by rw [hx l List.mem_cons_self]; exact h1, drel_mono hF h2⟩⟩
theorem x_varD {kvs : List (κ × β)} (j : Nat) (hs : Γ[j]? = some (Ty.own (oD q p) kvs) := by rfl) (hN : ∀ i, (Y.X i).N[j]? = some x := by intro _; rfl)
    (hv : ∀ i, Vis (Y.X i).env.scope x := by intro _; first | exact Or.inl rfl | exact Or.inr (Or.inl rfl) | exact Or.inr (Or.inr rfl)) (hd : (x == ("__debug__" : Str)) = false := by decide) (hcd : (x == ("__classdict__" : Str)) = false := by decide) : XV Y (.Name x pos) Γ (borD q p kvs) := by
  refine ⟨_, fun i => pe_var (hN i) (hv i) hd hcd, fun B F H os σ Q I q => ?_⟩
  obtain ⟨o, fp, e, v, ev, l, vs, el, _, h1, h2⟩ := I.slot hs
  subst ev; subst el
  exact ⟨_, e, q _ F H [] same_refl same_refl I.W ⟨rfl, l, vs, rfl, h1, h2⟩⟩
theorem x_fldD {kvs : List (κ × β)} (j : Nat) (he : XV Y e Γ s) (ho : OV s C ns Δ) (hA : At K C f) (hj : Δ[j]? = some (Ty.own (oD q p) kvs) := by rfl) (hn : ns[j]? = some f := by rfl) (nd : ns.Nodup := by decide +kernel) (hb : ∀ i, attributeBase e f (Y.X i).env (eval e (Y.X i).env) = eval e (Y.X i).env := by intro _; rfl) : XV Y (.Attribute e f pos) Γ (borD q p kvs) := by
  obtain ⟨t, pe, rd⟩ := he
  refine ⟨_, fun i => by have h := pe_fld (pos := pos) (pe i) (hb i); rw [Y.hK i] at h; exact h, fun B F H os σ Q I q => ?_⟩
  refine rd B F H os σ _ I fun v F1 H1 fp f1 e1 W1 p1 => ?_
  obtain ⟨x, dx, vs, o2, ev, h1, h2, h3⟩ := ho F1 H1 fp _ W1.sub p1
  cases ev
  obtain ⟨o, fp', r', e3, p3, _, _⟩ := h3.at hj
  obtain ⟨v', ev, l, ws, el, ef, g1, g2⟩ := p3
  subst ev
  have e4 : vs[j]? = some v' := by
    rw [List.getElem?_map] at e3
    obtain ⟨y, hy, ey⟩ := Option.map_eq_some_iff.mp e3
    cases ey; exact hy
  exact ⟨x, C, dx, _, v', rfl, h1, hA.cl, hA.no, zip_lookup nd h2 hn e4, q v' F1 H1 [] f1 e1 W1.drop ⟨rfl, l, ws, by rw [el], g1, g2⟩⟩
theorem Fa.u1 (Y : Fa P w K mg base k) (i : Y.I) : (Y.X i).A.units + 1 < cLine := by have := Y.hU i; omega
/-- d[k] -/
theorem x_dget {kvs : List (κ × β)} {z : κ} {u : β} (ha : XV Y ea Γ s) (hs : DV s q p kvs) (hb : XV Y eb Γ (val q.pk z)) (hz : dget kvs z = some u) (hx : NoSl eb := by exact fun _ _ => rfl) : XV Y (.Subscript ea eb pos) Γ (val p u) := by
  obtain ⟨ta, pa, ra⟩ := ha
  obtain ⟨tb, pb, rb⟩ := hb
  refine ⟨_, fun i => pe_dget (Y.u1 i) (pa i) (pb i) hx, fun B F H os σ Q I kk => ?_⟩
  refine two (Q := fun _ _ => True) I ra rb fun x y F2 H2 fx fy f2 e2 W2 p1 p2 => ?_
  obtain ⟨d, vs, ev, h1, h2⟩ := hs F2 H2 fx _ W2.sub p1
  cases ev
  obtain ⟨v, hv, rv⟩ := dget_some h2 hz
  have g := q.get W2.sub (val_P p2).2 h1
  rw [hv] at g
  exact ⟨d, v, rfl, g, kk v F2 H2 [] f2 e2 W2.drop.drop ⟨rfl, _, rfl, rv⟩⟩
theorem in_run {kvs : List (κ × β)} {z : κ} (hs : DV s q p kvs) {B : Bs} {F H : Hp} {fx fy os : List Addr} {xv yv : V} (W : Wo B F H (fy ++ (fx ++ os))) (p1 : (val q.pk z).P F H fx (some xv)) (p2 : s.P F H fy (some yv)) : ∃ d, yv = .ref d ∧ ∃ o, DGet H d xv o ∧ o.isSome = (dget kvs z).isSome := by
  obtain ⟨d, vs, ev, h1, h2⟩ := hs F H fy _ W.sub p2
  cases ev
  exact ⟨d, rfl, _, q.get W.sub (val_P p1).2 h1, dget_isSome h2 z⟩
theorem xt_din {kvs : List (κ × β)} {z : κ} {t : Bool} (ha : XV Y ea Γ (val q.pk z)) (hb : XV Y eb Γ s) (hs : DV s q p kvs) (ht : t = (dget kvs z).isSome) (hm : behindInMarks .In eb = false := by with_unfolding_all rfl) : XT Y (.Compare ea [.In] [eb] pos) Γ t := by
  obtain ⟨ta, pa, ra⟩ := ha
  obtain ⟨tb, pb, rb⟩ := hb
  refine ⟨_, fun i => pt_cmp (pc_din (Y.u1 i) (pa i) (pb i)) hm, fun B F H os σ Q I kk => ?_⟩
  refine two (Q := fun _ _ => True) I ra rb fun x y F2 H2 fx fy f2 e2 W2 p1 p2 => ?_
  obtain ⟨d, rfl, o, g, eo⟩ := in_run hs W2 p1 p2
  refine ⟨d, o, rfl, g, _, rfl, ?_⟩
  rw [eo, ← ht]
  exact kk F2 H2 f2 e2 W2.drop.drop
theorem xt_dnin {kvs : List (κ × β)} {z : κ} {t : Bool} (ha : XV Y ea Γ (val q.pk z)) (hb : XV Y eb Γ s) (hs : DV s q p kvs) (ht : t = !(dget kvs z).isSome) (hm : behindInMarks .NotIn eb = false := by with_unfolding_all rfl) : XT Y (.Compare ea [.NotIn] [eb] pos) Γ t := by
  obtain ⟨ta, pa, ra⟩ := ha
  obtain ⟨tb, pb, rb⟩ := hb
  refine ⟨_, fun i => pt_cmp (pc_dnotin (Y.u1 i) (pa i) (pb i)) hm, fun B F H os σ Q I kk => ?_⟩
  refine two (Q := fun _ _ => True) I ra rb fun x y F2 H2 fx fy f2 e2 W2 p1 p2 => ?_
  obtain ⟨d, rfl, o, g, eo⟩ := in_run hs W2 p1 p2
  refine ⟨d, o, rfl, g, _, rfl, ?_⟩
  rw [eo, ← ht]
  exact kk F2 H2 f2 e2 W2.drop.drop
/-- d[k] = v -/
theorem go_dput {up : Slot → List Slot} {pos' : Pos} {kvs : List (κ × β)} {z : κ} {u : β} (ho : PL Y eo Γ (Ty.own (oD q p) kvs) up) (hi : XV Y eb Γ (val q.pk z)) (he : XV Y e Γ (val p u)) (hz : kvs.length < sizeLine) (hg : Go Y i rest D B (up (Ty.own (oD q p) (dput kvs z u))))
    (hs : swapsWith e (some (.Subscript eo eb pos')) pos.line (Y.X i).env = pure false := by rfl) : Go Y i (.Assign [.Subscript eo eb pos'] e pos :: rest) D B Γ := by
  obtain ⟨t, Pv, pe, pst, rd, up'⟩ := ho
  obtain ⟨t2, pe2, rd2⟩ := he
  obtain ⟨t3, pe3, rd3⟩ := hi
  refine go_ps (ps_dput (Y.u1 i) (pe i) (pe3 i) (pe2 i) hs) fun F H σ ⟨os, W, S⟩ => ?_
  refine rd2 B F H os σ _ (Sta.in W S) fun y F1 H1 fy f1 e1 W1 p1 => ?_
  have I1 := (Sta.in W S).step f1 e1 W1
  refine rd B F1 H1 _ σ _ I1 fun v hv => ?_
  refine rd3 B F1 H1 _ σ _ I1 fun y2 F2 H2 fy2 f2 e2 W2 p2 => ?_
  have ry := (val_P ((val p u).mono f2 e2 p1)).2
  obtain ⟨fp1, r1, hr1, hp1, kk1⟩ := up' F2 H2 os σ _ (S.mono (f1.trans f2) (e1.trans e2)) (pst _ _ _ _ e2 hv)
  obtain ⟨v1, ev1, l1, vs1, el1, ef1, g1, g2⟩ := hp1
  cases ev1; subst el1; subst ef1
  refine ⟨l1, _, rfl, q.put W2.sub (val_P p2).2 g1 (by rw [Paired.length g2]; exact hz), ?_⟩
  exact hg F2 _ σ (pl_write (fy := fy2 ++ fy) (by rw [List.append_assoc]; exact W2) hr1 ⟨_, rfl, l1, _, rfl, rfl, upd_same, drel_put g2 z ry⟩ kk1)
end
/-- {} -/
theorem x_dnewK {κ β : Type} [DecidableEq κ] {q : DQ κ} {p : VP β} (h0 : q.ho [] = .dK []) : XV Y (.Dict [] [] pos) Γ (own (oD q p) ([] : List (κ × β))) :=
  ⟨_, fun i => pe_dnewK, fun B F H os σ Q I kk l hl => kk _ F _ [l] same_refl (same_upd hl) (I.W.newO hl) ⟨_, rfl, l, [], rfl, rfl, by rw [h0]; exact upd_same, .nil⟩⟩
theorem x_dnewT {κ β : Type} [DecidableEq κ] {q : DQ κ} {p : VP β} (h0 : q.ho [] = .dT []) : XV Y (.Dict [] [] pos) Γ (own (oD q p) ([] : List (κ × β))) :=
  ⟨_, fun i => pe_dnewT, fun B F H os σ Q I kk l hl => kk _ F _ [l] same_refl (same_upd hl) (I.W.newO hl) ⟨_, rfl, l, [], rfl, rfl, by rw [h0]; exact upd_same, .nil⟩⟩
/-- {k: v}, the key a tuple -/
def tDisp1T (tk tv : TE) : TE := fun σ H Q => ∀ p, H p = none → tk σ (upd H p (.dT [])) fun x H1 => tv σ H1 fun y H2 => ∃ b ks, x = .ref b ∧ H2 p = some (.dT []) ∧ H2 b = some (.tup (ks.map kV)) ∧ Q (.ref p) (upd H2 p (.dT [(ks, y)]))
/-! ### None -/
theorem o_isN {α : Type} {q : VP α} {u : α} {z : Bool} (hz : ∀ F v, q.R F v u → decide (v = .non) = z) : Op2 (fun x y H Q => y = .non ∧ Q (.bl (decide (x = .non))) H) (val q u) vNon (vBl z) := fun B F H x y fx fy os Q W p1 p2 kk => by
  obtain ⟨_, r1⟩ := val_P p1
  obtain ⟨_, r2⟩ := val_P p2
  exact ⟨r2, by rw [hz F x r1]; exact kk _ F H [] same_refl same_refl W.drop.drop ⟨rfl, _, rfl, rfl⟩⟩
theorem o_notN {α : Type} {q : VP α} {u : α} {z : Bool} (hz : ∀ F v, q.R F v u → (!decide (v = .non)) = z) : Op2 (fun x y H Q => y = .non ∧ Q (.bl (!decide (x = .non))) H) (val q u) vNon (vBl z) := fun B F H x y fx fy os Q W p1 p2 kk => by
  obtain ⟨_, r1⟩ := val_P p1
  obtain ⟨_, r2⟩ := val_P p2
  exact ⟨r2, by rw [hz F x r1]; exact kk _ F H [] same_refl same_refl W.drop.drop ⟨rfl, _, rfl, rfl⟩⟩
theorem opt_isN {α : Type} {q : VP α} {u : Option α} : ∀ F v, (pOpt q).R F v u → decide (v = .non) = u.isNone := fun F v h => by
  cases u with
  | none => cases h; rfl
  | some a => simp [h.2]
theorem opt_notN {α : Type} {q : VP α} {u : Option α} : ∀ F v, (pOpt q).R F v u → (!decide (v = .non)) = u.isSome := fun F v h => by
  rw [opt_isN F v h]; cases u <;> rfl
theorem opt_get {α : Type} {q : VP α} {u : Option α} {z : α} (hz : u = some z) (h : XV Y e Γ (val (pOpt q) u)) : XV Y e Γ (val q z) := h.as fun F H fp o _ ⟨e1, v, e2, r⟩ => by subst hz; exact ⟨e1, v, e2, r.1⟩

/-! ### isinstance(e, T) -/
def pTy : VP String := ⟨fun _ v t => v = .ty t, fun _ h => h⟩
/-- a value's type -/
def TyV (K : PySem.W.Frag) (s : Slot) (T : String) : Prop := ∀ F H fp o, Same F H → s.P F H fp o → ∃ v, o = some v ∧ TyX K H v (.type T)
theorem LV.ty {α : Type} {s : Slot} {p : VP α} {xs : List α} (h : LV s p xs) : TyV K s "list" := fun F H fp o hS hp => let ⟨l, vs, e, h1, _⟩ := h F H fp o hS hp; ⟨_, e, .base (.lst h1)⟩
theorem TV.ty {α : Type} {s : Slot} {p : VP α} {xs : List α} (h : TV s p xs) : TyV K s "tuple" := fun F H fp o hS hp => let ⟨l, vs, e, h1, _⟩ := h F H fp o hS hp; ⟨_, e, .base (.tup h1)⟩
theorem TyV.int {i : Int} : TyV K (vInt i) "int" := fun F H fp o hS hp => let ⟨_, v, e, r⟩ := hp; ⟨v, e, by cases r; exact .base (.int i)⟩
theorem TyV.bl {i : Bool} : TyV K (vBl i) "bool" := fun F H fp o hS hp => let ⟨_, v, e, r⟩ := hp; ⟨v, e, by cases r; exact .base (.bl i)⟩
theorem TyV.str {i : Str} : TyV K (vStr i) "str" := fun F H fp o hS hp => let ⟨_, v, e, r⟩ := hp; ⟨v, e, by cases r; exact .base (.str i)⟩
theorem TyV.non : TyV K vNon "NoneType" := fun F H fp o hS hp => let ⟨_, v, e, r⟩ := hp; ⟨v, e, by cases r; exact .base .non⟩
theorem c_isi (Y : Fa P w K mg base k) (i : Y.I) : CallR (Y.X i) (.builtin "isinstance") (rIsi K) := by have h := call_isi (X := Y.X i); rw [Y.hK i] at h; exact h
/-! ### reversed(list) -/
/-! ### methods of frozen instances -/
theorem x_meth {ι ρ α : Type} {As : ι → List Slot} {m : ι → Option ρ} {Sr : ρ → Slot} {args : List Slot} {z : ι} {q : ρ} {j : Nat} {g : Addr} {fd : FuncData} {ps : List Str} {sl : α → List Slot} {u : α} {apos : Pos} {pl : Y.I → Sem Bool}
    (Fn : FnOk P w K mg base CX0 j g fd ps (spP As m Sr)) (hj : j ≤ k) (hc : Cls K C) (hm : Meth K C f g) (hb : Binds K fd ps []) (ho : XV Y eo Γ (val (pObj C ns sl) u)) (ha : XA Y (e :: es) Γ args) (hargs : val (pObj C ns sl) u :: args = As z) (hno : NoOwn args) (hq : m z = some q) (hns : ns.contains f = false := by decide +kernel)
    (hst : ∀ i, starEach (e :: es) (Y.X i).env = (false, eval e (Y.X i).env) :: starEach es (Y.X i).env := by intro _; rfl) (hpl : ∀ i, (backTo pos (starEach es (Y.X i).env)).any (·.1) = false := by intro _; rfl)
    (ht : ∀ i, eval (.Call (.Attribute eo f apos) (e :: es) [] pos) (Y.X i).env = (do
      let ov ← eval eo (Y.X i).env
      standAt apos.atName
      let (f, first) ← holding [ov] (getMethod ov f (pl i))
      callWith pos f first (backTo pos (starEach (e :: es) (Y.X i).env)) (backToKw pos (keywordEach [] (Y.X i).env))) := by intro _; rfl) (hcm : Y.cm = true := by rfl) : XV Y (.Call (.Attribute eo f apos) (e :: es) [] pos) Γ (Sr q) := by
  obtain ⟨to, po, ro⟩ := ho
  obtain ⟨t, pa, rd⟩ := ha
  have FF : ∀ i, FnOk (Y.X i).prog (Y.X i).w (Y.X i).K (Y.X i).mg (Y.X i).base CX0 j g fd ps (spP As m Sr) := fun i => by rw [Y.hP i, Y.hw i, Y.hK i, Y.hM i, Y.hB i]; exact Fn
  refine ⟨_, fun i => pe_meth (pl := pl i) (po i) (by rw [Y.hK i]; exact hc) (by rw [Y.hK i]; exact hm) (FF i) ((Y.hR hcm i).mono hj) (by rw [Y.hK i]; exact hb) .nil pass0 (pa i) (hst i) (hpl i) (ht i), fun B F H os σ Q I kk => ?_⟩
  refine ro B F H os σ _ I fun v0 F1 H1 fp f1 e1 W1 p1 => ?_
  obtain ⟨rfl, x, dx, vs, rfl, h1, h3, h4⟩ := val_P p1
  refine ⟨x, dx, _, rfl, W1.sub _ _ h1, lookup_no hns, ?_⟩
  have W1' : Wo B F1 H1 os := W1
  refine rd B F1 H1 os σ _ (I.step0 f1 e1 W1') fun ws F2 H2 fp f2 e2 W2 S2 => ?_
  obtain rfl := hno.nil S2
  rw [List.append_nil]
  have W2' : Wo B F2 H2 os := W2
  refine ⟨z, q, F2, hq, W2'.sub, ?_, fun v F3 H3 fp W3 p3 => ?_⟩
  · rw [← hargs]
    exact Slots.cons (fp := []) ((val (pObj C ns sl) u).mono f2 e2 p1) S2
  · obtain ⟨f3, e3, W4⟩ := W2'.called W3
    exact kk v F3 H3 fp ((f1.trans f2).trans f3) ((e1.trans e2).trans e3) W4 p3
end
end Ty

/-! Ty9 -/
namespace Ty
open PySem PySem.Spec L2
open PyProof.Rows (envOfC)
section
variable {P : Program} {w : World} {K : PySem.W.Frag} {mg : Str → Option Value} {base : Heap} {k : Nat}
variable {Y : Fa P w K mg base k} {i : Y.I} {e ea eb eo ev tg iter elt : Expr} {es ifs : List Expr} {rest body : List Stmt} {Γ Γ' Γ1 Γ2 Δ Δ' : List Slot} {a b c r s s' : Slot} {pos : Pos} {B : Bs} {D : Ends} {x f : Str} {p' : Pos} {scope : Scope}
/-! ### small helpers of mirrors -/
def guardO {α : Type} (c : Prop) [Decidable c] (x : Option α) : Option α := if c then x else none
theorem guardO_some {α : Type} {c : Prop} [Decidable c] {x : Option α} {y : α} (h : guardO c x = some y) : c ∧ x = some y := by
  unfold guardO at h
  by_cases hc : c
  · rw [if_pos hc] at h; exact ⟨hc, h⟩
  · rw [if_neg hc] at h; cases h
def lcO {α β : Type} (xs : List α) (f : α → Option (Option β)) : Option (List β) := guardO (xs.length ≤ sizeLine) (fmO xs f)
def rangeO (lo hi : Int) : Option (List Int) := guardO (-(2 ^ 62) ≤ lo ∧ lo < 2 ^ 62 ∧ -(2 ^ 62) ≤ hi ∧ hi < 2 ^ 62) (some (rangeL lo hi))
/-! ### lists of owned things -/
def lstS (Γs : List Slot) : Slot where
  P := fun F H fp o => ∃ l vs os, o = some (.ref l) ∧ fp = l :: os ∧ H l = some (.lst vs) ∧ Slots F H os (vs.map some) Γs
  mono := fun hF hH h => let ⟨l, vs, os, e1, e2, h1, h2⟩ := h; ⟨l, vs, os, e1, e2, hH _ _ h1, h2.mono hF hH⟩
  st := Stb Γs
  mm := fun hs {_ _ _ _ _ _} hF hH h => let ⟨l, vs, os, e1, e2, h1, h2⟩ := h
    ⟨l, vs, os, e1, e2, by rw [hH l (by rw [e2]; simp)]; exact h1, h2.mm hF hs fun q hq => hH q (by rw [e2]; simp [hq])⟩
theorem lstS_some : ∀ F H fp o, (lstS Δ).P F H fp o → ∃ v, o = some v := fun F H fp o h => let ⟨_, _, _, e, _⟩ := h; ⟨_, e⟩
theorem slots_paired {F H : Hp} {α : Type} {q : VP α} : ∀ {vs : List V} {xs : List α} {os : List Addr}, Slots F H os (vs.map some) (xs.map (Ty.val q)) → os = [] ∧ Paired (q.R F) vs xs
  | [], [], _, S => by cases S; exact ⟨rfl, .nil⟩
  | [], _ :: _, _, S => by have e := S.length; simp at e
  | _ :: _, [], _, S => by have e := S.length; simp at e
  | v :: vs, x :: xs, _, S => by
    rw [List.map_cons, List.map_cons] at S
    obtain ⟨f1, f2, rfl, p, S2⟩ := Slots.cons_inv S
    obtain ⟨rfl, r⟩ := val_P p
    obtain ⟨rfl, t⟩ := slots_paired S2
    exact ⟨rfl, .cons r t⟩
theorem wkL_map {α : Type} {g : α → Slot} {q : VP α} (h : ∀ x, WkS (g x) (Ty.val q x)) : ∀ xs : List α, WkL (xs.map g) (xs.map (Ty.val q))
  | [] => .nil
  | x :: xs => .cons (h x) (wkL_map h xs)
theorem WkS.lstS {α : Type} {g : α → Slot} {q : VP α} {xs : List α} (h : ∀ x, WkS (g x) (Ty.val q x)) : WkS (Ty.lstS (xs.map g)) (Ty.val (pL q) xs) := fun F H fp o hS hp => by
  obtain ⟨l, vs, os, e1, e2, h1, h2⟩ := hp
  obtain ⟨xx, yy, hperm, kk⟩ := h2.wk hS (wkL_map h xs)
  obtain ⟨rfl, _⟩ := slots_paired (kk H hS same_refl fun _ _ => rfl)
  subst e2
  refine ⟨l :: os, [], by simp, fun F' hF hs hx => ⟨rfl, _, e1, l, vs, rfl, by rw [hx l (by simp)]; exact h1, (slots_paired (kk F' hF hs fun q hq => hx q ?_)).2⟩⟩
  have := hperm.mem_iff.mpr (by simpa using hq)
  simp [this]
/-- read as data of the whole heap -/
theorem paired_bor {F H : Hp} (hS : Same F H) {α : Type} {g : α → Slot} {q : VP α} (h : ∀ x, Vw (g x) q x) : ∀ {vs : List V} {xs : List α} {os : List Addr}, Slots F H os (vs.map some) (xs.map g) → Paired (q.R H) vs xs
  | [], [], _, _ => .nil
  | [], _ :: _, _, S => by have e := S.length; simp at e
  | _ :: _, [], _, S => by have e := S.length; simp at e
  | v :: vs, x :: xs, _, S => by
    rw [List.map_cons, List.map_cons] at S
    obtain ⟨f1, f2, rfl, p, S2⟩ := Slots.cons_inv S
    obtain ⟨v', ev, rv⟩ := h x F H f1 _ hS p
    cases ev
    exact .cons rv (paired_bor hS h S2)
/-- a name, whatever it owns, looked at as data -/
theorem x_look {α : Type} {q : VP α} {u : α} (j : Nat) (hw : Vw s q u) (hs : Γ[j]? = some s := by rfl) (hN : ∀ i, (Y.X i).N[j]? = some x := by intro _; rfl)
    (hv : ∀ i, Vis (Y.X i).env.scope x := by intro _; first | exact Or.inl rfl | exact Or.inr (Or.inl rfl) | exact Or.inr (Or.inr rfl)) (hd : (x == ("__debug__" : Str)) = false := by decide) (hcd : (x == ("__classdict__" : Str)) = false := by decide) : XV Y (.Name x pos) Γ (bor q u) := by
  refine ⟨_, fun i => pe_var (hN i) (hv i) hd hcd, fun B F H os σ Q I kk => ?_⟩
  obtain ⟨o, fp, e, hp⟩ := I.slot hs
  obtain ⟨v, rfl, rv⟩ := hw F H fp _ I.W.sub hp
  exact ⟨_, e, kk _ F H [] same_refl same_refl I.W ⟨rfl, v, rfl, rv⟩⟩
theorem Vw.lstS {α : Type} {g : α → Slot} {q : VP α} {xs : List α} (h : ∀ x, Vw (g x) q x) : Vw (Ty.lstS (xs.map g)) (pL q) xs := fun F H fp o hS hp => by
  obtain ⟨l, vs, os, e1, e2, h1, h2⟩ := hp
  exact ⟨_, e1, l, vs, rfl, h1, paired_bor hS h h2⟩
theorem LV.look {α : Type} {s : Slot} {p : VP α} {xs : List α} (h : LV s p xs) : Vw s (pL p) xs := h.vw
/-- an item of what is looked at -/
theorem x_ixB {α : Type} {p : VP α} {xs : List α} {z : Int} {u : α} (ha : XV Y ea Γ (bor (pL p) xs)) (hb : XV Y eb Γ (vInt z)) (hz : atI xs z = some u) (hx : PlainIx eb := by exact fun _ _ => rfl) : XV Y (.Subscript ea eb pos) Γ (bor p u) := by
  obtain ⟨ta, pa, ra⟩ := ha
  obtain ⟨tb, pb, rb⟩ := hb
  refine ⟨_, fun i => by have h := ix_list (X := Y.X i); rw [Y.hK i] at h; exact pe_ix h (pa i) (pb i) hx, fun B F H os σ Q I q => ?_⟩
  refine two (Q := fun _ _ => True) I ra rb fun x y F2 H2 fx fy f2 e2 W2 p1 p2 => ?_
  obtain rfl := vint p2
  obtain ⟨_, v, ev, l, vs, rfl, h1, h2⟩ := p1
  cases ev
  obtain ⟨v, hv, rv⟩ := paired_atI h2 hz
  exact ⟨l, vs, z, v, rfl, rfl, SqL.of h1, hv, q v F2 H2 [] f2 e2 W2.drop.drop ⟨rfl, _, rfl, rv⟩⟩
theorem XV.flat {α : Type} {p : VP α} {u : α} (h : XV Y e Γ (bor p u)) (hf : Flat p) : XV Y e Γ (val p u) := h.as fun F H fp o _ ⟨e1, v, e2, r⟩ => ⟨e1, v, e2, hf _ _ _ _ r⟩
/-- len of what is looked at -/
theorem SV.bor {α : Type} {p : VP α} {xs : List α} (hf : Flat p) : SV K (Ty.bor (pL p) xs) p xs := fun F H fp o hS h => let ⟨_, v, e, l, vs, ev, h1, h2⟩ := h; ⟨l, vs, by rw [e, ev], SqL.of h1, Paired.mon (fun _ _ r => hf _ _ _ _ r) h2⟩
/-- an int of which the heap takes no notice -/
def XS (Y : Fa P w K mg base k) (e : Expr) (Γ : List Slot) (z : Int) : Prop :=
  ∃ t : TE, (∀ i, PE (Y.X i) e t) ∧ ∀ (B : Bs) (F H : Hp) (os : List Addr) (σ : List (Option V)) (Q : VK), In B F H os σ Γ → Q (.int z) H → t σ H Q
theorem xs_int {z : Int} {j : Nat} : XS Y (.Constant (.int z) j pos) Γ z := ⟨_, fun _ => pe_int, fun _ F H os σ Q I q => q⟩
theorem xs_var {z : Int} (j : Nat) (hs : Γ[j]? = some (vInt z) := by rfl) (hN : ∀ i, (Y.X i).N[j]? = some x := by intro _; rfl)
    (hv : ∀ i, Vis (Y.X i).env.scope x := by intro _; first | exact Or.inl rfl | exact Or.inr (Or.inl rfl) | exact Or.inr (Or.inr rfl)) (hd : (x == ("__debug__" : Str)) = false := by decide) (hcd : (x == ("__classdict__" : Str)) = false := by decide) : XS Y (.Name x pos) Γ z := by
  refine ⟨_, fun i => pe_var (hN i) (hv i) hd hcd, fun B F H os σ Q I q => ?_⟩
  obtain ⟨o, fp, e, _, v, ev, rv⟩ := I.slot hs
  subst ev
  cases rv
  exact ⟨_, e, q⟩
/-- an item of an owned list, itself owned -/
theorem pl_ix {up : Slot → List Slot} {z : Int} {j : Nat} (ho : PL Y eo Γ (lstS Δ) up) (hi : XS Y eb Γ z) (hz : ixN Δ.length z = some j) (hst : Stb Δ) (hj : Δ[j]? = some s) (hso : ∀ F H fp o, s.P F H fp o → ∃ v, o = some v) (hx : PlainIx eb := by exact fun _ _ => rfl) :
    PL Y (.Subscript eo eb pos) Γ s (fun s' => up (lstS (Δ.set j s'))) := by
  obtain ⟨t, Pv, pe, pst, rd, up'⟩ := ho
  obtain ⟨tb, pb, rb⟩ := hi
  refine ⟨_, fun σ H v => ∃ l vs, Pv σ H (.ref l) ∧ H l = some (.lst vs) ∧ vs[j]? = some v, fun i => by have h := ix_list (X := Y.X i); rw [Y.hK i] at h; exact pe_ix h (pe i) (pb i) hx,
    fun σ H H' v hH h => let ⟨l, vs, h1, h2, h3⟩ := h; ⟨l, vs, pst _ _ _ _ hH h1, hH _ _ h2, h3⟩, fun B F H os σ Q I q => ?_, fun F H os σ v S hv => ?_⟩
  · refine rd B F H os σ _ I fun v hv => ?_
    refine rb B F H os σ _ I ?_
    obtain ⟨_, o2, r, hp, S⟩ := I
    obtain ⟨fp, r2, hr2, hp2, _⟩ := up' F H o2 σ v S hv
    obtain ⟨l, vs, o3, e1, e2, g1, g4⟩ := hp2
    cases e1
    obtain ⟨o, fp', r', e3, p3, _, _⟩ := g4.at hj
    obtain ⟨v', rfl⟩ := hso _ _ _ _ p3
    have e4 : vs[j]? = some v' := by
      rw [List.getElem?_map] at e3
      obtain ⟨y, hy, ey⟩ := Option.map_eq_some_iff.mp e3
      cases ey; exact hy
    have hlen : vs.length = Δ.length := by have := g4.length; simpa using this
    refine ⟨l, vs, z, v', rfl, rfl, SqL.of g1, ?_, q v' ⟨l, vs, hv, g1, e4⟩⟩
    unfold atI
    rw [hlen, hz]
    exact e4
  · obtain ⟨l, vs, hv1, h1, h3⟩ := hv
    obtain ⟨fp, r2, hr2, hp2, kk⟩ := up' F H os σ _ S hv1
    obtain ⟨l', vs', o3, e1, e2, g1, g4⟩ := hp2
    cases e1
    rw [h1] at g1
    have ev : vs = vs' := by
      have := Option.some.inj g1
      injection this
    subst ev
    obtain ⟨o, fp', r', e3, p3, q3, k3⟩ := g4.at hj
    have eo' : o = some v := by
      rw [List.getElem?_map, h3] at e3
      exact (Option.some.inj e3).symm
    subst eo'
    subst e2
    refine ⟨fp', (l :: r') ++ r2, ?_, p3, fun F' H' fp2 s' hF hk hs' => ?_⟩
    · refine hr2.trans ?_
      have a1 : (l :: o3).Perm (fp' ++ (l :: r')) := (q3.cons l).trans List.perm_middle.symm
      have a4 := List.Perm.append_right r2 a1
      rw [List.append_assoc] at a4
      exact a4
    · obtain ⟨os', t1, t2⟩ := k3 hs' (fun s0 h0 fp0 o0 hf hp => s0.mm (hst s0 h0) hF (fun q hq => hk q (by simp [hf q hq])) hp)
      have es : (vs.map some).set j (some v) = vs.map some := by
        obtain ⟨hj', e⟩ := List.getElem?_eq_some_iff.mp e3
        rw [← e]; exact List.set_getElem_self hj'
      rw [es] at t1
      obtain ⟨os2, u1, u2⟩ := kk F' H' (l :: os') (lstS (Δ.set j s')) hF (fun q hq => hk q (by simp [hq])) ⟨l, vs, os', rfl, rfl, by rw [hk l (by simp)]; exact h1, t1⟩
      refine ⟨os2, u1, u2.trans ?_⟩
      have a1 : (l :: os').Perm (l :: (fp2 ++ r')) := t2.cons l
      have a2 : (fp2 ++ (l :: r')).Perm (l :: (fp2 ++ r')) := List.perm_middle
      have a5 := List.Perm.append_right r2 (a1.trans a2.symm)
      rw [List.append_assoc] at a5
      exact a5
theorem lcS_run {α β : Type} {xs : List α} {rs : α → Slot} {g : β → Slot} {f : α → Option (Option β)} {ys : List β} {own : List (Str × Nat)} (hz : xs.length ≤ sizeLine) (hf : fmO xs f = some ys) (hd0 : DeadAt Γ (own.map (·.2))) (hst : ∀ y, (g y).st)
    (hb : ∀ x o, x ∈ xs → f x = some o → ∃ ws Γ1, (ws.all fun j => (own.map (·.2)).contains j) = true ∧ XG (Y.blk scope) tg ws (rs x) Γ Γ1 ∧ XTs (Y.blk scope) ifs Γ1 o.isSome ∧ ∀ y, o = some y → XV (Y.blk scope) elt Γ1 (g y))
    {wi : TI} (hw : ∀ (B : Bs) (F H : Hp) (os : List Addr) (σ : List (Option V)) (R : It → Hp → Prop), In B F H os σ Γ → (∀ J F' H', Same F F' → Same H H' → Wo B F' H' os → Wk True J F' H' (xs.map rs) → R J H') → wi σ H R)
    {F H : Hp} {os : List Addr} {σ : List (Option V)} {Q : VK} (I : In B F H os σ Γ) (kk : ∀ v F' H' fp, Same F F' → Same H H' → Wo B F' H' (fp ++ os) → (lstS (ys.map g)).P F' H' fp (some v) → Q v H') :
    tLc wi (cG (Y.blk scope) tg) (cTs (Y.blk scope) ifs) (cE (Y.blk scope) elt) (own.map (·.2)) σ H Q := by
  have hd := hd0.get
  refine hw B F H os σ _ I fun J F1 H1 f1 e1 W1 wk Dl hD => ?_
  obtain ⟨_, o2, r0, hperm, S0⟩ := I
  have S1 : Slots F1 H1 o2 (wipe σ (own.map (·.2))) Γ := (S0.mono f1 e1).ext (wipe_length _ _) fun j s hs => by
    by_cases hj : j ∈ own.map (·.2)
    · left
      have := hd j hj
      rw [hs] at this; exact Option.some.inj this
    · right
      rw [wipe_get, if_neg (fun z => hj z.1)]
  refine ⟨fun n m H' => n ≤ xs.length ∧ m = xs.length - n ∧ ∃ (F' : Hp) (vs : List V) (oe : List Addr) (acc rr : List β), Wo B F' H' (Dl :: (oe ++ os)) ∧ Same F1 F' ∧ Same H1 H' ∧ H' Dl = some (.lst vs) ∧ Slots F' H' oe (vs.map some) (acc.map g) ∧ acc.length ≤ n ∧ fmO (xs.drop n) f = some rr ∧ ys = acc ++ rr,
    ⟨xs.length - 0, Nat.zero_le _, rfl, F1, [], [], [], ys, W1.newO hD, same_refl, same_upd hD, upd_same, .nil, Nat.zero_le _, by simpa using hf, rfl⟩, ?_⟩
  rintro n m H' ⟨hn, rfl, F', vs, oe, acc, rr, W', fF, fH, hDl, hp, hacc, hrr, hys⟩
  obtain ⟨w1, w2⟩ := wk F' H' fF (fun _ => fH) W'.sub
  by_cases hlt : n < xs.length
  · have hx : xs[n]? = some xs[n] := List.getElem?_eq_getElem hlt
    have hdrop : xs.drop n = xs[n] :: xs.drop (n + 1) := List.drop_eq_getElem_cons hlt
    rw [hdrop] at hrr
    unfold fmO at hrr
    obtain ⟨o, ho, hrr⟩ := Option.bind_eq_some_iff.mp hrr
    obtain ⟨r2, hr2, hrr⟩ := Option.bind_eq_some_iff.mp hrr
    obtain ⟨g1, g2⟩ := w2 n (rs xs[n]) (by rw [List.getElem?_map, hx]; rfl)
    refine .inr ⟨g1, fun H'' => n + 1 ≤ xs.length ∧ ∃ (F' : Hp) (vs : List V) (oe : List Addr) (acc rr : List β), Wo B F' H'' (Dl :: (oe ++ os)) ∧ Same F1 F' ∧ Same H1 H'' ∧ H'' Dl = some (.lst vs) ∧ Slots F' H'' oe (vs.map some) (acc.map g) ∧ acc.length ≤ n + 1 ∧ fmO (xs.drop (n + 1)) f = some rr ∧ ys = acc ++ rr, ?_, ?_⟩
    · rintro H'' ⟨hn', rest⟩
      exact ⟨xs.length - (n + 1), by omega, hn', rfl, rest⟩
    · intro v H2 y
      obtain ⟨e2, push⟩ := g2 v H2 y
      obtain ⟨F2, f2, W2, p2⟩ := push B _ W'
      obtain ⟨ws, Γ1, hws0, ⟨_, gg, pg, qg⟩, ⟨tt, ptt, rtt⟩, hel⟩ := hb xs[n] o (List.getElem_mem hlt) ho
      have hws : ∀ j ∈ ws, j ∈ own.map (·.2) := fun j hj => List.contains_iff_mem.mp (List.all_eq_true.mp hws0 j hj)
      intro j pins sh u Iv rv
      refine (pg j).run pins sh _ H2 v u _ Iv rv (qg F2 H2 [] o2 _ v _ W2.sub p2 (S1.mono (fF.trans f2) (fH.trans e2)) fun σ' os' d ⟨l', k'⟩ pp S' => ⟨wipe_eq hws l' k', ?_⟩)
      have I2 : In B F2 H2 (Dl :: (oe ++ os)) σ' Γ1 := ⟨W2, os', Dl :: (oe ++ (d ++ r0)), by
        have a1 : os.Perm ((d ++ os') ++ r0) := hperm.trans (List.Perm.append_right r0 (by simpa using pp))
        have a2 : ((d ++ os') ++ r0).Perm (os' ++ (d ++ r0)) := by rw [← List.append_assoc]; exact List.Perm.append_right r0 List.perm_append_comm
        have a3 : (oe ++ os).Perm (os' ++ (oe ++ (d ++ r0))) := (List.Perm.append_left oe (a1.trans a2)).trans (by
          rw [← List.append_assoc oe os', ← List.append_assoc os' oe]
          exact List.Perm.append_right (d ++ r0) List.perm_append_comm)
        exact (a3.cons Dl).trans List.perm_middle.symm, S'⟩
      intro j2 pins2 s2 Iv2
      refine (ptt j2).run pins2 s2 σ' H2 _ Iv2 (rtt B F2 H2 _ σ' _ I2 fun F3 H3 f3 e3 W3 => ?_)
      cases o with
      | none =>
        show n + 1 ≤ xs.length ∧ _
        refine ⟨hlt, F3, vs, oe, acc, r2, W3, (fF.trans f2).trans f3, (fH.trans e2).trans e3, e3 _ _ (e2 _ _ hDl), hp.mono (f2.trans f3) (e2.trans e3), by omega, hr2, ?_⟩
        have : r2 = rr := by simpa using hrr
        rw [hys, this]
      | some yv =>
        show cE (Y.blk scope) elt σ' H3 _
        obtain ⟨te, pte, rte⟩ := hel yv rfl
        intro j3 pins3 s3 Iv3
        refine (pte j3).run pins3 s3 σ' H3 _ Iv3 (rte B F3 H3 _ σ' _ (I2.step0 f3 e3 W3) fun yy F4 H4 fp4 f4 e4 W4 p4 => ?_)
        have hD4 : H4 Dl = some (.lst vs) := e4 _ _ (e3 _ _ (e2 _ _ hDl))
        have hlen : vs.length = acc.length := by have := hp.length; simpa using this
        have W5 : Wo B F4 H4 (Dl :: ((oe ++ fp4) ++ os)) := W4.perm (by
          have a1 : (fp4 ++ (Dl :: (oe ++ os))).Perm (Dl :: (fp4 ++ (oe ++ os))) := List.perm_middle
          refine a1.trans (List.Perm.cons Dl ?_)
          rw [← List.append_assoc]
          exact List.Perm.append_right os List.perm_append_comm)
        have nd5 := List.nodup_cons.mp W5.nd
        have hne : ∀ q ∈ oe ++ fp4, q ≠ Dl := fun q hq e => nd5.1 (by subst e; exact List.mem_append_left _ hq)
        have S4 : Slots F4 (upd H4 Dl (.lst (vs ++ [yy]))) oe (vs.map some) (acc.map g) := (hp.mono ((f2.trans f3).trans f4) ((e2.trans e3).trans e4)).mm same_refl (fun s hs => by
          obtain ⟨y', _, rfl⟩ := List.mem_map.mp hs
          exact hst y') fun q hq => upd_ne (hne q (List.mem_append_left _ hq))
        have p5 : (g yv).P F4 (upd H4 Dl (.lst (vs ++ [yy]))) fp4 (some yy) := (g yv).mm (hst yv) same_refl (fun q hq => upd_ne (hne q (List.mem_append_right _ hq))) p4
        have S5 := S4.append (Slots.cons p5 .nil)
        rw [List.append_nil, show vs.map some ++ [some yy] = (vs ++ [yy]).map some by simp, show acc.map g ++ [g yv] = (acc ++ [yv]).map g by simp] at S5
        refine ⟨vs, hD4, by omega, hlt, F4, vs ++ [yy], oe ++ fp4, acc ++ [yv], r2, W5.write List.mem_cons_self, ((fF.trans f2).trans f3).trans f4, ?_, upd_same, S5, by simp; omega, hr2, ?_⟩
        · intro z u hu
          rw [upd_ne (ne_of_none hu hD)]
          exact ((fH.trans e2).trans e3).trans e4 z u hu
        · have : [yv] ++ r2 = rr := by simpa using hrr
          rw [hys, ← this, List.append_assoc]
  · have e : n = xs.length := by omega
    subst e
    refine .inl ⟨by simpa using w1, ?_⟩
    rw [List.drop_length] at hrr
    unfold fmO at hrr
    have : rr = [] := by simpa using hrr.symm
    subst this
    rw [List.append_nil] at hys
    subst hys
    exact kk _ F' H' (Dl :: oe) (f1.trans fF) (e1.trans fH) W' ⟨Dl, vs, oe, rfl, rfl, hDl, hp⟩
end
end Ty

/-! Ty10 -/
namespace Ty
open PySem PySem.Spec L2
open PyProof.Rows (envOfC)
theorem condT {α : Type} {c : Bool} {a b : Option α} {y : α} (hc : c = true) (h : (bif c then a else b) = some y) : a = some y := by subst hc; exact h
theorem condF {α : Type} {c : Bool} {a b : Option α} {y : α} (hc : c = false) (h : (bif c then a else b) = some y) : b = some y := by subst hc; exact h
def flK {ρ S β : Type} (o : Option (Fl ρ S)) (kn : S → Option β) (kr : ρ → Option β) : Option β := o.bind fun
  | .next s => kn s
  | .brk s => kn s
  | .ret r => kr r
theorem flK_some {ρ S β : Type} {o : Option (Fl ρ S)} {kn : S → Option β} {kr : ρ → Option β} {b : β} (h : flK o kn kr = some b) : ∃ out, o = some out ∧ (∀ s, (out = .next s ∨ out = .brk s) → kn s = some b) ∧ (∀ r, out = .ret r → kr r = some b) := by
  unfold flK at h
  obtain ⟨out, h1, h2⟩ := Option.bind_eq_some_iff.mp h
  refine ⟨out, h1, ?_, ?_⟩
  · rintro s (rfl | rfl) <;> exact h2
  · rintro r rfl; exact h2
theorem stb_map {α : Type} {g : α → Slot} (h : ∀ x, (g x).st) : ∀ xs : List α, Stb (xs.map g)
  | [] => Stb.nil
  | x :: xs => Stb.cons (h x) (stb_map h xs)
theorem stb_set {Γ : List Slot} {s : Slot} {j : Nat} (h : Stb Γ) (hs : s.st) : Stb (Γ.set j s) := fun x hx => by
  rcases List.mem_or_eq_of_mem_set hx with h1 | h1
  · exact h x h1
  · rw [h1]; exact hs
section
variable {P : Program} {w : World} {K : PySem.W.Frag} {mg : Str → Option Value} {base : Heap} {k : Nat}
variable {Y : Fa P w K mg base k} {i : Y.I} {e ea eb eo ev tg iter elt : Expr} {es ifs : List Expr} {rest body : List Stmt} {Γ Γ' Γ1 Γ2 Δ Δ' : List Slot} {a b c r s s' : Slot} {pos : Pos} {B : Bs} {D : Ends} {x f : Str} {p' : Pos} {scope : Scope}
theorem Nx.wk {σ : L2.St} {H : Hp} (h : Nx B Γ σ H) (hw : WkL Γ Γ') : Nx B Γ' σ H := h.elim fun F S => S.wk hw
theorem fi_off {σ : L2.St} {H : Hp} (h : Nx B Γ σ H) (hs : ∀ F H, s.P F H [] (some .non)) : Fi B s .non H := by
  obtain ⟨F, os, W, S⟩ := h
  exact ⟨F, [], Wo.drop (a := os) (b := []) (by simpa using W), hs F H⟩
theorem go_forK {α T ρ β : Type} {xs : List α} {rs : α → Slot} (Γf : T → List Slot) (Sr : ρ → Slot) {s0 : T} {f : α → T → Option (Fl ρ T)} {kn : T → Option β} {kr : ρ → Option β} {b : β}
    (hi : XI Y tg iter Γ False (xs.map rs)) (h0 : WkL Γ (Γf s0)) (hm : flK (forF xs s0 f) kn kr = some b)
    (hb : ∀ B1 x s out, x ∈ xs → f x s = some out → (∀ r, out = .ret r → kr r = some b) → (∀ F H os, Wo B1 F H os → Wo B F H os) → ∃ ws Γ1, XG Y tg ws (rs x) (Γf s) Γ1 ∧ Go Y i body (LE B1 Γf Sr out) B1 Γ1)
    (hr : ∀ s, kn s = some b → Go Y i rest D B (Γf s)) (hret : ∀ r, kr r = some b → ∀ v H, Fi B (Sr r) v H → D.rt v H)
    (hs : ∀ x, foldedSetIterable iter (Y.X i).env x = pure x := by intro _; rfl) (hcm : Y.cm = true := by rfl) : Go Y i (.For tg iter body [] pos :: rest) D B Γ := by
  obtain ⟨o, h1, h2, h3⟩ := flK_some hm
  exact go_for Γf hi h0 h1 (fun B1 x s out hx hf hh hl => hb B1 x s out hx hf (fun r e => h3 r (hh r e)) hl) (fun s hs => hr s (h2 s hs)) (fun r e => hret r (h3 r e)) hs hcm
/-! ### and, or, a if c else b whose right side may fail -/
theorem xw_andP {z u : Bool} {m2 : Option Bool} (h : XT Y ea Γ z) (hu : (bif z then m2 else some false) = some u) (h2 : ∀ z', m2 = some z' → XW Y (.BoolOp .And (eb :: es) pos) Γ z') : XW Y (.BoolOp .And (ea :: eb :: es) pos) Γ u := by
  cases z with
  | true => exact xw_and h (fun _ => h2 u hu) rfl
  | false =>
    have : false = u := by simpa using hu
    subst this
    exact xw_and (z' := false) h (fun q => by cases q) rfl
theorem xw_orP {z u : Bool} {m2 : Option Bool} (h : XT Y ea Γ z) (hu : (bif z then some true else m2) = some u) (h2 : ∀ z', m2 = some z' → XW Y (.BoolOp .Or (eb :: es) pos) Γ z') : XW Y (.BoolOp .Or (ea :: eb :: es) pos) Γ u := by
  cases z with
  | false => exact xw_or h (fun _ => h2 u hu) rfl
  | true =>
    have : true = u := by simpa using hu
    subst this
    exact xw_or (z' := true) h (fun q => by cases q) rfl
theorem x_andP {z u : Bool} {m2 : Option Bool} (h : XV Y ea Γ (vBl z)) (hu : (bif z then m2 else some false) = some u) (h2 : ∀ z', m2 = some z' → XV Y (.BoolOp .And (eb :: es) pos) Γ (vBl z')) : XV Y (.BoolOp .And (ea :: eb :: es) pos) Γ (vBl u) := by
  cases z with
  | true => exact x_and h (fun _ => h2 u hu) rfl
  | false =>
    have : false = u := by simpa using hu
    subst this
    exact x_and (z' := false) h (fun q => by cases q) rfl
theorem x_iteP {α : Type} {ec : Expr} {z : Bool} {m1 m2 : Option α} {u : α} {g : α → Slot} (hc : XT Y ec Γ z) (hu : (bif z then m1 else m2) = some u) (h1 : ∀ v, m1 = some v → XV Y ea Γ (g v)) (h2 : ∀ v, m2 = some v → XV Y eb Γ (g v)) : XV Y (.IfExp ec ea eb pos) Γ (g u) :=
  x_ite hc (fun hz => h1 u (condT hz hu)) (fun hz => h2 u (condF hz hu))
/-- a op1 b op2 c, the last may fail -/
theorem x_chainP {op op' : CmpOp} {r2 r2' : R2} {ec : Expr} {z u : Bool} {m2 : Option Bool} {n : Int} (ho : ∀ i, OpR (Y.X i) (compareOp op) r2) (ho' : ∀ i, OpR (Y.X i) (compareOp op') r2') (h : Op2 r2 a (vInt n) (vBl z))
    (hu : (bif z then m2 else some false) = some u) (ha : XV Y ea Γ a) (hb : XV Y eb Γ (vInt n)) (hc : ∀ z', m2 = some z' → ∃ c, XV Y ec Γ c ∧ Op2 r2' (vInt n) c (vBl z')) (hm : lastMarks [op, op'] [eb, ec] = false := by with_unfolding_all rfl) : XV Y (.Compare ea [op, op'] [eb, ec] pos) Γ (vBl u) := by
  cases z with
  | true =>
    obtain ⟨c, h1, h2⟩ := hc u hu
    exact x_chain ho ho' h (fun _ => h2) (by simp) ha hb (fun _ => h1) hm
  | false =>
    have : false = u := by simpa using hu
    subst this
    exact x_chain (c := vInt n) (z' := false) ho ho' h (fun q => by cases q) (by simp) ha hb (fun q => by cases q) hm
theorem x_neg {z : Int} (h : XV Y e Γ (vInt z)) : XV Y (.UnaryOp .USub e pos) Γ (vInt (-z)) := x_un (fun _ => un_neg) (fun B F H x fx os Q W p1 q => by
  obtain rfl := vint p1
  exact ⟨z, rfl, q _ F H [] same_refl same_refl W.drop ⟨rfl, _, rfl, rfl⟩⟩) h
end
end Ty

/-! Ty11 -/
namespace Ty
open PySem PySem.Spec L2
open PyProof.Rows (envOfC)
def letO {α β : Type} (a : α) (f : α → Option β) : Option β := f a
theorem letO_some {α β : Type} {a : α} {f : α → Option β} {r : β} (h : letO a f = some r) : ∃ x, a = x ∧ f x = some r := ⟨a, rfl, h⟩
theorem WkL.at {s s' : Slot} : ∀ {Γ : List Slot} {j : Nat}, WkS s s' → Γ[j]? = some s → WkL Γ (Γ.set j s')
  | [], _, _, e => by simp at e
  | _ :: _, 0, h, e => by simp at e; subst e; exact .cons h .refl
  | _ :: _, j + 1, h, e => .cons .refl (WkL.at h (by simpa using e))
theorem le_line {n : Nat} (h : Nat.ble n 1000 = true) : n ≤ sizeLine := Nat.le_trans (Nat.le_of_ble_eq_true h) (by rw [sizeLine_eq]; decide)
section
variable {P : Program} {w : World} {K : PySem.W.Frag} {mg : Str → Option Value} {base : Heap} {k : Nat}
variable {Y : Fa P w K mg base k} {i : Y.I} {e ea eb eo ev tg iter elt : Expr} {es ifs : List Expr} {rest body : List Stmt} {Γ Γ' Γ1 Γ2 Δ Δ' : List Slot} {a b c r s s' : Slot} {pos : Pos} {B : Bs} {D : Ends} {x f : Str} {p' : Pos} {scope : Scope}
theorem XV.eqV {α : Type} {p : VP α} {a b : α} (h : XV Y e Γ (val p a)) (hx : a = b) : XV Y e Γ (val p b) := hx ▸ h
theorem XV.frz {α : Type} {p : VP α} {xs : List α} (h : XV Y e Γ (own (oL p) xs)) : XV Y e Γ (val (pL p) xs) := h.wk WkS.list
theorem lc_el {α : Type} {q : VP α} {y : α} (h : XV Y elt Γ (val q y)) : XTs Y [] Γ (some y).isSome ∧ ∀ z, some y = some z → XV Y elt Γ (val q z) := ⟨xts_nil, fun z hz => by cases hz; exact h⟩
theorem lc_elS {α : Type} {g : α → Slot} {y : α} (h : XV Y elt Γ (g y)) : XTs Y [] Γ (some y).isSome ∧ ∀ z, some y = some z → XV Y elt Γ (g z) := ⟨xts_nil, fun z hz => by cases hz; exact h⟩
theorem lc_if {α : Type} {q : VP α} {c : Bool} {m : Option (Option α)} {o : Option α} (hc : XT Y e Γ c) (hm : (bif c then m else some none) = some o) (h : m = some o → ∃ y, o = some y ∧ XV Y elt Γ (val q y)) : XTs Y [e] Γ o.isSome ∧ ∀ z, o = some z → XV Y elt Γ (val q z) := by
  cases c with
  | true =>
    obtain ⟨y, rfl, hx⟩ := h hm
    exact ⟨xts_one hc, fun z hz => by cases hz; exact hx⟩
  | false =>
    have : none = o := by simpa using hm
    subst this
    exact ⟨xts_one hc, fun z hz => by cases hz⟩
theorem c_max2 (Y : Fa P w K mg base k) (hcm : Y.cm = true := by rfl) (i : Y.I) : CallR (Y.X i) (.builtin "max") (fun xs H Q => ∃ i j, xs = [.int i, .int j] ∧ Q (.int (if j > i then j else i)) H) := call_max2 ((Y.hC i).trans hcm)
theorem c_min2 (Y : Fa P w K mg base k) (hcm : Y.cm = true := by rfl) (i : Y.I) : CallR (Y.X i) (.builtin "min") (fun xs H Q => ∃ i j, xs = [.int i, .int j] ∧ Q (.int (if j < i then j else i)) H) := call_min2 ((Y.hC i).trans hcm)
/-- x = [elt for ..], what is made owned -/
theorem go_setLcS {α β : Type} {xs : List α} {rs : α → Slot} {g : β → Slot} {f : α → Option (Option β)} {ys : List β} {own : List (Str × Nat)} (j : Nat) {py cpos : Pos} (hi : XI Y tg iter Γ True (xs.map rs)) (L : Lc Y iter scope own) (hz : xs.length ≤ sizeLine) (hf : fmO xs f = some ys) (hd0 : DeadAt Γ (own.map (·.2))) (hst : ∀ y, (g y).st)
    (hb : ∀ x o, x ∈ xs → f x = some o → ∃ ws Γ1, (ws.all fun j => (own.map (·.2)).contains j) = true ∧ XG (Y.blk scope) tg ws (rs x) Γ Γ1 ∧ XTs (Y.blk scope) ifs Γ1 o.isSome ∧ ∀ y, o = some y → XV (Y.blk scope) elt Γ1 (g y))
    (hg : Go Y i rest D B (Γ.set j (lstS (ys.map g)))) (hj : Nat.blt j Γ.length = true := by rfl) (hy : (Y.X i).N[j]? = some x := by rfl) (hyl : (Y.X i).env.scope.names.lookup x = some .local := by rfl)
    (hsw : swapsWith (.ListComp elt [⟨tg, iter, ifs, 0⟩] scope cpos) (some (.Name x py)) pos.line (Y.X i).env = pure true) (hcm : Y.cm = true := by rfl) : Go Y i (.Assign [.Name x py] (.ListComp elt [⟨tg, iter, ifs, 0⟩] scope cpos) pos :: rest) D B Γ := by
  obtain ⟨wi, pi, hw⟩ := hi
  refine go_ps (ps_setLc ((Y.hC i).trans hcm) (Y.hN i) hy hyl hsw (pi i) (L.ok i) (fun s H C cl fp => pg_cG (Y := Y.blk scope) (i, s, H, C, cl, fp)) (fun s H C cl fp => pts_cTs (Y := Y.blk scope) (i, s, H, C, cl, fp)) (fun s H C cl fp => pe_cE (Y := Y.blk scope) (i, s, H, C, cl, fp)) (L.hs i)) fun F H σ ⟨os, W, S⟩ => ?_
  refine lcS_run hz hf hd0 hst hb hw (Sta.in W S) fun v F1 H1 fp f1 e1 W1 p1 => ?_
  obtain ⟨os', d, h1, h2⟩ := (S.mono f1 e1).put p1 (Nat.le_of_ble_eq_true hj)
  exact hg F1 H1 _ ⟨os', (W1.perm h2).drop, h1⟩
theorem o_lenB {α : Type} {p : VP α} {xs : List α} : OpA (rLenK K) [bor (pL p) xs] (vInt (xs.length : Int)) := opA1 fun B F H v fx os Q W pv q => by
  obtain ⟨_, v', ev, l, vs, rfl, h1, h2⟩ := pv
  cases ev
  exact ⟨l, vs, rfl, .inl (SqL.of h1), q _ F H [] same_refl same_refl W.drop ⟨rfl, _, rfl, by show V.int _ = V.int _; rw [Paired.length h2]⟩⟩
/-- enumerate(xs), its pairs as data -/
theorem xi_enum' {α : Type} {p : VP α} {xs : List α} {p' tpos : Pos} {elts : List Expr} {kk : Nat} (hm : mg "enumerate" = none) (h : XV Y e Γ (val (pL p) xs)) (hg : ∀ i, Gl (Y.X i) "enumerate" := by intro _; rfl) (hs : ∀ i, starEach [e] (Y.X i).env = [(false, eval e (Y.X i).env)] := by intro _; rfl) :
    XI Y (.Tuple elts kk tpos) (.Call (.Name "enumerate" p') [e] [] pos) Γ False (((xs.zipIdx).map fun (x : α × Nat) => ((x.2 : Int), x.1)).map (val (pT2 pInt p))) := by
  rw [List.map_map]
  exact xi_enum hm h hg hs
end
end Ty

/-! Ty18 -/
/-! errors with fields: class X(Y), Y above ValueError, X.__init__ says super().__init__(..), then self.f = f -/
namespace Ty
open PySem PySem.Spec L2
open PyProof.Rows
/-- a field of an error -/
inductive XF where
  | i (n : Int)
  | s (x : Str)
  deriving DecidableEq
def XF.v : XF → V
  | .i n => .int n
  | .s x => .str x
abbrev veI : String := "ValueError.__init__"
/-- a def that closes over __class__, which is C -/
structure FunS (K : PySem.W.Frag) (P : Program) (x qual : Str) (st : Stmt) (f : Addr) (fd : FuncData) (C : Addr) : Prop where
  ex : ∃ (oc : Value) (od : Option Addr) (kV doc pm : Value) (an : Option Addr) (cda : Addr) (ct : Value) (osl : Array (Option Value)) (cc : Addr) (oc2 : Value) (od2 : Option Addr) (vs2 : Array Value) (sl2 : Array (Option Value)) (file : Str) (tf : Tok) (oc3 : Value) (od3 : Option Addr) (sl3 : Array (Option Value)),
    fd = PySem.W.fnX x qual (defArgs st) (defBody st) (defScope st) [("__class__", cc)] .none kV doc pm an (.ref cda) ct ∧
    K.lookup f = some ⟨oc, od, .func fd, osl⟩ ∧ PySem.W.codeIn K (.ref cda) qual = true ∧
    K.lookup cda = some ⟨oc2, od2, .fields vs2, sl2⟩ ∧ vs2[2]? = some (.str file tf) ∧ ((P.main.file : Str) == file) = true ∧
    K.lookup cc = some ⟨oc3, od3, .cell (some (.ref C)), sl3⟩
/-- what of the class and the world makes super() what it is -/
structure SupC (K : PySem.W.Frag) (P : Program) (mg : Str → Option Value) (C : Addr) : Prop where
  su : mg "super" = none
  an : PySem.W.nsIn K cStatics "thirdparty.any" = some none
  hm : PySem.W.ks_superIn K C C "__init__" = some (some (.builtin veI))
  hV : PySem.W.subIn K (.ref C) (.type "ValueError") = some true
  hs : PySem.W.mroIn K C (.ref C) = some true
  ht : (P.main.scope.names.lookup ("super" : Str)).isSome = false
structure ScS (ps : List Str) (sc : Scope) : Prop where
  kind : sc.kind = .function
  co : sc.isCoroutine = false
  gen : sc.isGenerator = false
  nd : ps.Nodup
  par : ∀ x ∈ ps, sc.names.lookup x = some .local
  nocell : ∀ x ∈ sc.names, x.2 ≠ .cell
  free : ∀ x ∈ sc.names, x.2 = .free → x.1 = "__class__"
  cls : sc.names.lookup ("__class__" : Str) = some .free
  sup : sc.names.lookup ("super" : Str) = some .globalImplicit
abbrev enS (qual : Str) (sc : Scope) (L f : Addr) (cd : Value) (cc : Addr) : Env := PySem.W.envX qual sc L f cd [("__class__", cc)]
/-- what must be seen of the text super().__init__(ej) -/
structure TxS (qual : Str) (sc : Scope) (ej : Expr) (p0 p1 p2 p3 p4 : Pos) : Prop where
  hi : ∀ L f cd cc, interactive (enS qual sc L f cd cc) = false
  hs : ∀ L f cd cc, swapsWith (.Call (.Attribute (.Call (.Name "super" p0) [] [] p1) "__init__" p2) [ej] [] p3) none p4.line (enS qual sc L f cd cc) = pure false
  he : ∀ L f cd cc, ∃ pl : Sem Bool, eval (.Call (.Attribute (.Call (.Name "super" p0) [] [] p1) "__init__" p2) [ej] [] p3) (enS qual sc L f cd cc) = (do
      let ov ← attributeBase (.Call (.Name "super" p0) [] [] p1) "__init__" (enS qual sc L f cd cc) (eval (.Call (.Name "super" p0) [] [] p1) (enS qual sc L f cd cc))
      standAt p2.atName
      let (f', first) ← holding [ov] (getMethod ov "__init__" pl)
      callWith p3 f' first (backTo p3 (starEach [ej] (enS qual sc L f cd cc))) [])
  st : ∀ L f cd cc, starEach [ej] (enS qual sc L f cd cc) = (false, eval ej (enS qual sc L f cd cc)) :: starEach [] (enS qual sc L f cd cc)
  pl : ∀ L f cd cc, (backTo p3 (starEach [] (enS qual sc L f cd cc))).any (·.1) = false
/-- the context of such a body -/
def cxS (P : Program) (w : World) (K : PySem.W.Frag) (mg : Str → Option Value) (base : Heap) (N : List Str) (qual : Str) (sc : Scope) (f : Addr) (cd : Value) (cc : Addr) (A : Around) (outer : List Env) (s : Shared) (H : Hp) : Cx :=
  let env := enS qual sc s.heap.objs.size f cd cc
  { prog := P, w := w, K := K, mg := mg, base := base, A := A.deeper env, N := N, s_0 := s, H_0 := H, env := env, outer := outer, stack := env :: outer, ex := [], fn := fun _ => false, calm := true, pn := [], xe := fun _ _ => False }
theorem zip_none {x : Str} : ∀ {P : List Str} {vs : List Value}, x ∉ P → (P.zip vs).reverse.lookup x = none
  | [], _, _ => rfl
  | _ :: _, [], _ => rfl
  | p :: P, v :: vs, h => by
    have hp : (x == p) = false := by
      rw [beq_eq_false_iff_ne]
      exact fun z => h (by rw [z]; exact List.mem_cons_self)
    rw [List.zip_cons_cons, List.reverse_cons, List.lookup_append, zip_none (fun z => h (List.mem_cons_of_mem _ z))]
    simp [List.lookup, hp]
theorem zip_get {x : Str} {v : Value} : ∀ {P : List Str} {vs : List Value} {i : Nat}, P.Nodup → P[i]? = some x → vs[i]? = some v → (P.zip vs).reverse.lookup x = some v
  | [], _, _, _, h, _ => by simp at h
  | _ :: _, [], _, _, _, h => by simp at h
  | p :: P, w :: vs, 0, nd, h1, h2 => by
    simp at h1 h2; subst h1; subst h2
    rw [List.zip_cons_cons, List.reverse_cons, List.lookup_append, zip_none (List.nodup_cons.mp nd).1]
    simp [List.lookup]
  | p :: P, w :: vs, i + 1, nd, h1, h2 => by
    rw [List.zip_cons_cons, List.reverse_cons, List.lookup_append, zip_get (i := i) (List.nodup_cons.mp nd).2 (by simpa using h1) (by simpa using h2)]
    rfl
theorem inv_startS {P : Program} {w : World} {K : PySem.W.Frag} {mg : Str → Option Value} {base : Heap} {ps : List Str} {qual : Str} {sc : Scope} {f : Addr} {cd : Value} {cc : Addr} {A : Around} {outer : List Env} {s : Shared} {H : Hp} {us : List Value} {vs : List V} {h1 : Heap} {tk : Nat}
    (S : ScS ps sc) (hd : A.handled = none) (e0 : Env0 P w K mg base A outer s H) (hl : vs.length = ps.length) (r : Vals vs us) {oc : Obj} {cv : Option Value} (hcc : base.get? cc = some oc) (hcd : oc.data = .cell cv)
    (hn : h1.Ns s.heap.objs.size (fun x => (ps.zip us).reverse.lookup x)) (k : ∀ b o, s.heap.get? b = some o → h1.get? b = some o) :
    Inv (cxS P w K mg base ps qual sc f cd cc A outer s H) [] (L2.start ps vs) H { s with heap := h1, toks := tk } := by
  have cel : ∀ x c, (cxS P w K mg base ps qual sc f cd cc A outer s H).env.cells.lookup x = some c → x = "__class__" ∧ c = cc := fun x c h => by
    have h' : ([("__class__", cc)] : List (Str × Addr)).lookup x = some c := h
    by_cases q : x = "__class__"
    · subst q
      have z : some cc = some c := h'
      cases z
      exact ⟨rfl, rfl⟩
    · have q2 : (x == ("__class__" : Str)) = false := beq_eq_false_iff_ne.mpr q
      rw [List.lookup_cons, q2] at h'
      cases h'
  have noA : ∀ b : Addr, b ∉ (cxS P w K mg base ps qual sc f cd cc A outer s H).ex := fun b z => (nomatch (show b ∈ ([] : List Addr) from z))
  have hc0 := e0.bs cc oc hcc
  refine ⟨⟨e0.mod, S.kind, rfl, rfl, Nat.le_refl _, fun y z c h1 h2 => (cel y c h1).1.trans (cel z c h2).1.symm, fun y hy => ?_, fun y c h => (nomatch h), fun _ => hd, Around.frames_deeper e0.frames, .inr ⟨rfl, rfl⟩, fun b z => absurd z (noA b), e0.bs, e0.bsz, fun b _ _ => noA b, fun b z => absurd z (noA b), e0.funs, e0.frf⟩,
    rfl, e0.bare, Un.kept k, ⟨_, hn, fun i y v h1 h2 h3 => ?_⟩, fun y c h => ?_, e0.hok.fresh (Nat.le_refl _), fun y c h => ?_, fun p hp => (nomatch (show p ∈ ([] : List (Addr × Obj)) from hp)), e0.hok.kept k, ?_⟩
  · refine ⟨cc, ?_⟩
    have q : y = "__class__" := by
      rcases hy with hy | hy
      · exact absurd rfl (S.nocell _ (PySem.mem_of_lookup hy))
      · exact S.free _ (PySem.mem_of_lookup hy) rfl
    subst q
    rfl
  · have ha : vs[i]? = some v := by
      unfold L2.start at h2
      by_cases hi : i < vs.length
      · rw [List.getElem?_append_left (by simpa using hi), List.getElem?_map] at h2
        cases e : vs[i]? with
        | none => rw [e] at h2; cases h2
        | some a => rw [e] at h2; cases h2; rfl
      · rw [List.getElem?_append_right (by simpa using hi), List.getElem?_replicate] at h2
        split at h2 <;> cases h2
    obtain ⟨u, hu, rv⟩ := r.get ha
    exact ⟨u, rv, .inl ⟨S.par y (List.mem_of_getElem? h1), zip_get S.nd h1 hu⟩⟩
  · obtain ⟨_, rfl⟩ := cel y c h
    exact ⟨cv, oc, k _ _ hc0.1, hcd⟩
  · obtain ⟨_, rfl⟩ := cel y c h
    exact hc0.2
  · unfold L2.start
    show _ = ps.length
    rw [List.length_append, List.length_map, List.length_replicate]
    omega
section
variable {X : Cx} {pins : List (Addr × Obj)} {σ : L2.St} {H : Hp} {s : Shared} {a C u : Addr} {us : List Value} {Q : Value → Shared → Prop}
/-- the built-in __init__ bound to the error at a is called: nothing of it is told -/
theorem mw_call (T : OexC X.K C) (I : Inv X pins σ H s) (e : H a = some (exo a C none)) (hu : s.heap.get? u = some (PySem.W.kxs_mw veI a)) (hl : us.length ≤ sizeLine) (h : ∀ s', Inv X pins σ H s' → Q .none s') :
    wpAny (model X.prog X.w) X.A (call (.ref u) us) Q X.xe s := by
  obtain ⟨nm, q, N, bs, bm, sn, sub, ab, col, dd, k0, k1, k2, k3, k5, hC, hbm⟩ := T.cls
  have hC' := I.kIn _ _ hC
  obtain ⟨t1, ho⟩ := exo_at I.hok e
  obtain ⟨hp, g, d, t, os⟩ := s
  have same : upd H a (exo a C none) = H := funext fun b => by
    by_cases z : b = a
    · rw [z, upd_same]; exact e.symm
    · exact upd_ne z
  have fin : ∀ h', (∀ b o, b ≠ a → hp.get? b = some o → h'.get? b = some o) → h'.get? a = some (PySem.W.excObj C hp.objs.size none .none) → h'.get? hp.objs.size = some (PySem.W.excTup us) → Q .none ⟨h', g, d, t, os⟩ := fun h' k ea _ => by
    refine h _ ?_
    have J := I.write (t' := t) (x := a) (e := a) (o := exo a C none) (by rw [e]; trivial) (Or.inl rfl) k ⟨_, ea⟩ (exo_ok ea)
    exact same ▸ J
  refine wpAny_call (codeAny_of_tree ?_)
  show wpAny _ X.A.in1 (callAny (Value.ref u) ⟨us, []⟩) _ _ _
  unfold callAny
  refine wpAny_bind (wpAny_load hu ?_)
  dsimp only [PySem.W.kxs_mw]
  refine PySem.W.KFB.if_so (by decide) ?_
  refine wpAny_bind (PySem.W.check_bound_init F.excBase_ValueError.toExcCallFacts hC' ho rfl ?_)
  refine wpAny_bind (wpAny_pure (wpAny_pure ⟨plainId_quiet F.excBase_ValueError.init.plain _, codeAny_builtin F.excBase_ValueError.initEntry ?_⟩))
  exact PySem.W.exc_init_tree (cls := .ref C) (t0 := t1) (dv := none) (c2 := .none) (c3 := .none) (b4 := .bool false) ho hl fin
end
section
variable {P : Program} {w : World} {K : PySem.W.Frag} {mg : Str → Option Value} {base : Heap}
/-- THE RULE for such an __init__ -/
theorem fnS_of {k : Nat} {f C : Addr} {x qual : Str} {st : Stmt} {fd : FuncData} {ps : List Str} {sp : Sp} {ej : Expr} {rest : List Stmt} {p0 p1 p2 p3 p4 : Pos} {ar : Arg}
    (Fn : FunS K P x qual st f fd C) (S : ScS ps (defScope st)) (U : SupC K P mg C) (O : OexC K C)
    (hb : defBody st = .Expr (.Call (.Attribute (.Call (.Name "super" p0) [] [] p1) "__init__" p2) [ej] [] p3) p4 :: rest)
    (TX : TxS qual (defScope st) ej p0 p1 p2 p3 p4) (har : ((defArgs st).posonlyargs ++ (defArgs st).args).head? = some ar) (hps : ps.head? = some ar.arg)
    (len : ∀ vs H Q E, sp vs H Q E → vs.length = ps.length)
    (body : ∀ (cda cc : Addr) (A : Around) (outer : List Env) (s : Shared) (H : Hp) (vs : List V) (Q : VK) (E : XK), sp vs H Q E →
      ∃ (a : Addr) (xs : List V) (ta : TA) (tr : TS), vs = .ref a :: xs ∧ H a = some (exo a C none) ∧
        PA (cxS P w K mg base ps qual (defScope st) f (.ref cda) cc A outer s H) [ej] ta ∧ ta (L2.start ps vs) H (fun ws H1 => H1 = H ∧ ws.length ≤ 1000) ∧
        PSs (cxS P w K mg base ps qual (defScope st) f (.ref cda) cc A outer s H) rest tr ∧ tr { nx := fun _ H' => Q .non H', rt := Q } (L2.start ps vs) H) :
    FnOk P w K mg base CX0 (k + 1) f fd ps sp := by
  obtain ⟨oc, od, kV, doc, pm, an, cda, ct, osl, cc, oc2, od2, vs2, sl2, file, tf, oc3, od3, sl3, rfl, lk, hcd, lk2, hv2, hfile, lk3⟩ := Fn.ex
  refine ⟨len, fun A outer s H args us vs Q E hr e0 hbd r hsp => ?_⟩
  obtain ⟨a, xs, ta, tr, rfl, ha, hpa, hta, hrest, htr⟩ := body cda cc A outer s H vs Q E hsp
  have KX : K.In s.heap := e0.mod.kin.keeps fun b o e => (e0.bs b o e).1
  have lim : s.heap.NoLimit := e0.mod.nolimit.keeps fun b o e => (e0.bs b o e).1
  have hl := len _ _ _ _ hsp
  have hloc : ∀ y ∈ ps.zip us, (defScope st).names.lookup y.1 = some .local := fun ⟨n, v⟩ hy => S.par n (List.of_mem_zip hy).1
  refine PySem.ks_codeAny_call_defAt (fd := PySem.W.fnX x qual (defArgs st) (defBody st) (defScope st) [("__class__", cc)] .none kV doc pm an (.ref cda) ct) (body := defBody st) (binds := ps.zip us) hr.depth (KX _ _ lk) rfl lim (PySem.W.codeRec_of KX hcd) rfl hbd S.nocell hloc (fun h1 hn hk => ?_) S.co S.gen S.kind
  have I : Inv (cxS P w K mg base ps qual (defScope st) f (.ref cda) cc A outer s H) [] (L2.start ps (.ref a :: xs)) H { s with heap := h1, toks := s.toks + (ps.zip us).length } :=
    inv_startS (oc := ⟨oc3, od3, .cell (some (.ref C)), sl3⟩) (cv := some (.ref C)) S hr.hd e0 hl r (e0.mod.kin _ _ lk3) rfl hn hk
  have X1 : K.In h1 := I.kIn
  obtain ⟨nm, q, N, bs, bm, sn, sub, ab, col, dd, k0, k1, k2, k3, k5, hC, hbm⟩ := O.cls
  have hcl : PySem.W.clsIn K C = some { name := nm, bases := bs, mro := .ref C :: bm, ns := N, qualname := q, hasDict := true, slotNames := sn, subclasses := sub, abstract := ab, collection := col, hasDel := false } := by unfold PySem.W.clsIn; rw [hC] <;> rfl
  obtain ⟨t1, ho⟩ := exo_at I.hok ha
  obtain ⟨mb, hmb, hbt⟩ := e0.mod.blt
  have hself : (ps.zip us).reverse.lookup ar.arg = some (.ref a) := by
    obtain ⟨u, hu, ru⟩ := r.get (i := 0) (x := V.ref a) rfl
    obtain rfl : u = Value.ref a := ru
    refine zip_get (i := 0) S.nd ?_ hu
    rw [← List.head?_eq_getElem?]; exact hps
  have har2 : (defScope st).names.lookup ar.arg = some .local := S.par _ (List.mem_of_mem_head? (by rw [hps]; rfl))
  have hvs2 := X1 _ _ lk2
  have hC1 := X1 _ _ hC
  show PySem.wpAt _ _ (.func (defBody st) (enS qual (defScope st) s.heap.objs.size f (.ref cda) cc)) (execs (defBody st) (enS qual (defScope st) s.heap.objs.size f (.ref cda) cc)) _ _ _
  rw [show execs (defBody st) (enS qual (defScope st) s.heap.objs.size f (.ref cda) cc) = execs (.Expr (.Call (.Attribute (.Call (.Name "super" p0) [] [] p1) "__init__" p2) [ej] [] p3) p4 :: rest) (enS qual (defScope st) s.heap.objs.size f (.ref cda) cc) from congrArg (fun b => execs b _) hb]
  obtain ⟨pl, he⟩ := TX.he s.heap.objs.size f (.ref cda) cc
  refine PySem.ks_wpAt_execs_cons ?_
  refine PySem.ks_wpAt_Expr_any (hi := TX.hi ..) (hs := TX.hs ..) ?_
  refine PySem.ks_wpAt_MethodCall (he := he) ?_
  refine PySem.ks_wpAt_super_base (env := enS qual (defScope st) s.heap.objs.size f (.ref cda) cc) S.sup S.cls (by decide) rfl (X1 _ _ lk) rfl har rfl hvs2 rfl hv2 hfile U.ht ?_
  refine PySem.W.ks_loadName_global S.kind S.sup (Calls.loadGlobal_builtin (mg := mg) (mb := mb) (v := .type "super") (I.mod.glob.keeps I.bk) U.su (hmb.keeps I.bk) ((hbt _ (by decide)).trans (by first | rfl | kernel_rfl)) ⟨rfl, ?_⟩)
  refine wpAny_loadName_free S.kind S.cls rfl ⟨_, X1 _ _ lk3, rfl⟩ ?_
  refine wpAny_loadName_local S.kind har2 hn hself ?_
  refine PySem.ks_wpAny_isType_cls hC1 rfl ⟨rfl, ?_⟩
  refine PySem.ks_wpAny_call_super hC1 rfl ho rfl (fun c z => nomatch z) (PySem.W.looks_mroIn X1 U.hs) (fun h2 e2 k2 => ?_)
  have X2 : K.In h2 := X1.keeps k2
  have hmm : PySem.W.alongIn K "__init__" (((Value.ref C :: bm).dropWhile (· != .ref C)).drop 1) = some (some (.builtin veI)) := by
    have z := U.hm
    unfold PySem.W.ks_superIn at z
    rw [hcl] at z
    exact z
  have haC : a ≠ C := fun z => by
    have e1 := hC1
    rw [← z] at e1
    have e2 := e1.symm.trans ho
    cases e2
  have J0 : PySem.W.InstAt h2 a _ C none := ⟨k2 _ _ ho, rfl, rfl, trivial⟩
  refine PySem.W.kxs_getMethod PySem.W.kxs_ValueError e2 (PySem.W.looks_opaque X2 U.an) (l₀ := Value.ref C :: bm) (fun A' Q' E' s' kq q => wpAny_bind ((PySem.W.looks_clsIn X2 hcl) A' _ E' s' kq (wpAny_pure q))) rfl X2 hmm (J0.type.andThen (PySem.W.looks_subIn X2 U.hV)) haC (by decide) ?_
  have I3 : Inv (cxS P w K mg base ps qual (defScope st) f (.ref cda) cc A outer s H) [] (L2.start ps (.ref a :: xs)) H { heap := h2.push (PySem.W.kxs_mw veI a), gens := s.gens, drawn := s.drawn, toks := s.toks + (ps.zip us).length + 1, os := s.os } :=
    I.kept (t' := s.toks + (ps.zip us).length + 1) (h' := h2.push (PySem.W.kxs_mw veI a)) fun b o z => Heap.get?_push_of_some _ (k2 b o z)
  have hu3 : (h2.push (PySem.W.kxs_mw veI a)).get? h2.objs.size = some (PySem.W.kxs_mw veI a) := Heap.get?_push_size _ rfl
  have hlt : h1.objs.size ≤ h2.objs.size := Nat.le_of_lt (Heap.lt_size e2)
  have I4 : Inv (cxS P w K mg base ps qual (defScope st) f (.ref cda) cc A outer s H) [(h2.objs.size, PySem.W.kxs_mw veI a)] (L2.start ps (.ref a :: xs)) H { heap := h2.push (PySem.W.kxs_mw veI a), gens := s.gens, drawn := s.drawn, toks := s.toks + (ps.zip us).length + 1, os := s.os } := I3.pins_of fun p hp => by
    obtain rfl := List.mem_singleton.mp hp
    exact ⟨hu3, I.hok.fresh hlt, Nat.ne_of_gt (Nat.lt_of_lt_of_le I.lt hlt), I.nofs hlt, fun v z => nomatch z⟩
  show wpAny _ _ (callWith p3 (.ref h2.objs.size) [] (backTo p3 (starEach [ej] (enS qual (defScope st) s.heap.objs.size f (.ref cda) cc))) []) _ _ _
  have hrun := hpa.run p3 _ _ _ _ _ I4 hta
  rw [show starEach [ej] (cxS P w K mg base ps qual (defScope st) f (.ref cda) cc A outer s H).env = _ from TX.st s.heap.objs.size f (.ref cda) cc] at hrun
  rw [TX.st]
  refine PySem.W.kxs_callWith (i := veI) (x := a) (by show (false || (backTo p3 (starEach [] (enS qual (defScope st) s.heap.objs.size f (.ref cda) cc))).any (·.1)) = false; rw [Bool.false_or]; exact TX.pl _ _ _ _) ?_
  refine Calls.evalArgs_plain (wpAny_mono hrun (fun ws s4 hw => ?_) fun _ _ z => z.elim)
  obtain ⟨vs', H1, I5, rv, hH, hz⟩ := hw
  rw [hH] at I5
  have I6 : Inv (cxS P w K mg base ps qual (defScope st) f (.ref cda) cc A outer s H) [] (L2.start ps (.ref a :: xs)) H s4 := I5.pins_of fun p hp => absurd hp List.not_mem_nil
  have hu4 := (I5.pin (h2.objs.size, PySem.W.kxs_mw veI a) (List.mem_append_right _ List.mem_cons_self)).1
  refine ⟨hu4, wpAny_mono (mw_call (Q := fun v s' => v = .none ∧ Inv (cxS P w K mg base ps qual (defScope st) f (.ref cda) cc A outer s H) [] (L2.start ps (.ref a :: xs)) H s') O I6 ha hu4 (by
    have z : ws.length ≤ sizeLine := by rw [← Paired.length rv, sizeLine_eq]; omega
    exact z) fun s5 I7 => ⟨rfl, I7⟩) (fun v s5 h5 => ?_) fun _ _ z => z.elim⟩
  obtain ⟨_, I7⟩ := h5
  refine wpAt_of_wpAny (wpAny_mono (hrest.run [] s5 _ H _ I7 htr) (fun fl s' hs => ?_) fun _ _ z => z.elim)
  have fin : ∀ {σ' : L2.St} {H' : Hp} {v : V} {u : Value}, Inv (cxS P w K mg base ps qual (defScope st) f (.ref cda) cc A outer s H) [] σ' H' s' → RelV v u → Q v H' → CE outer P w H s Q u s' :=
    fun {σ' H' v u} J rv q => ⟨v, H', J.os, J.bare, J.base, J.hok, rv, q⟩
  cases fl with
  | ret u =>
    obtain ⟨v, σ', H', J, rv, q⟩ := hs
    exact fin J rv q
  | next =>
    obtain ⟨σ', H', J, q⟩ := hs
    exact fin (v := V.non) (u := Value.none) J rfl q
  | brk =>
    obtain ⟨_, _, _, q⟩ := hs
    exact False.elim q
  | cont =>
    obtain ⟨_, _, _, q⟩ := hs
    exact False.elim q
end
end Ty

/-! Ty12 -/
namespace Ty
open PySem PySem.Spec L2
open PyProof.Rows
/-! ### defs that may raise -/
/-- an error of an own class: its name and its fields -/
abbrev Exn := String × List XF
inductive Rx (ρ : Type) where
  | ok (r : ρ)
  | ex (e : Exn)
def exK {α β : Type} (o : Option (Rx α)) (ke : Exn → Option β) (kk : α → Option β) : Option β := o.bind fun
  | .ok r => kk r
  | .ex e => ke e
theorem exK_some {α β : Type} {o : Option (Rx α)} {ke : Exn → Option β} {kk : α → Option β} {b : β} (h : exK o ke kk = some b) : (∃ e, o = some (.ex e) ∧ ke e = some b) ∨ ∃ r, o = some (.ok r) ∧ kk r = some b := by
  unfold exK at h
  obtain ⟨x, h1, h2⟩ := Option.bind_eq_some_iff.mp h
  cases x with
  | ok r => exact .inr ⟨r, h1, h2⟩
  | ex e => exact .inl ⟨e, h1, h2⟩
/-- how an error is told: its class, its dict -/
abbrev ExT := Exn → Value → Option Addr → Hp → Prop
def slRx {ρ : Type} (Sr : ρ → Slot) : Rx ρ → Slot
  | .ok r => Sr r
  | .ex _ => { P := fun _ _ _ _ => False, mono := fun _ _ h => h, st := True, mm := fun _ {_ _ _ _ _ _} _ _ h => h }
section
variable {P : Program} {w : World} {K : PySem.W.Frag} {mg : Str → Option Value} {base : Heap} {k : Nat}
def spX {ι ρ : Type} (As : ι → List Slot) (m : ι → Option (Rx ρ)) (Sr : ρ → Slot) (X : ExT) : Sp := fun vs H Q E => ∃ (z : ι) (r : Rx ρ) (F : Hp), m z = some r ∧ Same F H ∧ Slots F H [] (vs.map some) (As z) ∧
  (∀ v F' H' fp, Wo ⟨F, H, []⟩ F' H' fp → (slRx Sr r).P F' H' fp (some v) → Q v H') ∧
  ∀ e, r = .ex e → ∀ cls d F' H', Wo ⟨F, H, []⟩ F' H' [] → X e cls d F' → E cls d H'
def fbX (P : Program) (w : World) (K : PySem.W.Frag) (mg : Str → Option Value) (base : Heap) (N : List Str) (qual : Str) (st : Stmt) (f : Addr) (cdv : Value) (A : Around) (outer : List Env) (s : Shared) (H : Hp) (E : XK) (k : Nat) (hr : Room k (A.deeper (envOfC qual (defScope st) s.heap.objs.size f cdv))) (nd : N.Nodup) : Fa P w K mg base k where
  I := Unit
  X := fun _ => cxOf (L2.CX P w) P w K mg base N qual (defScope st) f cdv A outer s H E
  hP := fun _ => rfl
  hw := fun _ => rfl
  hK := fun _ => rfl
  hM := fun _ => rfl
  hB := fun _ => rfl
  cm := true
  hC := fun _ => rfl
  hR := fun _ _ => hr
  hU := fun _ => hr.units
  W := fun cls d _ H => E cls d H
  tk := fun _ => takes_of rfl rfl rfl rfl
  hN := fun _ => nd
  hO := fun _ => passes_of rfl
/-- what a body's wish of errors is: at the entry B nothing owned; r: how the def ends -/
def Wish (Wx : WX) (B : Bs) (Γ : List Slot) (X : ExT) (e : Exn) : Prop := ∀ cls d σ F H os, In B F H os σ Γ → X e cls d F → Wx cls d σ H
theorem fn_pureX {ι ρ : Type} {As : ι → List Slot} {m : ι → Option (Rx ρ)} {Sr : ρ → Slot} {EX : ExT} {x qual : Str} {st : Stmt} {f : Addr} {fd : FuncData} {N ps : List Str} (Fn : Fun K x qual st f fd) (S : FnScope N ps (defScope st)) (hlen : ∀ z, (As z).length = ps.length)
    (body : ∀ (cdv : Value) (A : Around) (outer : List Env) (s : Shared) (H : Hp) (E : XK) (hr : Room k (A.deeper (envOfC qual (defScope st) s.heap.objs.size f cdv))) (z : ι) (r : Rx ρ) (B : Bs), m z = some r →
      (∀ e, r = .ex e → ∀ Γ, Wish (fun cls d _ H => E cls d H) B Γ EX e) →
      Go (fbX P w K mg base N qual st f cdv A outer s H E k hr S.nd) () (defBody st) (DF B (slRx Sr r)) B (As z ++ List.replicate (N.length - ps.length) dead)) : FnOk P w K mg base (L2.CX P w) (k + 1) f fd ps (spX As m Sr EX) := by
  refine Fn.okX S (fun vs H Q E h => ?_) (fun cdv A outer s H vs Q E hr h => ?_)
  · obtain ⟨z, r, F, _, _, Sl, _⟩ := h
    have e := Sl.length
    rw [List.length_map] at e
    rw [e, hlen]
  · obtain ⟨z, r, F, hm, hS, Sl, q, qe⟩ := h
    refine ⟨_, pss_cont, ?_⟩
    have go := body cdv A outer s H E hr z r ⟨F, H, []⟩ hm (fun e he Γ cls d σ F' H' os hW hx => qe e he cls d F' H' (Wo.drop (a := os) (b := []) (by simpa using hW.W)) hx)
    have S0 : Sta ⟨F, H, []⟩ F H (L2.start N vs) (As z ++ List.replicate (N.length - ps.length) dead) := by
      refine ⟨[], wo_nil hS, ?_⟩
      unfold L2.start
      have e := Sl.length
      rw [List.length_map, hlen] at e
      rw [e]
      exact Slots.append Sl (slots_dead _)
    exact cont_mono (go F H _ S0) (fun σ H' ⟨F', fp, W', p'⟩ => q .non F' H' fp W' p') (fun v H' ⟨F', fp, W', p'⟩ => q v F' H' fp W' p') (fun _ _ z => z.elim) (fun _ _ z => z.elim)
variable {Y : Fa P w K mg base k} {i : Y.I} {e ea eb eo ev tg iter elt : Expr} {es ifs : List Expr} {rest body : List Stmt} {Γ Γ' Γ1 Γ2 Δ Δ' As : List Slot} {a b c r s s' : Slot} {pos : Pos} {B : Bs} {D : Ends} {x f : Str} {p' : Pos} {C : Addr} {EX : ExT} {ex : Exn}
/-- e raises ex -/
def XXe (Y : Fa P w K mg base k) (e : Expr) (Γ : List Slot) (EX : ExT) (ex : Exn) : Prop :=
  ∃ t : TE, (∀ i, PE (Y.X i) e t) ∧ ∀ (B : Bs) (F H : Hp) (os : List Addr) (σ : List (Option V)) (Q : VK), In B F H os σ Γ →
    (∀ cls d F' H' fp, Same F F' → Same H H' → Wo B F' H' (fp ++ os) → EX ex cls d F' → Y.W cls d σ H') → t σ H Q
def XAe (Y : Fa P w K mg base k) (es : List Expr) (Γ : List Slot) (EX : ExT) (ex : Exn) : Prop :=
  ∃ t : TA, (∀ i, PA (Y.X i) es t) ∧ ∀ (B : Bs) (F H : Hp) (os : List Addr) (σ : List (Option V)) (Q : List V → Hp → Prop), In B F H os σ Γ →
    (∀ cls d F' H' fp, Same F F' → Same H H' → Wo B F' H' (fp ++ os) → EX ex cls d F' → Y.W cls d σ H') → t σ H Q
theorem pa_dum {i : Y.I} : PA (Y.X i) es (fun _ _ _ => False) := ⟨fun _ _ _ _ _ _ _ h => h.elim⟩
/-- f(e, ..) of a def that may raise -/
theorem x_callX {ι ρ : Type} {As : ι → List Slot} {m : ι → Option (Rx ρ)} {Sr : ρ → Slot} {args : List Slot} {z : ι} {q : ρ} {j : Nat} {f : Addr} {fd : FuncData} {ps : List Str} (Fn : FnOk P w K mg base (L2.CX P w) j f fd ps (spX As m Sr EX)) (hj : j ≤ k) (hm : mg x = some (.ref f)) (hk : PySem.W.keepIn K (.ref f) = true) (hb : Binds K fd ps [])
    (ha : XA Y (e :: es) Γ args) (hargs : args = As z) (hno : NoOwn args) (hq : m z = some (.ok q)) (hg : ∀ i, Gl (Y.X i) x := by intro _; rfl) (hdb : (x == ("__debug__" : Str)) = false := by decide)
    (he : ∀ i, starEach (e :: es) (Y.X i).env = (false, eval e (Y.X i).env) :: starEach es (Y.X i).env := by intro _; rfl) (hpl : ∀ i, (backTo pos (starEach es (Y.X i).env)).any (·.1) = false := by intro _; rfl) (hcm : Y.cm = true := by rfl) : XV Y (.Call (.Name x p') (e :: es) [] pos) Γ (Sr q) := by
  subst hargs
  obtain ⟨t, pa, rd⟩ := ha
  have FF : ∀ i, FnOk (Y.X i).prog (Y.X i).w (Y.X i).K (Y.X i).mg (Y.X i).base (L2.CX (Y.X i).prog (Y.X i).w) j f fd ps (spX As m Sr EX) := fun i => by rw [Y.hP i, Y.hw i, Y.hK i, Y.hM i, Y.hB i]; exact Fn
  refine ⟨_, fun i => pe_callS (FF i) ((Y.hR hcm i).mono hj) (hg i) (by rw [Y.hM i]; exact hm) (by rw [Y.hK i]; exact hk) (by rw [Y.hK i]; exact hb) (E := WE Y.W) (fun σ => passAt (Y.tk i) σ) (pa i) hdb (he i) (hpl i), fun B F H os σ Q I kk => ?_⟩
  refine rd B F H os σ _ I fun vs F1 H1 fp f1 e1 W1 S1 => ?_
  obtain rfl := hno.nil S1
  refine ⟨z, .ok q, F1, hq, W1.sub, S1, fun v F2 H2 fp W2 p2 => ?_, fun e he => by cases he⟩
  obtain ⟨f2, e2, W3⟩ := W1.called W2
  exact kk v F2 H2 fp (f1.trans f2) (e1.trans e2) W3 p2
theorem xx_call {ι ρ : Type} {As : ι → List Slot} {m : ι → Option (Rx ρ)} {Sr : ρ → Slot} {args : List Slot} {z : ι} {j : Nat} {f : Addr} {fd : FuncData} {ps : List Str} (Fn : FnOk P w K mg base (L2.CX P w) j f fd ps (spX As m Sr EX)) (hj : j ≤ k) (hm : mg x = some (.ref f)) (hk : PySem.W.keepIn K (.ref f) = true) (hb : Binds K fd ps [])
    (ha : XA Y (e :: es) Γ args) (hargs : args = As z) (hno : NoOwn args) (hq : m z = some (.ex ex)) (hg : ∀ i, Gl (Y.X i) x := by intro _; rfl) (hdb : (x == ("__debug__" : Str)) = false := by decide)
    (he : ∀ i, starEach (e :: es) (Y.X i).env = (false, eval e (Y.X i).env) :: starEach es (Y.X i).env := by intro _; rfl) (hpl : ∀ i, (backTo pos (starEach es (Y.X i).env)).any (·.1) = false := by intro _; rfl) (hcm : Y.cm = true := by rfl) : XXe Y (.Call (.Name x p') (e :: es) [] pos) Γ EX ex := by
  subst hargs
  obtain ⟨t, pa, rd⟩ := ha
  have FF : ∀ i, FnOk (Y.X i).prog (Y.X i).w (Y.X i).K (Y.X i).mg (Y.X i).base (L2.CX (Y.X i).prog (Y.X i).w) j f fd ps (spX As m Sr EX) := fun i => by rw [Y.hP i, Y.hw i, Y.hK i, Y.hM i, Y.hB i]; exact Fn
  refine ⟨_, fun i => pe_callS (FF i) ((Y.hR hcm i).mono hj) (hg i) (by rw [Y.hM i]; exact hm) (by rw [Y.hK i]; exact hk) (by rw [Y.hK i]; exact hb) (E := WE Y.W) (fun σ => passAt (Y.tk i) σ) (pa i) hdb (he i) (hpl i), fun B F H os σ Q I kk => ?_⟩
  refine rd B F H os σ _ I fun vs F1 H1 fp f1 e1 W1 S1 => ?_
  obtain rfl := hno.nil S1
  refine ⟨z, .ex ex, F1, hq, W1.sub, S1, fun v F2 H2 fp W2 p2 => p2.elim, fun e he cls d F2 H2 W2 hx => ?_⟩
  cases he
  obtain ⟨f2, e2, W3⟩ := W1.called W2
  exact kk cls d F2 H2 [] (f1.trans f2) (e1.trans e2) W3 hx
/-- an error within what is written -/
theorem xae_here (h : XXe Y e Γ EX ex) (hs : ∀ i, starEach (e :: es) (Y.X i).env = (false, eval e (Y.X i).env) :: starEach es (Y.X i).env := by intro _; rfl) : XAe Y (e :: es) Γ EX ex := by
  obtain ⟨t, p, rd⟩ := h
  exact ⟨_, fun i => pa_cons (p i) pa_dum (hs i), fun B F H os σ Q I kk => rd B F H os σ _ I kk⟩
theorem xae_next (h : XV Y e Γ a) (h2 : XAe Y es Γ EX ex) (hs : ∀ i, starEach (e :: es) (Y.X i).env = (false, eval e (Y.X i).env) :: starEach es (Y.X i).env := by intro _; rfl) : XAe Y (e :: es) Γ EX ex := by
  obtain ⟨t, p, rd⟩ := h
  obtain ⟨t2, p2, rd2⟩ := h2
  refine ⟨_, fun i => pa_cons (p i) (p2 i) (hs i), fun B F H os σ Q I kk => ?_⟩
  refine rd B F H os σ _ I fun v F1 H1 fp f1 e1 W1 p1 => ?_
  refine rd2 B F1 H1 _ σ _ (I.step f1 e1 W1) fun cls d F2 H2 fp2 f2 e2 W2 hx => ?_
  exact kk cls d F2 H2 (fp2 ++ fp) (f1.trans f2) (e1.trans e2) (by rw [List.append_assoc]; exact W2) hx
theorem xx_tup {n : Nat} (h : XAe Y es Γ EX ex) : XXe Y (.Tuple es n pos) Γ EX ex := by
  obtain ⟨t, p, rd⟩ := h
  exact ⟨_, fun i => pe_tup (p i), fun B F H os σ Q I kk => rd B F H os σ _ I kk⟩
theorem Wish.lift {Wx : WX} {B1 : Bs} (h : Wish Wx B Γ EX ex) (hB : ∀ F H os, Wo B1 F H os → Wo B F H os) : Wish Wx B1 Γ EX ex := fun cls d σ F H os I hx => h cls d σ F H os ⟨hB _ _ _ I.W, I.S⟩ hx
/-! statements whose head raises -/
theorem wish_now (hw : Wish Y.W B Γ EX ex) {F H : Hp} {os : List Addr} {σ : List (Option V)} (I : In B F H os σ Γ) : ∀ cls d F' H' fp, Same F F' → Same H H' → Wo B F' H' (fp ++ os) → EX ex cls d F' → Y.W cls d σ H' := fun cls d F' H' fp f e W hx => hw cls d σ F' H' _ (I.step f e W) hx
theorem go_retE (h : XXe Y e Γ EX ex) (hw : Wish Y.W B Γ EX ex) : Go Y i (.Return (some e) pos :: rest) D B Γ := by
  obtain ⟨t, p, rd⟩ := h
  refine go_ps (ps_ret (p i)) fun F H σ ⟨os, W, S⟩ => ?_
  exact rd B F H os σ _ (Sta.in W S) (wish_now hw (Sta.in W S))
theorem go_exprE (h : XXe Y e Γ EX ex) (hw : Wish Y.W B Γ EX ex) (hs : swapsWith e none pos.line (Y.X i).env = pure false := by rfl) : Go Y i (.Expr e pos :: rest) D B Γ := by
  obtain ⟨t, p, rd⟩ := h
  refine go_ps (ps_expr (p i) hs) fun F H σ ⟨os, W, S⟩ => ?_
  exact rd B F H os σ _ (Sta.in W S) (wish_now hw (Sta.in W S))
/-- raise e -/
def XMk (Y : Fa P w K mg base k) (e : Expr) (Γ : List Slot) (EX : ExT) (ex : Exn) : Prop :=
  ∃ t : L2.St → Hp → XK → Prop, (∀ i, PMk (Y.X i) e t) ∧ ∀ (B : Bs) (F H : Hp) (os : List Addr) (σ : List (Option V)) (Q : XK), In B F H os σ Γ →
    (∀ cls d F' H' fp, Same F F' → Same H H' → Wo B F' H' (fp ++ os) → EX ex cls d F' → Q cls d H') → t σ H Q
theorem go_raise (h : XMk Y e Γ EX ex) (hw : Wish Y.W B Γ EX ex) (hcm : Y.cm = true := by rfl) : Go Y i (.Raise (some e) none pos :: rest) D B Γ := by
  obtain ⟨t, p, rd⟩ := h
  refine go_ps (ps_raise ((Y.hC i).trans hcm) (Y.tk i) (p i)) fun F H σ ⟨os, W, S⟩ => ?_
  exact rd B F H os σ _ (Sta.in W S) (wish_now hw (Sta.in W S))
/-- X('text'), X an own class without own __init__ -/
theorem xm_own {bmB : List Value} {Bn newId initId : String} {m : Str} {j : Nat} {p2 : Pos} (F : ExcBaseFacts Bn newId initId bmB) (q : PySem.W.excIn K C bmB newId = true) (gC : mg x = some (.ref C)) (kC : PySem.W.keepIn K (.ref C) = true) (h1 : PySem.W.subIn K (.ref C) (.type "BaseException") = some true) (h2 : PySem.W.typeIn K (.ref C) = some (.type "type")) (hE : ∀ F, EX ex (.ref C) none F)
    (hg : ∀ i, Gl (Y.X i) x := by intro _; rfl) (hdb : (x == ("__debug__" : Str)) = false := by decide) : XMk Y (.Call (.Name x p') [.Constant (.str m) j p2] [] pos) Γ EX ex :=
  ⟨_, fun i => pmk_own F (by rw [Y.hK i]; exact q) (by rw [Y.hM i]; exact gC) (by rw [Y.hK i]; exact kC) (raises_own (by rw [Y.hK i]; exact h1) (by rw [Y.hK i]; exact h2)) (hg i) hdb,
    fun B F H os σ Q I kk => kk _ none F H [] same_refl same_refl I.W (hE F)⟩
end
end Ty

/-! Ty13 -/
namespace Ty
open PySem PySem.Spec L2
open PyProof.Rows
section
variable {P : Program} {w : World} {K : PySem.W.Frag} {mg : Str → Option Value} {base : Heap} {k : Nat}
/-- a try's body, its wish Wt -/
def Fa.tr (Y : Fa P w K mg base k) (Wt : WX) : Fa P w K mg base k where
  I := { q : Y.I × List (Addr × Obj) × (Value → Shared → Prop) // Takes ((Y.X q.1).tr q.2.1 q.2.2) Wt ∧ PassesOwn (model (Y.X q.1).prog (Y.X q.1).w) (Y.X q.1).A (Y.X q.1).env q.2.2 }
  X := fun j => (Y.X j.1.1).tr j.1.2.1 j.1.2.2
  hP := fun j => Y.hP j.1.1
  hw := fun j => Y.hw j.1.1
  hK := fun j => Y.hK j.1.1
  hM := fun j => Y.hM j.1.1
  hB := fun j => Y.hB j.1.1
  cm := Y.cm
  hC := fun j => Y.hC j.1.1
  hR := fun h j => Y.hR h j.1.1
  hU := fun j => Y.hU j.1.1
  W := Wt
  tk := fun j => j.2.1
  hN := fun j => Y.hN j.1.1
  hO := fun j => j.2.2
/-- an except suite: the exception at a -/
def Fa.suite (Y : Fa P w K mg base k) (a : Addr) (cls : Value) (d : Option Addr) : Fa P w K mg base k where
  I := { q : Y.I × Obj × List (Addr × Obj) // Zc cls d q.2.1 ∧ ∃ vs, q.2.1.data = .fields vs }
  X := fun j => (Y.X j.1.1).suite a ((a, j.1.2.1) :: j.1.2.2)
  hP := fun j => Y.hP j.1.1
  hw := fun j => Y.hw j.1.1
  hK := fun j => Y.hK j.1.1
  hM := fun j => Y.hM j.1.1
  hB := fun j => Y.hB j.1.1
  cm := false
  hC := fun _ => rfl
  hR := fun h => by cases h
  hU := fun j => Y.hU j.1.1
  W := fun _ _ _ _ => False
  tk := fun _ => takes0
  hN := fun j => Y.hN j.1.1
  hO := fun _ => PassesOwn.never
variable {Y : Fa P w K mg base k} {i : Y.I} {e ea eb eo ev tg iter elt : Expr} {es ifs : List Expr} {rest body suite : List Stmt} {b₀ : Stmt} {Γ Γ' Γ1 Γ2 Γh Δ Δ' As : List Slot} {a b c r s s' : Slot} {pos pos' np : Pos} {B : Bs} {D : Ends} {x n f : Str} {p' : Pos} {C : Addr} {EX : ExT} {ex : Exn}
/-- the exception that a suite holds -/
def pRef (a : Addr) : VP Unit := ⟨fun _ v _ => v = .ref a, fun _ h => h⟩
abbrev exS (a : Addr) : Slot := val (pRef a) ()
def tsC (Y : Fa P w K mg base k) (i : Y.I) (sts : List Stmt) : Addr → Value → Option Addr → TS := fun a cls d D σ H => ∀ (oe : Obj) (pn : List (Addr × Obj)), Zc cls d oe → (∃ vs, oe.data = .fields vs) → cont ((Y.X i).suite a ((a, oe) :: pn)) sts D σ H
def tbC (Y : Fa P w K mg base k) (i : Y.I) (sts : List Stmt) : WX → TS := fun Wt D σ H => ∀ (pn : List (Addr × Obj)) (xe : Value → Shared → Prop), Takes ((Y.X i).tr pn xe) Wt → PassesOwn (model (Y.X i).prog (Y.X i).w) (Y.X i).A (Y.X i).env xe → cont ((Y.X i).tr pn xe) sts D σ H
/-- the ends of a suite: the exception's name goes -/
def DS (D : Ends) (jn : Nat) : Ends := { nx := fun σ H => D.nx (σ.set jn none) H, rt := D.rt, bk := fun σ H => D.bk (σ.set jn none) H, ct := fun σ H => D.ct (σ.set jn none) H }
/-- a state read otherwise: what was frozen stays -/
theorem Sta.wkF {F H : Hp} {σ : L2.St} (S : Sta B F H σ Γ) (w : WkL Γ Γ') : ∃ F', Same F F' ∧ Sta B F' H σ Γ' := by
  obtain ⟨os, W, S1⟩ := S
  obtain ⟨x, y, e, kk⟩ := S1.wk W.sub w
  obtain ⟨F', W', hF, hx⟩ := (W.perm e).freeze
  exact ⟨F', hF, y, W', kk F' hF W'.sub hx⟩
/-- the error is caught: from there the suite -/
theorem wish_as {cv : Value} {jn : Nat} {sts : List Stmt} {Wout : WX} {Γd : List Slot} (hex : ∀ cls d F, EX ex cls d F → PySem.W.exmOne K cls cv = some true) (hw : WkL Γ Γd) (hj : Nat.blt jn Γd.length = true)
    (h : ∀ a cls d F, EX ex cls d F → ∃ p : VP Unit, p.R F (.ref a) () ∧ ∀ j : (Y.suite a cls d).I, j.1.1 = i → Go (Y.suite a cls d) j sts (DS D jn) B (Γd.set jn (val p ()))) : Wish (wAs K cv jn (tsC Y i sts) Wout D) B Γ EX ex := by
  rintro cls d σ F H os ⟨W, o2, r0, hp, S⟩ hx
  refine ⟨true, hex cls d F hx, fun _ a ha oe pn hz hf => ?_, fun z => by cases z⟩
  have S0 : Sta B F H σ Γ := ⟨o2, (W.perm hp).dropR, S⟩
  obtain ⟨F', hF, o3, W3, S3⟩ := S0.wkF hw
  obtain ⟨p, hpR, hgo⟩ := h a cls d F hx
  obtain ⟨o4, d4, S4, p4⟩ := S3.put (r := val p ()) (fp := []) (o := some (.ref a)) ⟨rfl, _, rfl, p.mono hF hpR⟩ (Nat.le_of_ble_eq_true hj)
  exact hgo ⟨(i, oe, pn), hz, hf⟩ rfl F' H _ ⟨o4, (W3.perm (by simpa using p4)).drop, S4⟩
theorem wish_as_no {cv : Value} {jn : Nat} {sts : List Stmt} {Wout : WX} (hex : ∀ cls d F, EX ex cls d F → PySem.W.exmOne K cls cv = some false) (h : Wish Wout B Γ EX ex) : Wish (wAs K cv jn (tsC Y i sts) Wout D) B Γ EX ex :=
  fun cls d σ F H os I hx => ⟨false, hex cls d F hx, (fun z => by cases z), fun _ => h cls d σ F H os I hx⟩
/-- an own class's name as a value -/
theorem x_cls (hm : mg x = some (.ref C)) (hg : ∀ i, Gl (Y.X i) x := by intro _; rfl) (hd : (x == ("__debug__" : Str)) = false := by decide) : XV Y (.Name x pos) Γ (val (pRef C) ()) :=
  x_glob (v := .ref C) hm rfl (fun _ => rfl) hg hd
end
end Ty

/-! Ty14 -/
namespace Ty
open PySem PySem.Spec L2
open PyProof.Rows
section
variable {P : Program} {w : World} {K : PySem.W.Frag} {mg : Str → Option Value} {base : Heap} {k : Nat}
variable {Y : Fa P w K mg base k} {i : Y.I} {e ea eb eo ev tg iter elt : Expr} {es ifs : List Expr} {rest body suite : List Stmt} {Γ Γ' As : List Slot} {a b c r s s' : Slot} {pos kpos : Pos} {B : Bs} {D : Ends} {x n f : Str} {p' : Pos} {C : Addr} {EX : ExT} {ex : Exn} {kws : List Keyword}
/-! ### keywords -/
def XK' (Y : Fa P w K mg base k) (kws : List Keyword) (Γ As : List Slot) : Prop :=
  ∃ t : TA, (∀ i, PK (Y.X i) kws t) ∧ ∀ (B : Bs) (F H : Hp) (os : List Addr) (σ : List (Option V)) (Q : List V → Hp → Prop), In B F H os σ Γ →
    (∀ vs F' H' fp, Same F F' → Same H H' → Wo B F' H' (fp ++ os) → Slots F' H' fp (vs.map some) As → Q vs H') → t σ H Q
/-- the positional values, then the keywords' in the order of the parameters -/
def gK (n m : Nat) : List Value → List Value → List Value := fun us ws => if us.length = n ∧ ws.length = m then us ++ ws else []
def gKV (n m : Nat) : List V → List V → List V := fun us ws => if us.length = n ∧ ws.length = m then us ++ ws else []
def tCallKS (na nb : Nat) (sp : Sp) (E : L2.St → XK) (t tk : TA) : TE := fun σ H Q => t σ H fun vs H1 => tk σ H1 fun zs H2 => sp (gKV na nb vs zs) H2 Q (E σ)
end
end Ty

/-! Ty15 -/
/-! set(xs) of a list of ints, sorted of it -/
namespace Ty
section
open PySem PySem.W PySem.Calls PySem.Spec L2 PyProof.Rows
variable {P : Program} {w : World} {A : Around} {E : Value → Shared → Prop} {s : Shared}
abbrev nSet (w : World) : Obj := { cls := .type "set", dict := none, data := .set #[] 0 (.fresh 0 0 (!w.params.followText "set-order")) }
end
end Ty

/-! Ty16 -/
namespace Ty
open PySem PySem.Spec L2
/-! ### ints in order, each once -/
def insD (k : Int) : List Int → List Int
  | [] => [k]
  | x :: r => if k < x then k :: x :: r else if k = x then x :: r else x :: insD k r
def sortD (xs : List Int) : List Int := xs.foldr insD []
section
variable {P : Program} {w : World} {K : PySem.W.Frag} {mg : Str → Option Value} {base : Heap} {k : Nat}
variable {Y : Fa P w K mg base k} {i : Y.I} {e ea eb eo ev tg iter elt : Expr} {Γ : List Slot} {s : Slot} {ns : List Int}
def rSetI (K : PySem.W.Frag) (w : World) : List V → Hp → VK → Prop := fun xs H Q => ∃ (l : Addr) (ns : List Int), xs = [.ref l] ∧ SqL K H l (ns.map V.int) ∧ ns.length < 64 ∧ ∀ p n, H p = none → n ≤ ns.length → Q (.ref p) (upd H p (SetO w p (fun j => decide (j ∈ ns)) n))
/-- a set of ints, owned -/
def setS (w : World) (ns : List Int) : Slot where
  P := fun F H fp o => ∃ a n, o = some (.ref a) ∧ fp = [a] ∧ H a = some (SetO w a (fun j => decide (j ∈ ns)) n) ∧ n < 64
  mono := fun _ hH h => let ⟨a, n, e1, e2, h1, h2⟩ := h; ⟨a, n, e1, e2, hH _ _ h1, h2⟩
  st := True
  mm := fun _ {_ _ _ _ _ _} _ hH h => let ⟨a, n, e1, e2, h1, h2⟩ := h; ⟨a, n, e1, e2, by rw [hH a (by rw [e2]; simp)]; exact h1, h2⟩
end
end Ty

/-! Ty17 -/
namespace Ty
open PySem PySem.Spec L2
section
variable {P : Program} {w : World} {K : PySem.W.Frag} {mg : Str → Option Value} {base : Heap} {k : Nat}
variable {Y : Fa P w K mg base k} {i : Y.I} {e ea eb eo ev tg iter elt : Expr} {Γ : List Slot} {s : Slot} {pos p1 p2 : Pos}
theorem exm_mk {C : Addr} {cls : Value} {b : Bool} (h1 : PySem.W.subIn K (.ref C) (.type "BaseException") = some true) (hi : PySem.W.isClsIn K C = true) (ht : PySem.W.typeIn K (.ref C) = some (.type "type")) (hs : PySem.W.subIn K cls (.ref C) = some b) : PySem.W.exmOne K cls (.ref C) = some b := by
  unfold PySem.W.isClsIn at hi
  unfold PySem.W.exmOne PySem.W.kitCls
  rw [h1]
  show (if ((PySem.W.clsIn K C).isSome && PySem.W.typeIn K (.ref C) == some (.type "type")) = true then PySem.W.subIn K cls (.ref C) else none) = some b
  rw [hi, ht, hs]; rfl
theorem kit_mk {C Dc : Addr} {b : Bool} (hne : (Value.ref Dc == Value.ref C) = false) (hi : PySem.W.isClsIn K C = true) (ht : PySem.W.typeIn K (.ref C) = some (.type "type")) (hs : PySem.W.subIn K (.ref Dc) (.ref C) = some b) : PySem.W.kitOne K (.ref Dc) (.ref C) = some b := by
  unfold PySem.W.isClsIn at hi
  unfold PySem.W.kitOne PySem.W.kitCls
  rw [hne]
  show (if ((PySem.W.clsIn K C).isSome && PySem.W.typeIn K (.ref C) == some (.type "type")) = true then PySem.W.subIn K (.ref Dc) (.ref C) else none) = some b
  rw [hi, ht, hs]; rfl
/-! ### list(range(..)), tuple(range(..)) -/
theorem paired_rg {F : Hp} (a b : Int) : Paired (pInt.R F) (rgV a b) (rangeL a b) := by
  unfold rgV rangeL
  generalize List.range (b - a).toNat = l
  induction l with
  | nil => exact .nil
  | cons x l ih => exact .cons rfl ih
theorem x_lstRg {n : Int} (h : XV Y e Γ (vInt n)) (hn : RgOk 0 n) (hm : mg "list" = none) (hm2 : mg "range" = none) (hg : ∀ i, Gl (Y.X i) "list" := by intro _; rfl) (hg2 : ∀ i, Gl (Y.X i) "range" := by intro _; rfl) (hcm : Y.cm = true := by rfl)
    (na : ∀ i, starEach [e] (Y.X i).env = (false, eval e (Y.X i).env) :: starEach [] (Y.X i).env := by intro _; rfl)
    (nb : ∀ i, starEach [.Call (.Name "range" p2) [e] [] p1] (Y.X i).env = (false, eval (.Call (.Name "range" p2) [e] [] p1) (Y.X i).env) :: starEach [] (Y.X i).env := by intro _; rfl) {p3 : Pos} : XV Y (.Call (.Name "list" p3) [.Call (.Name "range" p2) [e] [] p1] [] pos) Γ (own (oL pInt) (rangeL 0 n)) := by
  obtain ⟨t, pe, rd⟩ := h
  refine ⟨_, fun i => pe_listRg ((Y.hC i).trans hcm) (hg i) (by rw [Y.hM]; exact hm) (prg_1 (hg2 i) (by rw [Y.hM]; exact hm2) (pe i) (na i)) (nb i), fun B F H os σ Q I kk => ?_⟩
  refine rd B F H os σ _ I fun v F1 H1 fp f1 e1 W1 q1 => ?_
  obtain rfl := vint q1
  exact ⟨n, rfl, hn, fun l hl => newL W1.drop hl (paired_rg 0 n) fun v F' H' fp' f2 e2 => kk v F' H' fp' (f1.trans f2) (e1.trans e2)⟩
/-! ### values of any make -/
def pDa (K : PySem.W.Frag) : VP PyData := ⟨fun F v d => Dp K F v d, fun hF h => Dp.mono hF h⟩
theorem XV.data {α : Type} [DecidableEq α] {p : VP α} {ok : α → Prop} {u : α} (E : DE p ok) (h : XV Y e Γ (val p u)) : XV Y e Γ (val (pDa K) (E.enc u)) := h.as fun F H fp o _ ⟨e1, v, e2, r⟩ => ⟨e1, v, e2, E.dp K F v u r⟩
theorem dpAll_paired {F : Hp} : ∀ {vs : List V} {ds : List PyData}, Paired ((pDa K).R F) vs ds → DpAll K F vs ds
  | _, _, .nil => .nil
  | _, _, .cons r t => .cons r (dpAll_paired t)
theorem paired_dpAll {F : Hp} : ∀ {vs : List V} {ds : List PyData}, DpAll K F vs ds → Paired ((pDa K).R F) vs ds
  | _, _, .nil => .nil
  | _, _, .cons r t => .cons r (paired_dpAll t)
/-- an item of such a list -/
def pdIx : PyData → Int → Option PyData
  | .list ds, z => atI ds z
  | _, _ => none
def pdLen : PyData → Option Int
  | .list ds => some (ds.length : Int)
  | _ => none
theorem SV.data {ds : List PyData} : SV K (Ty.val (pDa K) (.list ds)) (pDa K) ds := fun F H fp o hS h => by
  obtain ⟨_, v, e, r⟩ := h
  cases (show Dp K F v (.list ds) from r) with
  | lst h1 h2 => exact ⟨_, _, e, Same.seq hS h1, paired_dpAll h2⟩
theorem x_ixD {d u : PyData} {z : Int} (ha : XV Y ea Γ (val (pDa K) d)) (hb : XV Y eb Γ (vInt z)) (hz : pdIx d z = some u) (hx : PlainIx eb := by exact fun _ _ => rfl) : XV Y (.Subscript ea eb pos) Γ (val (pDa K) u) := by
  cases d with
  | list ds => exact x_ix ha SV.data hb hz hx
  | _ => cases hz
theorem o_eqP {a b : Slot} {u v : PyData} (ha : Vw a (pDa K) u) (hb : Vw b (pDa K) v) (h1 : SeqAt.shaped u = true) (h2 : SeqAt.shaped v = true) : Op2 (rEqD K) a b (vBl (PyData.eqv u v)) := fun B F H x y fx fy os Q W p1 p2 q => by
  obtain ⟨x', ex, rx⟩ := ha F H fx _ W.sub p1
  obtain ⟨y', ey, ry⟩ := hb F H fy _ W.sub p2
  cases ex; cases ey
  exact ⟨u, v, rx, ry, h1, h2, q _ F H [] same_refl same_refl W.drop.drop ⟨rfl, _, rfl, rfl⟩⟩
/-- what isinstance(d, list) says -/
def pdTy : PyData → Option String
  | .none => some "NoneType"
  | .bool _ => some "bool"
  | .int _ => some "int"
  | .str _ => some "str"
  | .list _ => some "list"
  | .tuple _ => some "tuple"
  | _ => none
theorem TyV.data {d : PyData} {T : String} (h : pdTy d = some T) : TyV K (Ty.val (pDa K) d) T := fun F H fp o hS hp => by
  obtain ⟨_, v, e, r⟩ := hp
  refine ⟨v, e, ?_⟩
  have r2 : Dp K H v d := Dp.mono hS r
  cases r2 with
  | non => cases h; exact .base .non
  | bl b => cases h; exact .base (.bl b)
  | int b => cases h; exact .base (.int b)
  | str b => cases h; exact .base (.str b)
  | lst h1 h2 =>
    cases h
    rcases h1 with (h1 | ⟨o, h1⟩) | ⟨o, its, n, h1, h3, _⟩
    · exact .base (.lst h1)
    · exact .base (.frz h1)
    · exact .kList h1 h3
  | tup h1 h2 =>
    cases h
    rcases h1 with (h1 | ⟨o, h1⟩) | ⟨o, its, n, h1, h3, _⟩
    · exact .base (.tup h1)
    · exact .fTuple h1
    · exact .kTuple h1 h3
end
end Ty

/-! Ty19a -/
namespace Ty
open PySem PySem.Spec L2
open PyProof.Rows
/-! ### what the __init__ of an error with fields promises -/
def XF.ok : XF → Prop
  | .i n => n.natAbs < 2 ^ 64
  | .s x => x.length ≤ 1000
instance (f : XF) : Decidable f.ok := by unfold XF.ok; cases f <;> infer_instance
/-- the dict of such an error -/
abbrev xfd (ns : List Str) (fs : List XF) : List (Str × V) := (ns.zip (fs.map XF.v)).reverse
def spE (C : Addr) (ns : List Str) : Sp := fun vs H Q _ => ∃ (a : Addr) (fs : List XF), vs = .ref a :: fs.map XF.v ∧ fs.length = ns.length ∧ (∀ f ∈ fs, f.ok) ∧ H a = some (exo a C none) ∧
  ∀ dx, H dx = none → dx ≠ a → Q .non (upd (upd H dx (exd dx (xfd ns fs))) a (exo a C (some dx)))
theorem spE_len {C : Addr} {ns : List Str} : ∀ vs H Q E, spE C ns vs H Q E → vs.length = (("self" : Str) :: ns).length := fun vs H Q E h => by
  obtain ⟨a, fs, rfl, hl, _⟩ := h
  simp [hl]
/-- a part of the message f'..': a constant, or a field's value -/
inductive FP (ns : List Str) : Expr → Prop
  | c {t : Str} {j : Nat} {p : Pos} (h : Nat.ble t.length 1000 = true) : FP ns (.Constant (.str t) j p)
  | v {x : Str} {p q : Pos} (i : Nat) (h : ns[i]? = some x) (h1 : (x == ("__debug__" : Str)) = false) (h2 : (x == ("__classdict__" : Str)) = false) : FP ns (.FormattedValue (.Name x p) (-1) none q)
inductive FPs (ns : List Str) : List Expr → Prop
  | nil : FPs ns []
  | cons {e : Expr} {es : List Expr} : FP ns e → FPs ns es → FPs ns (e :: es)
theorem log_small {n : Int} (h : n.natAbs < 2 ^ 64) : n.natAbs.log2 < 64 := by
  by_cases e : n.natAbs = 0
  · rw [e]; decide
  · exact (Nat.log2_lt e).mpr h
theorem int_text {n : Int} (h : n.natAbs < 2 ^ 64) : (Str.ofString (toString n)).length ≤ 1000 := by
  have e := int_text_length_le (k := 64) (by decide) (log_small h)
  rw [PySem.ofString_length]; omega
theorem str_app_len (x y : Str) : (x ++ y).length = x.length + y.length := by
  show (x.cps ++ y.cps).size = _
  rw [Array.size_append]; rfl
section
variable {X : Cx} {ns : List Str} {fs : List XF} {sc : Scope}
/-- the frame holds the fields -/
def Hd (fs : List XF) (σ : L2.St) : Prop := ∀ (i : Nat) (f : XF), fs[i]? = some f → σ[i + 1]? = some (some f.v)
theorem fp_run (hN : X.N = ("self" : Str) :: ns) (hv : ∀ x ∈ ns, Vis X.env.scope x) (hl : fs.length = ns.length) (hok : ∀ f ∈ fs, f.ok) {e : Expr} (h : FP ns e) : ∃ t, PE X e t ∧ ∀ (σ : L2.St) (H : Hp) (Q : VK), Hd fs σ → (∀ y : Str, y.length ≤ 1000 → Q (.str y) H) → t σ H Q := by
  cases h with
  | c h => exact ⟨_, pe_str, fun σ H Q _ k => k _ (Nat.le_of_ble_eq_true h)⟩
  | @v x p q i h h1 h2 =>
    refine ⟨_, pe_fmt (pe_var (i := i + 1) (by rw [hN]; simpa using h) (hv x (List.mem_of_getElem? h)) h1 h2), fun σ H Q hd k => ?_⟩
    have hi : i < fs.length := by rw [hl]; exact (List.getElem?_eq_some_iff.mp h).1
    have hf : fs[i]? = some fs[i] := List.getElem?_eq_getElem hi
    have ho := hok _ (List.mem_of_getElem? hf)
    refine ⟨_, hd i _ hf, ?_⟩
    cases hx : fs[i] with
    | i n =>
      rw [hx] at ho
      exact .inr ⟨n, rfl, Nat.lt_trans (log_small ho) (by decide), k _ (int_text ho)⟩
    | s y =>
      rw [hx] at ho
      exact .inl ⟨y, rfl, Nat.le_trans ho (by rw [sizeLine_eq]; decide), k _ ho⟩
theorem fps_run (hN : X.N = ("self" : Str) :: ns) (hv : ∀ x ∈ ns, Vis X.env.scope x) (hl : fs.length = ns.length) (hok : ∀ f ∈ fs, f.ok) {es : List Expr} (h : FPs ns es) : ∃ ts, PJ X es ts ∧ ∀ (acc : Str) (σ : L2.St) (H : Hp) (Q : Str → Hp → Prop), Hd fs σ → acc.length + 1000 * es.length ≤ sizeLine → (∀ out, Q out H) → tJs ts acc σ H Q := by
  induction h with
  | nil => exact ⟨[], .nil, fun acc σ H Q _ _ k => k acc⟩
  | @cons e es h r ih =>
    obtain ⟨t, ht, kt⟩ := fp_run hN hv hl hok h
    obtain ⟨ts, hts, kts⟩ := ih
    refine ⟨t :: ts, .cons ht hts, fun acc σ H Q hd hz k => kt σ H _ hd fun y hy => ?_⟩
    have e1 := str_app_len acc y
    rw [List.length_cons] at hz
    exact ⟨y, rfl, by omega, kts _ σ H Q hd (by omega) k⟩
end
section
variable {P : Program} {w : World} {K : PySem.W.Frag} {mg : Str → Option Value} {base : Heap}
/-- what must be seen of self.f = f -/
def AsOk (qual : Str) (sc : Scope) (f : Str) (r0 r1 r2 r3 : Pos) : Prop := ∀ L g cd cc, swapsWith (.Name f r2) (some (.Attribute (.Name "self" r0) f r1)) r3.line (enS qual sc L g cd cc) = pure false
theorem hd_start {ns : List Str} {fs : List XF} {a : Addr} : Hd fs (L2.start ("self" :: ns) (.ref a :: fs.map XF.v)) := fun i f h => by
  unfold L2.start
  have hi : i < fs.length := (List.getElem?_eq_some_iff.mp h).1
  rw [List.getElem?_append_left (by simpa using hi)]
  simp [h]
theorem ex1_of {k : Nat} {f C : Addr} {x qual : Str} {st : Stmt} {fd : FuncData} {n1 : Str} {v1 v2 : Expr} {vr : List Expr} {q p0 p1 p2 p3 p4 a0 a1 a2 a3 : Pos} {ar : Arg}
    (Fn : FunS K P x qual st f fd C) (S : ScS ["self", n1] (defScope st)) (U : SupC K P mg C) (O : OexC K C) (hno : PySem.W.findIn K (.ref C) n1 = some none)
    (hb : defBody st = .Expr (.Call (.Attribute (.Call (.Name "super" p0) [] [] p1) "__init__" p2) [.JoinedStr (v1 :: v2 :: vr) q] [] p3) p4 :: [.Assign [.Attribute (.Name "self" a0) n1 a1] (.Name n1 a2) a3])
    (TX : TxS qual (defScope st) (.JoinedStr (v1 :: v2 :: vr) q) p0 p1 p2 p3 p4) (har : ((defArgs st).posonlyargs ++ (defArgs st).args).head? = some ar) (hself : ar.arg = "self")
    (hp : FPs [n1] (v1 :: v2 :: vr)) (hlen : Nat.ble (v1 :: v2 :: vr).length 8 = true) (as1 : AsOk qual (defScope st) n1 a0 a1 a2 a3) (g1 : (n1 == ("__debug__" : Str)) = false) (g2 : (n1 == ("__classdict__" : Str)) = false) :
    FnOk P w K mg base CX0 (k + 1) f fd ["self", n1] (spE C [n1]) := by
  refine fnS_of Fn S U O hb TX har (by rw [hself]; rfl) spE_len fun cda cc A outer s H vs Q E h => ?_
  obtain ⟨a, fs, rfl, hl, hok, ha, hq⟩ := h
  have hv : ∀ x ∈ [n1], Vis (defScope st) x := fun y hy => .inl (S.par y (List.mem_cons_of_mem _ hy))
  obtain ⟨ts, hts, kts⟩ := fps_run (X := cxS P w K mg base ["self", n1] qual (defScope st) f (.ref cda) cc A outer s H) (ns := [n1]) rfl hv hl hok hp
  match fs, hl with
  | [f1], _ =>
    have hps := pss_one (ps_ost (X := cxS P w K mg base ["self", n1] qual (defScope st) f (.ref cda) cc A outer s H) (o := .Name "self" a0) (p' := a1) (f := n1) (e := .Name n1 a2) (pos := a3) (pe_var (i := 0) rfl (.inl (S.par _ List.mem_cons_self)) (by decide) (by decide)) (pe_var (i := 1) rfl (hv n1 List.mem_cons_self) g1 g2) (as1 ..))
    refine ⟨a, [f1.v], _, _, rfl, ha, pa_cons (pe_joined hts) pa_nil (TX.st ..), kts _ _ _ _ hd_start ?_ (fun out => ⟨rfl, Nat.le_of_ble_eq_true rfl⟩), hps, ?_⟩
    · have := Nat.le_of_ble_eq_true hlen
      rw [sizeLine_eq]
      show 0 + _ ≤ _
      omega
    exact ⟨f1.v, rfl, .ref a, rfl, a, C, rfl, O, hno, .inl ⟨ha, fun dx hd hda => hq dx hd hda⟩⟩
theorem upd_twice {H : Hp} {a dx : Addr} {o o' u : HO} (h : dx ≠ a) : upd (upd (upd H dx o) a u) dx o' = upd (upd H dx o') a u := funext fun b => by
  by_cases h1 : b = dx
  · subst h1; rw [upd_same, upd_ne h, upd_same]
  · rw [upd_ne h1]
    by_cases h2 : b = a
    · subst h2; rw [upd_same, upd_same]
    · rw [upd_ne h2, upd_ne h2, upd_ne h1, upd_ne h1]
theorem ex2_of {k : Nat} {f C : Addr} {x qual : Str} {st : Stmt} {fd : FuncData} {n1 n2 : Str} {v1 v2 : Expr} {vr : List Expr} {q p0 p1 p2 p3 p4 a0 a1 a2 a3 b0 b1 b2 b3 : Pos} {ar : Arg}
    (Fn : FunS K P x qual st f fd C) (S : ScS ["self", n1, n2] (defScope st)) (U : SupC K P mg C) (O : OexC K C) (hno : PySem.W.findIn K (.ref C) n1 = some none) (hno2 : PySem.W.findIn K (.ref C) n2 = some none)
    (hb : defBody st = .Expr (.Call (.Attribute (.Call (.Name "super" p0) [] [] p1) "__init__" p2) [.JoinedStr (v1 :: v2 :: vr) q] [] p3) p4 :: [.Assign [.Attribute (.Name "self" a0) n1 a1] (.Name n1 a2) a3, .Assign [.Attribute (.Name "self" b0) n2 b1] (.Name n2 b2) b3])
    (TX : TxS qual (defScope st) (.JoinedStr (v1 :: v2 :: vr) q) p0 p1 p2 p3 p4) (har : ((defArgs st).posonlyargs ++ (defArgs st).args).head? = some ar) (hself : ar.arg = "self")
    (hp : FPs [n1, n2] (v1 :: v2 :: vr)) (hlen : Nat.ble (v1 :: v2 :: vr).length 8 = true) (as1 : AsOk qual (defScope st) n1 a0 a1 a2 a3) (as2 : AsOk qual (defScope st) n2 b0 b1 b2 b3)
    (g1 : (n1 == ("__debug__" : Str)) = false) (g2 : (n1 == ("__classdict__" : Str)) = false) (g3 : (n2 == ("__debug__" : Str)) = false) (g4 : (n2 == ("__classdict__" : Str)) = false) :
    FnOk P w K mg base CX0 (k + 1) f fd ["self", n1, n2] (spE C [n1, n2]) := by
  refine fnS_of Fn S U O hb TX har (by rw [hself]; rfl) spE_len fun cda cc A outer s H vs Q E h => ?_
  obtain ⟨a, fs, rfl, hl, hok, ha, hq⟩ := h
  have hv : ∀ x ∈ [n1, n2], Vis (defScope st) x := fun y hy => .inl (S.par y (List.mem_cons_of_mem _ hy))
  obtain ⟨ts, hts, kts⟩ := fps_run (X := cxS P w K mg base ["self", n1, n2] qual (defScope st) f (.ref cda) cc A outer s H) (ns := [n1, n2]) rfl hv hl hok hp
  match fs, hl with
  | [f1, f2], _ =>
    have hps := pss_cons (ps_ost (X := cxS P w K mg base ["self", n1, n2] qual (defScope st) f (.ref cda) cc A outer s H) (o := .Name "self" a0) (p' := a1) (f := n1) (e := .Name n1 a2) (pos := a3) (pe_var (i := 0) rfl (.inl (S.par _ List.mem_cons_self)) (by decide) (by decide)) (pe_var (i := 1) rfl (hv n1 List.mem_cons_self) g1 g2) (as1 ..))
      (pss_one (ps_ost (X := cxS P w K mg base ["self", n1, n2] qual (defScope st) f (.ref cda) cc A outer s H) (o := .Name "self" b0) (p' := b1) (f := n2) (e := .Name n2 b2) (pos := b3) (pe_var (i := 0) rfl (.inl (S.par _ List.mem_cons_self)) (by decide) (by decide)) (pe_var (i := 2) rfl (hv n2 (List.mem_cons_of_mem _ List.mem_cons_self)) g3 g4) (as2 ..)))
    refine ⟨a, [f1.v, f2.v], _, _, rfl, ha, pa_cons (pe_joined hts) pa_nil (TX.st ..), kts _ _ _ _ hd_start ?_ (fun out => ⟨rfl, Nat.le_of_ble_eq_true rfl⟩), hps, ?_⟩
    · have := Nat.le_of_ble_eq_true hlen
      rw [sizeLine_eq]
      show 0 + _ ≤ _
      omega
    refine ⟨f1.v, rfl, .ref a, rfl, a, C, rfl, O, hno, .inl ⟨ha, fun dx hd hda => ?_⟩⟩
    refine ⟨f2.v, rfl, .ref a, rfl, a, C, rfl, O, hno2, .inr ⟨dx, [(n1, f1.v)], upd_same, by rw [upd_ne hda, upd_same], by simp, ?_⟩⟩
    have z := hq dx hd hda
    show Q .non _
    rw [upd_twice hda]
    exact z
end
end Ty

/-! Ty19 -/
namespace Ty
open PySem PySem.Spec L2
open PyProof.Rows
def XF.slot : XF → Slot
  | .i n => vInt n
  | .s x => vStr x
theorem XF.of_slot {F H : Hp} : ∀ {fs : List XF} {fp : List Addr} {vs : List V}, Slots F H fp (vs.map some) (fs.map XF.slot) → vs = fs.map XF.v ∧ fp = []
  | [], _, [], S => by cases S; exact ⟨rfl, rfl⟩
  | [], _, _ :: _, S => by have e := S.length; simp at e
  | _ :: _, _, [], S => by have e := S.length; simp at e
  | f :: fs, _, v :: vs, S => by
    obtain ⟨f1, f2, rfl, h1, h2⟩ := S.cons_inv
    obtain ⟨rfl, rfl⟩ := XF.of_slot h2
    cases f with
    | i n =>
      obtain ⟨rfl, w, e, r⟩ := h1
      cases e; cases r; exact ⟨rfl, rfl⟩
    | s n =>
      obtain ⟨rfl, w, e, r⟩ := h1
      cases e; cases r; exact ⟨rfl, rfl⟩
/-- an error of the class at C with these fields: how it is told -/
def exFd (C : Addr) (ns : List Str) (e : Exn) (cls : Value) (d : Option Addr) (F : Hp) : Prop := cls = .ref C ∧ ∃ dd, d = some dd ∧ F dd = some (.xd (xfd ns e.2))
section
variable {P : Program} {w : World} {K : PySem.W.Frag} {mg : Str → Option Value} {base : Heap} {k : Nat}
variable {Y : Fa P w K mg base k} {i : Y.I} {e ea eb eo ev tg iter elt : Expr} {es ifs : List Expr} {rest body suite : List Stmt} {b₀ : Stmt} {Γ Γ' Γ1 Γ2 Γh Δ Δ' As : List Slot} {a b c r s s' : Slot} {pos pos' np : Pos} {B : Bs} {D : Ends} {x n f : Str} {p' : Pos} {C : Addr} {EX : ExT} {ex : Exn}
/-- raise C(e, ..), C an error with fields -/
theorem xm_init {ns : List Str} {fs : List XF} {args : List Slot} {fI : Addr} {fd : FuncData} {j : Nat} (O : OexC K C) (iC : PySem.W.findIn K (.ref C) "__init__" = some (some (.ref fI))) (tI : PySem.W.typeIn K (.ref fI) = some (.type "function"))
    (Fn : FnOk P w K mg base CX0 j fI fd ("self" :: ns) (spE C ns)) (hj : j + 1 ≤ k) (hb : Binds K fd ("self" :: ns) []) (hm : mg x = some (.ref C)) (ha : XA Y (e :: es) Γ args) (hargs : args = fs.map XF.slot) (hl : fs.length = ns.length) (hok : ∀ f ∈ fs, f.ok)
    (hE : ∀ dd F, F dd = some (.xd (xfd ns fs)) → EX ex (.ref C) (some dd) F)
    (hg : ∀ i, Gl (Y.X i) x := by intro _; rfl) (hdb : (x == ("__debug__" : Str)) = false := by decide) (hnl : Nat.blt ns.length 900 = true := by rfl)
    (he : ∀ i, starEach (e :: es) (Y.X i).env = (false, eval e (Y.X i).env) :: starEach es (Y.X i).env := by intro _; rfl) (hpl : ∀ i, (backTo pos (starEach es (Y.X i).env)).any (·.1) = false := by intro _; rfl) (hcm : Y.cm = true := by rfl) : XMk Y (.Call (.Name x p') (e :: es) [] pos) Γ EX ex := by
  subst hargs
  obtain ⟨t, pa, rd⟩ := ha
  have FF : ∀ i, FnOk (Y.X i).prog (Y.X i).w (Y.X i).K (Y.X i).mg (Y.X i).base CX0 j fI fd ("self" :: ns) (spE C ns) := fun i => by rw [Y.hP i, Y.hw i, Y.hK i, Y.hM i, Y.hB i]; exact Fn
  refine ⟨_, fun i => pmk_oex (by rw [Y.hK i]; exact O) (by rw [Y.hK i]; exact iC) (by rw [Y.hK i]; exact tI) (FF i) ((Y.hR hcm i).mono hj) (by rw [Y.hK i]; exact hb) .nil pass0 (hg i) (by rw [Y.hM i]; exact hm) (pa i) hdb (he i) (hpl i), fun B F H os σ Q I kk => ?_⟩
  refine rd B F H os σ _ I fun vs F1 H1 fp f1 e1 W1 S1 => ?_
  obtain ⟨rfl, rfl⟩ := XF.of_slot S1
  have hlen : (fs.map XF.v).length ≤ 1000 := by
    have := Nat.le_of_ble_eq_true hnl
    rw [List.length_map]; omega
  refine ⟨hlen, fun a hn => ?_⟩
  refine ⟨a, fs, by rw [List.append_nil], hl, hok, upd_same, fun dx hd hda => ⟨rfl, dx, xfd ns fs, upd_same, by rw [upd_ne hda, upd_same], by rw [upd_ne hda] at hd; exact hd, ?_⟩⟩
  have hd1 : H1 dx = none := by rw [upd_ne hda] at hd; exact hd
  have eq : upd (del (upd (upd (upd H1 a (exo a C none)) dx (exd dx (xfd ns fs))) a (exo a C (some dx))) a) dx (.xd (xfd ns fs)) = upd H1 dx (.xd (xfd ns fs)) := funext fun b => by
    by_cases h1 : b = dx
    · subst h1; rw [upd_same, upd_same]
    · rw [upd_ne h1, upd_ne h1]
      by_cases h2 : b = a
      · subst h2; rw [del_same]; exact hn.symm
      · rw [del_ne h2, upd_ne h2, upd_ne h1, upd_ne h2]
  rw [eq]
  have W2 := W1.newF (o := .xd (xfd ns fs)) hd1
  exact kk _ _ _ _ [] (f1.trans (same_upd (W1.free hd1).1)) (e1.trans (same_upd hd1)) W2 (hE dx _ upd_same)
/-- what a suite holds: an error with a dict -/
def pExc (a dd : Addr) (fs : List (Str × V)) : VP Unit := ⟨fun F v _ => v = .ref a ∧ F dd = some (.xd fs), fun hF h => ⟨h.1, hF _ _ h.2⟩⟩
/-- n.f in the suite -/
theorem x_efld {α : Type} {p : VP α} {u : α} {ad dd : Addr} {fs : List (Str × V)} {v : V} (T : XfC K C) (hno : PySem.W.findIn K (.ref C) n = some none) (h1 : XV (Y.suite ad (.ref C) (some dd)) e Γ (val (pExc ad dd fs) ())) (hl : fs.lookup n = some v) (hp : ∀ F, p.R F v u)
    (hb : ∀ i, attributeBase e n ((Y.suite ad (.ref C) (some dd)).X i).env (eval e ((Y.suite ad (.ref C) (some dd)).X i).env) = eval e ((Y.suite ad (.ref C) (some dd)).X i).env := by intro _; rfl) : XV (Y.suite ad (.ref C) (some dd)) (.Attribute e n pos) Γ (val p u) := by
  obtain ⟨t, pe, rd⟩ := h1
  refine ⟨_, fun j => pe_xf (X := Y.X j.1.1) (a := ad) (cls := .ref C) (d := some dd) (oe := j.1.2.1) (pn := j.1.2.2) (by rw [Y.hK]; exact T) (by rw [Y.hK]; exact hno) j.2.1 j.2.2 (pe j) (hb j), fun B F H os σ Q I kk => ?_⟩
  refine rd B F H os σ _ I fun x F1 H1 fp f1 e1 W1 p1 => ?_
  obtain ⟨rfl, r1, r2⟩ := val_P p1
  exact ⟨r1, rfl, dd, fs, v, rfl, W1.sub _ _ r2, hl, kk v F1 H1 [] f1 e1 W1.drop ⟨rfl, v, rfl, hp F1⟩⟩
/-- isinstance(n, c) in the suite, n with a dict -/
def rIsD (K : PySem.W.Frag) (Dc a dd : Addr) : List V → Hp → VK → Prop := fun xs H Q => ∃ (c : V) (cv : Value) (b : Bool) (fs : List (Str × V)), xs = [.ref a, c] ∧ (∀ u, RelV c u → u = cv) ∧ PySem.W.kitOne K (.ref Dc) cv = some b ∧ H dd = some (.xd fs) ∧ Q (.bl b) H
theorem call_isD {X : Cx} {a Dc dd : Addr} {oe : Obj} {pn : List (Addr × Obj)} (T : ExcC X.K Dc) (hz : Zc (.ref Dc) (some dd) oe) (hf : ∃ vs, oe.data = .fields vs) : CallR (X.suite a ((a, oe) :: pn)) (.builtin "isinstance") (rIsD X.K Dc a dd) := by
  intro pins s σ H xs us Q I r h
  obtain ⟨c, cv, b, fs, rfl, hcv, e, hdd, q⟩ := h
  match us, r with
  | [_, _], .cons rx (.cons rt .nil) =>
    cases rx
    have ec := hcv _ rt
    subst ec
    obtain ⟨hget, _⟩ := I.pin (a, oe) (List.mem_append.mpr (.inl List.mem_cons_self))
    obtain ⟨vs, hv⟩ := hf
    have hx : ObjOk X.prog X.w H s.heap dd (.xd fs) := I.hok dd _ hdd
    obtain ⟨mA, hns, _⟩ := hx
    obtain ⟨od, ho, _⟩ := lookIn_ns hns
    have J : PySem.W.InstAt s.heap a oe Dc (some od) := ⟨hget, hz.1, by unfold PySem.W.notCls; rw [hv] <;> rfl, by rw [hz.2]; exact ho⟩
    have hcl : (PySem.W.clsIn X.K Dc).isSome = true := by
      have z := T.hd
      unfold PySem.W.hasDictIn at z
      cases hq : PySem.W.clsIn X.K Dc with
      | none => rw [hq] at z; simp at z
      | some _ => rfl
    exact PySem.W.kia_one (PySem.W.kitx_exc hcl T.hg T.hk T.hs T.ha T.hn T.ht T.hm) I.kIn J e (fun z => nomatch z) fun tk => ⟨.bl b, H, I.kept (t' := tk) fun _ _ z => z, rfl, q⟩
theorem x_isED {ad dd Dc : Addr} {fs : List (Str × V)} {α : Type} {q : VP α} {u : α} {cv : Value} {b : Bool} (hm : mg "isinstance" = none) (hE : ExcC K Dc) (hk : PySem.W.kitOne K (.ref Dc) cv = some b) (h1 : XV (Y.suite ad (.ref Dc) (some dd)) ea Γ (val (pExc ad dd fs) ())) (h2 : XV (Y.suite ad (.ref Dc) (some dd)) eb Γ (val q u)) (hq : ∀ F v, q.R F v u → ∀ z, RelV v z → z = cv)
    (hg : ∀ i, Gl ((Y.suite ad (.ref Dc) (some dd)).X i) "isinstance" := by intro _; rfl)
    (hs2 : ∀ i, starEach [eb] ((Y.suite ad (.ref Dc) (some dd)).X i).env = (false, eval eb ((Y.suite ad (.ref Dc) (some dd)).X i).env) :: starEach [] ((Y.suite ad (.ref Dc) (some dd)).X i).env := by intro _; rfl)
    (hs : ∀ i, starEach [ea, eb] ((Y.suite ad (.ref Dc) (some dd)).X i).env = (false, eval ea ((Y.suite ad (.ref Dc) (some dd)).X i).env) :: starEach [eb] ((Y.suite ad (.ref Dc) (some dd)).X i).env := by intro _; rfl)
    (hpl : ∀ i, (backTo pos (starEach [eb] ((Y.suite ad (.ref Dc) (some dd)).X i).env)).any (·.1) = false := by intro _; rfl) : XV (Y.suite ad (.ref Dc) (some dd)) (.Call (.Name "isinstance" p') [ea, eb] [] pos) Γ (vBl b) := by
  have hc : ∀ j, CallR ((Y.suite ad (.ref Dc) (some dd)).X j) (.builtin "isinstance") (rIsD K Dc ad dd) := fun j => by
    have h := call_isD (X := Y.X j.1.1) (a := ad) (Dc := Dc) (dd := dd) (pn := j.1.2.2) (by rw [Y.hK]; exact hE) j.2.1 j.2.2
    rw [Y.hK] at h
    exact h
  refine x_callB hc hm (by decide +kernel) (c := vBl b) (opA2 fun B F H x y fx fy os Q W p1 p2 kk => ?_) (xa2 h1 h2 hs2 hs) hg (he := hs) (hpl := hpl)
  obtain ⟨_, r1, r3⟩ := val_P p1
  obtain ⟨_, r2⟩ := val_P p2
  cases r1
  exact ⟨y, cv, b, fs, rfl, hq F y r2, hk, W.sub _ _ r3, kk _ F H [] same_refl same_refl W.drop.drop ⟨rfl, _, rfl, rfl⟩⟩
theorem pRef_is {C : Addr} : ∀ (F : Hp) v, (pRef C).R F v () → ∀ z, RelV v z → z = .ref C := fun F v h z r => by cases h; exact r
end
end Ty

/-! Ty20 -/
/-! expressions that change a place: xs.pop(), xs.pop(i); xs.extend(ys), xs.index(x); an owned local handed on; properties -/
namespace Ty
open PySem PySem.Spec L2
section
variable {P : Program} {w : World} {K : PySem.W.Frag} {mg : Str → Option Value} {base : Heap} {k : Nat}
variable {Y : Fa P w K mg base k} {i : Y.I} {e ea eb eo ev tg iter elt : Expr} {es ifs : List Expr} {rest body : List Stmt} {Γ Γ' Γ1 Γ2 Δ Δ' As : List Slot} {a b c r s s' : Slot} {pos pos' : Pos} {B : Bs} {D : Ends} {x f : Str} {p' : Pos} {C : Addr} {ns : List Str} {α : Type} {p : VP α} {xs : List α}
/-- e gives a value told by r and leads from Γ to Γ' -/
def XM (Y : Fa P w K mg base k) (e : Expr) (Γ : List Slot) (r : Slot) (Γ' : List Slot) : Prop :=
  ∃ t : TE, (∀ i, PE (Y.X i) e t) ∧ ∀ (B : Bs) (F H : Hp) (os : List Addr) (σ : List (Option V)) (Q : VK), Wo B F H os → Slots F H os σ Γ →
    (∀ v F' H' fp os', Wo B F' H' (fp ++ os') → Slots F' H' os' σ Γ' → r.P F' H' fp (some v) → Q v H') → t σ H Q
theorem XM.of (h : XV Y e Γ r) : XM Y e Γ r Γ := by
  obtain ⟨t, p, rd⟩ := h
  exact ⟨t, p, fun B F H os σ Q W S kk => rd B F H os σ Q (Sta.in W S) fun v F' H' fp f1 e1 W1 p1 => kk v F' H' fp os W1 (S.mono f1 e1) p1⟩
theorem go_setM (j : Nat) {py : Pos} (he : XM Y e Γ r Γ') (hg : Go Y i rest D B (Γ'.set j r)) (hj : Nat.blt j Γ'.length = true := by rfl) (hi : (Y.X i).N[j]? = some x := by rfl) (hx : Loc (Y.X i).env.scope x := by first | exact Or.inl rfl | exact Or.inr rfl)
    (hs : swapsWith e (some (.Name x py)) pos.line (Y.X i).env = pure false := by rfl) (hf : (Y.X i).fn x = true ∨ (Y.X i).env.scope.names.lookup x = some .local := by first | exact Or.inl rfl | exact Or.inr rfl) : Go Y i (.Assign [.Name x py] e pos :: rest) D B Γ := by
  obtain ⟨t, p, rd⟩ := he
  refine go_ps (ps_set (Y.hN i) hi hx (p i) hs hf) fun F H σ ⟨os, W, S⟩ => ?_
  refine rd B F H os σ _ W S fun v F1 H1 fp os1 W1 S1 p1 => ?_
  obtain ⟨os', d, h1, h2⟩ := S1.put p1 (Nat.le_of_ble_eq_true hj)
  exact hg F1 H1 _ ⟨os', (W1.perm h2).drop, h1⟩
/-- e as a statement -/
theorem go_exprM (he : XM Y e Γ r Γ') (hg : Go Y i rest D B Γ') (hs : swapsWith e none pos.line (Y.X i).env = pure false := by rfl) : Go Y i (.Expr e pos :: rest) D B Γ := by
  obtain ⟨t, p, rd⟩ := he
  refine go_ps (ps_expr (p i) hs) fun F H σ ⟨os, W, S⟩ => ?_
  exact rd B F H os σ _ W S fun v F1 H1 fp os1 W1 S1 p1 => hg F1 H1 σ ⟨os1, W1.drop, S1⟩
/-- what must be seen of the text of a call o.m() -/
structure Bm0 (X : Cx) (o : Expr) (name : Str) (apos cpos : Pos) : Prop where
  base : attributeBase o name X.env (eval o X.env) = eval o X.env
  line : (apos.endLine == cpos.line) = true
theorem paired_dropLast {α β : Type} {G : α → β → Prop} : ∀ {xs : List α} {ys : List β}, Paired G xs ys → Paired G xs.dropLast ys.dropLast
  | _, _, .nil => .nil
  | _, _, .cons r .nil => .nil
  | _, _, .cons r (.cons r2 t) => .cons r (paired_dropLast (.cons r2 t))
/-- the place itself changes, a frozen value comes out -/
theorem pl_writeM {F H : Hp} {os rr : List Addr} {σ : List (Option V)} {l : Addr} {u : HO} {s' : Slot} {v : V} {up : Slot → List Slot} (W : Wo B F H os) (hp : os.Perm ([l] ++ rr)) (hs' : s'.P F (upd H l u) [l] (some v))
    (kk : ∀ (F' H' : Hp) (fp' : List Addr) (s' : Slot), Same F F' → (∀ q ∈ rr, H' q = H q) → s'.P F' H' fp' (some v) → ∃ os', Slots F' H' os' σ (up s') ∧ os'.Perm (fp' ++ rr)) : ∃ os', Wo B F (upd H l u) os' ∧ Slots F (upd H l u) os' σ (up s') :=
  let ⟨os', W', S'⟩ := pl_write (fy := []) W hp hs' kk
  ⟨os', W', S'⟩
theorem x_pop {up : Slot → List Slot} {apos cpos : Pos} {u : α} (ho : PL Y eo Γ (own (oL p) xs) up) (hz : xs.getLast? = some u) (hb : ∀ i, Bm0 (Y.X i) eo "pop" apos cpos := by exact fun _ => ⟨rfl, rfl⟩) :
    XM Y (.Call (.Attribute eo "pop" apos) [] [] cpos) Γ (val p u) (up (own (oL p) xs.dropLast)) := by
  obtain ⟨t, Pv, pe, pst, rd, up'⟩ := ho
  refine ⟨_, fun i => by have h := pe_bm0 PySem.F.plainAttrs_list PySem.F.slot_list_pop PySem.F.type_list_pop mt_pop (pe i) (hb i).base (hb i).line; rw [Y.hK i] at h; exact h, fun B F H os σ Q W S kk => ?_⟩
  refine rd B F H os σ _ (Sta.in W S) fun v hv => ?_
  obtain ⟨fp, rr, hr, hp, kk1⟩ := up' F H os σ v S hv
  obtain ⟨v0, ev, l, vs, el, ef, h1, h2⟩ := hp
  cases ev; subst el; subst ef
  refine ⟨.inl ⟨rfl, vs, SqL.of h1⟩, ?_⟩
  rw [List.getLast?_eq_getElem?] at hz
  rw [← Paired.length h2] at hz
  obtain ⟨y, hy, ry⟩ := paired_at' h2 hz
  refine ⟨l, vs, y, rfl, rfl, h1, hy, ?_⟩
  obtain ⟨os', W', S'⟩ := pl_writeM (s' := own (oL p) xs.dropLast) (u := .lst vs.dropLast) W hr ⟨_, rfl, l, _, rfl, rfl, upd_same, paired_dropLast h2⟩ kk1
  exact kk y F _ [] os' W' S' ⟨rfl, y, rfl, ry⟩
/-- xs.append(e), xs a name, e an expression that changes another place -/
theorem go_appM (j : Nat) {apos cpos p0 : Pos} {u : α} (he : XM Y e Γ (val p u) Γ1) (hs0 : Γ[j]? = some (own (oL p) xs)) (hs1 : Γ1[j]? = some (own (oL p) xs)) (hz : xs.length < sizeLine) (hst : Stb Γ1) (hg : Go Y i rest D B (Γ1.set j (own (oL p) (xs ++ [u]))))
    (hN : ∀ i, (Y.X i).N[j]? = some x := by intro _; rfl) (hv : Vis (Y.X i).env.scope x := by first | exact Or.inl rfl | exact Or.inr (Or.inl rfl)) (hb : Bm1 (Y.X i) (.Name x p0) "append" apos e cpos := by exact ⟨rfl, rfl, rfl, rfl, rfl⟩)
    (hd : (x == ("__debug__" : Str)) = false := by decide) (hcd : (x == ("__classdict__" : Str)) = false := by decide)
    (hs : swapsWith (.Call (.Attribute (.Name x p0) "append" apos) [e] [] cpos) none pos.line (Y.X i).env = pure false := by rfl) : Go Y i (.Expr (.Call (.Attribute (.Name x p0) "append" apos) [e] [] cpos) pos :: rest) D B Γ := by
  obtain ⟨t2, pe2, rd2⟩ := he
  refine go_ps (ps_expr (pe_bm PySem.F.plainAttrs_list PySem.F.slot_list_append PySem.F.type_list_append mt_append (pe_var (hN i) hv hd hcd) (pa_cons (pe2 i) pa_nil hb.st) hb.base hb.few hb.line hb.st hb.pl) hs) fun F H σ ⟨os, W, S⟩ => ?_
  obtain ⟨o, fp, rr, e1, h0, hp, _⟩ := S.at hs0
  obtain ⟨v0, ev, l, vs, el, ef, h1, h2⟩ := h0
  subst ev; subst el
  refine ⟨.ref l, e1, .inl ⟨rfl, vs, SqL.of h1⟩, ?_⟩
  refine rd2 B F H os σ _ W S fun y F1 H1 fy os1 W1 S1 p1 => ?_
  obtain ⟨o', fp', rr', e1', h0', hp', hk'⟩ := S1.at hs1
  obtain ⟨v1, ev1, l1, vs1, el1, ef1, g1, g2⟩ := h0'
  rw [e1] at e1'
  cases e1'; cases ev1; cases el1; subst ef1
  obtain ⟨rfl, ry⟩ := val_P p1
  refine ⟨l, vs1, y, rfl, rfl, g1, by rw [Paired.length g2]; exact hz, ?_⟩
  have W2 : Wo B F1 H1 ([l] ++ rr') := Wo.perm W1 hp'
  have nr : ∀ q ∈ rr', q ≠ l := fun q hq z => (List.nodup_append.mp W2.nd).2.2 l (by simp) q hq z.symm
  obtain ⟨os2, S2, hp2⟩ := hk' (F' := F1) (H' := upd H1 l (.lst (vs1 ++ [y]))) (fp' := [l]) (o' := some (.ref l)) (s' := own (oL p) (xs ++ [u])) ⟨_, rfl, l, _, rfl, rfl, upd_same, Paired.app g2 (.cons ry .nil)⟩ (fun s0 hs0 fp0 o0 hf q => s0.mm (hst s0 hs0) same_refl (fun z hz => upd_ne (nr z (hf z hz))) q)
  have es : σ.set j (some (.ref l)) = σ := by
    obtain ⟨hj, z⟩ := List.getElem?_eq_some_iff.mp e1
    rw [← z]; exact List.set_getElem_self hj
  rw [es] at S2
  exact hg F1 _ σ ⟨os2, (W2.write (by simp)).perm hp2.symm, S2⟩
/-- an owned local handed back -/
theorem go_retV (j : Nat) (hs : Γ[j]? = some s) (hso : ∀ F H fp o, s.P F H fp o → ∃ v, o = some v) (hd : ∀ v H, Fi B s v H → D.rt v H) (hN : ∀ i, (Y.X i).N[j]? = some x := by intro _; rfl) (hv : Vis (Y.X i).env.scope x := by first | exact Or.inl rfl | exact Or.inr (Or.inl rfl))
    (hdb : (x == ("__debug__" : Str)) = false := by decide) (hcd : (x == ("__classdict__" : Str)) = false := by decide) : Go Y i (.Return (some (.Name x p')) pos :: rest) D B Γ := by
  refine go_ps (ps_ret (pe_var (hN i) hv hdb hcd)) fun F H σ ⟨os, W, S⟩ => ?_
  obtain ⟨o, fp, rr, e1, h0, hp, _⟩ := S.at hs
  obtain ⟨v, rfl⟩ := hso F H fp o h0
  exact ⟨v, e1, hd v H ⟨F, fp, (W.perm hp).dropR, h0⟩⟩
/-- the first place of u -/
def idxL [DecidableEq α] (xs : List α) (u : α) : Option Nat := xs.findIdx? fun x => decide (x = u)
end
end Ty

/-! Ty21 -/
/-! min(xs), max(xs), min(xs, default=d), max(xs, default=d) of a list of ints -/
namespace Ty
open PySem PySem.Spec L2
open PyProof.Rows

section
variable {prog : Program} {w : World} {A : Around} {E : Value → Shared → Prop} {R : Result → Shared → Prop} {it0 : Addr} {fps wrs : List Addr} {cnt : Nat} {Pi : Nat → Value → Prop} {Si : Nat → Heap → Prop} {kws : List (Str × Value)}
end

section
variable {prog : Program} {w : World} {A : Around} {E : Value → Shared → Prop} {R : Result → Shared → Prop} {it0 : Addr} {fps wrs : List Addr} {cnt : Nat} {Pi : Nat → Value → Prop} {Si : Nat → Heap → Prop} {kws : List (Str × Value)}
end
end Ty

/-! Ty22 -/
namespace Ty
open PySem PySem.Spec L2
def mnL : List Int → Option Int
  | [] => none
  | x :: r => some (r.foldl (fun a b => if b < a then b else a) x)
def mxL : List Int → Option Int
  | [] => none
  | x :: r => some (r.foldl (fun a b => if a < b then b else a) x)
/-- the readings -/
def rMnD (K : PySem.W.Frag) : List V → List V → Hp → VK → Prop := fun vs zs H Q => ∃ (a : Addr) (ns : List Int) (d : V), vs = [V.ref a] ∧ zs = [d] ∧ SqL K H a (ns.map V.int) ∧ (ns = [] → Q d H) ∧ ∀ m, mnL ns = some m → Q (.int m) H
def rMxD (K : PySem.W.Frag) : List V → List V → Hp → VK → Prop := fun vs zs H Q => ∃ (a : Addr) (ns : List Int) (d : V), vs = [V.ref a] ∧ zs = [d] ∧ SqL K H a (ns.map V.int) ∧ (ns = [] → Q d H) ∧ ∀ m, mxL ns = some m → Q (.int m) H
section
variable {X : Cx}
end
section
variable {P : Program} {w : World} {K : PySem.W.Frag} {mg : Str → Option Value} {base : Heap} {k : Nat}
variable {Y : Fa P w K mg base k} {i : Y.I} {e ea eb eo ev tg iter elt : Expr} {es ifs : List Expr} {rest body : List Stmt} {Γ Γ' Γ1 Γ2 Δ Δ' As : List Slot} {a b c r s s' : Slot} {pos pos' kpos p2 : Pos} {B : Bs} {D : Ends} {x f : Str} {p' : Pos} {C : Addr} {ns : List Int} {α : Type} {p : VP α} {xs : List α}
/-! ### slices -/
def cutL (xs : List α) (lo hi : Option Int) : List α := (xs.drop (HT.sIx xs.length 0 lo)).take (HT.sIx xs.length xs.length hi - HT.sIx xs.length 0 lo)
def XO (Y : Fa P w K mg base k) (e : Option Expr) (Γ : List Slot) (o : Option Int) : Prop :=
  ∃ t : TO, (∀ i, PO (Y.X i) e t) ∧ ∀ (B : Bs) (F H : Hp) (os : List Addr) (σ : List (Option V)) (Q : Option Int → Hp → Prop), In B F H os σ Γ → (∀ F' H', Same F F' → Same H H' → Wo B F' H' os → Q o H') → t σ H Q
theorem xo_none : XO Y none Γ none := ⟨_, fun _ => po_none, fun B F H os σ Q I q => q F H same_refl same_refl I.W⟩
theorem xo_some {z : Int} (h : XV Y e Γ (vInt z)) : XO Y (some e) Γ (some z) := by
  obtain ⟨t, p, rd⟩ := h
  refine ⟨_, fun i => po_some (p i), fun B F H os σ Q I q => ?_⟩
  refine rd B F H os σ _ I fun v F1 H1 fp f1 e1 W1 p1 => ?_
  obtain ⟨rfl, rv⟩ := val_P p1
  cases rv
  exact ⟨z, rfl, q F1 H1 f1 e1 W1⟩
theorem paired_cut {β γ : Type} {G : β → γ → Prop} : ∀ {xs : List β} {ys : List γ} (m n : Nat), Paired G xs ys → Paired G ((xs.drop m).take n) ((ys.drop m).take n)
  | _, _, m, n, .nil => by simp only [List.drop_nil, List.take_nil]; exact .nil
  | _ :: xs, _ :: ys, 0, 0, .cons r t => by simp only [List.take_zero]; exact .nil
  | _ :: xs, _ :: ys, 0, n + 1, .cons r t => by
    have h := paired_cut 0 n t
    rw [List.drop_zero, List.drop_zero] at h
    exact .cons r h
  | _ :: xs, _ :: ys, m + 1, n, .cons r t => paired_cut m n t
theorem x_slc {lo hi : Option Expr} {l h' : Option Int} (he : XV Y e Γ s) (hs : SV K s p xs) (hl : XO Y lo Γ l) (hh : XO Y hi Γ h') : XV Y (.Subscript e (.Slice lo hi none p2) pos) Γ (own (oL p) (cutL xs l h')) := by
  obtain ⟨t, pe, rd⟩ := he
  obtain ⟨tl, pl, rdl⟩ := hl
  obtain ⟨th, ph, rdh⟩ := hh
  refine ⟨_, fun i => pe_slice (by have z := sl_list (X := Y.X i); rw [Y.hK i] at z; exact z) (pe i) (pl i) (ph i), fun B F H os σ Q I q => ?_⟩
  refine rd B F H os σ _ I fun v F1 H1 fp f1 e1 W1 p1 => ?_
  refine rdl B F1 H1 _ σ _ (I.step f1 e1 W1) fun F2 H2 f2 e2 W2 => ?_
  refine rdh B F2 H2 _ σ _ ((I.step f1 e1 W1).step0 f2 e2 W2) fun F3 H3 f3 e3 W3 => ?_
  obtain ⟨a, vs, ev, h1, h2⟩ := hs F3 H3 fp _ W3.sub (s.mono (f2.trans f3) (e2.trans e3) p1)
  cases ev
  refine ⟨a, vs, rfl, h1, fun n hn => ?_⟩
  refine q _ F3 _ [n] ((f1.trans f2).trans f3) (((e1.trans e2).trans e3).trans (same_upd hn)) (W3.drop.newO hn) ⟨_, rfl, n, _, rfl, rfl, upd_same, ?_⟩
  unfold cutV cutL
  rw [Paired.length h2]
  exact paired_cut _ _ h2
/-! ### texts -/
theorem x_ixS {z : Str} {n : Int} {c : Nat} (ha : XV Y ea Γ (vStr z)) (hb : XV Y eb Γ (vInt n)) (hl : z.length ≤ sizeLine) (hz : atI z.cps.toList n = some c) (hx : PlainIx eb := by exact fun _ _ => rfl) : XV Y (.Subscript ea eb pos) Γ (vStr ⟨#[c]⟩) := by
  obtain ⟨ta, pa, ra⟩ := ha
  obtain ⟨tb, pb, rb⟩ := hb
  refine ⟨_, fun i => pe_ix (ix_str (X := Y.X i)) (pa i) (pb i) hx, fun B F H os σ Q I q => ?_⟩
  refine two (Q := fun _ _ => True) I ra rb fun x y F2 H2 fx fy f2 e2 W2 p1 p2 => ?_
  obtain rfl := vint p2
  obtain ⟨_, r1⟩ := val_P p1
  cases r1
  exact ⟨z, n, c, rfl, rfl, hl, hz, q _ F2 H2 [] f2 e2 W2.drop.drop ⟨rfl, _, rfl, rfl⟩⟩
theorem o_strI {n : Int} (h : n.natAbs < 2 ^ 64) : OpA (fun xs H Q => ∃ i : Int, xs = [.int i] ∧ i.natAbs.log2 < 1920 ∧ Q (.str (toString i)) H) [vInt n] (vStr (Str.ofString (toString n))) := opA1 fun B F H v fx os Q W pv q => by
  obtain ⟨_, r1⟩ := val_P pv
  cases r1
  exact ⟨n, rfl, Nat.lt_trans (log_small h) (by decide), q _ F H [] same_refl same_refl W.drop ⟨rfl, _, rfl, rfl⟩⟩
theorem o_addS {z y : Str} (h : z.length + y.length ≤ sizeLine) : Op2 (fun x y H Q => ∃ i j : Str, x = .str i ∧ y = .str j ∧ i.length + j.length ≤ sizeLine ∧ Q (.str (i ++ j)) H) (vStr z) (vStr y) (vStr (z ++ y)) := fun B F H x1 y1 fx fy os Q W p1 p2 q => by
  obtain ⟨_, r1⟩ := val_P p1
  obtain ⟨_, r2⟩ := val_P p2
  cases r1; cases r2
  exact ⟨z, y, rfl, rfl, h, q _ F H [] same_refl same_refl W.drop.drop ⟨rfl, _, rfl, rfl⟩⟩
end
end Ty

/-! Ty23 -/
namespace Ty
open PySem PySem.Spec L2
section
variable {P : Program} {w : World} {K : PySem.W.Frag} {mg : Str → Option Value} {base : Heap} {k : Nat}
variable {Y : Fa P w K mg base k} {i : Y.I} {e ea eb eo ev tg iter elt : Expr} {Γ Γ' : List Slot} {a b c r s s' : Slot} {pos p1 p2 : Pos}
end
/-! ### an error's fields read -/
def xfI (e : Exn) (n : Nat) : Option Int := match e.2[n]? with | some (.i z) => some z | _ => none
def xfS (e : Exn) (n : Nat) : Option Str := match e.2[n]? with | some (.s z) => some z | _ => none
theorem xfI_some {e : Exn} {n : Nat} {z : Int} (h : xfI e n = some z) : e.2[n]? = some (.i z) := by
  unfold xfI at h
  split at h
  · cases h; assumption
  · cases h
theorem xfS_some {e : Exn} {n : Nat} {z : Str} (h : xfS e n = some z) : e.2[n]? = some (.s z) := by
  unfold xfS at h
  split at h
  · cases h; assumption
  · cases h
theorem vzip_none {x : Str} : ∀ {P : List Str} {vs : List V}, x ∉ P → (P.zip vs).reverse.lookup x = none
  | [], _, _ => rfl
  | _ :: _, [], _ => rfl
  | p :: P, v :: vs, h => by
    have hp : (x == p) = false := by
      rw [beq_eq_false_iff_ne]
      exact fun z => h (by rw [z]; exact List.mem_cons_self)
    rw [List.zip_cons_cons, List.reverse_cons, List.lookup_append, vzip_none (fun z => h (List.mem_cons_of_mem _ z))]
    simp [List.lookup, hp]
theorem vzip_get {x : Str} {v : V} : ∀ {P : List Str} {vs : List V} {i : Nat}, P.Nodup → P[i]? = some x → vs[i]? = some v → (P.zip vs).reverse.lookup x = some v
  | [], _, _, _, h, _ => by simp at h
  | _ :: _, [], _, _, _, h => by simp at h
  | p :: P, w :: vs, 0, nd, h1, h2 => by
    simp at h1 h2; subst h1; subst h2
    rw [List.zip_cons_cons, List.reverse_cons, List.lookup_append, vzip_none (List.nodup_cons.mp nd).1]
    simp [List.lookup]
  | p :: P, w :: vs, i + 1, nd, h1, h2 => by
    rw [List.zip_cons_cons, List.reverse_cons, List.lookup_append, vzip_get (i := i) (List.nodup_cons.mp nd).2 (by simpa using h1) (by simpa using h2)]
    rfl
theorem xfd_I {ns : List Str} {e : Exn} {n : Nat} {z : Int} {x : Str} (h : xfI e n = some z) (hn : ns[n]? = some x) (nd : ns.Nodup := by decide) : (xfd ns e.2).lookup x = some (.int z) :=
  vzip_get nd hn (by rw [List.getElem?_map, xfI_some h]; rfl)
theorem xfd_S {ns : List Str} {e : Exn} {n : Nat} {z : Str} {x : Str} (h : xfS e n = some z) (hn : ns[n]? = some x) (nd : ns.Nodup := by decide) : (xfd ns e.2).lookup x = some (.str z) :=
  vzip_get nd hn (by rw [List.getElem?_map, xfS_some h]; rfl)
theorem xfC {K : PySem.W.Frag} {C : Addr} (h : ExcC K C) : XfC K C := ⟨h.hg, h.hk, h.hs, h.hd⟩
theorem ok1 {f : XF} (h : f.ok) : ∀ x ∈ [f], x.ok := fun x hx => by rw [List.mem_singleton.mp hx]; exact h
theorem ok2 {f g : XF} (h : f.ok) (h2 : g.ok) : ∀ x ∈ [f, g], x.ok := fun x hx => by
  rcases List.mem_cons.mp hx with rfl | hx
  · exact h
  · rw [List.mem_singleton.mp hx]; exact h2
end Ty
namespace Ty
open PySem PySem.Spec L2
section
variable {P : Program} {w : World} {K : PySem.W.Frag} {mg : Str → Option Value} {base : Heap} {k : Nat}
variable {Y : Fa P w K mg base k} {ev : Expr} {Γ : List Slot} {pos : Pos}
end
end Ty

/-! Ty24 -/
/-! owned things handed on: within displays, to a def that changes them; lists of things of several kinds; xs.insert; texts walked; pairs walked -/
namespace Ty
open PySem PySem.Spec L2
open PyProof.Rows (envOfC)
section
variable {P : Program} {w : World} {K : PySem.W.Frag} {mg : Str → Option Value} {base : Heap} {k : Nat}
variable {Y : Fa P w K mg base k} {i : Y.I} {e ea eb eo ev tg iter elt : Expr} {es ifs : List Expr} {rest body : List Stmt} {Γ Γ' Γ1 Γ2 Δ Δ' As : List Slot} {a b c r s s' : Slot} {pos pos' : Pos} {B : Bs} {D : Ends} {x f : Str} {p' p2 : Pos} {C : Addr} {ns : List Str} {α β : Type} {p : VP α} {q : VP β} {xs : List α}
/-! ### what may be handed on -/
def XN (Y : Fa P w K mg base k) (e : Expr) (Γ : List Slot) (r : Slot) (Γ' : List Slot) : Prop :=
  ∃ t : TE, (∀ i, PE (Y.X i) e t) ∧ ∀ (B : Bs) (F H : Hp) (os rr : List Addr) (σ : List (Option V)) (Q : VK), Wo B F H (rr ++ os) → Slots F H os σ Γ →
    (∀ v F' H' fp os', Same F F' → Same H H' → Wo B F' H' (fp ++ (rr ++ os')) → Slots F' H' os' σ Γ' → r.P F' H' fp (some v) → Q v H') → t σ H Q
def XNA (Y : Fa P w K mg base k) (es : List Expr) (Γ As Γ' : List Slot) : Prop :=
  ∃ t : TA, (∀ i, PA (Y.X i) es t) ∧ ∀ (B : Bs) (F H : Hp) (os rr : List Addr) (σ : List (Option V)) (Q : List V → Hp → Prop), Wo B F H (rr ++ os) → Slots F H os σ Γ →
    (∀ vs F' H' fp os', Same F F' → Same H H' → Wo B F' H' (fp ++ (rr ++ os')) → Slots F' H' os' σ Γ' → Slots F' H' fp (vs.map some) As → Q vs H') → t σ H Q
theorem XN.of (h : XV Y e Γ r) : XN Y e Γ r Γ := by
  obtain ⟨t, p, rd⟩ := h
  exact ⟨t, p, fun B F H os rr σ Q W S kk => rd B F H _ σ Q ⟨W, os, rr, List.perm_append_comm, S⟩ fun v F' H' fp f1 e1 W1 p1 => kk v F' H' fp os f1 e1 W1 (S.mono f1 e1) p1⟩
theorem XN.m (h : XN Y e Γ r Γ') : XM Y e Γ r Γ' := by
  obtain ⟨t, p, rd⟩ := h
  exact ⟨t, p, fun B F H os σ Q W S kk => rd B F H os [] σ Q W S fun v F' H' fp os' _ _ W1 S1 p1 => kk v F' H' fp os' W1 S1 p1⟩
/-! ### a def that is handed owned things -/
def spO {ι ρ : Type} (As : ι → List Slot) (m : ι → Option ρ) (Sr : ρ → Slot) : Sp := fun vs H Q _ => ∃ (z : ι) (r : ρ) (F : Hp) (fp : List Addr), m z = some r ∧ Wo ⟨F, H, fp⟩ F H fp ∧ Slots F H fp (vs.map some) (As z) ∧
  ∀ v F' H' f2, Wo ⟨F, H, fp⟩ F' H' f2 → (Sr r).P F' H' f2 (some v) → Q v H'
/-! ### a list of things of several kinds, frozen -/
def pH (sl : α → List Slot) : VP α where
  R := fun F v z => ∃ l vs, v = .ref l ∧ F l = some (.lst vs) ∧ Slots F F [] (vs.map some) (sl z)
  mono := fun hF h => let ⟨l, vs, e1, h1, h2⟩ := h; ⟨l, vs, e1, hF _ _ h1, h2.mono hF hF⟩
theorem WkS.lstH {sl : α → List Slot} {z : α} (hw : WkL Δ (sl z)) (hv : AllV (sl z)) : WkS (Ty.lstS Δ) (Ty.val (pH sl) z) := fun F H fp o hS hp => by
  obtain ⟨l, vs, os, e1, e2, h1, h2⟩ := hp
  obtain ⟨xx, yy, hperm, kk⟩ := h2.wk hS hw
  obtain ⟨rfl, _⟩ := hv.no (kk H hS same_refl fun _ _ => rfl)
  subst e2
  refine ⟨l :: os, [], by simp, fun F' hF hs hx => ⟨rfl, _, e1, l, vs, rfl, by rw [hx l (by simp)]; exact h1, (hv.no (kk F' hF hs fun q hq => hx q ?_)).2⟩⟩
  have := hperm.mem_iff.mpr (by simpa using hq)
  simp [this]
theorem ixN_lit {n : Nat} {m : Nat} (h : m < n) : ixN n (m : Int) = some m := by
  unfold ixN
  by_cases hh : (m : Int) < 0
  · omega
  · simp [h]
theorem Slots.nilAt {F H : Hp} : ∀ {vs : List V} {Δ : List Slot} {n : Nat} {s : Slot}, Slots F H [] (vs.map some) Δ → Δ[n]? = some s → ∃ v, vs[n]? = some v ∧ s.P F H [] (some v)
  | [], [], n, s, _, e => by simp at e
  | [], _ :: _, _, _, S, _ => by have e := S.length; simp at e
  | _ :: _, [], _, _, S, _ => by have e := S.length; simp at e
  | v :: vs, s0 :: Δ, 0, s, S, e => by
    rw [List.map_cons] at S
    simp at e; subst e
    exact ⟨v, rfl, (S.one rfl).1⟩
  | v :: vs, s0 :: Δ, n + 1, s, S, e => by
    rw [List.map_cons] at S
    exact Slots.nilAt (n := n) (S.one rfl).2 (by simpa using e)
theorem atI_nat {γ : Type} {xs : List γ} {n : Nat} {v : γ} (h : xs[n]? = some v) : atI xs (n : Int) = some v := by
  have hl := (List.getElem?_eq_some_iff.mp h).1
  unfold atI
  rw [ixN_lit hl]
  exact h
/-- its n-th thing -/
theorem x_ixH {sl : α → List Slot} {z : α} (n : Nat) (ha : XV Y ea Γ (val (pH sl) z)) (hb : XV Y eb Γ (vInt (n : Int))) (hs : (sl z)[n]? = some s) (hx : PlainIx eb := by exact fun _ _ => rfl) : XV Y (.Subscript ea eb pos) Γ s := by
  obtain ⟨ta, pa, ra⟩ := ha
  obtain ⟨tb, pb, rb⟩ := hb
  refine ⟨_, fun i => by have h := ix_list (X := Y.X i); rw [Y.hK i] at h; exact pe_ix h (pa i) (pb i) hx, fun B F H os σ Q I q => ?_⟩
  refine two (Q := fun _ _ => True) I ra rb fun x y F2 H2 fx fy f2 e2 W2 p1 p2 => ?_
  obtain rfl := vint p2
  obtain ⟨_, l, vs, rfl, h1, h2⟩ := val_P p1
  obtain ⟨v, hv, sv⟩ := h2.nilAt hs
  exact ⟨l, vs, n, v, rfl, rfl, SqL.of (W2.sub _ _ h1), atI_nat hv, q v F2 H2 [] f2 e2 W2.drop.drop (s.mono same_refl W2.sub sv)⟩
/-- looked at as data -/
inductive VwL : List Slot → List Slot → Prop
  | nil : VwL [] []
  | cons {γ : Type} {s : Slot} {p : VP γ} {u : γ} {As Bs : List Slot} : Vw s p u → VwL As Bs → VwL (s :: As) (val p u :: Bs)
theorem VwL.to {As Cs : List Slot} (h : VwL As Cs) : ∀ F H os (vs : List V), Same F H → Slots F H os (vs.map some) As → Slots H H [] (vs.map some) Cs := by
  induction h with
  | nil =>
    intro F H os vs hS Sl
    have e := Sl.length
    cases vs with
    | nil => exact .nil
    | cons v vs => simp at e
  | @cons γ s p u As Cs hv _ ih =>
    intro F H os vs hS Sl
    have e := Sl.length
    cases vs with
    | nil => simp at e
    | cons v vs =>
      rw [List.map_cons] at Sl
      obtain ⟨f1, f2, rfl, hp, hr⟩ := Slots.cons_inv Sl
      have i1 := ih F H f2 vs hS hr
      obtain ⟨v', ev, rv⟩ := hv F H f1 _ hS hp
      cases ev
      exact Slots.cons (fp := []) ⟨rfl, v, rfl, rv⟩ i1
theorem Vw.lstH {sl : α → List Slot} {z : α} (h : VwL Δ (sl z)) : Vw (Ty.lstS Δ) (pH sl) z := fun F H fp o hS hp => by
  obtain ⟨l, vs, os, e1, e2, h1, h2⟩ := hp
  exact ⟨_, e1, l, vs, rfl, h1, h.to F H os vs hS h2⟩
/-! ### xs.insert(n, e) -/
structure Bm2 (X : Cx) (o : Expr) (name : Str) (apos : Pos) (e e2 : Expr) (cpos : Pos) : Prop where
  base : attributeBase o name X.env (eval o X.env) = eval o X.env
  few : ((backTo cpos (starEach [e, e2] X.env)).all (fun x => !x.1) && (backToKw cpos (keywordEach [] X.env)).all (fun x => x.1.isSome) && decide (([e, e2] : List Expr).length + ([] : List Keyword).length + (if ([] : List Keyword).isEmpty then 0 else 1) < 30)) = true
  line : (apos.endLine == cpos.line) = true
  st : starEach [e, e2] X.env = (false, eval e X.env) :: starEach [e2] X.env
  st2 : starEach [e2] X.env = (false, eval e2 X.env) :: starEach [] X.env
  pl : (backTo cpos (starEach [e2] X.env)).any (·.1) = false
/-! ### texts -/
theorem o_lenS {z : Str} (h : z.length ≤ sizeLine) : OpA (fun xs H Q => ∃ z, xs = [.str z] ∧ z.length ≤ sizeLine ∧ Q (.int z.length) H) [vStr z] (vInt (z.length : Int)) := opA1 fun B F H v fx os Q W pv q => by
  obtain ⟨_, r1⟩ := val_P pv
  cases r1
  exact ⟨z, rfl, h, q _ F H [] same_refl same_refl W.drop ⟨rfl, _, rfl, rfl⟩⟩
theorem in_sign (z : Str) (c : Nat) : (!(Builtin.Str.occurrences z ⟨#[c]⟩ 0 z.length 1).isEmpty) = decide (c ∈ z.cps.toList) := StrLaws.found_one z c
theorem o_ninS {z : Str} {c : Nat} : Op2 (fun x y H Q => ∃ i j, x = .str i ∧ y = .str j ∧ Q (.bl (!(!(Builtin.Str.occurrences j i 0 j.length 1).isEmpty))) H) (vStr ⟨#[c]⟩) (vStr z) (vBl (!(decide (c ∈ z.cps.toList)))) := fun B F H x1 y1 fx fy os Q W p1 p2 q => by
  obtain ⟨_, r1⟩ := val_P p1
  obtain ⟨_, r2⟩ := val_P p2
  cases r1; cases r2
  refine ⟨⟨#[c]⟩, z, rfl, rfl, ?_⟩
  rw [in_sign]
  exact q _ F H [] same_refl same_refl W.drop.drop ⟨rfl, _, rfl, rfl⟩
/-- a text of one sign -/
def pSg : VP Nat := ⟨fun _ v c => v = .str ⟨#[c]⟩, fun _ h => h⟩
theorem xi_str {z : Str} (h : XV Y iter Γ (vStr z)) : XI Y tg iter Γ False (z.cps.toList.map fun c => vStr ⟨#[c]⟩) := by
  obtain ⟨t, pe, rd⟩ := h
  refine ⟨_, fun i => pi_str (X := Y.X i) (tg := tg) (pe i), fun B F H os σ R I kk => ?_⟩
  refine rd B F H os σ _ I fun v F1 H1 fp f1 e1 W1 p1 => ?_
  obtain ⟨_, r1⟩ := val_P p1
  cases r1
  refine ⟨z, rfl, kk _ F1 H1 f1 e1 W1.drop ?_⟩
  intro F2 H2 a _ c
  refine ⟨by show _ ≤ _; simp, fun n r hr => ?_⟩
  rw [List.getElem?_map] at hr
  obtain ⟨x, ex, er⟩ := Option.map_eq_some_iff.mp hr
  have hx : z.cps[n]? = some x := by rw [← Array.getElem?_toList]; exact ex
  subst er
  refine ⟨?_, fun u H3 y => ?_⟩
  · exact (Array.getElem?_eq_some_iff.mp hx).1
  · obtain ⟨e1, c', h1, h2⟩ := y
    subst e1
    refine ⟨fun _ _ h => h, fun B os W => ⟨F2, same_refl, W, ?_⟩⟩
    rw [hx] at h1
    cases h1
    exact ⟨rfl, _, rfl, h2⟩
theorem Eqv.bl : Eqv pBl := fun F v a h => by
  cases h
  refine ⟨rfl, fun F' v' a' h' => ?_⟩
  cases h'
  cases a <;> cases a' <;> rfl
end
end Ty

/-! Ty25 -/
/-! an __init__ that may raise; methods that read ints of an instance that is not yet whole; tuples of things of several kinds -/
namespace Ty
open PySem PySem.Spec L2
open PyProof.Rows
section
variable {X : Cx} {CX : CXT} {k : Nat} {f C : Addr} {fd : FuncData} {ps : List Str} {sp : Sp} {E : L2.St → XK} {x m : Str} {p pos apos : Pos} {e o : Expr} {es : List Expr} {ta : TE} {t : TA}
theorem run_makeS {pins : List (Addr × Obj)} {σ : L2.St} {H : Hp} {s : Shared} {Q : VK} {us : List Value} {vs : List V} (M : Mk X.K C f) (F : FnOk X.prog X.w X.K X.mg X.base CX k f fd ps sp) (hr : Room (k + 1) X.A) (hb : Binds X.K fd ps [])
    (hx : PassesAt CX X σ (E σ)) (I : Inv X pins σ H s) (r : Vals vs us)
    (h : ∀ x dx, H x = none → H dx = none → dx ≠ x → sp (.ref x :: vs) (upd (upd H dx (.own x)) x (.ins C dx [])) (fun v H2 => v = .non ∧ Q (.ref x) H2) (E σ)) :
    wpAny (model X.prog X.w) X.A (call (.ref C) us) (EP X pins σ Q) X.xe s := by
  have hq := h (s.heap.objs.size + 1) s.heap.objs.size (I.hok.fresh (Nat.le_succ _)) (I.hok.fresh (Nat.le_refl _)) (Nat.ne_of_lt (Nat.lt_succ_self _))
  have I2 := Inv.made (C := C) I
  have r2 : Vals (V.ref (s.heap.objs.size + 1) :: vs) (Value.ref (s.heap.objs.size + 1) :: us) := .cons rfl r
  have hl : (Value.ref (s.heap.objs.size + 1) :: us ++ []).length = ps.length := by
    have e := r2.length
    rw [F.len _ _ _ _ hq] at e
    rw [List.append_nil]
    exact e.symm
  have hb' := hb _ (Value.ref (s.heap.objs.size + 1) :: us) I2.kIn hl
  rw [List.append_nil] at hb'
  refine wpAny_call (make_map (f := f) I.kIn M.makes M.init (beq_iff_eq.mp M.fn) (codeAny_mono (F.run _ X.stack _ _ ⟨Value.ref (s.heap.objs.size + 1) :: us, []⟩ (Value.ref (s.heap.objs.size + 1) :: us) _ _ (E σ) (hr.make C us [])
    (I2.env0.make C us []) hb' r2 hq) fun r s' hq' => ?_))
  cases r with
  | error e => exact hx pins _ _ e s' I2 hq'
  | ok fl =>
    cases fl with
    | ret u =>
      obtain ⟨v, H', I3, rv, ev, q3⟩ := I2.after hq'
      subst ev
      exact ⟨rv, ⟨V.ref (s.heap.objs.size + 1), H', I3, rfl, q3⟩⟩
    | next => exact False.elim hq'
    | brk => exact False.elim hq'
    | cont => exact False.elim hq'
def tMakeS (C : Addr) (sp : Sp) (E : L2.St → XK) (t : TA) : TE := fun σ H Q => t σ H fun vs H1 => ∀ x dx, H1 x = none → H1 dx = none → dx ≠ x →
  sp (.ref x :: vs) (upd (upd H1 dx (.own x)) x (.ins C dx [])) (fun v H2 => v = .non ∧ Q (.ref x) H2) (E σ)
theorem pe_makeS (M : Mk X.K C f) (F : FnOk X.prog X.w X.K X.mg X.base CX k f fd ps sp) (hr : Room (k + 1) X.A) (hg : Gl X x) (hm : X.mg x = some (.ref C)) (hb : Binds X.K fd ps []) (hx : ∀ σ, PassesAt CX X σ (E σ))
    (ha : PA X (e :: es) t) (hdb : (x == ("__debug__" : Str)) = false := by decide) (he : starEach (e :: es) X.env = (false, eval e X.env) :: starEach es X.env := by rfl) (hpl : (backTo pos (starEach es X.env)).any (·.1) = false := by rfl) :
    PE X (.Call (.Name x p) (e :: es) [] pos) (tMakeS C sp E t) := by
  refine ⟨fun pins s σ H Q I h => ?_⟩
  refine wpAny_Call_Name_kw (ld_glob I hg hm ?_ hdb)
  refine PySem.W.callWith_K (h₀ := X.base) I.ok.mod.kin M.kp (thn (ha.run pos pins s σ H _ I h) fun us s1 ⟨vs, H1, I1, r, q⟩ => ⟨I1.kIn, ?_⟩) he hpl
  exact run_makeS M F hr hb (hx σ) I1 r q
end
/-- nothing is so -/
def noS : Slot := { P := fun _ _ _ _ => False, mono := fun _ _ h => h, st := True, mm := fun _ {_ _ _ _ _ _} _ _ h => h }
theorem no_noS {B : Bs} {v : V} {H : Hp} (h : Fi B noS v H) : False := let ⟨_, _, _, h⟩ := h; h
section
variable {P : Program} {w : World} {K : PySem.W.Frag} {mg : Str → Option Value} {base : Heap} {k : Nat}
/-- an __init__ that may raise -/
def spMX {ι μ : Type} (C : Addr) (As : ι → List Slot) (m : ι → Option (Rx (μ × Unit))) (s1 : μ → Slot) (X : ExT) : Sp := fun vs H Q E => ∃ (z : ι) (r : Rx (μ × Unit)) (F : Hp) (fp : List Addr) (v0 : V) (ws : List V), vs = v0 :: ws ∧ m z = some r ∧ Wo ⟨F, H, fp⟩ F H fp ∧ (obj C [] []).P F H fp (some v0) ∧ Slots F H [] (ws.map some) (As z) ∧
  (∀ q, r = .ok q → ∀ F' H' f1, Wo ⟨F, H, fp⟩ F' H' f1 → (s1 q.1).P F' H' f1 (some v0) → Q .non H') ∧ ∀ e, r = .ex e → ∀ cls d F' H', Wo ⟨F, H, fp⟩ F' H' [] → X e cls d F' → E cls d H'
@[reducible] def DMX {μ : Type} (B : Bs) (v0 : V) (s1 : μ → Slot) (r : Rx (μ × Unit)) : Ends where
  nx := fun _ H => ∃ q F f1, r = .ok q ∧ Wo B F H f1 ∧ (s1 q.1).P F H f1 (some v0)
  rt := fun _ _ => False
theorem fn_mutX {ι μ : Type} {C : Addr} {As : ι → List Slot} {m : ι → Option (Rx (μ × Unit))} {s1 : μ → Slot} {EX : ExT} {x qual : Str} {st : Stmt} {f : Addr} {fd : FuncData} {N ps : List Str} (Fn : Fun K x qual st f fd) (S : FnScope N ps (defScope st)) (hlen : ∀ z, (As z).length + 1 = ps.length)
    (body : ∀ (cdv : Value) (A : Around) (outer : List Env) (s : Shared) (H : Hp) (E : XK) (hr : Room k (A.deeper (envOfC qual (defScope st) s.heap.objs.size f cdv))) (z : ι) (r : Rx (μ × Unit)) (v0 : V) (B : Bs), m z = some r →
      (∀ e, r = .ex e → ∀ Γ, Wish (fun cls d _ H => E cls d H) B Γ EX e) →
      Go (fbX P w K mg base N qual st f cdv A outer s H E k hr S.nd) () (defBody st) (DMX B v0 s1 r) B (hold (obj C [] []) v0 :: As z ++ List.replicate (N.length - ps.length) dead)) : FnOk P w K mg base (L2.CX P w) (k + 1) f fd ps (spMX C As m s1 EX) := by
  refine Fn.okX S (fun vs H Q E h => ?_) (fun cdv A outer s H vs Q E hr h => ?_)
  · obtain ⟨z, r, F, fp, v0, ws, rfl, _, _, _, Sl, _⟩ := h
    have e := Sl.length
    rw [List.length_map] at e
    rw [List.length_cons, e, hlen]
  · obtain ⟨z, r, F, fp, v0, ws, rfl, hm, hW, hp, Sl, q, qe⟩ := h
    refine ⟨_, pss_cont, ?_⟩
    have go := body cdv A outer s H E hr z r v0 ⟨F, H, fp⟩ hm (fun e he Γ cls d σ F' H' os hI hx => qe e he cls d F' H' (Wo.drop (a := os) (b := []) (by simpa using hI.W)) hx)
    have S0 : Sta ⟨F, H, fp⟩ F H (L2.start N (v0 :: ws)) (hold (obj C [] []) v0 :: As z ++ List.replicate (N.length - ps.length) dead) := by
      refine ⟨fp, hW, ?_⟩
      unfold L2.start
      have e := Sl.length
      rw [List.length_map] at e
      rw [List.length_cons, e, hlen]
      have e1 := Slots.cons (s := hold (obj C [] []) v0) ⟨rfl, hp⟩ (Slots.append Sl (slots_dead (F := F) (H := H) (N.length - ps.length)))
      simpa using e1
    exact cont_mono (go F H _ S0) (fun σ H' ⟨qq, F', f1, er, W', p'⟩ => q qq er F' H' f1 W' p') (fun v H' z => z.elim) (fun _ _ z => z.elim) (fun _ _ z => z.elim)
variable {Y : Fa P w K mg base k} {i : Y.I} {e ea eb eo ev tg iter elt : Expr} {es ifs : List Expr} {rest body : List Stmt} {Γ Γ' Γ1 Γ2 Δ Δ' As : List Slot} {a b c r s s' : Slot} {pos pos' : Pos} {B : Bs} {D : Ends} {x f : Str} {p' p2 : Pos} {C : Addr} {ns : List Str} {α β : Type} {p : VP α} {q : VP β} {xs : List α} {EX : ExT} {ex : Exn}
theorem go_nilMX {μ : Type} {v0 : V} {s1 : μ → Slot} {u : μ × Unit} (hs : Γ[0]? = some (hold (s1 u.1) v0) := by rfl) : Go Y i [] (DMX B v0 s1 (.ok u)) B Γ :=
  go_nil fun σ H ⟨F, os, W, S⟩ => by
    obtain ⟨o, fp, r', e, p, q, _⟩ := S.at hs
    obtain ⟨rfl, p⟩ := p
    exact ⟨u, F, fp, rfl, (W.perm q).dropR, p⟩
/-- C(e, ..): a new instance, of an __init__ that may raise -/
theorem x_makeX {ι μ : Type} {As : ι → List Slot} {m : ι → Option (Rx (μ × Unit))} {s1 : μ → Slot} {args : List Slot} {z : ι} {q : μ × Unit} {j : Nat} {g : Addr} {fd : FuncData} {ps : List Str}
    (Fn : FnOk P w K mg base (L2.CX P w) j g fd ps (spMX C As m s1 EX)) (hj : j + 1 ≤ k) (M : Mk K C g) (hm : mg x = some (.ref C)) (hb : Binds K fd ps []) (ha : XA Y (e :: es) Γ args) (hargs : args = As z) (hno : NoOwn args) (hq : m z = some (.ok q))
    (hg : ∀ i, Gl (Y.X i) x := by intro _; rfl) (hdb : (x == ("__debug__" : Str)) = false := by decide)
    (he : ∀ i, starEach (e :: es) (Y.X i).env = (false, eval e (Y.X i).env) :: starEach es (Y.X i).env := by intro _; rfl) (hpl : ∀ i, (backTo pos (starEach es (Y.X i).env)).any (·.1) = false := by intro _; rfl) (hcm : Y.cm = true := by rfl) : XV Y (.Call (.Name x p') (e :: es) [] pos) Γ (s1 q.1) := by
  subst hargs
  obtain ⟨t, pa, rd⟩ := ha
  have FF : ∀ i, FnOk (Y.X i).prog (Y.X i).w (Y.X i).K (Y.X i).mg (Y.X i).base (L2.CX (Y.X i).prog (Y.X i).w) j g fd ps (spMX C As m s1 EX) := fun i => by rw [Y.hP i, Y.hw i, Y.hK i, Y.hM i, Y.hB i]; exact Fn
  refine ⟨_, fun i => pe_makeS (by rw [Y.hK i]; exact M) (FF i) ((Y.hR hcm i).mono hj) (hg i) (by rw [Y.hM i]; exact hm) (by rw [Y.hK i]; exact hb) (E := WE Y.W) (fun σ => passAt (Y.tk i) σ) (pa i) hdb (he i) (hpl i), fun B F H os σ Q I kk => ?_⟩
  refine rd B F H os σ _ I fun vs F1 H1 fp f1 e1 W1 S1 => ?_
  obtain rfl := hno.nil S1
  intro a dx ha hdx hne
  have hdx' : (upd H1 dx (.own a)) a = none := by rw [upd_ne (fun z => hne z.symm)]; exact ha
  have W1' : Wo B F1 H1 os := W1
  have W2 : Wo B F1 (upd (upd H1 dx (.own a)) a (.ins C dx [])) (a :: dx :: os) := (W1'.newO hdx).newO hdx'
  have e3 : Same H1 (upd (upd H1 dx (.own a)) a (.ins C dx [])) := (same_upd hdx).trans (same_upd hdx')
  refine ⟨z, .ok q, F1, [a, dx], .ref a, vs, rfl, hq, W2.here (fp := [a, dx]) (r := os) (.refl _), ?_, S1.mono same_refl e3, fun q' eq F2 H2 fp1 W3 p2 => ?_, fun e he => by cases he⟩
  · exact ⟨a, dx, [], [], rfl, rfl, upd_same, by rw [upd_ne hne]; exact upd_same, rfl, .nil⟩
  · cases eq
    refine ⟨rfl, ?_⟩
    obtain ⟨c1, c2, W4⟩ := Wo.calledM (os := a :: dx :: os) (fp := [a, dx]) (r := os) W2 (.refl _) W3
    refine kk _ F2 H2 fp1 (f1.trans c1) (e1.trans ?_) W4 p2
    intro b u hb
    refine W3.bH b u (e3 b u hb) ?_
    intro hm
    rcases List.mem_cons.mp hm with rfl | hm
    · rw [ha] at hb; cases hb
    · obtain rfl := List.mem_singleton.mp hm
      rw [hdx] at hb; cases hb
theorem xx_make {ι μ : Type} {As : ι → List Slot} {m : ι → Option (Rx (μ × Unit))} {s1 : μ → Slot} {args : List Slot} {z : ι} {j : Nat} {g : Addr} {fd : FuncData} {ps : List Str}
    (Fn : FnOk P w K mg base (L2.CX P w) j g fd ps (spMX C As m s1 EX)) (hj : j + 1 ≤ k) (M : Mk K C g) (hm : mg x = some (.ref C)) (hb : Binds K fd ps []) (ha : XA Y (e :: es) Γ args) (hargs : args = As z) (hno : NoOwn args) (hq : m z = some (.ex ex))
    (hg : ∀ i, Gl (Y.X i) x := by intro _; rfl) (hdb : (x == ("__debug__" : Str)) = false := by decide)
    (he : ∀ i, starEach (e :: es) (Y.X i).env = (false, eval e (Y.X i).env) :: starEach es (Y.X i).env := by intro _; rfl) (hpl : ∀ i, (backTo pos (starEach es (Y.X i).env)).any (·.1) = false := by intro _; rfl) (hcm : Y.cm = true := by rfl) : XXe Y (.Call (.Name x p') (e :: es) [] pos) Γ EX ex := by
  subst hargs
  obtain ⟨t, pa, rd⟩ := ha
  have FF : ∀ i, FnOk (Y.X i).prog (Y.X i).w (Y.X i).K (Y.X i).mg (Y.X i).base (L2.CX (Y.X i).prog (Y.X i).w) j g fd ps (spMX C As m s1 EX) := fun i => by rw [Y.hP i, Y.hw i, Y.hK i, Y.hM i, Y.hB i]; exact Fn
  refine ⟨_, fun i => pe_makeS (by rw [Y.hK i]; exact M) (FF i) ((Y.hR hcm i).mono hj) (hg i) (by rw [Y.hM i]; exact hm) (by rw [Y.hK i]; exact hb) (E := WE Y.W) (fun σ => passAt (Y.tk i) σ) (pa i) hdb (he i) (hpl i), fun B F H os σ Q I kk => ?_⟩
  refine rd B F H os σ _ I fun vs F1 H1 fp f1 e1 W1 S1 => ?_
  obtain rfl := hno.nil S1
  intro a dx ha hdx hne
  have hdx' : (upd H1 dx (.own a)) a = none := by rw [upd_ne (fun z => hne z.symm)]; exact ha
  have W1' : Wo B F1 H1 os := W1
  have W2 : Wo B F1 (upd (upd H1 dx (.own a)) a (.ins C dx [])) (a :: dx :: os) := (W1'.newO hdx).newO hdx'
  have e3 : Same H1 (upd (upd H1 dx (.own a)) a (.ins C dx [])) := (same_upd hdx).trans (same_upd hdx')
  refine ⟨z, .ex ex, F1, [a, dx], .ref a, vs, rfl, hq, W2.here (fp := [a, dx]) (r := os) (.refl _), ?_, S1.mono same_refl e3, fun q' eq => (by cases eq), fun e he cls d F2 H2 W3 hx => ?_⟩
  · exact ⟨a, dx, [], [], rfl, rfl, upd_same, by rw [upd_ne hne]; exact upd_same, rfl, .nil⟩
  · cases he
    obtain ⟨c1, c2, W4⟩ := Wo.calledM (os := a :: dx :: os) (fp := [a, dx]) (r := os) W2 (.refl _) W3
    refine kk cls d F2 H2 [] (f1.trans c1) (e1.trans ?_) W4 hx
    intro b u hb
    refine W3.bH b u (e3 b u hb) ?_
    intro hm
    rcases List.mem_cons.mp hm with rfl | hm
    · rw [ha] at hb; cases hb
    · obtain rfl := List.mem_singleton.mp hm
      rw [hdx] at hb; cases hb
/-! ### ints of an instance -/
def pFl (C : Addr) (fs : List Str) : VP (List Int) where
  R := fun F v z => ∃ (x dx : Addr) (ps : List (Str × V)), v = .ref x ∧ F x = some (.ins C dx ps) ∧ ∀ (i : Nat) f n, fs[i]? = some f → z[i]? = some n → ps.lookup f = some (.int n)
  mono := fun hF h => let ⟨x, dx, ps, e1, h1, h2⟩ := h; ⟨x, dx, ps, e1, hF _ _ h1, h2⟩
inductive FlS (ns : List Str) (Δ : List Slot) : List Str → List Int → Prop
  | nil : FlS ns Δ [] []
  | cons {f : Str} {n : Int} {fs : List Str} {z : List Int} (j : Nat) (h1 : ns[j]? = some f) (h2 : Δ[j]? = some (vInt n)) (t : FlS ns Δ fs z) : FlS ns Δ (f :: fs) (n :: z)
theorem FlS.look {ns : List Str} {Δ : List Slot} {fs : List Str} {z : List Int} {F H : Hp} {os : List Addr} {vs : List V} (h : FlS ns Δ fs z) (nd : ns.Nodup) (hl : vs.length = ns.length) (S : Slots F H os (vs.map some) Δ) : ∀ (i : Nat) f n, fs[i]? = some f → z[i]? = some n → (ns.zip vs).lookup f = some (.int n) := by
  induction h with
  | nil => intro i f n e; simp at e
  | @cons f0 n0 fs z j h1 h2 t ih =>
    intro i f n e1 e2
    cases i with
    | succ i => exact ih i f n (by simpa using e1) (by simpa using e2)
    | zero =>
      simp at e1 e2
      subst e1; subst e2
      obtain ⟨o, fp, r, e3, p3, _, _⟩ := S.at h2
      obtain ⟨_, v', ev, rv⟩ := p3
      subst ev
      cases rv
      rw [List.getElem?_map] at e3
      obtain ⟨y, hy, ey⟩ := Option.map_eq_some_iff.mp e3
      cases ey
      exact zip_lookup nd hl h1 hy
/-! ### tuples of things of several kinds -/
def pHT (sl : α → List Slot) : VP α where
  R := fun F v z => ∃ l vs, v = .ref l ∧ F l = some (.tup vs) ∧ Slots F F [] (vs.map some) (sl z)
  mono := fun hF h => let ⟨l, vs, e1, h1, h2⟩ := h; ⟨l, vs, e1, hF _ _ h1, h2.mono hF hF⟩
end
end Ty

/-! Ty26 -/
/-! several except clauses that name the error -/
namespace Ty
open PySem PySem.Spec L2 PyProof.Rows
abbrev TsH := Addr → Value → Option Addr → TS
/-- clauses 'except x as n: ..' one after the other, with what they wish -/
inductive ClsAs (X : Cx) (D : Ends) (Wo : WX) : List ExceptHandler → WX → Prop
  | nil : ClsAs X D Wo [] Wo
  | cons {x n : Str} {c : Value} {i : Nat} {ts : TsH} {b₀ : Stmt} {suite : List Stmt} {np q : Pos} {hs : List ExceptHandler} {W : WX} (hc : Names X x c) (hi : X.N[i]? = some n) (hl : X.env.kindOf n = some .local)
      (hsu : ∀ (a : Addr) (oe : Obj) (cls : Value) (d : Option Addr) (pn : List (Addr × Obj)), Zc cls d oe → (∃ vs, oe.data = .fields vs) → PSs (X.suite a ((a, oe) :: pn)) (b₀ :: suite) (ts a cls d)) (r : ClsAs X D Wo hs W) :
      ClsAs X D Wo (.ExceptHandler (some (.Name x np)) (some n) (b₀ :: suite) q :: hs) (wAs X.K c i ts W D)
section
variable {X : Cx} {body : List Stmt} {h0 : ExceptHandler} {hr : List ExceptHandler} {pos : Pos} {tb : WX → TS} {Wout : WX} {Wf : Ends → WX}
theorem ps_try_asL (sk : X.stack = X.env :: X.outer) (fr : X.env.frame = some X.env.locals) (nd : X.N.Nodup) (tk : Takes X Wout)
    (hbody : ∀ (W : WX) (pn : List (Addr × Obj)) (xe : Value → Shared → Prop), Takes (X.tr pn xe) W → PassesOwn (model X.prog X.w) X.A X.env xe → PSs (X.tr pn xe) body (tb W))
    (cl : ∀ D, ClsAs X D Wout (h0 :: hr) (Wf D)) : PS X (.Try body (h0 :: hr) [] [] pos) (fun D σ H => tb (Wf D) D σ H) := by
  refine ⟨fun pins s σ H D J0 want => ?_⟩
  have okX := J0.ok
  have frs0 : X.A.frames = some (X.env :: X.outer) := by rw [okX.frames, sk]
  refine wpAny_Try_except ?_
  refine wpAny_mono ((hbody (Wf D) (X.pn ++ pins) (fun e t1 => wpAny (model X.prog X.w) X.A (noteFrame e X.env) (fun _ t2 => wpAny (model X.prog X.w) X.A (setFlight e none) (fun _ t3 =>
    wpAny (model X.prog X.w) X.A (handleBy e X.env (h0 :: hr)) (SP X pins D) X.xe t3) X.xe t2) X.xe t1) (fun u t0 caught => ?_) PassesOwn.looking).run [] s σ H D (J0.toTry _) want) (fun fl t1 done => ?_) (fun e t1 he => he)
  · obtain ⟨a, B, sI, pins', σ1, H1, cls, d, rfl, Jt, nb, up, sky0, na, os, ag, wished⟩ := caught
    have J1 : Inv X pins σ1 H1 sI := Jt.ofTry okX
    have sky1 : Sky B (X.env :: X.outer) a (Zc cls d) X.env.locals t0.heap := by rw [← sk]; exact sky0
    show wpAny (model X.prog X.w) X.A (noteFrame (.ref a) X.env) _ _ _
    refine Sky.land Zc.steady frs0 fr sky1 fun g3 land3 up3 => ?_
    have J3 : Inv X pins σ1 H1 { t0 with heap := g3 } := J1.landed nb land3.1 (up.trans up3) os ag
    obtain ⟨o3, v3, get3, zc3, dat3⟩ := land3.there
    have noFrame : ∀ {h : Heap} {o : Obj} {vs : Array Value}, h.FunFrames B (X.env :: X.outer) → h.get? a = some o → o.data = .fields vs → a ∉ frs (X.env :: X.outer) := fun {h o vs} ff e dd hm => by
      obtain ⟨_, ob, eb, isn⟩ := ff.mem hm
      rw [e] at eb; cases eb
      exact isn _ dd
    have na1 := noFrame land3.2.2.1 get3 dat3
    have aL : a ≠ X.env.locals := fun z => na1 (List.mem_filterMap.mpr ⟨X.env, List.mem_cons_self, by rw [fr, z]⟩)
    have aF : a ∉ X.fs := fun hm => by
      obtain ⟨e, he, q⟩ := List.mem_filterMap.mp hm
      exact na1 (List.mem_filterMap.mpr ⟨e, List.mem_cons_of_mem _ he, q⟩)
    have Q3 := J3.suite get3 dat3 na aL aF
    have each : ∀ {hs2 : List ExceptHandler} {W2 : WX}, ClsAs X D Wout hs2 W2 → W2 cls d σ1 H1 → wpAny (model X.prog X.w) X.A (handleBy (.ref a) X.env hs2) (SP X pins D) X.xe { t0 with heap := g3 } := by
      intro hs2 W2 hk
      induction hk with
      | nil =>
        intro w
        refine wpAny_handleBy_nil ?_
        obtain ⟨_, _, _, ob, vs, T, oT, tT, gob, zob, dob, fob, _⟩ := id land3
        unfold PySem.passOn
        refine wpAny_bind (wpAny_field gob dob fob ?_)
        rw [if_neg (show ¬ ((Value.ref T == Value.none) = true) by simp)]
        have last : wpAny (model X.prog X.w) X.A (setFlight (.ref a) X.env.frame) (fun _ t4 => wpAny (model X.prog X.w) X.A (throw (.ref a) : Sem Flow) (SP X pins D) X.xe t4) X.xe { t0 with heap := g3 } := by
          rw [fr]
          refine HandSPX.setFlight_upZ land3 fun g4 in4 up4 => wpAny_throw (tk _ _ ?_)
          exact ⟨a, B, sI, pins, σ1, H1, cls, d, rfl, J1, nb, (up.trans up3).trans up4, .inr (.inr (by rw [sk]; exact in4)), na, os, ag, w⟩
        first
          | exact wpAny_bind (wpAny_pure (wpAny_bind last))
          | exact wpAny_bind last
      | @cons x n c i ts b₀ suite np q hs3 W3 hc hi hl hsu _ ih =>
        rintro ⟨b, isx, yes, no⟩
        refine wpAny_handleBy_cons (codeAny_handlers_test ?_) (by intro q; cases q)
        have kindA : PySem.W.Looks (model X.prog X.w) g3 (typeOf (.ref a)) cls := fun A Q E s k q => wpAny_typeOf_ref (k _ _ get3) (by rw [zc3.1]; exact q)
        have matchA := PySem.W.exm_one (M := model X.prog X.w) (J3.kIn) kindA isx
        have named : ∀ {Q : Value → Shared → Prop} {E : Value → Shared → Prop}, Q c { t0 with heap := g3 } → wpAny (model X.prog X.w) (X.A.mark (some (.ref a))) (eval (.Name x np) X.env) Q E { t0 with heap := g3 } := fun {Q E} q => by
          obtain ⟨g1, g2, m1 | ⟨m1, m2, m3⟩⟩ := hc
          · exact ld_glob (X := X.suite a ((a, o3) :: (X.pn ++ pins))) Q3 g1 m1 q g2
          · exact ld_blt (X := X.suite a ((a, o3) :: (X.pn ++ pins))) Q3 g1 m1 m2 q m3 g2
        refine named (matchA.here ?_)
        cases b with
        | false =>
          show wpAny _ X.A (handleBy (.ref a) X.env hs3) _ _ _
          exact ih (no rfl)
        | true =>
          refine codeAny_handlers_suite_as ?_
          refine HandSPX.lands_againZ land3 fun g4 land4 up4 => ?_
          have J4 : Inv X pins σ1 H1 { t0 with heap := g4 } := J1.landed nb land4.1 ((up.trans up3).trans up4) os ag
          obtain ⟨o4, v4, get4, zc4, dat4⟩ := land4.there
          have Q4 := J4.suite get4 dat4 na aL aF
          refine store_ok (X := X.suite a ((a, o4) :: (X.pn ++ pins))) (v := .ref a) Q4 nd hi (.inl hl) rfl (fun t5 Q5 => ?_) (.inr hl)
          refine wpAny_mono ((hsu a o4 cls d (X.pn ++ pins) zc4 ⟨_, dat4⟩).run [] t5 _ H1 _ Q5 (yes rfl a na)) (fun fl t6 ends => ?_) (fun _ _ z => False.elim z)
          have away : ∀ {σ6 : L2.St} {H6 : Hp} {Q : Shared → Prop}, Inv (X.suite a ((a, o4) :: (X.pn ++ pins))) [] σ6 H6 t6 → (∀ t7, Inv X pins (σ6.set i none) H6 t7 → Q t7) →
              wpAny (model X.prog X.w) X.A (do bindName X.env n .none; unbindBehindTheSuite X.env n q) (fun _ t7 => Q t7) X.xe t6 := fun {σ6 H6 Q} Q6 hq => gone_ok (Q6.unsuite okX) nd hi hl hq
          cases fl with
          | next =>
            obtain ⟨_, _, Q6, q6⟩ := ends
            exact away Q6 fun t7 J7 => ⟨_, _, J7, q6⟩
          | brk =>
            obtain ⟨_, _, Q6, q6⟩ := ends
            exact away Q6 fun t7 J7 => ⟨_, _, J7, q6⟩
          | cont =>
            obtain ⟨_, _, Q6, q6⟩ := ends
            exact away Q6 fun t7 J7 => ⟨_, _, J7, q6⟩
          | ret u =>
            obtain ⟨_, _, _, Q6, r6, q6⟩ := ends
            exact away Q6 fun t7 J7 => ⟨_, _, _, J7, r6, q6⟩
    exact each (cl D) wished
  · cases fl with
    | next =>
      obtain ⟨_, _, Jd, q⟩ := done
      exact wpAny_execs_nil ⟨_, _, Jd.ofTry okX, q⟩
    | brk =>
      obtain ⟨_, _, Jd, q⟩ := done
      exact ⟨_, _, Jd.ofTry okX, q⟩
    | cont =>
      obtain ⟨_, _, Jd, q⟩ := done
      exact ⟨_, _, Jd.ofTry okX, q⟩
    | ret u =>
      obtain ⟨_, _, _, Jd, r, q⟩ := done
      exact ⟨_, _, _, Jd.ofTry okX, r, q⟩
end
section
variable {P : Program} {w : World} {K : PySem.W.Frag} {mg : Str → Option Value} {base : Heap} {k : Nat}
variable {Y : Fa P w K mg base k} {i : Y.I} {rest body s1 s2 : List Stmt} {b1 b2 : Stmt} {Γ : List Slot} {pos q1 q2 np1 np2 : Pos} {B : Bs} {D : Ends} {x1 x2 n1 n2 : Str}
/-- the wish of a try of two clauses -/
abbrev W2 (Y : Fa P w K mg base k) (i : Y.I) (c1 c2 : Value) (j1 j2 : Nat) (t1 t2 : List Stmt) (D : Ends) : WX := wAs K c1 j1 (tsC Y i t1) (wAs K c2 j2 (tsC Y i t2) Y.W D) D
theorem go_try_as2 {c1 c2 : Value} (j1 j2 : Nat) (h1 : Names (Y.X i) x1 c1) (h2 : Names (Y.X i) x2 c2)
    (hb : ∀ j : (Y.tr (W2 Y i c1 c2 j1 j2 (b1 :: s1) (b2 :: s2) { D with nx := cont (Y.X i) rest D })).I, j.1.1 = i → Go (Y.tr (W2 Y i c1 c2 j1 j2 (b1 :: s1) (b2 :: s2) { D with nx := cont (Y.X i) rest D })) j body { D with nx := cont (Y.X i) rest D } B Γ)
    (sk : (Y.X i).stack = (Y.X i).env :: (Y.X i).outer := by rfl) (fr : (Y.X i).env.frame = some (Y.X i).env.locals := by rfl) (hi1 : (Y.X i).N[j1]? = some n1 := by rfl) (hl1 : (Y.X i).env.kindOf n1 = some .local := by rfl) (hi2 : (Y.X i).N[j2]? = some n2 := by rfl) (hl2 : (Y.X i).env.kindOf n2 = some .local := by rfl) :
    Go Y i (.Try body [.ExceptHandler (some (.Name x1 np1)) (some n1) (b1 :: s1) q1, .ExceptHandler (some (.Name x2 np2)) (some n2) (b2 :: s2) q2] [] [] pos :: rest) D B Γ := by
  refine go_ps (ps_try_asL (tb := tbC Y i body) (Wf := fun D => W2 Y i c1 c2 j1 j2 (b1 :: s1) (b2 :: s2) D) sk fr (Y.hN i) (Y.tk i) (fun W pn xe tk po => ⟨fun pins s σ H D I h => h pn xe tk po pins s I⟩) (fun D => ?_)) fun F H σ S => ?_
  · have r2 := ClsAs.cons (X := Y.X i) (D := D) (Wo := Y.W) (ts := tsC Y i (b2 :: s2)) (np := np2) (q := q2) h2 hi2 hl2 (fun a oe cls d pn hz hf => ⟨fun pins s σ H D I h => h oe pn hz hf pins s I⟩) .nil
    have r1 := ClsAs.cons (X := Y.X i) (D := D) (Wo := Y.W) (ts := tsC Y i (b1 :: s1)) (np := np1) (q := q1) h1 hi1 hl1 (fun a oe cls d pn hz hf => ⟨fun pins s σ H D I h => h oe pn hz hf pins s I⟩) r2
    rw [Y.hK i] at r1
    exact r1
  · intro pn xe tk po
    exact hb ⟨(i, pn, xe), tk, po⟩ rfl F H σ S
end
end Ty

/-! Ty27 -/
/-! == and != by an own __eq__; isinstance with an own class -/
namespace Ty
open PySem PySem.Spec L2 PyProof.Rows
section
variable {X : Cx} {CX : CXT} {n : Nat} {f C : Addr} {fd : FuncData} {ps : List Str} {sp : Sp} {E : XK} {pins : List (Addr × Obj)} {σ : L2.St} {H : Hp} {s : Shared}
/-- what an instance of C is compared with -/
inductive Oth (K : PySem.W.Frag) (C : Addr) (H : Hp) : V → Prop
  | ins {a dx : Addr} {fs : List (Str × V)} (h : H a = some (.ins C dx fs)) : Oth K C H (.ref a)
  | int {i : Int} (h : PySem.W.subIn K (.type "int") (.ref C) = some false) : Oth K C H (.int i)
theorem Oth.looks (I : Inv X pins σ H s) {y : V} {u : Value} (o : Oth X.K C H y) (r : RelV y u) : ∃ tb, PySem.W.Looks (model X.prog X.w) s.heap (typeOf u) tb ∧ PySem.W.notFirst X.K C tb = true := by
  cases o with
  | ins h =>
    cases r
    obtain ⟨mB, J, _⟩ := ins_get I.hok h
    obtain ⟨od, J, _⟩ := J.look
    exact ⟨_, J.type, by simp [PySem.W.notFirst]⟩
  | int h =>
    obtain ⟨t, rfl⟩ := r
    exact ⟨.type "int", fun A Q E s k q => wpAny_typeOf (show s.TypeIs (.int _ t) "int" from rfl) q, by simp [PySem.W.notFirst, h]⟩
def rOwn (K : PySem.W.Frag) (C : Addr) (sp : Sp) (E : XK) (g : Bool → Bool) : R2 := fun x y H Q => ∃ (a dx : Addr) (fs : List (Str × V)), x = .ref a ∧ H a = some (.ins C dx fs) ∧ Oth K C H y ∧ sp [x, y] H (fun v H' => ∃ b, v = .bl b ∧ Q (.bl (g b)) H') E
section
variable {M : Model} {prog : Program} {w : World} {A : Around} {E : Value → Shared → Prop} {s : Shared} {K : PySem.W.Frag} {x C f : Addr} {ox : Obj} {od : Option Obj} {b : Value}
end
end
section
variable {P : Program} {w : World} {K : PySem.W.Frag} {mg : Str → Option Value} {base : Heap} {k : Nat}
variable {Y : Fa P w K mg base k} {Γ : List Slot} {a b s : Slot} {C C' : Addr} {ns : List Str} {α β : Type} {q : VP β} {f : Addr} {fd : FuncData} {ps : List Str} {As : α × β → List Slot} {m : α × β → Option Bool} {j : Nat}
abbrev E0' : XK := fun _ _ _ => False
/-- what may stand on the right -/
def OthV (K : PySem.W.Frag) (C : Addr) (q : VP β) (z : β) : Prop := ∀ H v, q.R H v z → Oth K C H v
theorem OthV.obj {sl : β → List Slot} {z : β} : OthV K C (pObj C ns sl) z := fun H v h => by
  obtain ⟨x, dx, vs, rfl, h1, _⟩ := h
  exact .ins h1
theorem OthV.int {z : Int} (h : PySem.W.subIn K (.type "int") (.ref C) = some false) : OthV K C pInt z := fun H v e => by
  cases e
  exact .int h
/-! ### isinstance with an own class -/
def TyX' (K : PySem.W.Frag) (s : Slot) (t : Value) : Prop := ∀ F H fp o, Same F H → s.P F H fp o → ∃ v, o = some v ∧ TyX K H v t
structure IsC (K : PySem.W.Frag) (C : Addr) : Prop where
  cl : Cls K C
  ha : PySem.W.findIn K (.ref C) "__class__" = some (some (.builtin "object.__class__"))
  hn : PySem.W.specialIn K (.builtin "object.__class__") "__get__" = some (some (.builtin "getset_descriptor.__get__"))
  ht : PySem.W.takesIn K (.builtin "object.__class__") = some true
  hm : PySem.W.mroIn K C (.type "object") = some true
theorem TyX'.obj (c : IsC K C) {sl : α → List Slot} {z : α} : TyX' K (val (pObj C ns sl) z) (.ref C) := fun F H fp o hS h => by
  obtain ⟨_, v, e, x, dx, vs, rfl, h1, _⟩ := h
  exact ⟨_, e, .base (.ins (hS _ _ h1) c.cl c.ha c.hn c.ht c.hm)⟩
theorem TyX'.bobj (c : IsC K C) {Δ : List Slot} : TyX' K (bobj C ns Δ) (.ref C) := fun F H fp o hS h => by
  obtain ⟨_, x, dx, vs, os, e, h1, _⟩ := h
  exact ⟨_, e, .base (.ins h1 c.cl c.ha c.hn c.ht c.hm)⟩
theorem TyX'.of {T : String} (h : TyV K s T) : TyX' K s (.type T) := h
theorem o_isiC {t : Value} {z : Bool} (hs : TyX' K s t) (hz : PySem.W.kitOne K t (.ref C) = some z) : OpA (rIsi K) [s, val (pRef C) ()] (vBl z) := opA2 fun B F H x y fx fy os Q W p1 p2 kk => by
  obtain ⟨v, ev, ty⟩ := hs F H fx _ W.sub p1
  cases ev
  obtain ⟨_, r2⟩ := val_P p2
  cases r2
  exact ⟨x, _, t, .ref C, z, rfl, .own C, ty, hz, kk _ F H [] same_refl same_refl W.drop.drop ⟨rfl, _, rfl, rfl⟩⟩
theorem kit_self : PySem.W.kitOne K (.ref C) (.ref C) = some true := by
  unfold PySem.W.kitOne
  rw [if_pos (by simp)]
end
end Ty

/-! Ty28 -/
/-! lists of several kinds unpacked; data of any make walked and displayed; wide division; errors within subscripts -/
namespace Ty
open PySem PySem.Spec L2
section
variable {P : Program} {w : World} {K : PySem.W.Frag} {mg : Str → Option Value} {base : Heap} {k : Nat}
variable {Y : Fa P w K mg base k} {i : Y.I} {e ea eb eo ev tg iter elt : Expr} {es ifs : List Expr} {rest body : List Stmt} {Γ Γ' Γ1 Γ2 Δ Δ' As : List Slot} {a b c r s s' : Slot} {pos pos' : Pos} {B : Bs} {D : Ends} {x f : Str} {p' p2 : Pos} {C : Addr} {ns : List Str} {α β : Type} {p : VP α} {q : VP β} {xs : List α} {EX : ExT} {ex : Exn}
/-- [e, ..] of things of several kinds, none handed on -/
theorem x_lstA (ha : XA Y es Γ As) (hz : As.length ≤ sizeLine) : XV Y (.List es pos) Γ (lstS As) := by
  obtain ⟨t, pa, rd⟩ := ha
  refine ⟨_, fun i => pe_lst (pa i), fun B F H os σ Q I kk => ?_⟩
  refine rd B F H os σ _ I fun vs F1 H1 fp f1 e1 W1 A1 => ?_
  refine ⟨by have := A1.length; rw [List.length_map] at this; rw [this]; exact hz, fun n hn => ?_⟩
  exact kk _ F1 _ (n :: fp) f1 (e1.trans (same_upd hn)) (W1.newO hn) ⟨n, vs, fp, rfl, rfl, upd_same, A1.mono same_refl (same_upd hn)⟩
/-! ### data -/
theorem x_tupD {n : Nat} {ds : List PyData} (ha : XA Y es Γ (ds.map (val (pDa K)))) (hz : ds.length ≤ sizeLine) : XV Y (.Tuple es n pos) Γ (val (pDa K) (.tuple ds)) :=
  (x_tupN (p := pDa K) ha hz).as fun F H fp o _ ⟨e1, v, e2, l, vs, ev, h1, h2⟩ => ⟨e1, v, e2, by subst ev; exact .tup (SqT.of h1) (dpAll_paired h2)⟩
def pdItems : PyData → Option (List PyData)
  | .list ds => some ds
  | _ => none
/-- an item of a list or of a tuple -/
def pdAt : PyData → Int → Option PyData
  | .list ds, z => atI ds z
  | .tuple ds, z => atI ds z
  | _, _ => none
def pdIsT : PyData → Bool
  | .tuple _ => true
  | _ => false
theorem sameT {H H' : Hp} {a : Addr} {vs : List V} (e : Same H H') (h : SqT K H a vs) : SqT K H' a vs := by
  rcases h with h | h
  · refine .inl ?_
    rcases h with h | ⟨o, h⟩
    · exact .inl (e _ _ h)
    · exact .inr ⟨o, e _ _ h⟩
  · exact .inr h
theorem TV.data {ds : List PyData} : ∀ F H fp o, Same F H → (Ty.val (pDa K) (.tuple ds)).P F H fp o → ∃ l vs, o = some (.ref l) ∧ SqT K H l vs ∧ Paired ((pDa K).R F) vs ds := fun F H fp o hS h => by
  obtain ⟨_, v, e, r⟩ := h
  cases (show Dp K F v (.tuple ds) from r) with
  | tup h1 h2 => exact ⟨_, _, e, sameT hS h1, paired_dpAll h2⟩
theorem x_ixDT {d u : PyData} {z : Int} (ht : pdIsT d = true) (ha : XV Y ea Γ (val (pDa K) d)) (hb : XV Y eb Γ (vInt z)) (hz : pdAt d z = some u) (hx : PlainIx eb := by exact fun _ _ => rfl) : XV Y (.Subscript ea eb pos) Γ (val (pDa K) u) := by
  cases d with
  | tuple ds =>
    obtain ⟨ta, pa, ra⟩ := ha
    obtain ⟨tb, pb, rb⟩ := hb
    refine ⟨_, fun i => by have h := ix_tup (X := Y.X i); rw [Y.hK i] at h; exact pe_ix h (pa i) (pb i) hx, fun B F H os σ Q I q => ?_⟩
    refine two (Q := fun _ _ => True) I ra rb fun x y F2 H2 fx fy f2 e2 W2 p1 p2 => ?_
    obtain rfl := vint p2
    obtain ⟨rfl, _⟩ := val_P p1
    obtain ⟨l, vs, ev, h1, h2⟩ := TV.data F2 H2 _ _ W2.sub p1
    cases ev
    obtain ⟨v, hv, rv⟩ := paired_atI h2 hz
    exact ⟨l, vs, z, v, rfl, rfl, h1, hv, q v F2 H2 [] f2 e2 W2.drop ⟨rfl, _, rfl, rv⟩⟩
  | _ => cases ht
theorem x_ixDA {d u : PyData} {z : Int} (ha : XV Y ea Γ (val (pDa K) d)) (hb : XV Y eb Γ (vInt z)) (hz : pdAt d z = some u) (hx : PlainIx eb := by exact fun _ _ => rfl) : XV Y (.Subscript ea eb pos) Γ (val (pDa K) u) := by
  cases d with
  | list ds => exact x_ixD ha hb hz hx
  | tuple ds => exact x_ixDT rfl ha hb hz hx
  | _ => cases hz
/-! ### errors within -/
/-! ### // by great numbers -/
end
end Ty

/-! Ty29 -/
/-! lending: an owned list is handed to a def that only looks at it, and is owned again behind the call -/
namespace Ty
open PySem PySem.Spec L2
open PyProof.Rows (envOfC)
/-- all of F but its lists is in F' -/
def Kp (F F' : Hp) : Prop := ∀ a o, F a = some o → (∀ vs, o ≠ .lst vs) → F' a = some o
/-- what leans on no frozen list -/
def NLp {α : Type} (p : VP α) : Prop := ∀ F F' v a, Kp F F' → p.R F v a → p.R F' v a
def NLs (s : Slot) : Prop := ∀ F F' H fp o, Kp F F' → s.P F H fp o → s.P F' H fp o
def NLl (Γ : List Slot) : Prop := ∀ s ∈ Γ, NLs s
theorem NLp.flat {α : Type} {p : VP α} (h : Flat p) : NLp p := fun F F' v a _ r => h F F' v a r
theorem NLp.int : NLp pInt := .flat Flat.int
theorem NLp.bl : NLp pBl := .flat Flat.bl
theorem NLp.str : NLp pStr := .flat Flat.str
theorem paired_nl {α : Type} {p : VP α} {F F' : Hp} (h : NLp p) (k : Kp F F') : ∀ {vs : List V} {xs : List α}, Paired (p.R F) vs xs → Paired (p.R F') vs xs
  | _, _, .nil => .nil
  | _, _, .cons r t => .cons (h F F' _ _ k r) (paired_nl h k t)
theorem NLp.tup {α : Type} {p : VP α} (h : NLp p) : NLp (pTup p) := fun F F' v a k ⟨l, vs, e, h1, h2⟩ => ⟨l, vs, e, k _ _ h1 (by intro _ z; cases z), paired_nl h k h2⟩
theorem NLp.t2 {α β : Type} {p : VP α} {q : VP β} (h : NLp p) (h' : NLp q) : NLp (pT2 p q) := fun F F' v a k ⟨l, x, y, e, h1, h2, h3⟩ => ⟨l, x, y, e, k _ _ h1 (by intro _ z; cases z), h _ _ _ _ k h2, h' _ _ _ _ k h3⟩
theorem NLp.t3 {α β γ : Type} {p : VP α} {q : VP β} {r : VP γ} (h : NLp p) (h' : NLp q) (h'' : NLp r) : NLp (pT3 p q r) := fun F F' v a k ⟨l, x, y, z, e, h1, h2, h3, h4⟩ => ⟨l, x, y, z, e, k _ _ h1 (by intro _ z; cases z), h _ _ _ _ k h2, h' _ _ _ _ k h3, h'' _ _ _ _ k h4⟩
theorem NLs.val {α : Type} {p : VP α} {a : α} (h : NLp p) : NLs (Ty.val p a) := fun F F' H fp o k ⟨e, v, ev, r⟩ => ⟨e, v, ev, h _ _ _ _ k r⟩
theorem NLs.oL {α : Type} {p : VP α} {xs : List α} (h : NLp p) : NLs (own (Ty.oL p) xs) := fun F F' H fp o k ⟨v, ev, l, vs, e, ef, h1, h2⟩ => ⟨v, ev, l, vs, e, ef, h1, paired_nl h k h2⟩
theorem NLl.nil : NLl [] := fun _ h => nomatch h
theorem NLl.cons {s : Slot} {Γ : List Slot} (h : NLs s) (r : NLl Γ) : NLl (s :: Γ) := fun x hx => by
  rcases List.mem_cons.mp hx with rfl | hx
  · exact h
  · exact r x hx
theorem NLl.map {α : Type} {g : α → Slot} {xs : List α} (h : ∀ x, NLs (g x)) : NLl (xs.map g) := fun s hs => by
  obtain ⟨x, _, rfl⟩ := List.mem_map.mp hs
  exact h x
theorem NLl.slots {F F' H : Hp} (k : Kp F F') {os : List Addr} {σ : List (Option V)} {Γ : List Slot} (S : Slots F H os σ Γ) : NLl Γ → Slots F' H os σ Γ := by
  induction S with
  | nil => exact fun _ => .nil
  | cons p _ ih => exact fun h => .cons (h _ List.mem_cons_self _ _ _ _ _ k p) (ih fun s hs => h s (List.mem_cons_of_mem _ hs))
theorem NLs.lst {Δ : List Slot} (h : NLl Δ) : NLs (lstS Δ) := fun F F' H fp o k ⟨l, vs, os, e1, e2, h1, h2⟩ => ⟨l, vs, os, e1, e2, h1, h.slots k h2⟩
theorem NLs.obj {C : Addr} {ns : List Str} {Δ : List Slot} (h : NLl Δ) : NLs (Ty.obj C ns Δ) := fun F F' H fp o k ⟨x, dx, vs, os, e1, e2, h1, h2, h3, h4⟩ => ⟨x, dx, vs, os, e1, e2, h1, h2, h3, h.slots k h4⟩
/-- what is owned is lists alone -/
def OnlyL (s : Slot) : Prop := ∀ F H fp o, s.P F H fp o → ∀ a ∈ fp, ∃ vs, H a = some (.lst vs)
theorem OnlyL.oL {α : Type} {p : VP α} {xs : List α} : OnlyL (own (Ty.oL p) xs) := fun F H fp o ⟨v, ev, l, vs, e, ef, h1, h2⟩ a ha => by
  rw [ef] at ha
  rw [List.mem_singleton.mp ha]
  exact ⟨vs, h1⟩
theorem onlyL_slots {F H : Hp} {os : List Addr} {σ : List (Option V)} {Γ : List Slot} (S : Slots F H os σ Γ) : (∀ s ∈ Γ, OnlyL s) → ∀ a ∈ os, ∃ vs, H a = some (.lst vs) := by
  induction S with
  | nil => exact fun _ a ha => nomatch ha
  | cons p _ ih =>
    intro h a ha
    rcases List.mem_append.mp ha with ha | ha
    · exact h _ List.mem_cons_self _ _ _ _ p a ha
    · exact ih (fun s hs => h s (List.mem_cons_of_mem _ hs)) a ha
theorem OnlyL.lst {Δ : List Slot} (h : ∀ s ∈ Δ, OnlyL s) : OnlyL (lstS Δ) := fun F H fp o ⟨l, vs, os, e1, e2, h1, h2⟩ a ha => by
  rw [e2] at ha
  rcases List.mem_cons.mp ha with rfl | ha
  · exact ⟨vs, h1⟩
  · exact onlyL_slots h2 h a ha
theorem OnlyL.map {α : Type} {g : α → Slot} {xs : List α} (h : ∀ x, OnlyL (g x)) : ∀ s ∈ xs.map g, OnlyL s := fun s hs => by
  obtain ⟨x, _, rfl⟩ := List.mem_map.mp hs
  exact h x
def EXL (EX : ExT) : Prop := ∀ ex cls d F F', Kp F F' → EX ex cls d F → EX ex cls d F'
/-- owned objects become frozen, and nothing else -/
theorem Wo.freeze2 {B : Bs} {F H : Hp} {a b : List Addr} (W : Wo B F H (a ++ b)) : ∃ F', Wo B F' H b ∧ Same F F' ∧ (∀ x ∈ a, F' x = H x) ∧ ∀ x o, F' x = some o → x ∈ a ∨ F x = some o := by
  classical
  have nd := List.nodup_append.mp W.nd
  refine ⟨fun x => if x ∈ a then H x else F x, ⟨fun x o e => ?_, nd.2.1, fun x hx => ?_, fun x hx => W.oH x (List.mem_append_right _ hx), fun x o e => ?_, W.bH, fun x o e => ?_, fun x hx => W.bO x (List.mem_append_right _ hx)⟩, fun x o e => ?_, fun x hx => if_pos hx, fun x o e => ?_⟩
  · by_cases q : x ∈ a
    · simp only [q, if_true] at e; exact e
    · simp only [q, if_false] at e; exact W.sub x o e
  · have q : x ∉ a := fun q => (nd.2.2 x q x hx) rfl
    simp only [q, if_false]; exact W.oF x (List.mem_append_right _ hx)
  · have q : x ∉ a := fun q => by
      have z := W.oF x (List.mem_append_left _ q)
      rw [W.bF x o e] at z; cases z
    simp only [q, if_false]; exact W.bF x o e
  · by_cases q : x ∈ a
    · exact .inr (W.bO x (List.mem_append_left _ q))
    · simp only [q, if_false] at e; exact W.bN x o e
  · have q : x ∉ a := fun q => by
      have z := W.oF x (List.mem_append_left _ q)
      rw [e] at z; cases z
    simp only [q, if_false]; exact e
  · by_cases q : x ∈ a
    · exact .inl q
    · simp only [q, if_false] at e; exact .inr e
section
variable {P : Program} {w : World} {K : PySem.W.Frag} {mg : Str → Option Value} {base : Heap} {k : Nat}
variable {Y : Fa P w K mg base k} {e : Expr} {es : List Expr} {Γ : List Slot} {s s' r : Slot} {EX : ExT} {ex : Exn}
end
end Ty

/-! Ty30 -/
/-! a loop over an owned list of owned lists that changes each of them -/
namespace Ty
open PySem PySem.Spec L2
open PyProof.Rows (envOfC)
/-- an owned list of owned things, its address and theirs known -/
def lstAt (l : Addr) (vs : List V) (Γs : List Slot) : Slot where
  P := fun F H fp o => ∃ os, o = some (.ref l) ∧ fp = l :: os ∧ H l = some (.lst vs) ∧ Slots F H os (vs.map some) Γs
  mono := fun hF hH h => let ⟨os, e1, e2, h1, h2⟩ := h; ⟨os, e1, e2, hH _ _ h1, h2.mono hF hH⟩
  st := Stb Γs
  mm := fun hs {_ _ _ _ _ _} hF hH h => let ⟨os, e1, e2, h1, h2⟩ := h
    ⟨os, e1, e2, by rw [hH l (by rw [e2]; simp)]; exact h1, h2.mm hF hs fun q hq => hH q (by rw [e2]; simp [hq])⟩
section
variable {P : Program} {w : World} {K : PySem.W.Frag} {mg : Str → Option Value} {base : Heap} {k : Nat}
variable {Y : Fa P w K mg base k} {i : Y.I} {e ea eb eo ev tg iter elt : Expr} {es ifs : List Expr} {rest body : List Stmt} {Γ Γ' Γ1 Γ2 Δ Δ' : List Slot} {a b c r s s' : Slot} {pos : Pos} {B : Bs} {D : Ends} {x g f : Str} {p' : Pos}
end
end Ty

/-! Ty31 -/
/-! one of an owned display; an owned thing put at the end of an owned list -/
namespace Ty
open PySem PySem.Spec L2
open PyProof.Rows (envOfC)
section
variable {P : Program} {w : World} {K : PySem.W.Frag} {mg : Str → Option Value} {base : Heap} {k : Nat}
variable {Y : Fa P w K mg base k} {i : Y.I} {e ea eb eo ev tg iter elt : Expr} {es ifs : List Expr} {rest body : List Stmt} {Γ Γ' Γ1 Γ2 Δ Δ' : List Slot} {a b c r s s' : Slot} {pos : Pos} {B : Bs} {D : Ends} {x g f : Str} {p' : Pos}
/-- xs.append(e), e a new thing -/
theorem go_appendO {up : Slot → List Slot} {apos cpos : Pos} (ho : PL Y eo Γ (lstS Δ) up) (he : XV Y e Γ s) (hz : Δ.length < sizeLine) (hsd : Stb Δ) (hst : s.st) (hg : Go Y i rest D B (up (lstS (Δ ++ [s]))))
    (hb : Bm1 (Y.X i) eo "append" apos e cpos := by exact ⟨rfl, rfl, rfl, rfl, rfl⟩)
    (hs : swapsWith (.Call (.Attribute eo "append" apos) [e] [] cpos) none pos.line (Y.X i).env = pure false := by rfl) : Go Y i (.Expr (.Call (.Attribute eo "append" apos) [e] [] cpos) pos :: rest) D B Γ := by
  obtain ⟨t, Pv, pe, pst, rd, up'⟩ := ho
  obtain ⟨t2, pe2, rd2⟩ := he
  refine go_ps (ps_expr (pe_bm PySem.F.plainAttrs_list PySem.F.slot_list_append PySem.F.type_list_append mt_append (pe i) (pa_cons (pe2 i) pa_nil hb.st) hb.base hb.few hb.line hb.st hb.pl) hs) fun F H σ ⟨os, W, S⟩ => ?_
  refine rd B F H os σ _ (Sta.in W S) fun v hv => ?_
  obtain ⟨fp, r, hr, hp, _⟩ := up' F H os σ v S hv
  obtain ⟨l, vs, osl, ev, ef, h1, h2⟩ := hp
  cases ev; subst ef
  refine ⟨.inl ⟨rfl, vs, SqL.of h1⟩, rd2 B F H os σ _ (Sta.in W S) fun y F1 H1 fy f1 e1 W1 p1 => ?_⟩
  obtain ⟨fp1, r1, hr1, hp1, kk1⟩ := up' F1 H1 os σ _ (S.mono f1 e1) (pst _ _ _ _ e1 hv)
  obtain ⟨l1, vs1, osl1, ev1, ef1, g1, g2⟩ := hp1
  cases ev1; subst ef1
  have hlen : vs1.length = Δ.length := by have := g2.length; simpa using this
  refine ⟨l, vs1, y, rfl, rfl, g1, by rw [hlen]; exact hz, ?_⟩
  have W2 : Wo B F1 H1 (l :: (osl1 ++ (fy ++ r1))) := W1.perm (by
    refine (List.Perm.append_left fy hr1).trans ?_
    show (fy ++ (l :: osl1 ++ r1)).Perm (l :: (osl1 ++ (fy ++ r1)))
    refine (List.perm_middle (a := l) (l₁ := fy) (l₂ := osl1 ++ r1)).trans (List.Perm.cons l ?_)
    rw [← List.append_assoc, ← List.append_assoc]
    exact List.Perm.append_right r1 List.perm_append_comm)
  have nd := List.nodup_cons.mp W2.nd
  have hk : ∀ q ∈ osl1 ++ (fy ++ r1), upd H1 l (.lst (vs1 ++ [y])) q = H1 q := fun q hq => upd_ne fun z => nd.1 (z ▸ hq)
  have S2 : Slots F1 (upd H1 l (.lst (vs1 ++ [y]))) (osl1 ++ fy) ((vs1 ++ [y]).map some) (Δ ++ [s]) := by
    rw [List.map_append]
    have := Slots.append (g2.mm same_refl hsd fun q hq => hk q (List.mem_append_left _ hq)) (Slots.cons (s.mm hst same_refl (fun q hq => hk q (by simp [hq])) p1) .nil)
    rw [List.append_nil] at this
    exact this
  obtain ⟨os', h1', h2'⟩ := kk1 F1 (upd H1 l (.lst (vs1 ++ [y]))) (l :: (osl1 ++ fy)) (lstS (Δ ++ [s])) same_refl (fun q hq => hk q (by simp [hq])) ⟨l, _, _, rfl, rfl, upd_same, S2⟩
  refine hg F1 _ σ ⟨os', (W2.write (o := .lst (vs1 ++ [y])) List.mem_cons_self).perm ?_, h1'⟩
  refine List.Perm.trans ?_ h2'.symm
  show (l :: (osl1 ++ (fy ++ r1))).Perm (l :: (osl1 ++ fy ++ r1))
  rw [List.append_assoc]
end
end Ty

/-! Ty32 -/
/-! more ints of which the heap takes no notice -/
namespace Ty
open PySem PySem.Spec L2
open PyProof.Rows (envOfC)
section
variable {P : Program} {w : World} {K : PySem.W.Frag} {mg : Str → Option Value} {base : Heap} {k : Nat}
variable {Y : Fa P w K mg base k} {i : Y.I} {e ea eb eo : Expr} {Γ : List Slot} {s : Slot} {pos p' pn : Pos} {x : Str}
end
end Ty

/-! Ty33 -/
/-! an owned thing put into an owned list of owned things -/
namespace Ty
open PySem PySem.Spec L2
open PyProof.Rows (envOfC)
theorem Slots.putAt {F H : Hp} {os : List Addr} {σ : List (Option V)} {Δ : List Slot} {j : Nat} {s : Slot} {fp : List Addr} {v : V} (S : Slots F H os σ Δ) (hj : j < Δ.length) (p : s.P F H fp (some v)) : ∃ d os', Slots F H os' (σ.set j (some v)) (Δ.set j s) ∧ (fp ++ os).Perm (d ++ os') := by
  obtain ⟨o, f1, r, e, q, hp, kk⟩ := S.at (i := j) (s := Δ[j]) (List.getElem?_eq_getElem hj)
  obtain ⟨os', h1, h2⟩ := kk (F' := F) (H' := H) (fp' := fp) (o' := some v) (s' := s) p fun _ _ _ _ _ h => h
  refine ⟨f1, os', h1, ?_⟩
  refine (List.Perm.append_left fp hp).trans ?_
  refine List.Perm.trans ?_ (List.Perm.append_left f1 h2.symm)
  rw [← List.append_assoc, ← List.append_assoc]
  exact List.Perm.append_right r List.perm_append_comm
section
variable {P : Program} {w : World} {K : PySem.W.Frag} {mg : Str → Option Value} {base : Heap} {k : Nat}
variable {Y : Fa P w K mg base k} {i : Y.I} {e ea eb eo ev tg iter elt : Expr} {es ifs : List Expr} {rest body : List Stmt} {Γ Γ' Γ1 Γ2 Δ Δ' : List Slot} {a b c r s s' : Slot} {pos : Pos} {B : Bs} {D : Ends} {x g f : Str} {p' : Pos}
theorem go_setitemO {up : Slot → List Slot} {pos' : Pos} {z : Int} {j : Nat} (ho : PL Y eo Γ (lstS Δ) up) (hi : XV Y eb Γ (vInt z)) (he : XV Y e Γ s) (hj : ixN Δ.length z = some j) (hsd : Stb Δ) (hst : s.st) (hg : Go Y i rest D B (up (lstS (Δ.set j s))))
    (hsi : Si (Y.X i) eo eb e pos' pos.line := by exact ⟨fun _ => rfl, rfl, rfl, rfl⟩) : Go Y i (.Assign [.Subscript eo eb pos'] e pos :: rest) D B Γ := by
  obtain ⟨t, Pv, pe, pst, rd, up'⟩ := ho
  obtain ⟨t2, pe2, rd2⟩ := he
  obtain ⟨t3, pe3, rd3⟩ := hi
  refine go_ps (ps_asg (pe2 i) (pg_sub (pe i) (pe3 i) set_list hsi.ha) hsi.hs hsi.hw hsi.h1) fun F H σ ⟨os, W, S⟩ => ?_
  refine rd2 B F H os σ _ (Sta.in W S) fun y F1 H1 fy f1 e1 W1 p1 => ?_
  have I1 := (Sta.in W S).step f1 e1 W1
  refine rd B F1 H1 _ σ _ I1 fun v hv => ?_
  refine rd3 B F1 H1 _ σ _ I1 fun y2 F2 H2 fy2 f2 e2 W2 p2 => ?_
  obtain rfl := vint p2
  have ry := s.mono f2 e2 p1
  obtain ⟨fp1, r1, hr1, hp1, kk1⟩ := up' F2 H2 os σ _ (S.mono (f1.trans f2) (e1.trans e2)) (pst _ _ _ _ e2 hv)
  obtain ⟨l1, vs1, osl, ev1, ef1, g1, g2⟩ := hp1
  cases ev1; subst ef1
  have hlen : vs1.length = Δ.length := by have := g2.length; simpa using this
  have hjl : j < Δ.length := by
    unfold ixN at hj
    split at hj <;> (first | (cases hj; omega) | (split at hj <;> (first | (cases hj; omega) | cases hj)) | cases hj)
  refine ⟨l1, vs1, z, j, rfl, rfl, g1, by rw [hlen]; exact hj, ?_⟩
  have W3 : Wo B F2 H2 (l1 :: ((fy ++ osl) ++ r1)) := W2.drop.perm (by
    refine (List.Perm.append_left fy hr1).trans ?_
    show (fy ++ (l1 :: osl ++ r1)).Perm (l1 :: (fy ++ osl ++ r1))
    refine (List.perm_middle (a := l1) (l₁ := fy) (l₂ := osl ++ r1)).trans (List.Perm.cons l1 ?_)
    rw [List.append_assoc])
  have nd := List.nodup_cons.mp W3.nd
  have hk : ∀ q ∈ (fy ++ osl) ++ r1, upd H2 l1 (.lst (vs1.set j y)) q = H2 q := fun q hq => upd_ne fun z => nd.1 (z ▸ hq)
  obtain ⟨d, os', S3, hpd⟩ := (g2.mm (H' := upd H2 l1 (.lst (vs1.set j y))) same_refl hsd fun q hq => hk q (by simp [hq])).putAt (s := s) (v := y) (fp := fy) hjl (s.mm hst same_refl (fun q hq => hk q (by simp [hq])) ry)
  rw [← List.map_set] at S3
  obtain ⟨os2, h1', h2'⟩ := kk1 F2 (upd H2 l1 (.lst (vs1.set j y))) (l1 :: os') (lstS (Δ.set j s)) same_refl (fun q hq => hk q (by simp [hq])) ⟨l1, _, _, rfl, rfl, upd_same, S3⟩
  refine hg F2 _ σ ⟨os2, Wo.drop (a := d) (((W3.write (o := .lst (vs1.set j y)) List.mem_cons_self).perm ?_)), h1'⟩
  refine List.Perm.trans (List.Perm.cons l1 (List.Perm.append_right r1 hpd)) ?_
  refine List.Perm.trans ?_ (List.Perm.append_left d h2'.symm)
  show (l1 :: (d ++ os' ++ r1)).Perm (d ++ (l1 :: os' ++ r1))
  rw [List.append_assoc]
  exact (List.perm_middle (a := l1) (l₁ := d) (l₂ := os' ++ r1)).symm
/-- what is looked at, its items without a heap -/
theorem XV.bl {α : Type} {p : VP α} {xs : List α} (h : XV Y e Γ (bor (pL p) xs)) (hf : Flat p) : XV Y e Γ (borL p xs) := h.as fun F H fp o _ ⟨e1, v, e2, l, vs, ev, h1, h2⟩ => ⟨e1, l, vs, by rw [e2, ev], h1, Paired.mon (fun _ _ r => hf _ _ _ _ r) h2⟩
end
end Ty

/-! Ty34 -/
/-! an own == said plainly; what leans on no list -/
namespace Ty
open PySem PySem.Spec L2
open PyProof.Rows (envOfC)
section
variable {P : Program} {w : World} {K : PySem.W.Frag} {mg : Str → Option Value} {base : Heap} {k : Nat}
variable {Y : Fa P w K mg base k} {Γ : List Slot} {a b s : Slot} {C C' : Addr} {ns : List Str} {α β : Type} {q : VP β} {f : Addr} {fd : FuncData} {ps : List Str} {As : α × β → List Slot} {m : α × β → Option Bool} {j : Nat}
end
/-- a def that may raise, where it does not -/
def okR {α : Type} (o : Option (Rx α)) : Option α := o.bind fun
  | .ok a => some a
  | .ex _ => none
section
variable {P : Program} {w : World} {K : PySem.W.Frag} {mg : Str → Option Value} {base : Heap} {k : Nat}
variable {Y : Fa P w K mg base k} {i : Y.I} {Γ : List Slot} {pos p' pn : Pos} {x : Str}
end
section
variable {P : Program} {w : World} {K : PySem.W.Frag} {mg : Str → Option Value} {base : Heap} {k : Nat}
variable {Y : Fa P w K mg base k} {i : Y.I} {tg iter elt : Expr} {ifs : List Expr} {Γ : List Slot} {pos : Pos} {scope : Scope}
end
theorem Kp.xd {F F' : Hp} (h : Kp F F') {a : Addr} {d : HO} (e : F a = some d) (hd : ∀ vs, d ≠ .lst vs) : F' a = some d := h a d e hd
end Ty

/-! Ty35 -/
/-! dicts whose keys are tuples within tuples -/
namespace Ty
open PySem PySem.Spec L2
mutual
/-- v is such a key, its tuples in H -/
inductive NkR (H : Hp) : NestedKey → V → Prop
  | non : NkR H .none .non
  | int (i : Int) : NkR H (.num i) (.int i)
  | str (x : Str) : NkR H (.text x) (.str x)
  | tup {l : Addr} {vs : List V} {ks : List NestedKey} : H l = some (.tup vs) → NkA H ks vs → NkR H (.tup ks) (.ref l)
inductive NkA (H : Hp) : List NestedKey → List V → Prop
  | nil : NkA H [] []
  | cons {k : NestedKey} {v : V} {ks : List NestedKey} {vs : List V} : NkR H k v → NkA H ks vs → NkA H (k :: ks) (v :: vs)
end
mutual
theorem NkR.mono {H H' : Hp} (h : ∀ l vs, H l = some (.tup vs) → H' l = some (.tup vs)) : ∀ (k : NestedKey) (v : V), NkR H k v → NkR H' k v
  | .none, _, hx => by cases hx; exact .non
  | .num i, _, hx => by cases hx; exact .int i
  | .text x, _, hx => by cases hx; exact .str x
  | .tup ks, _, hx => by
    cases hx with
    | tup e r => exact .tup (h _ _ e) (NkA.mono h ks _ r)
theorem NkA.mono {H H' : Hp} (h : ∀ l vs, H l = some (.tup vs) → H' l = some (.tup vs)) : ∀ (ks : List NestedKey) (vs : List V), NkA H ks vs → NkA H' ks vs
  | [], _, hx => by cases hx; exact .nil
  | k :: ks, _, hx => by
    cases hx with
    | cons a b => exact .cons (NkR.mono h k _ a) (NkA.mono h ks _ b)
end
mutual
theorem nk_is {P : Program} {w : World} {H : Hp} {h : Heap} (ok : HOk P w H h) : ∀ (k : NestedKey) (v : V) (u : Value), NkR H k v → RelV v u → NestedIs h k u
  | .none, _, u, hx, r => by
    cases hx
    rw [show u = Value.none from r]
    exact .none
  | .num i, _, u, hx, r => by
    cases hx
    obtain ⟨t, rfl⟩ := (show ∃ t, u = Value.int i t from r)
    exact .int i t
  | .text x, _, u, hx, r => by
    cases hx
    obtain ⟨t, rfl⟩ := (show ∃ t, u = Value.str x t from r)
    exact .text x t
  | .tup ks, _, u, hx, r => by
    cases hx with
    | @tup l vs _ e q =>
      rw [show u = Value.ref l from r]
      obtain ⟨_, its, rv, ob, e1, e2, n, e3⟩ := ok l _ e
      exact .tup e1 e2 e3 (by simpa using nka_is ok ks vs its q rv)
theorem nka_is {P : Program} {w : World} {H : Hp} {h : Heap} (ok : HOk P w H h) : ∀ (ks : List NestedKey) (vs : List V) (us : List Value), NkA H ks vs → Vals vs us → NestedAll h ks us
  | [], _, us, hx, r => by
    cases hx
    cases r
    exact .nil
  | k :: ks, _, us, hx, r => by
    cases hx with
    | cons a b =>
      cases r with
      | cons r1 r2 => exact .cons (nk_is ok k _ _ a r1) (nka_is ok ks _ _ b r2)
end
def pNK : VP NestedKey where
  R := fun F v k => NkR F k v ∧ k.depth ≤ 8 ∧ ∃ l, v = .ref l
  mono := fun hF h => ⟨NkR.mono (fun l vs e => hF _ _ e) _ _ h.1, h.2⟩
/-! ### the dict -/
abbrev NDX := List (NestedKey × Addr × V)
def ndo (P : Program) (w : World) (d : Addr) (xs : NDX) : HO := .ext fun h => xs.length ≤ sizeLine ∧ (d == sysModules) = false ∧ ∃ ys : List (NestedKey × Addr × Value),
  Paired (fun (x : NestedKey × Addr × V) (y : NestedKey × Addr × Value) => x.1 = y.1 ∧ x.2.1 = y.2.1 ∧ RelV x.2.2 y.2.2) xs ys ∧
  ∃ o es ep, h.get? d = some o ∧ o.ExactDict ∧ o.data = .dict es ep ∧ es.toList = ys.map (entryOfKey (nestedKind P w)) ∧ (ys.map (·.1)).Nodup
abbrev NRl (xs : NDX) (ys : List (NestedKey × Addr × Value)) : Prop := Paired (fun (x : NestedKey × Addr × V) (y : NestedKey × Addr × Value) => x.1 = y.1 ∧ x.2.1 = y.2.1 ∧ RelV x.2.2 y.2.2) xs ys
abbrev Kys (H : Hp) (xs : NDX) : Prop := ∀ x ∈ xs, pNK.R H (.ref x.2.1) x.1
def atN (xs : NDX) (k : NestedKey) : Option V := (xs.find? fun x => decide (x.1 = k)).map (·.2.2)
def putN (xs : NDX) (k : NestedKey) (a : Addr) (v : V) : NDX := if (atN xs k).isSome = true then xs.map (fun x => if x.1 = k then (x.1, x.2.1, v) else x) else xs ++ [(k, a, v)]
/-! ### reading and writing -/
def NGet (P : Program) (w : World) (H : Hp) (d : Addr) (y : V) (r : Option V) : Prop := ∃ xs k b, H d = some (ndo P w d xs) ∧ Kys H xs ∧ y = .ref b ∧ pNK.R H y k ∧ r = atN xs k
section
variable {X : Cx} {pins : List (Addr × Obj)} {σ : St} {H : Hp} {s : Shared} {d : Addr} {y v : V} {u r : Value} {o : Option V} {A : Around} {E : Value → Shared → Prop}
end
def tNGet (P : Program) (w : World) (td ty : TE) : TE := fun σ H Q => td σ H fun x H1 => ty σ H1 fun y H2 => ∃ a v, x = .ref a ∧ NGet P w H2 a y (some v) ∧ Q v H2
def tNIn (P : Program) (w : World) (ty td : TE) : TE := fun σ H Q => ty σ H fun y H1 => td σ H1 fun x H2 => ∃ a o, x = .ref a ∧ NGet P w H2 a y o ∧ Q (.bl o.isSome) H2
def tNNotIn (P : Program) (w : World) (ty td : TE) : TE := fun σ H Q => ty σ H fun y H1 => td σ H1 fun x H2 => ∃ a o, x = .ref a ∧ NGet P w H2 a y o ∧ Q (.bl (!o.isSome)) H2
def sNPut (P : Program) (w : World) (td ty tv : TE) : TS := fun D σ H => tv σ H fun v H1 => td σ H1 fun x H2 => ty σ H2 fun y H3 => ∃ a xs k b, x = .ref a ∧ H3 a = some (ndo P w a xs) ∧ Kys H3 xs ∧ y = .ref b ∧ pNK.R H3 y k ∧ xs.length < sizeLine ∧ D.nx σ (upd H3 a (ndo P w a (putN xs k b v)))
def tNNew (P : Program) (w : World) : TE := fun _ H Q => ∀ p, H p = none → Q (.ref p) (upd H p (ndo P w p []))
section
variable {X : Cx} {o i e value : Expr} {pos pos' tpos : Pos} {td ty tv : TE}
end
def rLenN (P : Program) (w : World) : List V → Hp → VK → Prop := fun vs H Q => ∃ (p : Addr) (xs : NDX), vs = [.ref p] ∧ H p = some (ndo P w p xs) ∧ Kys H xs ∧ Q (.int ((xs.length : Nat) : Int)) H
/-! ### typed -/
section
variable {β : Type} {P : Program} {w : World} {p : VP β}
abbrev NRel (p : VP β) (F : Hp) (xs : NDX) (kvs : List (NestedKey × β)) : Prop := Paired (fun (x : NestedKey × Addr × V) (kv : NestedKey × β) => x.1 = kv.1 ∧ pNK.R F (.ref x.2.1) x.1 ∧ p.R F x.2.2 kv.2) xs kvs
theorem NRel.keys {F : Hp} {xs : NDX} {kvs : List (NestedKey × β)} (h : NRel p F xs kvs) : Kys F xs := by
  induction h with
  | nil => intro x hx; cases hx
  | cons r _ ih =>
    intro x hx
    rcases List.mem_cons.mp hx with rfl | hx
    · exact r.2.1
    · exact ih x hx
theorem nrel_mono {F F' : Hp} (hF : Same F F') {xs : NDX} {kvs : List (NestedKey × β)} (h : NRel p F xs kvs) : NRel p F' xs kvs := Paired.mon (fun _ _ r => ⟨r.1, pNK.mono hF r.2.1, p.mono hF r.2.2⟩) h
/-- an owned dict -/
def oN (P : Program) (w : World) (p : VP β) : OP (List (NestedKey × β)) where
  P := fun F H fp v kvs => ∃ d xs, v = .ref d ∧ fp = [d] ∧ H d = some (ndo P w d xs) ∧ NRel p F xs kvs
  mono := fun hF hH h => let ⟨d, vs, e, ef, h1, h2⟩ := h; ⟨d, vs, e, ef, hH _ _ h1, nrel_mono hF h2⟩
  mm := fun hF hH h => let ⟨d, vs, e, ef, h1, h2⟩ := h; ⟨d, vs, e, ef, by rw [hH d (by rw [ef]; exact List.mem_cons_self)]; exact h1, nrel_mono hF h2⟩
def borN (P : Program) (w : World) (p : VP β) (kvs : List (NestedKey × β)) : Slot where
  P := fun F H fp o => fp = [] ∧ ∃ d xs, o = some (.ref d) ∧ H d = some (ndo P w d xs) ∧ NRel p F xs kvs
  mono := fun hF hH h => let ⟨ef, d, vs, e, h1, h2⟩ := h; ⟨ef, d, vs, e, hH _ _ h1, nrel_mono hF h2⟩
  st := False
  mm := fun h => h.elim
def pN (P : Program) (w : World) (p : VP β) : VP (List (NestedKey × β)) where
  R := fun F v kvs => ∃ d xs, v = .ref d ∧ F d = some (ndo P w d xs) ∧ NRel p F xs kvs
  mono := fun hF h => let ⟨d, vs, e, h1, h2⟩ := h; ⟨d, vs, e, hF _ _ h1, nrel_mono hF h2⟩
theorem WkS.nd {kvs : List (NestedKey × β)} : WkS (Ty.own (oN P w p) kvs) (Ty.val (pN P w p) kvs) := fun F H fp o _ h => by
  obtain ⟨v, e, l, vs, el, ef, h1, h2⟩ := h
  subst ef
  exact ⟨[l], [], rfl, fun F' hF hs hx => ⟨rfl, v, e, l, vs, el, by rw [hx l List.mem_cons_self]; exact h1, nrel_mono hF h2⟩⟩
end
section
variable {P : Program} {w : World} {K : PySem.W.Frag} {mg : Str → Option Value} {base : Heap} {k : Nat} {β : Type} {p : VP β}
variable {Y : Fa P w K mg base k} {i : Y.I} {e ea eb eo ev tg iter elt : Expr} {es ifs : List Expr} {rest body : List Stmt} {Γ Γ' Γ1 Γ2 Δ Δ' : List Slot} {a b c r s s' : Slot} {pos : Pos} {B : Bs} {D : Ends} {x f : Str} {p' : Pos} {C : Addr} {ns : List Str}
theorem Kys.mono {F H : Hp} {xs : NDX} (hF : Same F H) (h : Kys F xs) : Kys H xs := fun x hx => pNK.mono hF (h x hx)
end
/-! ### data as keys -/
structure NE {α : Type} (p : VP α) where
  enc : α → NestedKey
  d : Nat
  rel : ∀ F v a, p.R F v a → NkR F (enc a) v
  dep : ∀ a, (enc a).depth ≤ d
def NE.int : NE pInt := ⟨.num, 0, fun F v a h => by cases h; exact .int a, fun _ => Nat.le_refl _⟩
theorem nka_of {α : Type} {p : VP α} (E : NE p) {F : Hp} {vs : List V} {xs : List α} (h : Paired (p.R F) vs xs) : NkA F (xs.map E.enc) vs := by
  induction h with
  | nil => exact .nil
  | cons r _ ih => exact .cons (E.rel _ _ _ r) ih
theorem depAll {α : Type} {p : VP α} (E : NE p) : ∀ xs : List α, NestedKey.depthAll (xs.map E.enc) ≤ E.d
  | [] => Nat.zero_le _
  | x :: xs => by
    rw [List.map_cons, NestedKey.depthAll]
    exact Nat.max_le.mpr ⟨E.dep x, depAll E xs⟩
def NE.tup {α : Type} {p : VP α} (E : NE p) : NE (pTup p) where
  enc := fun xs => .tup (xs.map E.enc)
  d := E.d + 1
  rel := fun F v a ⟨l, vs, e, h1, h2⟩ => by subst e; exact .tup h1 (nka_of E h2)
  dep := fun a => by rw [NestedKey.depth]; exact Nat.succ_le_succ (depAll E a)
def NE.t2 {α β : Type} {p : VP α} {q : VP β} (E : NE p) (E' : NE q) : NE (pT2 p q) where
  enc := fun x => .tup [E.enc x.1, E'.enc x.2]
  d := max E.d E'.d + 1
  rel := fun F v a ⟨l, u, w, e, h1, h2, h3⟩ => by subst e; exact .tup h1 (.cons (E.rel _ _ _ h2) (.cons (E'.rel _ _ _ h3) .nil))
  dep := fun a => by
    have h1 := E.dep a.1
    have h2 := E'.dep a.2
    simp only [NestedKey.depth, NestedKey.depthAll]
    omega
section
variable {P : Program} {w : World} {K : PySem.W.Frag} {mg : Str → Option Value} {base : Heap} {k : Nat}
variable {Y : Fa P w K mg base k} {e : Expr} {Γ : List Slot}
end
end Ty

/-! Ty36 -/
/-! repr: defs whose caller has no repr under way -/
namespace Ty
open PySem PySem.Spec L2
open PyProof.Rows
/-- as FnOk, called where no repr is under way -/
structure FnG (P : Program) (w : World) (K : PySem.W.Frag) (mg : Str → Option Value) (base : Heap) (k : Nat) (f : Addr) (fd : FuncData) (ps : List Str) (sp : Sp) : Prop where
  len : ∀ vs H Q E, sp vs H Q E → vs.length = ps.length
  run : ∀ (A : Around) (outer : List Env) (s : Shared) (H : Hp) (args : Args) (us : List Value) (vs : List V) (Q : VK) (E : XK), A.guards = some [] → Room k A → Env0 P w K mg base A outer s H → BindsTo s fd args (ps.zip us) → Vals vs us → sp vs H Q E →
    codeAny (model P w) A (.call (.ref f) args) (CR CX0 outer P w H s Q E) s
theorem FnG.imp {P : Program} {w : World} {K : PySem.W.Frag} {mg : Str → Option Value} {base : Heap} {k : Nat} {f : Addr} {fd : FuncData} {ps : List Str} {sp sp' : Sp} (F : FnG P w K mg base k f fd ps sp) (h : ∀ vs H Q E, sp' vs H Q E → sp vs H Q E) : FnG P w K mg base k f fd ps sp' :=
  ⟨fun vs H Q E q => F.len vs H Q E (h _ _ _ _ q), fun A outer s H args us vs Q E hga hr he hb hv q => F.run A outer s H args us vs Q E hga hr he hb hv (h _ _ _ _ q)⟩
section
variable {P : Program} {w : World} {K : PySem.W.Frag} {mg : Str → Option Value} {base : Heap} {k : Nat}
end
section
variable {X : Cx} {k : Nat} {f : Addr} {fd : FuncData} {ps : List Str} {sp : Sp} {E : XK} {x : Str} {p pos : Pos} {e : Expr} {es : List Expr} {t : TA}
end
section
variable {P : Program} {w : World} {K : PySem.W.Frag} {mg : Str → Option Value} {base : Heap} {k : Nat}
variable {Y : Fa P w K mg base k} {i : Y.I} {e ea eb : Expr} {es : List Expr} {Γ : List Slot} {a b c s : Slot} {pos : Pos} {B : Bs} {D : Ends} {x : Str} {p' : Pos}
/-! ### repr of data -/
def pdIsR : PyData → Bool
  | .int _ => true
  | .list _ => true
  | .tuple _ => true
  | _ => false
def rRepr (K : PySem.W.Frag) : List V → Hp → VK → Prop := fun xs H Q => ∃ v d, xs = [v] ∧ Dp K H v d ∧ ((∃ i, v = .int i) ∨ ∃ a, v = .ref a) ∧ d.showable = true ∧ d.hasDict = false ∧ d.depth ≤ 40 ∧ d.shown.length ≤ sizeLine ∧ Q (.str d.shown) H
def ReprOk (d : PyData) : Prop := (pdIsR d = true ∧ d.showable = true) ∧ d.hasDict = false ∧ d.depth ≤ 40 ∧ d.shown.length ≤ sizeLine
instance (d : PyData) : Decidable (ReprOk d) := by unfold ReprOk; infer_instance
end
/-! ### lists of several kinds, as data -/
inductive DSl (K : PySem.W.Frag) : List Slot → List PyData → Prop
  | nil : DSl K [] []
  | cons {α : Type} [DecidableEq α] {p : VP α} {ok : α → Prop} {a : α} {Γ : List Slot} {ds : List PyData} (E : DE p ok) (r : DSl K Γ ds) : DSl K (val p a :: Γ) (E.enc a :: ds)
theorem DSl.all {K : PySem.W.Frag} {F H : Hp} {Γ : List Slot} {ds : List PyData} (h : DSl K Γ ds) : ∀ {vs : List V} {fp : List Addr}, Slots F H fp (vs.map some) Γ → DpAll K F vs ds := by
  induction h with
  | nil =>
    intro vs fp S
    cases vs with
    | nil => exact .nil
    | cons _ _ => have := S.length; simp at this
  | cons E _ ih =>
    intro vs fp S
    cases vs with
    | nil => have := S.length; simp at this
    | cons v vs =>
      obtain ⟨f1, f2, rfl, pv, pr⟩ := Slots.cons_inv S
      exact .cons (E.dp K F v _ (val_P pv).2) (ih pr)
section
variable {P : Program} {w : World} {K : PySem.W.Frag} {mg : Str → Option Value} {base : Heap} {k : Nat}
variable {Y : Fa P w K mg base k} {e : Expr} {Γ : List Slot}
theorem XV.dataH {α : Type} {sl : α → List Slot} {z : α} {ds : List PyData} (D : DSl K (sl z) ds) (h : XV Y e Γ (val (pH sl) z)) : XV Y e Γ (val (pDa K) (.list ds)) := h.as fun F H fp o _ ⟨e1, v, e2, l, vs, ev, h1, h2⟩ => ⟨e1, v, e2, by subst ev; exact .lst (SqL.of h1) (D.all h2)⟩
end

/-! ### the law, called where no repr is under way -/
end Ty

/-! Ty37 -/
/-! tuples: tuple + tuple, slices, enumerate(tuple) -/
namespace PySem
open Sem (wp)
open AutoSeq1 (wpAny_loadPart')
section
variable {prog : Program} {w : World} {A : Around} {E : Value → Shared → Prop} {s : Shared}
end
end PySem
namespace Ty
open PySem PySem.Spec L2
open PyProof.Rows
def ItET (K : PySem.W.Frag) (a : Addr) : It :=
  ⟨fun i H => ∃ (xs : List V) (x : V), SqT K H a xs ∧ xs[i]? = some x, fun i H v H' => ∃ T x, v = .ref T ∧ H T = none ∧ H' = upd H T (.tup [.int (i : Nat), x]) ∧ ∀ xs, SqT K H a xs → xs[i]? = some x, fun i H => ∃ xs : List V, SqT K H a xs ∧ xs.length ≤ i⟩
def iEnumT (K : PySem.W.Frag) (ta : TA) : TI := fun σ H R => ta σ H fun vs H1 => ∃ a xs, vs = [.ref a] ∧ SqT K H1 a xs ∧ R (ItET K a) H1
section
variable {P : Program} {w : World} {K : PySem.W.Frag} {mg : Str → Option Value} {base : Heap} {k : Nat} {Y : Fa P w K mg base k} {Γ : List Slot} {e ea eb iter tg : Expr} {pos : Pos}
variable {α : Type} {p : VP α} {xs ys : List α}
end
end Ty

/-! Ty55 -/
/-! max(xs, key=lambda x: ..): the builtin's loop over an invariant of the state -/
namespace Ty
open PySem PySem.Spec L2
open PyProof.Rows
section
variable {prog : Program} {w : World} {A : Around} {E : Value → Shared → Prop} {l q I S : Addr} {n : Nat} {Pv : Nat → Value → Prop} {R : Result → Shared → Prop} {Q : Value → Shared → Prop} {J : Shared → Prop}
end
end Ty

/-! Ty56 -/
/-! a lambda of one parameter, made and called; max(xs, key=lambda x: ..) -/
namespace Ty
open PySem PySem.Spec L2
open PyProof.Rows
open LamX
/-! ### the lambda's frame -/
structure LamS1 (sc scope : Scope) (p : Str) : Prop where
  kind : scope.kind = .function
  co : scope.isCoroutine = false
  gen : scope.isGenerator = false
  own : ∀ y ∈ scope.names, y.2 ≠ .cell ∧ (y.2 = .local → y.1 = p)
  par : scope.names.lookup p = some .local
  free : ∀ y ∈ scope.names, y.2 = .free → sc.names.lookup y.1 = some .cell ∨ sc.names.lookup y.1 = some .free
def lamC1 (X : Cx) (A : Around) (scope : Scope) (f c' : Addr) (p : Str) (s : Shared) (H : Hp) : Cx where
  prog := X.prog
  w := X.w
  K := X.K
  mg := X.mg
  base := X.base
  A := A.deeper (lamEnv X scope s.heap.objs.size f c')
  N := X.N ++ [p]
  s_0 := s
  H_0 := H
  env := lamEnv X scope s.heap.objs.size f c'
  outer := X.stack
  stack := lamEnv X scope s.heap.objs.size f c' :: X.stack
  ex := []
  fn := fun _ => false
  calm := true
  pn := []
  xe := fun _ _ => False
section
variable {X : Cx} {pins : List (Addr × Obj)} {σ : L2.St} {H : Hp} {s : Shared}
end
/-! ### the first of the greatest -/
def fmx (g : Int → Int) : List Int → Option Int
  | [] => none
  | x :: xs => some (xs.foldl (fun b y => if g b < g y then y else b) x)
/-! ### max(e, key=lambda p: body) -/
/-- the codes that the table tells -/
def Cds (ps : Array Value) (q : Str) (R : Addr → Prop) : Prop := TriplesOk ps.toList ∧ ∀ (pos : Pos) (cv : Value), codeAmong pos ps.toList = some cv → ∃ c, cv = .ref c ∧ R c
def MaxLam (K : PySem.W.Frag) (P : Addr) (q : Str) (tb : TE) (σ : L2.St) (Q : VK) : VK := fun v H0 => ∃ (a : Addr) (ns : List Int) (ps : Array Value) (R : Addr → Prop) (JH : Addr → Hp → Prop) (g : Int → Int) (m : Int),
  v = .ref a ∧ SqL K H0 a (ns.map V.int) ∧ H0 P = some (.tbl ps) ∧ (∀ c, R c → H0 c = some (CodeO c q)) ∧ Cds ps q R ∧ fmx g ns = some m ∧
  (∀ (c' : Addr) (H1 : Hp), ((H1 = H0 ∧ H0 c' = some (CodeO c' q)) ∨ (H0 c' = none ∧ ∃ ps' : Array Value, H1 = upd (upd H0 P (.tbl ps')) c' (CodeO c' q) ∧ Cds ps' q (fun c => c = c' ∨ R c))) → JH c' H1) ∧
  (∀ (c' : Addr) (H2 : Hp), JH c' H2 → H2 c' = some (CodeO c' q) ∧ SqL K H2 a (ns.map V.int) ∧ ∀ n ∈ ns, tb (σ ++ [some (.int n)]) H2 (fun v H3 => v = .int (g n) ∧ JH c' H3)) ∧
  ∀ (c' : Addr) (H3 : Hp), JH c' H3 → Q (.int m) H3
def tMaxLam (K : PySem.W.Frag) (P : Addr) (q : Str) (te tb : TE) : TE := fun σ H Q => te σ H (MaxLam K P q tb σ Q)
/-- an address of our own, out of the frames' reach -/
structure Apart (X : Cx) (pins : List (Addr × Obj)) (b : Addr) : Prop where
  new : X.s_0.heap.objs.size ≤ b
  loc : b ≠ X.env.locals
  cel : ∀ x c, X.env.cells.lookup x = some c → c ≠ b
  pin : ∀ p ∈ X.pn ++ pins, p.1 ≠ b
  frs : b ∉ frs X.stack
section
variable {X : Cx} {pins : List (Addr × Obj)} {σ : L2.St} {H : Hp} {s : Shared}
theorem Apart.of (I : Inv X pins σ H s) {b : Addr} (h : s.heap.objs.size ≤ b) : Apart X pins b := by
  have hl := I.lt
  refine ⟨Nat.le_trans I.sz h, fun z => ?_, fun x c e z => ?_, fun p hp z => ?_, fun z => ?_⟩
  · rw [z] at h; exact absurd (Nat.lt_of_lt_of_le hl h) (Nat.lt_irrefl _)
  · obtain ⟨v, o, ho, _⟩ := I.cell x c e
    have := Heap.lt_size ho
    rw [z] at this; exact absurd (Nat.lt_of_lt_of_le this h) (Nat.lt_irrefl _)
  · obtain ⟨e, _⟩ := I.pin p hp
    have := Heap.lt_size e
    rw [z] at this; exact absurd (Nat.lt_of_lt_of_le this h) (Nat.lt_irrefl _)
  · rcases List.mem_cons.mp (I.stkSub _ z) with e | e
    · rw [e] at h; exact absurd (Nat.lt_of_lt_of_le hl h) (Nat.lt_irrefl _)
    · exact I.nofs h e
/-- untracked objects of ours are written -/
theorem Inv.apart (I : Inv X pins σ H s) {S T : Addr} {h' : Heap} {t' : Nat} (aS : Apart X pins S) (aT : Apart X pins T) (hS : H S = none) (hT : H T = none) (k : ∀ b o, b ≠ S → b ≠ T → s.heap.get? b = some o → h'.get? b = some o) : Inv X pins σ H { s with heap := h', toks := t' } := by
  have ne : ∀ b, b ∉ [S, T] → b ≠ S ∧ b ≠ T := fun b hb => by simpa using hb
  refine I.step (g' := s.gens) (d' := s.drawn) (ch := [S, T]) (fun b hb => ?_) (fun b o _ _ hc e n => k b o (ne b hc).1 (ne b hc).2 e) (fun b o _ _ hc e n => ⟨o.slots, k b o (ne b hc).1 (ne b hc).2 e⟩) (fun b o _ _ n => n) (fun b o hc e => ⟨o, k b o (ne b hc).1 (ne b hc).2 e⟩)
    (fun b xs e => e) (fun b o u e => e) (fun b ps e => ⟨#[], by simpa using e⟩) (fun m hn => ?_) (fun b u e => (I.hok b u e).stay (fun d v hd q => ?_) (fun _ q => q) fun _ _ q => q) I.bare
  · have : Apart X pins b := by
      rcases List.mem_cons.mp hb with e | e
      · rw [e]; exact aS
      · rw [List.mem_singleton.mp e]; exact aT
    exact ⟨.inr this.new, this.loc, this.cel, this.pin⟩
  · obtain ⟨ob, es, ep, ho, r⟩ := hn
    exact ⟨ob, es, ep, k _ ob (fun z => aS.loc z.symm) (fun z => aT.loc z.symm) ho, r⟩
  · have nn : H d ≠ none := by
      rcases hd with z | z
      · rw [z, e]; simp
      · rw [z]; simp
    exact k d v (fun z => nn (by rw [z]; exact hS)) (fun z => nn (by rw [z]; exact hT)) q
end
end Ty

/-! Ty57 -/
/-! the table of a def that makes a lambda: owned by the frame, in a slot of its own -/
namespace Ty
open PySem PySem.Spec L2
open PyProof.Rows
open LamX
theorem Cds.mono {ps : Array Value} {q : Str} {R R' : Addr → Prop} (h : Cds ps q R) (k : ∀ c, R c → R' c) : Cds ps q R' := ⟨h.1, fun pos cv e => let ⟨c, e1, e2⟩ := h.2 pos cv e; ⟨c, e1, k c e2⟩⟩
/-- the slot: the table at P, owned; the codes that it tells are frozen -/
def gT (P : Addr) (q : Str) : Slot where
  P := fun F H fp _ => fp = [P] ∧ ∃ ps : Array Value, H P = some (.tbl ps) ∧ Cds ps q (fun c => F c = some (CodeO c q))
  mono := fun hF hH h => let ⟨e, ps, h1, h2⟩ := h; ⟨e, ps, hH _ _ h1, h2.mono fun c z => hF _ _ z⟩
  st := True
  mm := fun _ {_ _ _ _ _ _} hF hH h => let ⟨e, ps, h1, h2⟩ := h; ⟨e, ps, by rw [hH _ (by rw [e]; simp)]; exact h1, h2.mono fun c z => hF _ _ z⟩
section
variable {P : Program} {w : World} {K : PySem.W.Frag} {mg : Str → Option Value} {base : Heap} {k : Nat}
/-- the frames of a lambda made in Y's frames -/
def Fa.lam (Y : Fa P w K mg base k) (scope : Scope) (p : Str) (hp : ∀ i, p ∉ (Y.X i).N) : Fa P w K mg base 0 where
  I := { z : Y.I × Around × Shared × Hp × Addr × Addr // Room 0 (z.2.1.deeper (lamEnv (Y.X z.1) scope z.2.2.1.heap.objs.size z.2.2.2.2.1 z.2.2.2.2.2)) }
  X := fun z => lamC1 (Y.X z.1.1) z.1.2.1 scope z.1.2.2.2.2.1 z.1.2.2.2.2.2 p z.1.2.2.1 z.1.2.2.2.1
  hP := fun z => Y.hP z.1.1
  hw := fun z => Y.hw z.1.1
  hK := fun z => Y.hK z.1.1
  hM := fun z => Y.hM z.1.1
  hB := fun z => Y.hB z.1.1
  cm := true
  hC := fun _ => rfl
  hR := fun _ z => z.2
  hU := fun z => z.2.units
  W := fun _ _ _ _ => False
  tk := fun _ => LamX.takes0
  hN := fun z => List.nodup_append.mpr ⟨Y.hN z.1.1, by simp, fun a ha b hb => by rw [List.mem_singleton.mp hb]; exact fun e => hp z.1.1 (e ▸ ha)⟩
  hO := fun _ => PassesOwn.never
variable {Y : Fa P w K mg base k} {i : Y.I} {e ea eb elt : Expr} {es : List Expr} {rest : List Stmt} {Γ Γ' Γ1 : List Slot} {a b r s : Slot} {pos : Pos} {B : Bs} {D : Ends} {x : Str} {p' : Pos}
theorem Rd.upd {H : Hp} {l P : Addr} {u : HO} {ps : Array Value} {ps' : Array Value} (hP : H P = some (.tbl ps)) (h : Rd H l u) (hu : ∀ q, u ≠ .tbl q) : Rd (upd H P (.tbl ps')) l u := by
  rcases h with h | ⟨o, h⟩
  · exact .inl ((upd_ne (fun z => by rw [z, hP] at h; exact hu ps (Option.some.inj h).symm)).trans h)
  · exact .inr ⟨o, (upd_ne (fun z => by rw [z, hP] at h; cases h)).trans h⟩
/-- what stands behind a change of the table and a new code -/
theorem Slots.tbl {F H : Hp} {os : List Addr} {σ : L2.St} {P c' : Addr} {q : Str} {ps' : Array Value} (j : Nat) (W : Wo B F H os) (S : Slots F H os σ Γ) (hs : Γ[j]? = some (gT P q)) (hst : Stb Γ) (hc : H c' = none) (hcd : Cds ps' q (fun c => c = c' ∨ F c = some (CodeO c q))) :
    ∃ F1 os', Same F F1 ∧ F1 c' = some (CodeO c' q) ∧ Wo B F1 (upd (upd H P (.tbl ps')) c' (CodeO c' q)) os' ∧ Slots F1 (upd (upd H P (.tbl ps')) c' (CodeO c' q)) os' σ Γ := by
  obtain ⟨o, fp, r0, eo, ⟨efp, ps, hP, _⟩, hperm, back⟩ := S.at hs
  subst efp
  have W1 := W.perm hperm
  have nd := W1.nd
  have W2 : Wo B F (upd H P (.tbl ps')) ([P] ++ r0) := W1.write (by simp)
  have hc1 : upd H P (.tbl ps') c' = none := by rw [upd_ne (fun z => by rw [z, hP] at hc; cases hc)]; exact hc
  have W3 := W2.newF (o := CodeO c' q) hc1
  have hF : Same F (upd F c' (CodeO c' q)) := same_upd (W.free hc).1
  obtain ⟨os', S', hp'⟩ := back (F' := upd F c' (CodeO c' q)) (H' := upd (upd H P (.tbl ps')) c' (CodeO c' q)) (fp' := [P]) (o' := o) (s' := gT P q) ⟨rfl, ps', by rw [upd_ne (fun z => by rw [← z, hP] at hc; cases hc), upd_same], hcd.mono fun c z => by
      rcases z with z | z
      · rw [z, upd_same]
      · exact hF _ _ z⟩ (fun s0 h0 fp0 o0 hsub p0 => s0.mm (hst s0 h0) hF (fun a ha => by
        have ha' := hsub a ha
        have n1 : a ≠ P := fun z => by rw [z] at ha'; exact (List.nodup_cons.mp nd).1 ha'
        obtain ⟨u, hu⟩ := W1.oH a (List.mem_cons_of_mem _ ha')
        have n2 : a ≠ c' := fun z => by rw [z, hc] at hu; cases hu
        rw [upd_ne n2, upd_ne n1]) p0)
  have es : σ.set j o = σ := by
    obtain ⟨hj, z⟩ := List.getElem?_eq_some_iff.mp eo
    rw [← z]; exact List.set_getElem_self hj
  have eG : Γ.set j (gT P q) = Γ := by
    obtain ⟨hj, z⟩ := List.getElem?_eq_some_iff.mp hs
    rw [← z]; exact List.set_getElem_self hj
  rw [es, eG] at S'
  exact ⟨_, os', hF, upd_same, W3.perm hp'.symm, S'⟩
end
end Ty

/-! Ty38 -/
/-! calls of methods that change their object, within expressions -/
namespace Ty
open PySem PySem.Spec L2
section
variable {P : Program} {w : World} {K : PySem.W.Frag} {mg : Str → Option Value} {base : Heap} {k : Nat}
variable {Y : Fa P w K mg base k} {i : Y.I} {e ea eb eo ev tg iter elt : Expr} {es ifs : List Expr} {rest body orelse : List Stmt} {Γ Γ' Γ1 Γ2 Δ Δ' As : List Slot} {a b c r s s' : Slot} {pos pos' : Pos} {B : Bs} {D : Ends} {x f : Str} {p' : Pos} {C : Addr} {ns : List Str} {α : Type} {p : VP α} {xs : List α}
/-- o.m(e, ..), m changes o -/
theorem xm_meth {ι μ ρ : Type} {s0 : ι → Slot} {As : ι → List Slot} {m : ι → Option (μ × ρ)} {s1 : μ → Slot} {Sr : ρ → Slot} {args : List Slot} {z : ι} {q : μ × ρ} {j : Nat} {g : Addr} {fd : FuncData} {ps : List Str} {up : Slot → List Slot} {apos cpos : Pos} {pl : Y.I → Sem Bool}
    (Fn : FnOk P w K mg base CX0 j g fd ps (spM s0 As m s1 Sr)) (hj : j ≤ k) (hc : Cls K C) (hm : Meth K C f g) (hb : Binds K fd ps []) (ho : PL Y eo Γ (obj C ns Δ) up) (h0 : s0 z = obj C ns Δ) (ha : XA Y (e :: es) Γ args) (hargs : args = As z) (hno : NoOwn args) (hq : m z = some q)
    (hns : ns.contains f = false := by decide +kernel)
    (hst : ∀ i, starEach (e :: es) (Y.X i).env = (false, eval e (Y.X i).env) :: starEach es (Y.X i).env := by intro _; rfl) (hpl : ∀ i, (backTo cpos (starEach es (Y.X i).env)).any (·.1) = false := by intro _; rfl)
    (ht : ∀ i, eval (.Call (.Attribute eo f apos) (e :: es) [] cpos) (Y.X i).env = (do
      let ov ← eval eo (Y.X i).env
      standAt apos.atName
      let (f, first) ← holding [ov] (getMethod ov f (pl i))
      callWith cpos f first (backTo cpos (starEach (e :: es) (Y.X i).env)) (backToKw cpos (keywordEach [] (Y.X i).env))) := by intro _; rfl) (hcm : Y.cm = true := by rfl) : XM Y (.Call (.Attribute eo f apos) (e :: es) [] cpos) Γ (Sr q.2) (up (s1 q.1)) := by
  subst hargs
  obtain ⟨t, Pv, pe, pst, rd, up'⟩ := ho
  obtain ⟨ta, pa, ra⟩ := ha
  have FF : ∀ i, FnOk (Y.X i).prog (Y.X i).w (Y.X i).K (Y.X i).mg (Y.X i).base CX0 j g fd ps (spM s0 As m s1 Sr) := fun i => by rw [Y.hP i, Y.hw i, Y.hK i, Y.hM i, Y.hB i]; exact Fn
  refine ⟨_, fun i => pe_meth (pl := pl i) (pe i) (by rw [Y.hK i]; exact hc) (by rw [Y.hK i]; exact hm) (FF i) ((Y.hR hcm i).mono hj) (by rw [Y.hK i]; exact hb) .nil pass0 (pa i) (hst i) (hpl i) (ht i), fun B F H os σ Q W S qq => ?_⟩
  refine rd B F H os σ _ (Sta.in W S) fun v hv => ?_
  obtain ⟨fp, r2, hr2, hp2, _⟩ := up' F H os σ v S hv
  obtain ⟨x, dx, vs, o3, ex, e2, g1, g2, g3, g4⟩ := hp2
  cases ex
  refine ⟨x, dx, _, rfl, g1, lookup_no hns, ?_⟩
  refine ra B F H os σ _ (Sta.in W S) fun ws F1 H1 fa f1 e1 W1 S1 => ?_
  obtain rfl := hno.nil S1
  obtain ⟨fp, r2, hr2, hp2, kk⟩ := up' F1 H1 os σ _ (S.mono f1 e1) (pst _ _ _ _ e1 hv)
  rw [List.append_nil]
  refine ⟨z, q, F1, fp, _, ws, rfl, hq, W1.here hr2, by rw [h0]; exact hp2, S1, fun v F2 H2 fp1 fp2 W2 p2 p3 => ?_⟩
  obtain ⟨c1, c2, W3⟩ := Wo.calledM (os := os) W1 hr2 W2
  obtain ⟨os2, v1, v2⟩ := kk F2 H2 fp1 (s1 q.1) c1 c2 p2
  rw [List.append_assoc] at W3
  exact qq v F2 H2 fp2 os2 (W3.perm (List.Perm.append_left fp2 v2.symm)) v1 p3
/-! tests that change something -/
def XMT (Y : Fa P w K mg base k) (e : Expr) (Γ : List Slot) (z : Bool) (Γ' : List Slot) : Prop :=
  ∃ t : TT, (∀ i, PT (Y.X i) e t) ∧ ∀ (B : Bs) (F H : Hp) (os : List Addr) (σ : List (Option V)) (Q : Bool → Hp → Prop), Wo B F H os → Slots F H os σ Γ →
    (∀ F' H' os', Wo B F' H' os' → Slots F' H' os' σ Γ' → Q z H') → t σ H Q
/-! a slot at a known value and heap -/
def fixS (s : Slot) (v : V) (fp0 : List Addr) (H0 : Hp) : Slot where
  P := fun F H fp o => o = some v ∧ fp = fp0 ∧ (∀ a ∈ fp0, ∃ u, H0 a = some u ∧ H a = some u) ∧ s.P F H fp o
  mono := fun hF hH h => ⟨h.1, h.2.1, fun a ha => let ⟨u, e1, e2⟩ := h.2.2.1 a ha; ⟨u, e1, hH _ _ e2⟩, s.mono hF hH h.2.2.2⟩
  st := s.st
  mm := fun hs {_ _ _ _ _ _} hF hH h => ⟨h.1, h.2.1, fun a ha => let ⟨u, e1, e2⟩ := h.2.2.1 a ha; ⟨u, e1, by rw [hH a (by rw [h.2.1]; exact ha)]; exact e2⟩, s.mm hs hF hH h.2.2.2⟩
/-- the list of a field at its known place, looked at -/
def lstB (fp0 : List Addr) (Δ : List Slot) : Slot where
  P := fun F H fp o => fp = [] ∧ ∃ (l : Addr) (vs : List V) (os : List Addr), o = some (.ref l) ∧ fp0 = l :: os ∧ H l = some (.lst vs) ∧ Slots F H os (vs.map some) Δ
  mono := fun hF hH h => let ⟨e, l, vs, os, e1, e2, h1, h2⟩ := h; ⟨e, l, vs, os, e1, e2, hH _ _ h1, h2.mono hF hH⟩
  st := False
  mm := fun h => h.elim
def borA {α : Type} (fp0 : List Addr) (p : VP α) (xs : List α) : Slot where
  P := fun F H fp o => fp = [] ∧ ∃ (l : Addr) (vs : List V), o = some (.ref l) ∧ l ∈ fp0 ∧ H l = some (.lst vs) ∧ Paired (p.R F) vs xs
  mono := fun hF hH h => let ⟨e, l, vs, e1, e2, h1, h2⟩ := h; ⟨e, l, vs, e1, e2, hH _ _ h1, Paired.mon (fun _ _ r => p.mono hF r) h2⟩
  st := False
  mm := fun h => h.elim
/-- a frame that keeps the places fp0 as H0 tells them -/
def PinL (Γ : List Slot) (fp0 : List Addr) (H0 : Hp) : Prop := ∀ F H os σ, Slots F H os σ Γ → ∀ a ∈ fp0, ∃ u, H0 a = some u ∧ H a = some u
theorem PinL.self {fp0 : List Addr} {H0 : Hp} {v v0 : V} (j n : Nat) (hs : Γ[j]? = some (hold (obj C ns Δ) v0)) (hn : Δ[n]? = some (fixS s v fp0 H0)) : PinL Γ fp0 H0 := fun F H os σ S a ha => by
  obtain ⟨o, fp, r, e1, p1, _, _⟩ := S.at hs
  obtain ⟨_, x, dx, vs, o2, _, _, _, _, _, h4⟩ := p1
  obtain ⟨o', fp', r', e3, p3, _, _⟩ := h4.at hn
  exact p3.2.2.1 a ha
def XIp (Y : Fa P w K mg base k) (tg iter : Expr) (Γ : List Slot) (fp0 : List Addr) (H0 : Hp) (rs : List Slot) : Prop :=
  ∃ wi : TI, (∀ i, PI (Y.X i) tg iter wi) ∧ ∀ (B : Bs) (F H : Hp) (os : List Addr) (σ : List (Option V)) (R : It → Hp → Prop), In B F H os σ Γ →
    (∀ J F' H', Same F F' → Same H H' → Wo B F' H' os → (∀ F1 H1, Same F' F1 → (∀ a ∈ fp0, ∃ u, H0 a = some u ∧ H1 a = some u) → Same F1 H1 → J.stop rs.length H1 ∧
      ∀ (n : Nat) (r : Slot), rs[n]? = some r → J.go n H1 ∧ ∀ v H2, J.yld n H1 v H2 → Same H1 H2 ∧ ∀ (B : Bs) (os : List Addr), Wo B F1 H1 os → ∃ F2, Same F1 F2 ∧ Wo B F2 H2 os ∧ r.P F2 H2 [] (some v)) → R J H') → wi σ H R
end
end Ty

/-! Ty39 -/
/-! methods that change their object and hand a value back -/
namespace Ty
open PySem PySem.Spec L2
section
variable {P : Program} {w : World} {K : PySem.W.Frag} {mg : Str → Option Value} {base : Heap} {k : Nat}
variable {Y : Fa P w K mg base k} {i : Y.I} {e ea eb eo ev tg iter elt : Expr} {es ifs : List Expr} {rest body orelse : List Stmt} {Γ Γ' Γ1 Γ2 Δ Δ' As : List Slot} {a b c r s s' : Slot} {pos pos' : Pos} {B : Bs} {D : Ends} {x f : Str} {p' : Pos} {C : Addr} {ns : List Str} {α : Type} {p : VP α} {xs : List α}
/-- the object at v0 and the value handed back -/
def mS {μ ρ : Type} (v0 : V) (s1 : μ → Slot) (Sr : ρ → Slot) (r : μ × ρ) : Slot where
  P := fun F H fp o => ∃ f1 f2, fp = f2 ++ f1 ∧ (s1 r.1).P F H f1 (some v0) ∧ (Sr r.2).P F H f2 o
  mono := fun hF hH h => let ⟨f1, f2, e, p1, p2⟩ := h; ⟨f1, f2, e, (s1 r.1).mono hF hH p1, (Sr r.2).mono hF hH p2⟩
  st := False
  mm := fun h => h.elim
theorem mS_rt {μ ρ : Type} {v0 v : V} {s1 : μ → Slot} {Sr : ρ → Slot} {q : μ × ρ} {H : Hp} (h : Fi B (mS v0 s1 Sr q) v H) : (DM B v0 s1 Sr q).rt v H := by
  obtain ⟨F, fp, W, f1, f2, rfl, p1, p2⟩ := h
  exact ⟨F, f1, f2, W, p1, p2⟩
theorem go_retS {μ ρ : Type} {v0 : V} {s1 : μ → Slot} {Sr : ρ → Slot} {q : μ × ρ} (j : Nat) (h : XV Y e Γ (Sr q.2)) (hd : ∀ v H, Fi B (mS v0 s1 Sr q) v H → D.rt v H) (hs : Γ[j]? = some (hold (s1 q.1) v0) := by rfl) : Go Y i (.Return (some e) pos :: rest) D B Γ := by
  obtain ⟨t, p, rd⟩ := h
  refine go_ps (ps_ret (p i)) fun F H σ ⟨os, W, S⟩ => ?_
  refine rd B F H os σ _ (Sta.in W S) fun v F1 H1 fp f1 e1 W1 p1 => ?_
  obtain ⟨o, fp2, r', e, p, q, _⟩ := (S.mono f1 e1).at hs
  obtain ⟨rfl, p⟩ := p
  refine hd v H1 ⟨F1, fp ++ fp2, ?_, fp2, fp, rfl, p, p1⟩
  have := W1.perm (List.Perm.append_left fp q)
  rw [← List.append_assoc] at this
  exact this.dropR
theorem go_retXS {μ ρ : Type} {v0 : V} {s1 : μ → Slot} {Sr : ρ → Slot} {q : μ × ρ} (j : Nat) (h : XM Y e Γ (Sr q.2) Γ') (hd : ∀ v H, Fi B (mS v0 s1 Sr q) v H → D.rt v H) (hs : Γ'[j]? = some (hold (s1 q.1) v0) := by rfl) : Go Y i (.Return (some e) pos :: rest) D B Γ := by
  obtain ⟨t, p, rd⟩ := h
  refine go_ps (ps_ret (p i)) fun F H σ ⟨os, W, S⟩ => ?_
  refine rd B F H os σ _ W S fun v F1 H1 fp os1 W1 S1 p1 => ?_
  obtain ⟨o, fp2, r', e, p, q, _⟩ := S1.at hs
  obtain ⟨rfl, p⟩ := p
  refine hd v H1 ⟨F1, fp ++ fp2, ?_, fp2, fp, rfl, p, p1⟩
  have := W1.perm (List.Perm.append_left fp q)
  rw [← List.append_assoc] at this
  exact this.dropR
/-! ### a list or a tuple -/
def pSq {α : Type} (p : VP α) : VP (List α) where
  R := fun F v xs => (pL p).R F v xs ∨ (pTup p).R F v xs
  mono := fun hF h => h.elim (fun h => .inl ((pL p).mono hF h)) (fun h => .inr ((pTup p).mono hF h))
theorem XV.sqL (h : XV Y e Γ (val (pL p) xs)) : XV Y e Γ (val (pSq p) xs) := h.as fun F H fp o _ hp => by
  obtain ⟨e1, v, e2, r⟩ := hp
  exact ⟨e1, v, e2, .inl r⟩
end
end Ty

/-! Ty40 -/
/-! fields looked at, pins taken away, sets of a list or tuple -/
namespace Ty
open PySem PySem.Spec L2
section
variable {P : Program} {w : World} {K : PySem.W.Frag} {mg : Str → Option Value} {base : Heap} {k : Nat}
variable {Y : Fa P w K mg base k} {i : Y.I} {e ea eb eo ev tg iter elt : Expr} {es ifs : List Expr} {rest body orelse : List Stmt} {Γ Γ' Γ1 Γ2 Δ Δ' As : List Slot} {a b c r s s' : Slot} {pos pos' : Pos} {B : Bs} {D : Ends} {x f : Str} {p' : Pos} {C : Addr} {ns : List Str} {α : Type} {p : VP α} {xs : List α}
/-! ### set of a list or a tuple of ints -/
def rSetSq (K : PySem.W.Frag) (w : World) : List V → Hp → VK → Prop := fun xs H Q => ∃ (l : Addr) (ns : List Int), xs = [.ref l] ∧ (SqL K H l (ns.map V.int) ∨ SqT K H l (ns.map V.int)) ∧ ns.length < 64 ∧ ∀ p n, H p = none → n ≤ ns.length → Q (.ref p) (upd H p (SetO w p (fun j => decide (j ∈ ns)) n))
end
end Ty

/-! Ty41 -/
/-! sorted of a list or a tuple of ints -/
namespace SrtO
open PySem PyProof.Rows Srt
section
variable {prog : Program} {w : World} {A : Around} {E : Value → Shared → Prop} {s : Shared}
end
end SrtO
namespace Ty
open PySem PySem.Spec L2
/-! ### the sorted list -/
def insI (x : Int) : List Int → List Int
  | [] => [x]
  | y :: ys => if x ≤ y then x :: y :: ys else y :: insI x ys
def sortL : List Int → List Int
  | [] => []
  | x :: xs => insI x (sortL xs)
def rSortSq (K : PySem.W.Frag) : List V → Hp → VK → Prop := fun vs H Q => ∃ (a : Addr) (ns : List Int), vs = [V.ref a] ∧ (SqL K H a (ns.map V.int) ∨ SqT K H a (ns.map V.int)) ∧ ∀ p, H p = none → Q (.ref p) (upd H p (.lst ((sortL ns).map V.int)))
section
variable {P : Program} {w : World} {K : PySem.W.Frag} {mg : Str → Option Value} {base : Heap} {k : Nat}
end
end Ty

/-! Ty42 -/
/-! comparisons whose left side changes something; lists as tests; pinned lists walked with numbers or from behind -/
namespace Ty
open PySem PySem.Spec L2
section
variable {X : Cx}
end
section
variable {P : Program} {w : World} {K : PySem.W.Frag} {mg : Str → Option Value} {base : Heap} {k : Nat}
variable {Y : Fa P w K mg base k} {i : Y.I} {e ea eb eo ev tg iter elt : Expr} {es ifs : List Expr} {rest body orelse : List Stmt} {Γ Γ' Γ1 Γ2 Δ Δ' As : List Slot} {a b c r s s' : Slot} {pos pos' : Pos} {B : Bs} {D : Ends} {x f : Str} {p' : Pos} {C : Addr} {ns : List Str} {α : Type} {p : VP α} {xs : List α}
theorem SV.borA {fp0 : List Addr} : SV K (borA fp0 p xs) p xs := fun F H fp o hS h => by
  obtain ⟨_, l, vs, e, _, h1, h2⟩ := h
  exact ⟨l, vs, e, SqL.of h1, h2⟩
end
end Ty

/-! Ty43 -/
/-! self.m(e), e changes self; a method that changes self and two lists -/
namespace Ty
open PySem PySem.Spec L2
open PyProof.Rows (envOfC)
section
variable {P : Program} {w : World} {K : PySem.W.Frag} {mg : Str → Option Value} {base : Heap} {k : Nat}
variable {Y : Fa P w K mg base k} {i : Y.I} {e ea eb eo ev tg iter elt : Expr} {es ifs : List Expr} {rest body orelse : List Stmt} {Γ Γ' Γ1 Γ2 Δ Δ' As : List Slot} {a b c r s s' : Slot} {pos pos' : Pos} {B : Bs} {D : Ends} {x f : Str} {p' : Pos} {C : Addr} {ns : List Str} {α : Type} {p : VP α} {xs : List α}
end
end Ty

/-! Ty44 -/
/-! a method that changes self and two lists that it is handed: self.m(a, b, xs, ys) -/
namespace Ty
open PySem PySem.Spec L2
open PyProof.Rows (envOfC)
section
variable {P : Program} {w : World} {K : PySem.W.Frag} {mg : Str → Option Value} {base : Heap} {k : Nat}
/-- self and its two lists are changed -/
def spC {ι μ ρ : Type} (s0 s3 s4 a1 a2 : ι → Slot) (m : ι → Option (μ × ρ)) (t0 t3 t4 : μ → Slot) (Sr : ρ → Slot) : Sp := fun vs H Q _ => ∃ (z : ι) (r : μ × ρ) (F : Hp) (f0 f3 f4 : List Addr) (v0 v1 v2 v3 v4 : V), vs = [v0, v1, v2, v3, v4] ∧ m z = some r ∧ Wo ⟨F, H, f0 ++ (f3 ++ f4)⟩ F H (f0 ++ (f3 ++ f4)) ∧
  (s0 z).P F H f0 (some v0) ∧ (a1 z).P F H [] (some v1) ∧ (a2 z).P F H [] (some v2) ∧ (s3 z).P F H f3 (some v3) ∧ (s4 z).P F H f4 (some v4) ∧
  ∀ v F' H' g0 g3 g4 f2, Wo ⟨F, H, f0 ++ (f3 ++ f4)⟩ F' H' (f2 ++ (g0 ++ (g3 ++ g4))) → (t0 r.1).P F' H' g0 (some v0) → (t3 r.1).P F' H' g3 (some v3) → (t4 r.1).P F' H' g4 (some v4) → (Sr r.2).P F' H' f2 (some v) → Q v H'
/-- what is left: self, the lists, the value -/
def cPS {μ ρ : Type} (v0 v3 v4 : V) (t0 t3 t4 : μ → Slot) (Sr : ρ → Slot) (r : μ × ρ) : Slot where
  P := fun F H fp o => ∃ g0 g3 g4 f2, fp = f2 ++ (g0 ++ (g3 ++ g4)) ∧ (t0 r.1).P F H g0 (some v0) ∧ (t3 r.1).P F H g3 (some v3) ∧ (t4 r.1).P F H g4 (some v4) ∧ (Sr r.2).P F H f2 o
  mono := fun hF hH h => let ⟨g0, g3, g4, f2, e, p0, p3, p4, p2⟩ := h; ⟨g0, g3, g4, f2, e, (t0 r.1).mono hF hH p0, (t3 r.1).mono hF hH p3, (t4 r.1).mono hF hH p4, (Sr r.2).mono hF hH p2⟩
  st := False
  mm := fun h => h.elim
def DC {μ ρ : Type} (B : Bs) (v0 v3 v4 : V) (t0 t3 t4 : μ → Slot) (Sr : ρ → Slot) (r : μ × ρ) : Ends where
  nx := fun _ _ => False
  rt := fun v H => Fi B (cPS v0 v3 v4 t0 t3 t4 Sr r) v H
variable {Y : Fa P w K mg base k} {i : Y.I} {e ea eb eo ev tg iter elt : Expr} {es ifs : List Expr} {rest body orelse : List Stmt} {Γ Γ' Γ1 Γ2 Δ Δ' As : List Slot} {a b c r s s' : Slot} {pos pos' : Pos} {B : Bs} {D : Ends} {x f : Str} {p' : Pos} {C : Addr} {ns : List Str} {α : Type} {p : VP α} {xs : List α}
theorem Stb.set {s : Slot} {j : Nat} (h : Stb Γ) (hs : s.st) : Stb (Γ.set j s) := stb_set h hs
end
end Ty

/-! Ty45 -/
namespace Ty
open PySem PySem.Spec L2
theorem Vw.hold {α : Type} {s : Slot} {p : VP α} {u : α} {v : V} (h : Vw s p u) : Vw (Ty.hold s v) p u := fun F H fp o hS q => h F H fp o hS q.2
section
variable {P : Program} {w : World} {K : PySem.W.Frag} {mg : Str → Option Value} {base : Heap} {k : Nat}
variable {Y : Fa P w K mg base k} {i : Y.I} {e ea eb eo ev tg iter elt : Expr} {es ifs : List Expr} {rest body orelse : List Stmt} {Γ Γ' Γ1 Γ2 Δ Δ' As : List Slot} {a b c r s s' : Slot} {pos pos' : Pos} {B : Bs} {D : Ends} {x f : Str} {p' : Pos} {C : Addr} {ns : List Str} {α : Type} {p : VP α} {xs : List α}
theorem XM.wk (h : XM Y e Γ a Γ') (hw : WkS a b) : XM Y e Γ b Γ' := by
  obtain ⟨t, p, rd⟩ := h
  refine ⟨t, p, fun B F H os σ Q W S q => rd B F H os σ _ W S fun v F1 H1 fp os1 W1 S1 p1 => ?_⟩
  obtain ⟨x, y, e, kk⟩ := hw F1 H1 fp _ W1.sub p1
  subst e
  rw [List.append_assoc] at W1
  obtain ⟨F', W', hF, hx⟩ := W1.freeze
  exact q v F' H1 y os1 W' (S1.mono hF same_refl) (kk F' hF W'.sub hx)
theorem XM.sqL (h : XM Y e Γ (own (oL p) xs) Γ') : XM Y e Γ (val (pSq p) xs) Γ' := (h.wk WkS.list).wk (WkS.val fun F v r => .inl r)
end
end Ty

/-! Ty58 -/
/-! defs whose frames own a table: their promises, their calls, what they hand back -/
namespace Ty
open PySem PySem.Spec L2
open PyProof.Rows (envOfC)
def FiT (B : Bs) (Pt : Addr) (tq : Str) (s : Slot) : VK := fun v H => ∃ F fp, Wo B F H (fp ++ [Pt]) ∧ (gT Pt tq).P F H [Pt] none ∧ s.P F H fp (some v)
def DT (B : Bs) (Pt : Addr) (tq : Str) (s : Slot) : Ends := { nx := fun _ H => FiT B Pt tq s .non H, rt := FiT B Pt tq s }
structure FunC (K : PySem.W.Frag) (x qual : Str) (st : Stmt) (f : Addr) (fd : FuncData) (c : Addr) : Prop where
  ex : ∃ (oc : Value) (od : Option Addr) (kV doc pm : Value) (an : Option Addr) (ct : Value) (osl : Array (Option Value)),
    fd = PySem.W.fnOf x qual (defArgs st) (defBody st) (defScope st) .none kV doc pm an (.ref c) ct ∧ K.lookup f = some ⟨oc, od, .func fd, osl⟩ ∧ PySem.W.codeIn K (.ref c) qual = true
section
variable {P : Program} {w : World} {K : PySem.W.Frag} {mg : Str → Option Value} {base : Heap} {k : Nat}
def spPT {ι ρ : Type} (Pt : Addr) (tq : Str) (As : ι → List Slot) (m : ι → Option ρ) (Sr : ρ → Slot) : Sp := fun vs H Q _ => ∃ (z : ι) (r : ρ) (F : Hp), m z = some r ∧ Wo ⟨F, H, [Pt]⟩ F H [Pt] ∧ (gT Pt tq).P F H [Pt] none ∧ Slots F H [] (vs.map some) (As z) ∧ ∀ v H', FiT ⟨F, H, [Pt]⟩ Pt tq (Sr r) v H' → Q v H'
def spXT {ι ρ : Type} (Pt : Addr) (tq : Str) (As : ι → List Slot) (m : ι → Option (Rx ρ)) (Sr : ρ → Slot) (X : ExT) : Sp := fun vs H Q E => ∃ (z : ι) (r : Rx ρ) (F : Hp), m z = some r ∧ Wo ⟨F, H, [Pt]⟩ F H [Pt] ∧ (gT Pt tq).P F H [Pt] none ∧ Slots F H [] (vs.map some) (As z) ∧
  (∀ v H', FiT ⟨F, H, [Pt]⟩ Pt tq (slRx Sr r) v H' → Q v H') ∧ ∀ e, r = .ex e → ∀ cls d F' H', Wo ⟨F, H, [Pt]⟩ F' H' [Pt] → (gT Pt tq).P F' H' [Pt] none → X e cls d F' → E cls d H'
variable {Y : Fa P w K mg base k} {i : Y.I} {e ea eb elt tg iter : Expr} {es : List Expr} {rest : List Stmt} {Γ Γ' Γ1 : List Slot} {a b r s : Slot} {pos : Pos} {B : Bs} {D : Ends} {x : Str} {p' : Pos} {EX : ExT} {ex : Exn} {Pt : Addr} {tq : Str}
/-- an error behind changes -/
def XXm (Y : Fa P w K mg base k) (e : Expr) (Γ : List Slot) (EX : ExT) (ex : Exn) (Γ' : List Slot) : Prop :=
  ∃ t : TE, (∀ i, PE (Y.X i) e t) ∧ ∀ (B : Bs) (F H : Hp) (os : List Addr) (σ : List (Option V)) (Q : VK), Wo B F H os → Slots F H os σ Γ →
    (∀ cls d F' H' os', Wo B F' H' os' → Slots F' H' os' σ Γ' → EX ex cls d F' → Y.W cls d σ H') → t σ H Q
end
end Ty

/-! Ty59 -/
/-! a comprehension whose element changes the table -/
namespace Ty
open PySem PySem.Spec L2
section
variable {P : Program} {w : World} {K : PySem.W.Frag} {mg : Str → Option Value} {base : Heap} {k : Nat}
variable {Y : Fa P w K mg base k} {i : Y.I} {e ea eb eo tg iter elt : Expr} {es ifs : List Expr} {rest body : List Stmt} {Γ Γ' Γ1 Γ2 : List Slot} {a b c r s : Slot} {pos : Pos} {B : Bs} {D : Ends} {x : Str} {p' : Pos} {scope : Scope}
end
end Ty

/-! Ty60 -/
/-! the law's def with a table, and the end -/
namespace Ty
open PySem PySem.Spec L2
open PyProof.Rows
open LamX (TabB)
section
variable {P : Program} {w : World} {K : PySem.W.Frag} {mg : Str → Option Value} {base : Heap} {k : Nat}
def spLT {ι ρ : Type} (Pt : Addr) (tq : Str) (As : ι → List Slot) (m : ι → Option ρ) (Sr : ρ → Slot) : Sp := fun vs H Q _ => ∃ (z : ι) (r : ρ) (F : Hp), m z = some r ∧ Wo ⟨F, H, [Pt]⟩ F H [Pt] ∧ (gT Pt tq).P F H [Pt] none ∧ Slots F H [] (vs.map some) (As z) ∧
  ∀ v F' H' fp, Wo ⟨F, H, [Pt]⟩ F' H' fp → (Sr r).P F' H' fp (some v) → Q v H'
end
def LawAtG (l : PySem.W.OpenLaw) (w : World) (K : PySem.W.Frag) (k n : Nat) (x : Str) (mg : Str → Option Value) (fa : Addr) (h : Heap) : Prop :=
  ∃ (fd : FuncData) (c Pt : Addr) (sp : Sp), h.get? Pt = some { cls := .none, data := .fields #[] } ∧ K.lookup Pt = none ∧ PySem.W.CodeHd h c Pt ∧ (∀ (s : Shared) (u : Value), BindsTo s fd ⟨[u], []⟩ [(x, u)]) ∧
    (∀ (H : Hp) (a : Addr) (ns : List Int), ns.length ≤ n → H Pt = some (.tbl #[]) → SqL K H a (ns.map V.int) → sp [.ref a] H (fun v _ => v = .bl true) fun _ _ _ => False) ∧
    ∀ base : Heap, K.In base → base.Ns mainGlobals mg → TabB base mg c Pt → FnG l.prog w K mg base k fa fd [x] sp
end Ty

/-! Ty61 -/
/-! lists of data as data; ints out of data; lengths; what a lambda asks of its text -/
namespace Ty
open PySem PySem.Spec L2
section
variable {P : Program} {w : World} {K : PySem.W.Frag} {mg : Str → Option Value} {base : Heap} {k : Nat}
variable {Y : Fa P w K mg base k} {e ea eb : Expr} {Γ Γ' : List Slot}
def pdInt : PyData → Option Int
  | .int i => some i
  | _ => none
def pdLenA : PyData → Option Int
  | .list ds => some (ds.length : Int)
  | .tuple ds => some (ds.length : Int)
  | _ => none
theorem XM.data {α : Type} [DecidableEq α] {p : VP α} {ok : α → Prop} {u : α} (E : DE p ok) (h : XM Y e Γ (val p u) Γ') : XM Y e Γ (val (pDa K) (E.enc u)) Γ' := h.wk (WkS.val fun F v r => E.dp K F v u r)
end
def lamS1B (sc scope : Scope) (p : Str) : Bool :=
  decide (scope.kind = .function) && !scope.isCoroutine && !scope.isGenerator && decide (scope.names.lookup p = some .local) && scope.names.all fun y => !decide (y.2 = .cell) && (!decide (y.2 = .local) || decide (y.1 = p)) && (!decide (y.2 = .free) || decide (sc.names.lookup y.1 = some .cell) || decide (sc.names.lookup y.1 = some .free))
end Ty

/-! Ty46 -/
/-! x in xs, by ==, of data -/
namespace Ty
open PySem PySem.Spec L2
def rInD (K : PySem.W.Frag) : R2 := fun x y H Q => ∃ d ds, Dp K H x d ∧ Dp K H y (.list ds) ∧ d.canLay0 = true ∧ PyData.canLayAll0 ds = true ∧ d.depth ≤ 60 ∧ Q (.bl (ds.any fun z => PyData.eqv z d)) H
def rNinD (K : PySem.W.Frag) : R2 := fun x y H Q => ∃ d ds, Dp K H x d ∧ Dp K H y (.list ds) ∧ d.canLay0 = true ∧ PyData.canLayAll0 ds = true ∧ d.depth ≤ 60 ∧ Q (.bl (!ds.any fun z => PyData.eqv z d)) H
section
variable {X : Cx}
theorem op_inD (hu : X.A.units + 64 < cLine) : OpR X (compareOp .In) (rInD X.K) := by
  intro pins s σ H x y v u Q I rx ry h
  obtain ⟨d, ds, hd, he, sd, se, hz, q⟩ := h
  obtain ⟨as, r1⟩ := Dp.reads I d x v hd rx
  obtain ⟨bs, r2⟩ := Dp.reads I (.list ds) y u he ry
  have hmin : min (PyData.depthAll ds) d.depth ≤ d.depth := Nat.min_le_right _ _
  exact SeqAt.in_list_reads r2 r1 se sd (by omega) ⟨.bl _, H, I, rfl, q⟩
end
section
variable {P : Program} {w : World} {K : PySem.W.Frag} {mg : Str → Option Value} {base : Heap} {k : Nat} {α : Type} {p : VP α} {a b : Slot}
theorem c_inD (Y : Fa P w K mg base k) (i : Y.I) : OpR (Y.X i) (compareOp .In) (rInD K) := by have h := op_inD (X := Y.X i) (Y.hU i); rw [Y.hK i] at h; exact h
/-- x in xs, by the equality that is decided -/
def memD {β : Type} [DecidableEq β] (u : β) (xs : List β) : Bool := decide (u ∈ xs)
theorem any_enc [DecidableEq α] {ok : α → Prop} (E : DE p ok) (u : α) : ∀ xs : List α, ((xs.map E.enc).any fun z => PyData.eqv z (E.enc u)) = decide (u ∈ xs)
  | [] => by simp
  | x :: xs => by
    rw [List.map_cons, List.any_cons, any_enc E u xs, E.eq, Bool.eq_iff_iff]
    rw [Bool.or_eq_true, decide_eq_true_eq, decide_eq_true_eq, decide_eq_true_eq, List.mem_cons]
    exact ⟨fun h => h.elim (fun e => .inl e.symm) .inr, fun h => h.elim (fun e => .inl e.symm) .inr⟩
theorem o_inD [DecidableEq α] {ok : α → Prop} (E : DE p ok) (hE : E.d ≤ 60 := by decide) {u : α} {xs : List α} (ha : Vw a p u) (hb : Vw b (pL p) xs) (h1 : ok u) (h2 : ∀ x ∈ xs, ok x) : Op2 (rInD K) a b (vBl (memD u xs)) := fun B F H x y fx fy os Q W p1 p2 q => by
  obtain ⟨y', ey, ry⟩ := hb F H fy _ W.sub p2
  obtain ⟨x', ex, rx⟩ := ha F H fx _ W.sub p1
  cases ex; cases ey
  refine ⟨E.enc u, xs.map E.enc, E.dp K H _ _ rx, (DE.list E).dp K H _ _ ry, E.sh u h1, canAll E.sh xs h2, Nat.le_trans (E.hd u) hE, ?_⟩
  rw [any_enc E u xs]
  exact q _ F H [] same_refl same_refl W.drop.drop ⟨rfl, _, rfl, rfl⟩
end
end Ty

/-! Ty47 -/
/-! methods that change a fresh object, within expressions; one of two makes of value -/
namespace Ty
open PySem PySem.Spec L2
section
variable {P : Program} {w : World} {K : PySem.W.Frag} {mg : Str → Option Value} {base : Heap} {k : Nat}
variable {Y : Fa P w K mg base k} {i : Y.I} {e ea eb eo ev tg iter elt : Expr} {es ifs : List Expr} {rest body orelse : List Stmt} {Γ Γ' Γ1 Γ2 Δ Δ' As : List Slot} {a b c r s s' : Slot} {pos pos' : Pos} {B : Bs} {D : Ends} {x f : Str} {p' : Pos} {C : Addr} {ns : List Str} {α β : Type} {p : VP α} {q : VP β} {xs : List α}
/-! ### one of two makes -/
def pSum (p : VP α) (q : VP β) : VP (α ⊕ β) where
  R := fun F v x => match x with | .inl a => p.R F v a | .inr b => q.R F v b
  mono := fun {F F' v x} hF h => by
    cases x with
    | inl a => exact p.mono hF h
    | inr b => exact q.mono hF h
theorem XV.inl {u : α} (h : XV Y e Γ (val p u)) : XV Y e Γ (val (pSum p q) (.inl u)) := h.as fun F H fp o _ ⟨e1, v, e2, r⟩ => ⟨e1, v, e2, r⟩
theorem XV.inr {u : β} (h : XV Y e Γ (val q u)) : XV Y e Γ (val (pSum p q) (.inr u)) := h.as fun F H fp o _ ⟨e1, v, e2, r⟩ => ⟨e1, v, e2, r⟩
theorem XV.unl {u : α ⊕ β} {y : α} (hz : u.getLeft? = some y) (h : XV Y e Γ (val (pSum p q) u)) : XV Y e Γ (val p y) := h.as fun F H fp o _ ⟨e1, v, e2, r⟩ => by
  cases u with
  | inl a => cases hz; exact ⟨e1, v, e2, r⟩
  | inr b => cases hz
def DE.sum [DecidableEq α] [DecidableEq β] {ok : α → Prop} {ok' : β → Prop} (E : DE p ok) (E' : DE q ok') (h : ∀ a, ok a) (h' : ∀ b, ok' b) (hn : ∀ a b, PyData.eqv (E.enc a) (E'.enc b) = false ∧ PyData.eqv (E'.enc b) (E.enc a) = false) : DE (pSum p q) (fun _ => True) where
  enc := fun x => match x with | .inl a => E.enc a | .inr b => E'.enc b
  dp := fun K F v x r => by
    cases x with
    | inl a => exact E.dp K F v a r
    | inr b => exact E'.dp K F v b r
  sh := fun x _ => by
    cases x with
    | inl a => exact E.sh a (h a)
    | inr b => exact E'.sh b (h' b)
  d := max E.d E'.d
  hd := fun x => by
    cases x with
    | inl a => exact Nat.le_trans (E.hd a) (Nat.le_max_left _ _)
    | inr b => exact Nat.le_trans (E'.hd b) (Nat.le_max_right _ _)
  eq := fun x y => by
    cases x with
    | inl a =>
      cases y with
      | inl b => dsimp only; rw [E.eq, Bool.eq_iff_iff]; simp
      | inr b => dsimp only; rw [(hn a b).1, Bool.eq_iff_iff]; simp
    | inr a =>
      cases y with
      | inl b => dsimp only; rw [(hn b a).2, Bool.eq_iff_iff]; simp
      | inr b => dsimp only; rw [E'.eq, Bool.eq_iff_iff]; simp
end
end Ty

/-! Ty48 -/
/-! sorted of a list of tuples of ints -/
namespace Ty
open PySem PySem.Spec L2
def encT (xs : List Int) : PyData := .tuple (xs.map .int)
def leT (p q : List Int) : Bool := decide (p ≤ q)
def sortT (xss : List (List Int)) : List (List Int) := xss.mergeSort leT
def rSortT (K : PySem.W.Frag) : List V → Hp → VK → Prop := fun vs H Q => ∃ (a : Addr) (us : List V) (xss : List (List Int)) (G : V → List Int → Prop), vs = [V.ref a] ∧ SqL K H a us ∧ Paired (fun v xs => G v xs ∧ Dp K H v (encT xs)) us xss ∧ (∀ xs ∈ xss, xs ≠ []) ∧ ∀ p us', H p = none → Paired G us' (sortT xss) → Q (.ref p) (upd H p (.lst us'))
section
variable {P : Program} {w : World} {K : PySem.W.Frag} {mg : Str → Option Value} {base : Heap} {k : Nat}
variable {s : Slot}
end
end Ty

/-! Ty49 -/
/-! dicts: get with a default, walked while they stand still; dicts of nested keys: one entry shown, list(d) -/
namespace Ty
open PySem PySem.Spec L2
section
variable {P : Program} {w : World} {K : PySem.W.Frag} {mg : Str → Option Value} {base : Heap} {k : Nat} {β : Type} {p : VP β}
variable {Y : Fa P w K mg base k} {i : Y.I} {e ea eb eo ef ek ev tg iter elt : Expr} {es ifs : List Expr} {rest body : List Stmt} {Γ Γ' Γ1 Γ2 Δ Δ' : List Slot} {a b c r s s' : Slot} {pos : Pos} {B : Bs} {D : Ends} {x f : Str} {p' : Pos} {C : Addr} {ns : List Str}
/-- a dict with int keys that stands still -/
def pLk (p : VP β) : VP (List (Int × β)) where
  R := fun F v kvs => ∃ d od xs, v = .ref d ∧ F d = some (.frz od (.dK xs)) ∧ DRel dInt p F xs kvs
  mono := fun hF h => let ⟨d, od, xs, e, h1, h2⟩ := h; ⟨d, od, xs, e, hF _ _ h1, drel_mono hF h2⟩
/-! ### nested keys -/
def tDisp1N (P : Program) (w : World) (tk tv : TE) : TE := fun σ H Q => ∀ p, H p = none → tk σ (upd H p (ndo P w p [])) fun x H1 => tv σ H1 fun y H2 => ∃ b ks, x = .ref b ∧ H2 p = some (ndo P w p []) ∧ pNK.R H2 (.ref b) ks ∧ Q (.ref p) (upd H2 p (ndo P w p (putN [] ks b y)))
def numsOf : List NestedKey → Option (List Int)
  | [] => some []
  | .num i :: r => (numsOf r).map (i :: ·)
  | _ :: _ => none
def keyT : NestedKey → Option (List Int)
  | .tup ks => numsOf ks
  | _ => none
def keysT : List (NestedKey × β) → Option (List (List Int))
  | [] => some []
  | kv :: r => (keyT kv.1).bind fun x => (keysT r).map (x :: ·)
def rListN (P : Program) (w : World) : List V → Hp → VK → Prop := fun vs H Q => ∃ (d : Addr) (xs : NDX), vs = [.ref d] ∧ H d = some (ndo P w d xs) ∧ Kys H xs ∧ ∀ q, H q = none → Q (.ref q) (upd H q (.lst (xs.map fun x => V.ref x.2.1)))
end
end Ty

/-! Ty50 -/
/-! z.bit_length(); sorted of a list of pairs of an int and a tuple; a range of any size; isinstance(e, ValueError) of an error without fields -/
namespace Ty
open PySem PySem.Spec L2
/-! ### z.bit_length() -/
def tBitLen (ta : TE) : TE := fun σ H Q => ta σ H fun x H1 => ∃ z : Int, x = .int z ∧ Q (.int ((Builtin.Int.intBits z : Nat) : Int)) H1
/-! ### a range of any size -/
section
variable {X : Cx} {tg : Expr}
def iRngA (ta : TA) : TI := fun σ H R => ta σ H fun vs H1 => ∃ j : Int, vs = [.int j] ∧ R (Itr 0 j.toNat) H1
end
section
variable {P : Program} {w : World} {K : PySem.W.Frag} {mg : Str → Option Value} {base : Heap} {k : Nat} {β : Type} {p : VP β}
variable {Y : Fa P w K mg base k} {i : Y.I} {e ea eb eo ef ek ev tg iter elt : Expr} {es ifs : List Expr} {rest body : List Stmt} {Γ Γ' Γ1 Γ2 Δ Δ' : List Slot} {a b c r s s' : Slot} {pos : Pos} {B : Bs} {D : Ends} {x f : Str} {p' : Pos} {C : Addr} {ns : List Str}
end
section
variable {P : Program} {w : World} {K : PySem.W.Frag} {mg : Str → Option Value} {base : Heap} {k : Nat}
variable {Y : Fa P w K mg base k} {ea eb : Expr} {Γ : List Slot} {pos : Pos} {p' : Pos} {C : Addr}
end
/-! ### sorted -/
def encP (x : Int × List Int) : PyData := .tuple [.int x.1, encT x.2]
def leP (p q : Int × List Int) : Bool := PySem.W.dataLe false encP p q
def sortP (xs : List (Int × List Int)) : List (Int × List Int) := xs.mergeSort leP
def rSortP (K : PySem.W.Frag) : List V → Hp → VK → Prop := fun vs H Q => ∃ (a : Addr) (us : List V) (xss : List (Int × List Int)) (G : V → Int × List Int → Prop), vs = [V.ref a] ∧ SqL K H a us ∧ Paired (fun v xs => G v xs ∧ Dp K H v (encP xs)) us xss ∧ ∀ p us', H p = none → Paired G us' (sortP xss) → Q (.ref p) (upd H p (.lst us'))
section
variable {P : Program} {w : World} {K : PySem.W.Frag} {mg : Str → Option Value} {base : Heap} {k : Nat}
variable {s : Slot}
end
/-! ### pairs and one of two makes of pairs: their kind and length -/
section
variable {P : Program} {w : World} {K : PySem.W.Frag} {mg : Str → Option Value} {base : Heap} {k : Nat} {α β γ δ : Type} {p : VP α} {q : VP β}
variable {Y : Fa P w K mg base k} {e : Expr} {Γ : List Slot} {s : Slot}
theorem TyV.t2 {u : α × β} : TyV K (val (pT2 p q) u) "tuple" := fun F H fp o hS hp => by
  obtain ⟨_, v, e, l, a, b, e2, h, _⟩ := hp
  subst e2
  exact ⟨_, e, .base (.tup (hS _ _ h))⟩
theorem TyV.sum {T : String} {u : α ⊕ β} (h1 : ∀ a, TyV K (val p a) T) (h2 : ∀ b, TyV K (val q b) T) : TyV K (val (pSum p q) u) T := fun F H fp o hS hp => by
  obtain ⟨e1, v, e, r⟩ := hp
  cases u with
  | inl a => exact h1 a F H fp o hS ⟨e1, v, e, r⟩
  | inr b => exact h2 b F H fp o hS ⟨e1, v, e, r⟩
/-- a tuple of n things -/
def TLen (s : Slot) (n : Nat) : Prop := ∀ F H fp o, Same F H → s.P F H fp o → ∃ l vs, o = some (.ref l) ∧ H l = some (.tup vs) ∧ vs.length = n
theorem TLen.t2 {u : α × β} : TLen (val (pT2 p q) u) 2 := fun F H fp o hS hp => by
  obtain ⟨_, v, e, l, a, b, e2, h, _⟩ := hp
  subst e2
  exact ⟨l, [a, b], e, hS _ _ h, rfl⟩
theorem TLen.sum {n : Nat} {u : α ⊕ β} (h1 : ∀ a, TLen (val p a) n) (h2 : ∀ b, TLen (val q b) n) : TLen (val (pSum p q) u) n := fun F H fp o hS hp => by
  obtain ⟨e1, v, e, r⟩ := hp
  cases u with
  | inl a => exact h1 a F H fp o hS ⟨e1, v, e, r⟩
  | inr b => exact h2 b F H fp o hS ⟨e1, v, e, r⟩
theorem XV.unr {u : α ⊕ β} {y : β} (hz : u.getRight? = some y) (h : XV Y e Γ (val (pSum p q) u)) : XV Y e Γ (val q y) := h.as fun F H fp o _ ⟨e1, v, e2, r⟩ => by
  cases u with
  | inr a => cases hz; exact ⟨e1, v, e2, r⟩
  | inl b => cases hz
end
/-! ### is, of two bools -/
end Ty

/-! Ty51 -/
/-! displays of owned things of several kinds: looked at, walked when frozen, weakened -/
namespace Ty
open PySem PySem.Spec L2
/-- an owned display, looked at -/
def borH (Δ : List Slot) : Slot where
  P := fun F H fp o => fp = [] ∧ ∃ l vs os, o = some (.ref l) ∧ H l = some (.lst vs) ∧ Slots F H os (vs.map some) Δ
  mono := fun hF hH h => let ⟨ef, l, vs, os, e, h1, h2⟩ := h; ⟨ef, l, vs, os, e, hH _ _ h1, h2.mono hF hH⟩
  st := False
  mm := fun h => h.elim
section
variable {P : Program} {w : World} {K : PySem.W.Frag} {mg : Str → Option Value} {base : Heap} {k : Nat}
variable {Y : Fa P w K mg base k} {i : Y.I} {e ea eb eo ev tg iter elt : Expr} {es ifs : List Expr} {rest body : List Stmt} {Γ Γ' Γ1 Γ2 Δ Δ' : List Slot} {a b c r s s' : Slot} {pos : Pos} {B : Bs} {D : Ends} {x g f : Str} {p' : Pos}
end
/-! ### anything -/
def pAny : VP Unit := ⟨fun _ _ _ => True, fun _ h => h⟩
/-- slot by slot -/
inductive SImp : List Slot → List Slot → Prop
  | nil : SImp [] []
  | cons {s s' : Slot} {a b : List Slot} : (∀ F H fp o, s.P F H fp o → s'.P F H fp o) → SImp a b → SImp (s :: a) (s' :: b)
theorem SImp.to {F H : Hp} : ∀ {Δ Δ' : List Slot} {os : List Addr} {σ : List (Option V)}, SImp Δ Δ' → Slots F H os σ Δ → Slots F H os σ Δ'
  | _, _, _, _, .nil, S => by cases S; exact .nil
  | _, _, _, _, .cons h t, S => by
    cases S with
    | cons p r => exact .cons (h _ _ _ _ p) (t.to r)
section
variable {P : Program} {w : World} {K : PySem.W.Frag} {mg : Str → Option Value} {base : Heap} {k : Nat}
variable {Y : Fa P w K mg base k} {e : Expr} {Γ : List Slot}
theorem XV.any {α : Type} {p : VP α} {u : α} (h : XV Y e Γ (val p u)) : XV Y e Γ (val pAny ()) := h.as fun F H fp o _ ⟨e1, v, e2, _⟩ => ⟨e1, v, e2, True.intro⟩
end
end Ty
namespace Ty
open PySem PySem.Spec L2
end Ty

/-! Ty52 -/
/-! owned things of several kinds: tuples of them, taken out, unpacked; errors as values; min and max of a pair -/
namespace Ty
open PySem PySem.Spec L2
open PyProof.Rows (envOfC)
/-- an owned tuple of things of several kinds -/
def tupS (Γs : List Slot) : Slot where
  P := fun F H fp o => ∃ l vs os, o = some (.ref l) ∧ fp = l :: os ∧ H l = some (.tup vs) ∧ Slots F H os (vs.map some) Γs
  mono := fun hF hH h => let ⟨l, vs, os, e1, e2, h1, h2⟩ := h; ⟨l, vs, os, e1, e2, hH _ _ h1, h2.mono hF hH⟩
  st := Stb Γs
  mm := fun hs {_ _ _ _ _ _} hF hH h => let ⟨l, vs, os, e1, e2, h1, h2⟩ := h
    ⟨l, vs, os, e1, e2, by rw [hH l (by rw [e2]; simp)]; exact h1, h2.mm hF hs fun q hq => hH q (by rw [e2]; simp [hq])⟩
section
variable {P : Program} {w : World} {K : PySem.W.Frag} {mg : Str → Option Value} {base : Heap} {k : Nat}
variable {Y : Fa P w K mg base k} {i : Y.I} {e ea eb eo ev tg iter elt : Expr} {es ifs : List Expr} {rest body : List Stmt} {Γ Γ' Γ1 Γ2 Δ Δ' As : List Slot} {a b c r s s' : Slot} {pos : Pos} {B : Bs} {D : Ends} {x g f : Str} {p' : Pos}
end
end Ty

/-! Ty53 -/
/-! errors as values; min and max of a pair of ints -/
namespace Ty
open PySem PySem.Spec L2
open PyProof.Rows
/-- an exception object of this class with this dict, at a -/
def ExV (cls : Value) (d : Option Addr) (a : Addr) : HO := .ext fun h => ∃ (oe : Obj) (vs : Array Value), h.get? a = some oe ∧ Zc cls d oe ∧ oe.data = .fields vs
section
variable {X : Cx} {pins : List (Addr × Obj)} {σ : L2.St} {H : Hp} {s s' : Shared}
/-- isinstance(e, c), e an exception as a value -/
def rIsV (K : PySem.W.Frag) : List V → Hp → VK → Prop := fun xs H Q => ∃ (a Dc : Addr) (d : Option Addr) (c : V) (cv : Value) (b : Bool), xs = [.ref a, c] ∧ H a = some (ExV (.ref Dc) d a) ∧ (d = none ∨ ∃ dd fs, d = some dd ∧ H dd = some (.xd fs)) ∧ ExcC K Dc ∧ (∀ u, RelV c u → u = cv) ∧ PySem.W.kitOne K (.ref Dc) cv = some b ∧ Q (.bl b) H
end
/-- an error as a value -/
def pErr (EX : ExT) : VP Exn := ⟨fun F v e => ∃ (a : Addr) (cls : Value) (d : Option Addr) (F0 : Hp), v = .ref a ∧ F a = some (ExV cls d a) ∧ Same F0 F ∧ EX e cls d F0, fun hF ⟨a, cls, d, F0, h1, h2, h3, h4⟩ => ⟨a, cls, d, F0, h1, hF _ _ h2, h3.trans hF, h4⟩⟩
section
variable {P : Program} {w : World} {K : PySem.W.Frag} {mg : Str → Option Value} {base : Heap} {k : Nat}
variable {Y : Fa P w K mg base k} {i : Y.I} {e ea eb eo ev tg iter elt : Expr} {es ifs : List Expr} {rest body : List Stmt} {Γ Γ' Γ1 Γ2 Δ Δ' As : List Slot} {a b c r s s' : Slot} {pos : Pos} {B : Bs} {D : Ends} {x g f : Str} {p' : Pos} {C : Addr} {EX : ExT} {ex : Exn}
end
/-! ### min and max of a pair -/
def rMinT (K : PySem.W.Frag) : List V → Hp → VK → Prop := fun vs H Q => ∃ (a : Addr) (x y : Int), vs = [V.ref a] ∧ SqT K H a [.int x, .int y] ∧ Q (.int (if y < x then y else x)) H
def rMaxT (K : PySem.W.Frag) : List V → Hp → VK → Prop := fun vs H Q => ∃ (a : Addr) (x y : Int), vs = [V.ref a] ∧ SqT K H a [.int x, .int y] ∧ Q (.int (if x < y then y else x)) H
section
variable {P : Program} {w : World} {K : PySem.W.Frag} {mg : Str → Option Value} {base : Heap} {k : Nat}
variable {Y : Fa P w K mg base k} {Γ : List Slot}
end
end Ty

/-! Ty54 -/
/-! an own == that answers NotImplemented to an int -/
namespace Ty
open PySem PySem.Spec L2 PyProof.Rows
open AutoSeq1 (wpAny_loadPart')
open MeetsSeq MeetsSeq2 MeetsSeq3 SeqRoads2
/-- a def that answers NotImplemented -/
def NiOk (P : Program) (w : World) (K : PySem.W.Frag) (mg : Str → Option Value) (base : Heap) (k : Nat) (f : Addr) (fd : FuncData) (ps : List Str) (sp : List V → Hp → Prop) : Prop :=
  ∀ (A : Around) (outer : List Env) (s : Shared) (H : Hp) (us : List Value) (vs : List V), Room k A → Env0 P w K mg base A outer s H → BindsTo s fd ⟨us, []⟩ (ps.zip us) → Vals vs us → vs.length = ps.length → sp vs H →
    codeAny (model P w) A (.call (.ref f) ⟨us, []⟩) (fun r s' => r = .ok (.ret .notImplemented) ∧ ∃ H', Same H H' ∧ s'.os = s.os ∧ AllBare s'.gens ∧ Un (frs outer) [] H H' s.heap s'.heap ∧ HOk P w H' s'.heap) s
section
variable {P : Program} {w : World} {K : PySem.W.Frag} {mg : Str → Option Value} {base : Heap}
end
section
variable {X : Cx} {n : Nat} {f C : Addr} {fd : FuncData} {ps : List Str} {sp : List V → Hp → Prop} {pins : List (Addr × Obj)} {σ : L2.St} {H : Hp} {s : Shared}
def rEqI (K : PySem.W.Frag) (C : Addr) (sp : List V → Hp → Prop) : R2 := fun x y H Q => ∃ (a dx : Addr) (fs : List (Str × V)) (z : Int), x = .ref a ∧ y = .int z ∧ H a = some (.ins C dx fs) ∧ PySem.W.subIn K (.type "int") (.ref C) = some false ∧ sp [x, y] H ∧ ∀ H', Same H H' → Q (.bl false) H'
end
/-! ### in the layer -/
def spNi : List V → Hp → Prop := fun vs _ => ∃ (x : V) (z : Int), vs = [x, .int z]
section
variable {P : Program} {w : World} {K : PySem.W.Frag} {mg : Str → Option Value} {base : Heap} {k : Nat}
variable {Y : Fa P w K mg base k} {Γ : List Slot} {a b s : Slot} {C : Addr} {ns : List Str} {α : Type} {f : Addr} {fd : FuncData} {ps : List Str} {j : Nat}
end
theorem NLp.opt {α : Type} {p : VP α} (h : NLp p) : NLp (pOpt p) := fun F F' v a k r => by
  cases a with
  | none => exact r
  | some a => exact ⟨h _ _ _ _ k r.1, r.2⟩
end Ty

/-! Ty62 -/
/-! texts: split, join, f'..', int(text); texts out of data; lists as data -/
namespace Ty
open PySem PySem.Spec L2
open PyProof.Rows
section
variable {P : Program} {w : World} {K : PySem.W.Frag} {mg : Str → Option Value} {base : Heap} {k : Nat}
variable {Y : Fa P w K mg base k} {i : Y.I} {e ea eb eo : Expr} {es : List Expr} {Γ Γ' : List Slot} {a b r s : Slot} {pos : Pos} {x : Str} {p' : Pos}
/-! ### f'..' -/
def XJs (Y : Fa P w K mg base k) (es : List Expr) (Γ : List Slot) (acc out : Str) : Prop :=
  ∃ ts : List TE, (∀ i, PJ (Y.X i) es ts) ∧ ∀ (B : Bs) (F H : Hp) (os : List Addr) (σ : List (Option V)) (Q : Str → Hp → Prop), In B F H os σ Γ → (∀ F' H', Same F F' → Same H H' → Wo B F' H' os → Q out H') → tJs ts acc σ H Q
/-! ### data -/
def pdStr : PyData → Option Str
  | .str x => some x
  | _ => none
theorem XV.pds {d : PyData} {t : Str} (hi : pdStr d = some t) (h : XV Y e Γ (val (pDa K) d)) : XV Y e Γ (vStr t) := h.as fun F H fp o _ ⟨e1, v, e2, r⟩ => by
  cases (show Dp K F v d from r) with
  | str j => cases hi; exact ⟨e1, _, e2, rfl⟩
  | _ => cases hi
end
end Ty

/-! Ty63 -/
/-! defs that change their first argument, answer, and may raise -/
namespace Ty
open PySem PySem.Spec L2
open PyProof.Rows (envOfC)
section
variable {P : Program} {w : World} {K : PySem.W.Frag} {mg : Str → Option Value} {base : Heap} {k : Nat}
def spMR {ι μ ρ : Type} (s0 : ι → Slot) (As : ι → List Slot) (m : ι → Option (Rx (μ × ρ))) (s1 : μ → Slot) (Sr : ρ → Slot) (X : ExT) : Sp := fun vs H Q E => ∃ (z : ι) (r : Rx (μ × ρ)) (F : Hp) (fp : List Addr) (v0 : V) (ws : List V), vs = v0 :: ws ∧ m z = some r ∧ Wo ⟨F, H, fp⟩ F H fp ∧ (s0 z).P F H fp (some v0) ∧ Slots F H [] (ws.map some) (As z) ∧
  (∀ q, r = .ok q → ∀ v F' H' f1 f2, Wo ⟨F, H, fp⟩ F' H' (f2 ++ f1) → (s1 q.1).P F' H' f1 (some v0) → (Sr q.2).P F' H' f2 (some v) → Q v H') ∧ ∀ e, r = .ex e → ∀ cls d F' H', Wo ⟨F, H, fp⟩ F' H' [] → X e cls d F' → E cls d H'
def DMR {μ ρ : Type} (B : Bs) (v0 : V) (s1 : μ → Slot) (Sr : ρ → Slot) (r : Rx (μ × ρ)) : Ends where
  nx := fun σ H => ∃ q, r = .ok q ∧ (DM B v0 s1 Sr q).nx σ H
  rt := fun v H => ∃ q, r = .ok q ∧ (DM B v0 s1 Sr q).rt v H
variable {Y : Fa P w K mg base k} {i : Y.I} {e ea eb eo : Expr} {es : List Expr} {rest : List Stmt} {Γ Γ' Γ1 : List Slot} {a b r s : Slot} {pos : Pos} {B : Bs} {D : Ends} {x f : Str} {p' : Pos} {EX : ExT} {ex : Exn} {C : Addr} {ns : List Str} {Δ : List Slot}
/-- what W asks does not lean on the slots -/
def WFree (Y : Fa P w K mg base k) : Prop := ∀ cls d σ σ' H, Y.W cls d σ H → Y.W cls d σ' H
/-! statements whose head raises behind changes -/
end
end Ty

/-! Ty64 -/
/-! lists of data taken apart; places in what a changing call answers; errors behind them -/
namespace Ty
open PySem PySem.Spec L2
section
variable {P : Program} {w : World} {K : PySem.W.Frag} {mg : Str → Option Value} {base : Heap} {k : Nat}
variable {Y : Fa P w K mg base k} {i : Y.I} {e ea eb eo tg : Expr} {es : List Expr} {rest : List Stmt} {Γ Γ' Γ1 : List Slot} {a b r s : Slot} {pos : Pos} {B : Bs} {D : Ends} {x f : Str} {p' : Pos} {EX : ExT} {ex : Exn} {α : Type}
/-- data told as values of these kinds -/
inductive DsTo : List PyData → List Slot → Prop
  | nil : DsTo [] []
  | str {t : Str} {ds : List PyData} {Γ : List Slot} (r : DsTo ds Γ) : DsTo (.str t :: ds) (vStr t :: Γ)
  | int {n : Int} {ds : List PyData} {Γ : List Slot} (r : DsTo ds Γ) : DsTo (.int n :: ds) (vInt n :: Γ)
theorem DsTo.slots {F : Hp} {ds : List PyData} {Γ : List Slot} (h : DsTo ds Γ) : ∀ {vs : List V}, Paired ((pDa K).R F) vs ds → Slots F F [] (vs.map some) Γ := by
  induction h with
  | nil =>
    intro vs hp
    cases hp
    exact .nil
  | str _ ih =>
    intro vs hp
    cases hp with
    | cons r t => cases r; exact Slots.cons (fp := []) ⟨rfl, _, rfl, rfl⟩ (ih t)
  | int _ ih =>
    intro vs hp
    cases hp with
    | cons r t => cases r; exact Slots.cons (fp := []) ⟨rfl, _, rfl, rfl⟩ (ih t)
theorem WkS.dataH {sl : α → List Slot} {z : α} {ds : List PyData} (h : DsTo ds (sl z)) : WkS (Ty.own (oL (pDa K)) ds) (Ty.val (pH sl) z) := fun F H fp o hS hp => by
  obtain ⟨v, e, l, vs, el, ef, h1, h2⟩ := hp
  subst ef
  exact ⟨[l], [], rfl, fun F' hF hs hx => ⟨rfl, v, e, l, vs, el, by rw [hx l List.mem_cons_self]; exact h1, h.slots (Paired.mon (fun _ _ r => (pDa K).mono hF r) h2)⟩⟩
def pdSII : List PyData → Option (Str × Int × Int)
  | [.str a, .int b, .int c] => some (a, b, c)
  | _ => none
def pdII : List PyData → Option (Int × Int)
  | [.int b, .int c] => some (b, c)
  | _ => none
def pdSI : List PyData → Option (Str × Int)
  | [.str a, .int b] => some (a, b)
  | _ => none
end
end Ty

/-! Ty65 -/
/-! lending for flat answers; owned tuples unpacked; errors in what is handed to a class; heads of sums -/
namespace Ty
open PySem PySem.Spec L2
theorem Wo.thawF {B : Bs} {F F1 F2 H H2 : Hp} {a b os2 : List Addr} (W : Wo B F H (a ++ b)) (hF : Same F F1) (hx : ∀ x ∈ a, F1 x = H x) (ho : ∀ x o, F1 x = some o → x ∈ a ∨ F x = some o) (W2 : Wo ⟨F1, H, b⟩ F2 H2 os2) :
    ∃ F3, Wo B F3 H2 (a ++ os2) ∧ Same F F3 := by
  classical
  have nd := List.nodup_append.mp W.nd
  have hm : ∀ x ∈ a, ∃ o, F2 x = some o := fun x hq => by
    obtain ⟨o, e⟩ := W.oH x (List.mem_append_left _ hq)
    exact ⟨o, W2.bF x _ ((hx x hq).trans e)⟩
  have hS : Same F (fun x => if x ∈ a then none else F2 x) := fun x o e => by
    have q : x ∉ a := fun q => by rw [W.oF x (List.mem_append_left _ q)] at e; cases e
    show (if x ∈ a then none else F2 x) = _
    rw [if_neg q]
    exact W2.bF x o (hF x o e)
  have dj : ∀ x ∈ os2, x ∉ a := fun x hx2 q => by
    obtain ⟨o, e⟩ := hm x q
    rw [W2.oF x hx2] at e; cases e
  have inv : ∀ x o, (if x ∈ a then none else F2 x) = some o → x ∉ a ∧ F2 x = some o := fun x o e => by
    by_cases q : x ∈ a
    · rw [if_pos q] at e; cases e
    · rw [if_neg q] at e; exact ⟨q, e⟩
  have bo : ∀ x ∈ b, B.H x = none ∨ x ∈ B.os := fun x hx => W.bO x (List.mem_append_right _ hx)
  refine ⟨fun x => if x ∈ a then none else F2 x, ⟨fun x o e => W2.sub x o (inv x o e).2, List.nodup_append.mpr ⟨nd.1, W2.nd, fun x h1 y h2 e => dj y h2 (e ▸ h1)⟩, fun x hx2 => ?_, fun x hx2 => ?_, W.bF.trans hS, fun x o e hb => ?_, fun x o e => ?_, fun x hx2 => ?_⟩, hS⟩
  · show (if x ∈ a then none else F2 x) = none
    rcases List.mem_append.mp hx2 with q | q
    · rw [if_pos q]
    · rw [if_neg (dj x q)]; exact W2.oF x q
  · rcases List.mem_append.mp hx2 with q | q
    · obtain ⟨o, e⟩ := hm x q
      exact ⟨_, W2.sub x _ e⟩
    · exact W2.oH x q
  · refine W2.bH x o (W.bH x o e hb) fun q => ?_
    rcases bo x q with z | z
    · rw [z] at e; cases e
    · exact hb z
  · obtain ⟨q, e⟩ := inv x o e
    rcases W2.bN x o e with z | z | z
    · rcases ho x o z with z | z
      · exact absurd z q
      · exact W.bN x o z
    · exact .inr (W.bFree z)
    · exact .inr (bo x z)
  · rcases List.mem_append.mp hx2 with q | q
    · exact W.bO x (List.mem_append_left _ q)
    · rcases W2.bO x q with z | z
      · exact W.bFree z
      · exact bo x z
section
variable {P : Program} {w : World} {K : PySem.W.Frag} {mg : Str → Option Value} {base : Heap} {k : Nat}
variable {Y : Fa P w K mg base k} {i : Y.I} {e ea eb eo tg : Expr} {es : List Expr} {rest : List Stmt} {Γ Γ' Γ1 : List Slot} {a b r s s' : Slot} {Δ : List Slot} {pos : Pos} {B : Bs} {D : Ends} {x f : Str} {p' : Pos} {EX : ExT} {ex : Exn} {α β : Type} {C : Addr}
theorem WkS.hold {v : V} (h : WkS s s') : WkS (Ty.hold s v) s' := fun F H fp o hS hp => h F H fp o hS hp.2
/-- where the slot j stands lent; what comes back leans on nothing -/
theorem In.lendF {B : Bs} {F H : Hp} {os : List Addr} {σ : List (Option V)} {j : Nat} (I : In B F H os σ Γ) (hs : Γ[j]? = some s) (hw : WkS s s') :
    ∃ F1 x b, Same F F1 ∧ os.Perm (x ++ b) ∧ In ⟨F1, H, b⟩ F1 H b σ (Γ.set j s') ∧ ∀ F2 H2 fp, Same H H2 → Wo ⟨F1, H, b⟩ F2 H2 (fp ++ b) → ∃ F3, Wo B F3 H2 (fp ++ os) ∧ Same F F3 := by
  obtain ⟨o2, r1, p, S⟩ := I.S
  obtain ⟨o, fp, r2, eσ, q, p2, kk⟩ := S.at hs
  obtain ⟨x, y, rfl, wk⟩ := hw F H fp o I.W.sub q
  have hp : os.Perm (x ++ (y ++ r2 ++ r1)) := by
    refine p.trans ((List.Perm.append_right r1 p2).trans ?_)
    rw [List.append_assoc, List.append_assoc, List.append_assoc]
  have W1 := I.W.perm hp
  obtain ⟨F1, W2, hF, hx, ho⟩ := W1.freeze2
  refine ⟨F1, x, y ++ r2 ++ r1, hF, hp, ⟨W2.self, ?_⟩, fun F2 H2 fp hH W3 => ?_⟩
  · obtain ⟨os', S', p3⟩ := kk (F' := F1) (H' := H) (fp' := y) (o' := o) (wk F1 hF W2.sub hx) fun s0 _ fp0 o0 _ h0 => s0.mono hF same_refl h0
    have es : σ.set j o = σ := by
      refine List.ext_getElem? fun m => ?_
      rw [List.getElem?_set]
      split
      · rename_i h; subst h
        split
        · exact eσ.symm
        · rename_i h2
          rw [List.getElem?_eq_none (by omega)]
      · rfl
    rw [es] at S'
    exact ⟨os', r1, List.Perm.append_right r1 p3.symm, S'⟩
  · obtain ⟨F3, W4, h1⟩ := W1.thawF hF hx ho W3
    refine ⟨F3, W4.perm ?_, h1⟩
    refine List.Perm.trans ?_ (List.Perm.append_left fp hp.symm)
    rw [← List.append_assoc x fp, ← List.append_assoc fp x]
    exact List.Perm.append_right _ List.perm_append_comm
theorem x_lendF {p : VP α} {u : α} (j : Nat) (hs : Γ[j]? = some s) (hw : WkS s s') (hr : Flat p) (h : XV Y e (Γ.set j s') (val p u)) : XV Y e Γ (val p u) := by
  obtain ⟨t, p1, rd⟩ := h
  refine ⟨t, p1, fun B F H os σ Q I kk => ?_⟩
  obtain ⟨F1, x, b, hF, hp, I1, th⟩ := I.lendF hs hw
  refine rd _ F1 H b σ Q I1 fun v F2 H2 fp f2 e2 W2 q => ?_
  obtain ⟨F3, W3, h1⟩ := th F2 H2 fp e2 W2
  obtain ⟨e0, v', e1, rv⟩ := q
  exact kk v F3 H2 fp h1 e2 W3 ⟨e0, v', e1, hr _ _ _ _ rv⟩
/-- the head of a pair or of data -/
def hdS : (Str × β) ⊕ PyData → Option Str
  | .inl a => some a.1
  | .inr d => (pdAt d 0).bind pdStr
theorem x_hdS {q : VP β} {u : (Str × β) ⊕ PyData} {t : Str} (ha : XV Y ea Γ (val (pSum (pT2 pStr q) (pDa K)) u)) (hb : XV Y eb Γ (vInt 0)) (hz : hdS u = some t) (hx : PlainIx eb := by exact fun _ _ => rfl) : XV Y (.Subscript ea eb pos) Γ (vStr t) := by
  cases u with
  | inl a => cases hz; exact x_fst (XV.unl rfl ha) hb hx
  | inr d =>
    obtain ⟨d0, h1, h2⟩ := Option.bind_eq_some_iff.mp hz
    exact XV.pds h2 (x_ixDA (XV.unr rfl ha) hb h1 hx)
def hdStr : List PyData → Option Str
  | .str t :: _ => some t
  | _ => none
end
end Ty

/-! Ty66 -/
/-! places whose value is known; calls whose last argument changes something -/
namespace Ty
open PySem PySem.Spec L2
section
variable {P : Program} {w : World} {K : PySem.W.Frag} {mg : Str → Option Value} {base : Heap} {k : Nat}
variable {Y : Fa P w K mg base k} {i : Y.I} {e ea eb eo tg : Expr} {es : List Expr} {rest : List Stmt} {Γ Γ' Γ1 : List Slot} {a b r s : Slot} {pos : Pos} {B : Bs} {D : Ends} {x f : Str} {p' : Pos} {C : Addr} {ns : List Str} {Δ Δ0 : List Slot} {As : List Slot}
theorem FnOk.union {ι : Type} {CX : CXT} {j : Nat} {g : Addr} {fd : FuncData} {ps : List Str} {sp' : Sp} {spI : ι → Sp} (F : ∀ i, FnOk P w K mg base CX j g fd ps (spI i)) (h : ∀ vs H Q E, sp' vs H Q E → ∃ i, spI i vs H Q E) : FnOk P w K mg base CX j g fd ps sp' :=
  ⟨fun vs H Q E q => let ⟨i, z⟩ := h _ _ _ _ q; (F i).len vs H Q E z, fun A outer s H args us vs Q E hr he hb hv hs => let ⟨i, z⟩ := h _ _ _ _ hs; (F i).run A outer s H args us vs Q E hr he hb hv z⟩
def HP (Γ : List Slot) (s : Slot) (v0 : V) (up : Slot → List Slot) : Prop := ∀ (F H : Hp) (os : List Addr) (σ : List (Option V)), Slots F H os σ Γ → ∃ fp r, os.Perm (fp ++ r) ∧ s.P F H fp (some v0) ∧
  ∀ (F' H' : Hp) (fp' : List Addr) (s' : Slot), Same F F' → (∀ q ∈ r, H' q = H q) → s'.P F' H' fp' (some v0) → ∃ os', Slots F' H' os' σ (up s') ∧ os'.Perm (fp' ++ r)
theorem hp_name {v0 : V} (j : Nat) (hst : Stb Γ) (hs : Γ[j]? = some (hold s v0) := by rfl) : HP Γ s v0 (fun s' => Γ.set j (hold s' v0)) := fun F H os σ S => by
  obtain ⟨o, fp, r, e, p, q, kk⟩ := S.at hs
  obtain ⟨rfl, p⟩ := p
  refine ⟨fp, r, q, p, fun F' H' fp' s' hF hk hs' => ?_⟩
  obtain ⟨os', h1, h2⟩ := kk (s' := hold s' v0) ⟨rfl, hs'⟩ (fun s0 h0 fp0 o0 hf hp => s0.mm (hst s0 h0) hF (fun z hz => hk z (hf z hz)) hp)
  have es : σ.set j (some v0) = σ := by
    obtain ⟨hj, e1⟩ := List.getElem?_eq_some_iff.mp e
    rw [← e1]; exact List.set_getElem_self hj
  rw [es] at h1
  exact ⟨os', h1, h2⟩
theorem hp_fld {v0 v1 : V} {up : Slot → List Slot} (j : Nat) (ho : HP Γ (obj C ns Δ) v1 up) (hst : Stb Δ) (hj : Δ[j]? = some (hold s v0) := by rfl) : HP Γ s v0 (fun s' => up (obj C ns (Δ.set j (hold s' v0)))) := fun F H os σ S => by
  obtain ⟨fp, r2, hr2, hp2, kk⟩ := ho F H os σ S
  obtain ⟨x, dx, vs, o3, e1, e2, g1, g2, g3, g4⟩ := hp2
  cases e1
  obtain ⟨o, fp', r', e3, p3, q3, k3⟩ := g4.at hj
  obtain ⟨rfl, p3⟩ := p3
  subst e2
  refine ⟨fp', (x :: dx :: r') ++ r2, ?_, p3, fun F' H' fp2 s' hF hk hs' => ?_⟩
  · refine hr2.trans ?_
    have a1 : (x :: dx :: o3).Perm (fp' ++ (x :: dx :: r')) := by
      have : (x :: dx :: o3).Perm (x :: dx :: (fp' ++ r')) := (q3.cons dx).cons x
      refine this.trans ?_
      have a2 : (fp' ++ (x :: dx :: r')).Perm (x :: (fp' ++ (dx :: r'))) := List.perm_middle
      have a3 : (fp' ++ (dx :: r')).Perm (dx :: (fp' ++ r')) := List.perm_middle
      exact (a2.trans (a3.cons x)).symm
    have a4 := List.Perm.append_right r2 a1
    rw [List.append_assoc] at a4
    exact a4
  · obtain ⟨os', t1, t2⟩ := k3 (s' := hold s' v0) ⟨rfl, hs'⟩ (fun s0 h0 fp0 o0 hf hp => s0.mm (hst s0 h0) hF (fun q hq => hk q (by simp [hf q hq])) hp)
    have es : (vs.map some).set j (some v0) = vs.map some := by
      obtain ⟨hj', e⟩ := List.getElem?_eq_some_iff.mp e3
      rw [← e]; exact List.set_getElem_self hj'
    rw [es] at t1
    obtain ⟨os2, u1, u2⟩ := kk F' H' (x :: dx :: os') (obj C ns (Δ.set j (hold s' v0))) hF (fun q hq => hk q (by simp [hq])) ⟨x, dx, vs, os', rfl, rfl, by rw [hk x (by simp)]; exact g1, by rw [hk dx (by simp)]; exact g2, g3, t1⟩
    refine ⟨os2, u1, u2.trans ?_⟩
    have a1 : (x :: dx :: os').Perm (x :: dx :: (fp2 ++ r')) := (t2.cons dx).cons x
    have a2 : (fp2 ++ (x :: dx :: r')).Perm (x :: (fp2 ++ (dx :: r'))) := List.perm_middle
    have a3 : (fp2 ++ (dx :: r')).Perm (dx :: (fp2 ++ r')) := List.perm_middle
    have a4 : (x :: dx :: os').Perm (fp2 ++ (x :: dx :: r')) := a1.trans (a2.trans (a3.cons x)).symm
    have a5 := List.Perm.append_right r2 a4
    rw [List.append_assoc] at a5
    exact a5
theorem hold_some {v0 : V} : ∀ F H fp o, (hold s v0).P F H fp o → ∃ v, o = some v := fun _ _ _ _ h => ⟨_, h.1⟩
/-- arguments, the last of which changes something -/
def XAM (Y : Fa P w K mg base k) (es : List Expr) (Γ As Γ' : List Slot) : Prop :=
  ∃ t : TA, (∀ i, PA (Y.X i) es t) ∧ ∀ (B : Bs) (F H : Hp) (os : List Addr) (σ : List (Option V)) (Q : List V → Hp → Prop), Wo B F H os → Slots F H os σ Γ →
    (∀ vs F' H' os', Wo B F' H' os' → Slots F' H' os' σ Γ' → Slots F' H' [] (vs.map some) As → Q vs H') → t σ H Q
theorem xam_last {β : Type} {p : VP β} {u : β} (h : XM Y e Γ (val p u) Γ') (hs : ∀ i, starEach [e] (Y.X i).env = (false, eval e (Y.X i).env) :: starEach [] (Y.X i).env := by intro _; rfl) : XAM Y [e] Γ [val p u] Γ' := by
  obtain ⟨t, pe, rd⟩ := h
  refine ⟨_, fun i => pa_cons (pe i) pa_nil (hs i), fun B F H os σ Q W S q => ?_⟩
  refine rd B F H os σ _ W S fun v F1 H1 fp os1 W1 S1 p1 => ?_
  obtain ⟨rfl, rv⟩ := val_P p1
  exact q [v] F1 H1 os1 W1 S1 (Slots.cons (fp := []) ⟨rfl, v, rfl, rv⟩ .nil)
theorem xam_cons {β : Type} {p : VP β} {u : β} (h : XV Y e Γ (val p u)) (hf : Flat p) (hr : XAM Y es Γ As Γ') (hs : ∀ i, starEach (e :: es) (Y.X i).env = (false, eval e (Y.X i).env) :: starEach es (Y.X i).env := by intro _; rfl) : XAM Y (e :: es) Γ (val p u :: As) Γ' := by
  obtain ⟨t, pe, rd⟩ := h
  obtain ⟨t2, p2, r2⟩ := hr
  refine ⟨_, fun i => pa_cons (pe i) (p2 i) (hs i), fun B F H os σ Q W S q => ?_⟩
  refine rd B F H os σ _ (Sta.in W S) fun v F1 H1 fp f1 e1 W1 p1 => ?_
  obtain ⟨rfl, rv⟩ := val_P p1
  refine r2 B F1 H1 os σ _ W1 (S.mono f1 e1) fun vs F2 H2 os2 W2 S2 S3 => ?_
  exact q (v :: vs) F2 H2 os2 W2 S2 (Slots.cons (fp := []) ⟨rfl, v, rfl, hf _ _ _ _ rv⟩ S3)
/-- o.m(.., e): o is known, e changes it, too -/
theorem xm_methH {ι μ ρ : Type} {s0 : ι → Slot} {Az : ι → List Slot} {m : ι → Option (μ × ρ)} {s1 : μ → Slot} {Sr : ρ → Slot} {args : List Slot} {z : ι} {q : μ × ρ} {j : Nat} {g : Addr} {fd : FuncData} {ps : List Str} {up0 up : Slot → List Slot} {apos cpos : Pos} {pl : Y.I → Sem Bool} {bv : V}
    (Fn : FnOk P w K mg base CX0 j g fd ps (spM s0 Az m s1 Sr)) (hj : j ≤ k) (hc : Cls K C) (hm : Meth K C f g) (hb : Binds K fd ps []) (ho : PL Y eo Γ (hold (obj C ns Δ0) bv) up0) (ha : XAM Y (e :: es) Γ args Γ1) (h1 : HP Γ1 (obj C ns Δ) bv up) (h0 : s0 z = obj C ns Δ) (hargs : args = Az z) (hq : m z = some q)
    (hns : ns.contains f = false := by decide +kernel)
    (hst : ∀ i, starEach (e :: es) (Y.X i).env = (false, eval e (Y.X i).env) :: starEach es (Y.X i).env := by intro _; rfl) (hpl : ∀ i, (backTo cpos (starEach es (Y.X i).env)).any (·.1) = false := by intro _; rfl)
    (ht : ∀ i, eval (.Call (.Attribute eo f apos) (e :: es) [] cpos) (Y.X i).env = (do
      let ov ← eval eo (Y.X i).env
      standAt apos.atName
      let (f, first) ← holding [ov] (getMethod ov f (pl i))
      callWith cpos f first (backTo cpos (starEach (e :: es) (Y.X i).env)) (backToKw cpos (keywordEach [] (Y.X i).env))) := by intro _; rfl) (hcm : Y.cm = true := by rfl) : XM Y (.Call (.Attribute eo f apos) (e :: es) [] cpos) Γ (Sr q.2) (up (s1 q.1)) := by
  subst hargs
  obtain ⟨t, Pv, pe, pst, rd, up'⟩ := ho
  obtain ⟨ta, pa, ra⟩ := ha
  have FF : ∀ i, FnOk (Y.X i).prog (Y.X i).w (Y.X i).K (Y.X i).mg (Y.X i).base CX0 j g fd ps (spM s0 Az m s1 Sr) := fun i => by rw [Y.hP i, Y.hw i, Y.hK i, Y.hM i, Y.hB i]; exact Fn
  refine ⟨_, fun i => pe_meth (pl := pl i) (pe i) (by rw [Y.hK i]; exact hc) (by rw [Y.hK i]; exact hm) (FF i) ((Y.hR hcm i).mono hj) (by rw [Y.hK i]; exact hb) .nil pass0 (pa i) (hst i) (hpl i) (ht i), fun B F H os σ Q W S qq => ?_⟩
  refine rd B F H os σ _ (Sta.in W S) fun v hv => ?_
  obtain ⟨fp, r2, hr2, hp2, _⟩ := up' F H os σ v S hv
  obtain ⟨ev, x, dx, vs, o3, ex, e2, g1, g2, g3, g4⟩ := hp2
  cases ev
  cases ex
  refine ⟨x, dx, _, rfl, g1, lookup_no hns, ?_⟩
  refine ra B F H os σ _ W S fun ws F1 H1 os1 W1 S1 A1 => ?_
  obtain ⟨fp, r2, hr2, hp2, kk⟩ := h1 F1 H1 os1 σ S1
  rw [List.append_nil]
  refine ⟨z, q, F1, fp, _, ws, rfl, hq, W1.here hr2, by rw [h0]; exact hp2, A1, fun v F2 H2 fp1 fp2 W2 p2 p3 => ?_⟩
  obtain ⟨c1, c2, W3⟩ := Wo.calledM (os := os1) W1 hr2 W2
  obtain ⟨os2, v1, v2⟩ := kk F2 H2 fp1 (s1 q.1) c1 c2 p2
  rw [List.append_assoc] at W3
  exact qq v F2 H2 fp2 os2 (W3.perm (List.Perm.append_left fp2 v2.symm)) v1 p3
end
end Ty

/-! Ty67 -/
/-! sum(xs); tuples and operations with a part that changes something -/
namespace Ty
open PySem PySem.Spec L2
section
variable {P : Program} {w : World} {K : PySem.W.Frag} {mg : Str → Option Value} {base : Heap} {k : Nat}
variable {Y : Fa P w K mg base k} {i : Y.I} {e ea eb ec eo tg : Expr} {es : List Expr} {rest : List Stmt} {Γ Γ' Γ1 : List Slot} {a b c r s : Slot} {pos : Pos} {B : Bs} {D : Ends} {x f : Str} {p' : Pos} {C : Addr} {ns : List Str} {Δ Δ0 : List Slot} {As : List Slot}
variable {α β γ : Type} {p : VP α} {q : VP β} {o : VP γ}
theorem c_sum (Y : Fa P w K mg base k) (hcm : Y.cm = true := by rfl) (i : Y.I) : CallR (Y.X i) (.builtin "sum") (rSum K) := by have h := cr_sum (X := Y.X i) ((Y.hC i).trans hcm); rw [Y.hK i] at h; exact h
theorem o_sum {zs : List Int} (hs : SV K s pInt zs) : OpA (rSum K) [s] (vInt zs.sum) := opA1 fun B F H v fx os Q W pv q => by
  obtain ⟨l, vs, ev, h1, h2⟩ := hs F H fx _ W.sub pv
  cases ev
  obtain rfl := map_int_of h2
  exact ⟨l, zs, rfl, h1, q _ F H [] same_refl same_refl W.drop ⟨rfl, _, rfl, rfl⟩⟩
theorem xm_tup2 {n : Nat} {u : α} {v : β} (ha : XAM Y [ea, eb] Γ [val p u, val q v] Γ') : XM Y (.Tuple [ea, eb] n pos) Γ (val (pT2 p q) (u, v)) Γ' := by
  obtain ⟨t, pa, rd⟩ := ha
  refine ⟨_, fun i => pe_tup (pa i), fun B F H os σ Q W S kk => ?_⟩
  refine rd B F H os σ _ W S fun vs F1 H1 os1 W1 S0 S1 => ?_
  match vs, S1 with
  | [], S => have e := S.length; simp at e
  | [_], S => have e := S.length; simp at e
  | [v1, v2], S =>
    obtain ⟨g1, g2, e1, p1, S2⟩ := Slots.cons_inv S
    obtain ⟨g3, g4, e2, p2, S3⟩ := Slots.cons_inv S2
    have z1 := (val_P p1).2
    have z2 := (val_P p2).2
    exact ⟨by show 2 ≤ sizeLine; decide, fun p' hl => newF (r := val (pT2 p q) (u, v)) W1 hl (fun F' f e => ⟨rfl, _, rfl, p', v1, v2, rfl, e, p.mono f z1, q.mono f z2⟩) fun v F' H' fp' f2 e2 W2 p2 => kk v F' H' fp' os1 W2 (S0.mono f2 e2) p2⟩
  | _ :: _ :: _ :: _, S => have e := S.length; simp at e
theorem xm_tup3 {n : Nat} {u : α} {v : β} {z : γ} (ha : XAM Y [ea, eb, ec] Γ [val p u, val q v, val o z] Γ') : XM Y (.Tuple [ea, eb, ec] n pos) Γ (val (pT3 p q o) (u, v, z)) Γ' := by
  obtain ⟨t, pa, rd⟩ := ha
  refine ⟨_, fun i => pe_tup (pa i), fun B F H os σ Q W S kk => ?_⟩
  refine rd B F H os σ _ W S fun vs F1 H1 os1 W1 S0 S1 => ?_
  match vs, S1 with
  | [], S => have e := S.length; simp at e
  | [_], S => have e := S.length; simp at e
  | [_, _], S => have e := S.length; simp at e
  | [v1, v2, v3], S =>
    obtain ⟨g1, g2, e1, p1, S2⟩ := Slots.cons_inv S
    obtain ⟨g3, g4, e2, p2, S3⟩ := Slots.cons_inv S2
    obtain ⟨g5, g6, e3, p3, S4⟩ := Slots.cons_inv S3
    have z1 := (val_P p1).2
    have z2 := (val_P p2).2
    have z3 := (val_P p3).2
    exact ⟨by show 3 ≤ sizeLine; decide, fun p' hl => newF (r := val (pT3 p q o) (u, v, z)) W1 hl (fun F' f e => ⟨rfl, _, rfl, p', v1, v2, v3, rfl, e, p.mono f z1, q.mono f z2, o.mono f z3⟩) fun v F' H' fp' f2 e2 W2 p2 => kk v F' H' fp' os1 W2 (S0.mono f2 e2) p2⟩
  | _ :: _ :: _ :: _ :: _, S => have e := S.length; simp at e
/-- a op b, a changes something -/
theorem xm_opL {op : Operator} {r2 : R2} (ho : ∀ i, OpR (Y.X i) (binaryOp op) r2) (h : Op2 r2 a b c) (ha : XM Y ea Γ a Γ') (hb : XV Y eb Γ' b) : XM Y (.BinOp ea op eb pos) Γ c Γ' := by
  obtain ⟨ta, pa, ra⟩ := ha
  obtain ⟨tb, pb, rb⟩ := hb
  refine ⟨_, fun i => pe_op (ho i) (pa i) (pb i), fun B F H os σ Q W S q => ?_⟩
  refine ra B F H os σ _ W S fun x F1 H1 fx os1 W1 S1 p1 => ?_
  refine rb B F1 H1 (fx ++ os1) σ _ ⟨W1, os1, fx, List.perm_append_comm, S1⟩ fun y F2 H2 fy f2 e2 W2 p2 => ?_
  exact h B F2 H2 x y fx fy os1 _ W2 (a.mono f2 e2 p1) p2 fun v F3 H3 fp f3 e3 W3 p3 => q v F3 H3 fp os1 W3 (S1.mono (f2.trans f3) (e2.trans e3)) p3
/-- pinned and not -/
theorem FnOk.unpin {ι μ ρ : Type} {CX : CXT} {s0 : ι → Slot} {s0p : V → ι → Slot} {Az : ι → List Slot} {m : ι → Option (μ × ρ)} {s1 : μ → Slot} {s1p : V → μ → Slot} {Sr : ρ → Slot} {j : Nat} {g : Addr} {fd : FuncData} {ps : List Str} (Fn : ∀ bv, FnOk P w K mg base CX j g fd ps (spM (s0p bv) Az m (s1p bv) Sr))
    (h0 : ∀ z F H fp o, (s0 z).P F H fp o → ∃ bv, (s0p bv z).P F H fp o) (h1 : ∀ bv z F H fp o, (s1p bv z).P F H fp o → (s1 z).P F H fp o) : FnOk P w K mg base CX j g fd ps (spM s0 Az m s1 Sr) := by
  refine FnOk.union Fn fun vs H Q E h => ?_
  obtain ⟨z, r, F, fp, v0, ws, e, hm, hW, hp, Sl, q⟩ := h
  obtain ⟨bv, hp'⟩ := h0 _ _ _ _ _ hp
  exact ⟨bv, z, r, F, fp, v0, ws, e, hm, hW, hp', Sl, fun v F' H' f1 f2 W p1 p2 => q v F' H' f1 f2 W (h1 bv _ _ _ _ _ p1) p2⟩
/-- one field of an instance, its value named -/
theorem obj_pin {Δ1 Δ2 : List Slot} {F H : Hp} {fp : List Addr} {v : Option V} (hs : ∀ F H fp o, s.P F H fp o → ∃ v, o = some v) (h : (obj C ns (Δ1 ++ s :: Δ2)).P F H fp v) : ∃ bv, (obj C ns (Δ1 ++ hold s bv :: Δ2)).P F H fp v := by
  obtain ⟨x, dx, vs, os, e1, e2, h1, h2, h3, h4⟩ := h
  suffices key : ∀ {Δ1 : List Slot} {os : List Addr} {σ : List (Option V)}, Slots F H os σ (Δ1 ++ s :: Δ2) → ∃ bv, Slots F H os σ (Δ1 ++ hold s bv :: Δ2) by
    obtain ⟨bv, k⟩ := key h4
    exact ⟨bv, x, dx, vs, os, e1, e2, h1, h2, h3, k⟩
  intro Δ1
  induction Δ1 with
  | nil =>
    intro os σ h
    cases h with
    | cons p r =>
      obtain ⟨v, rfl⟩ := hs _ _ _ _ p
      exact ⟨v, .cons ⟨rfl, p⟩ r⟩
  | cons t Δ1 ih =>
    intro os σ h
    cases h with
    | cons p r =>
      obtain ⟨bv, k⟩ := ih r
      exact ⟨bv, .cons p k⟩
theorem obj_unpin {Δ1 Δ2 : List Slot} {F H : Hp} {fp : List Addr} {v : Option V} {bv : V} (h : (obj C ns (Δ1 ++ hold s bv :: Δ2)).P F H fp v) : (obj C ns (Δ1 ++ s :: Δ2)).P F H fp v := by
  obtain ⟨x, dx, vs, os, e1, e2, h1, h2, h3, h4⟩ := h
  refine ⟨x, dx, vs, os, e1, e2, h1, h2, h3, ?_⟩
  suffices key : ∀ {Δ1 : List Slot} {os : List Addr} {σ : List (Option V)}, Slots F H os σ (Δ1 ++ hold s bv :: Δ2) → Slots F H os σ (Δ1 ++ s :: Δ2) from key h4
  intro Δ1
  induction Δ1 with
  | nil =>
    intro os σ h
    cases h with
    | cons p r => exact .cons p.2 r
  | cons t Δ1 ih =>
    intro os σ h
    cases h with
    | cons p r => exact .cons p (ih r)
end
end Ty

/-! Ty68 -/
/-! xs.pop(i) of a list of owned things -/
namespace Ty
open PySem PySem.Spec L2
section
variable {P : Program} {w : World} {K : PySem.W.Frag} {mg : Str → Option Value} {base : Heap} {k : Nat}
variable {Y : Fa P w K mg base k} {i : Y.I} {e ea eb ec eo tg : Expr} {es : List Expr} {rest : List Stmt} {Γ Γ' Γ1 : List Slot} {a b c r s : Slot} {pos : Pos} {B : Bs} {D : Ends} {x f : Str} {p' : Pos} {Δ : List Slot}
theorem slots_erase {F H : Hp} : ∀ {n : Nat} {os : List Addr} {vs : List V} {Δ : List Slot} {y : V}, Slots F H os (vs.map some) Δ → vs[n]? = some y → ∃ fp r, os.Perm (fp ++ r) ∧ Slots F H r ((vs.eraseIdx n).map some) (Δ.eraseIdx n)
  | n, _, [], _, _, S, h => by simp at h
  | 0, _, v :: vs, _, _, S, h => by
    cases S with
    | cons p r => exact ⟨_, _, .refl _, r⟩
  | n + 1, _, v :: vs, _, _, S, h => by
    cases S with
    | cons p r =>
      obtain ⟨fp, rr, hp, S'⟩ := slots_erase (n := n) r (by simpa using h)
      refine ⟨fp, _, ?_, .cons p S'⟩
      refine (List.Perm.append_left _ hp).trans ?_
      rw [← List.append_assoc, ← List.append_assoc]
      exact List.Perm.append_right rr List.perm_append_comm
theorem x_popAtO {up : Slot → List Slot} {apos cpos : Pos} {z : Int} {n : Nat} (ho : PL Y eo Γ (lstS Δ) up) (he : XV Y e Γ (vInt z)) (hn : ixN Δ.length z = some n) (hsd : Stb Δ) (hlt : Δ.length < 2 ^ 62) (hb : ∀ i, Bm1 (Y.X i) eo "pop" apos e cpos := by exact fun _ => ⟨rfl, rfl, rfl, rfl, rfl⟩) :
    XM Y (.Call (.Attribute eo "pop" apos) [e] [] cpos) Γ dead (up (lstS (Δ.eraseIdx n))) := by
  obtain ⟨t, Pv, pe, pst, rd, up'⟩ := ho
  obtain ⟨t2, pe2, rd2⟩ := he
  refine ⟨_, fun i => by have h := pe_bm PySem.F.plainAttrs_list PySem.F.slot_list_pop PySem.F.type_list_pop mt_popAt (pe i) (pa_cons (pe2 i) pa_nil (hb i).st) (hb i).base (hb i).few (hb i).line (hb i).st (hb i).pl; rw [Y.hK i] at h; exact h, fun B F H os σ Q W S kk => ?_⟩
  refine rd B F H os σ _ (Sta.in W S) fun v hv => ?_
  obtain ⟨fp, rr, hr, hp, _⟩ := up' F H os σ v S hv
  obtain ⟨l, vs, osl, ev, ef, h1, h2⟩ := hp
  cases ev; subst ef
  refine ⟨.inl ⟨rfl, vs, SqL.of h1⟩, rd2 B F H os σ _ (Sta.in W S) fun y0 F1 H1 fy f1 e1 W1 p1 => ?_⟩
  obtain ⟨rfl, rfl⟩ := val_P p1
  obtain ⟨fp1, r1, hr1, hp1, kk1⟩ := up' F1 H1 os σ _ (S.mono f1 e1) (pst _ _ _ _ e1 hv)
  obtain ⟨l1, vs1, osl1, ev1, ef1, g1, g2⟩ := hp1
  cases ev1; subst ef1
  have hlen : vs1.length = Δ.length := by have := g2.length; simpa using this
  obtain ⟨q1, q2, q3, q4⟩ := ixN_seq hn
  have hnl : n < vs1.length := by rw [hlen]; omega
  refine ⟨l, vs1, z, n, vs1[n], rfl, rfl, g1, by omega, by omega, by rw [hlen]; exact q1, List.getElem?_eq_getElem hnl, ?_⟩
  obtain ⟨fe, re, hpe, S2⟩ := slots_erase g2 (List.getElem?_eq_getElem hnl)
  have W2 : Wo B F1 H1 (fe ++ (l :: (re ++ r1))) := W1.perm (by
    refine hr1.trans ?_
    show (l :: osl1 ++ r1).Perm (fe ++ (l :: (re ++ r1)))
    refine List.Perm.trans ?_ (List.perm_middle (a := l) (l₁ := fe) (l₂ := re ++ r1)).symm
    show (l :: (osl1 ++ r1)).Perm _
    refine List.Perm.cons l ?_
    rw [← List.append_assoc]
    exact List.Perm.append_right r1 hpe)
  have W3 := W2.drop
  have nd := List.nodup_cons.mp W3.nd
  have hk : ∀ q ∈ re ++ r1, upd H1 l (.lst (vs1.eraseIdx n)) q = H1 q := fun q hq => upd_ne fun z => nd.1 (z ▸ hq)
  have hse : Stb (Δ.eraseIdx n) := fun s hs => hsd s (List.mem_of_mem_eraseIdx hs)
  have S3 : Slots F1 (upd H1 l (.lst (vs1.eraseIdx n))) re ((vs1.eraseIdx n).map some) (Δ.eraseIdx n) := S2.mm same_refl hse fun q hq => hk q (List.mem_append_left _ hq)
  obtain ⟨os', h1', h2'⟩ := kk1 F1 (upd H1 l (.lst (vs1.eraseIdx n))) (l :: re) (lstS (Δ.eraseIdx n)) same_refl (fun q hq => hk q (List.mem_append_right _ hq)) ⟨l, _, _, rfl, rfl, upd_same, S3⟩
  refine kk _ F1 _ [] os' ((W3.write (o := .lst (vs1.eraseIdx n)) List.mem_cons_self).perm ?_) h1' rfl
  refine List.Perm.trans ?_ h2'.symm
  show (l :: (re ++ r1)).Perm (l :: re ++ r1)
  exact .refl _
theorem map_eraseO {α : Type} (f : α → Slot) : ∀ (xs : List α) (n : Nat), (xs.map f).eraseIdx n = (xs.eraseIdx n).map f
  | [], n => by simp
  | x :: xs, 0 => rfl
  | x :: xs, n + 1 => by
    show f x :: (xs.map f).eraseIdx n = f x :: (xs.eraseIdx n).map f
    rw [map_eraseO f xs n]
end
end Ty

/-! Ty69 -/
/-! x, y = a, b -/
namespace Ty
open PySem PySem.Spec L2
section
variable {P : Program} {w : World} {K : PySem.W.Frag} {mg : Str → Option Value} {base : Heap} {k : Nat}
variable {Y : Fa P w K mg base k} {i : Y.I} {e ea eb ec eo tg : Expr} {es : List Expr} {rest : List Stmt} {Γ Γ' Γ1 : List Slot} {a b c r s : Slot} {pos : Pos} {B : Bs} {D : Ends}
theorem go_par (j1 j2 : Nat) {x y : Str} {px py pt : Pos} {kt k2 : Nat} {pt2 : Pos} (ha : XA Y [ea, eb] Γ [a, b]) (hg : Go Y i rest D B ((Γ.set j1 a).set j2 b)) (h1 : Nat.blt j1 Γ.length = true := by rfl) (h2 : Nat.blt j2 Γ.length = true := by rfl) (hi : (Y.X i).N[j1]? = some x := by rfl) (hj : (Y.X i).N[j2]? = some y := by rfl) (hij : j1 ≠ j2 := by decide)
    (hx : (Y.X i).env.scope.names.lookup x = some .local := by rfl) (hy : (Y.X i).env.scope.names.lookup y = some .local := by rfl)
    (hw : swappedStores [.Tuple [.Name x px, .Name y py] kt pt] (.Tuple [ea, eb] k2 pt2) (Y.X i).env = pure (some [x, y]) := by rfl)
    (hs : swapsWithSole [.Tuple [.Name x px, .Name y py] kt pt] (.Tuple [ea, eb] k2 pt2) pos.line (Y.X i).env = pure false := by rfl) (hcm : Y.cm = true := by rfl) : Go Y i (.Assign [.Tuple [.Name x px, .Name y py] kt pt] (.Tuple [ea, eb] k2 pt2) pos :: rest) D B Γ := by
  obtain ⟨t, pa, rd⟩ := ha
  refine go_ps (ps_par ((Y.hC i).trans hcm) (Y.hN i) hi hj hij hx hy (pa i) hw hs) fun F H σ ⟨os, W, S⟩ => ?_
  refine rd B F H os σ _ (Sta.in W S) fun vs F1 H1 fp f1 e1 W1 S1 => ?_
  match vs, S1 with
  | [], S => have e := S.length; simp at e
  | [_], S => have e := S.length; simp at e
  | [v1, v2], S' =>
    obtain ⟨g1, g2, rfl, p1, S2⟩ := Slots.cons_inv S'
    obtain ⟨g3, g4, rfl, p2, S3⟩ := Slots.cons_inv S2
    have e4 : g4 = [] := by cases S3; rfl
    subst e4
    obtain ⟨os1, d1, q1, w1⟩ := (S.mono f1 e1).put p1 (Nat.le_of_ble_eq_true h1)
    obtain ⟨os2, d2, q2, w2⟩ := q1.put p2 (by rw [List.length_set]; exact Nat.le_of_ble_eq_true h2)
    refine ⟨v1, v2, rfl, hg F1 H1 _ ⟨os2, ((W1.perm ?_).drop (a := d1)).drop (a := d2), q2⟩⟩
    rw [List.append_nil, List.append_assoc]
    refine (List.perm_append_comm (l₁ := g1) (l₂ := g3 ++ os)).trans ?_
    rw [List.append_assoc]
    refine (List.Perm.append_left g3 (List.perm_append_comm.trans w1)).trans ?_
    rw [← List.append_assoc]
    refine (List.Perm.append_right os1 List.perm_append_comm).trans ?_
    rw [List.append_assoc]
    exact List.Perm.append_left d1 w2
  | _ :: _ :: _ :: _, S => have e := S.length; simp at e
end
end Ty

/-! K68M -/
namespace K68
open PySem PySem.Spec L2 Ty
structure S_Circuit where
  inputs : List (Str)
  latches : List ((Str) × (Int) × (Int))
  ands : List ((Int) × (Int))
  outputs : List ((Str) × (Int))
  deriving DecidableEq
structure S_Builder where
  leaf_count : Int
  pairs : List ((Int) × (Int))
  _nodes : List ((Int × Int) × (Int))
  _levels : List (Int)
  deriving DecidableEq
structure S_Machine where
  input_count : Int
  output_count : Int
  moves : List (List ((Int) × (Int)))
  deriving DecidableEq
structure S_Decoder where
  input_count : Int
  codes : List (List (Int))
  builder : S_Builder
  deriving DecidableEq
def m__law_cell (script_0 : List Int) (k_0 : Int) : Option (Int) :=
  (bif decide (k_0 < ((script_0).length : Int)) then ((atI script_0 k_0).bind fun v_1 => some (decide (((10 : Int) ^ ((9 : Int)).toNat) ≤ v_1))) else some false).bind fun b_3 =>
  bif b_3 then (
  (atI script_0 k_0).bind fun v_5 =>
  some v_5)
  else (
  letO (((7 : Int) * k_0) + (1 : Int)) fun cell_7 =>
  (bif decide ((0 : Int) < ((script_0).length : Int)) then (
  guardO (0 < ((script_0).length : Int)) <|
  (atI script_0 (k_0 % ((script_0).length : Int))).bind fun v_11 =>
  letO (cell_7 + ((31 : Int) * v_11)) fun cell_13 =>
  some cell_13)
  else (
  some cell_7) : Option ((Int))).bind fun cell_9 =>
  letO (((cell_9 * (48271 : Int)) + ((69621 : Int) * k_0)) % (2147483647 : Int)) fun cell_17 =>
  some (((cell_17 * (69621 : Int)) + ((48271 : Int) * (cell_17 / (1000 : Int)))) % (2147483629 : Int)))

def m__law_moves (script_0 : List Int) (at_0 : Int) (inputs_0 : Int) (outputs_0 : Int) (states_0 : Int) : Option (List (List ((Int) × (Int)))) :=
  guardO (-(2 ^ 62) ≤ states_0 ∧ states_0 < 2 ^ 62) <|
  flK (forF (ρ := List (List ((Int) × (Int)))) (rangeL 0 states_0) (([] : List (List ((Int) × (Int)))) : (List (List ((Int) × (Int))))) fun s_22 moves_21 =>
  guardO (0 ≤ inputs_0 ∧ inputs_0 ≤ 1000000) <|
  guardO (-(2 ^ 62) ≤ ((1 : Int) * 2 ^ (inputs_0).toNat) ∧ ((1 : Int) * 2 ^ (inputs_0).toNat) < 2 ^ 62) <|
  flK (forF (ρ := List (List ((Int) × (Int)))) (rangeL 0 ((1 : Int) * 2 ^ (inputs_0).toNat)) (([] : List ((Int) × (Int))) : (List ((Int) × (Int)))) fun r_27 entry_26 =>
  (m__law_cell script_0 (at_0 + s_22)).bind fun r_28 =>
  guardO (0 < (r_27 + (1 : Int)) ∧ (r_27 + (1 : Int)) < 1073741824) <|
  letO (((((r_28 / (r_27 + (1 : Int))) + ((40503 : Int) * r_27)) + ((31 : Int) * s_22)) * (48271 : Int)) % (2147483647 : Int)) fun cell_31 =>
  guardO (0 < states_0) <|
  guardO (0 ≤ outputs_0 ∧ outputs_0 ≤ 1000000) <|
  guardO (0 < ((1 : Int) * 2 ^ (outputs_0).toNat)) <|
  guardO ((entry_26).length < sizeLine) <|
  some (.next (entry_26 ++ [((cell_31 % states_0), ((cell_31 / (1009 : Int)) % ((1 : Int) * 2 ^ (outputs_0).toNat)))]))) (fun entry_26 =>
  guardO ((moves_21).length < sizeLine) <|
  some (.next (moves_21 ++ [entry_26])))
  (fun _ => none)) (fun moves_21 =>
  some moves_21)
  (fun _ => none)

def m__law_row (count_0 : Int) (number_0 : Int) : Option (List (Int)) :=
  guardO (-(2 ^ 62) ≤ count_0 ∧ count_0 < 2 ^ 62) <|
  guardO (((rangeL 0 count_0)).length ≤ sizeLine) <|
  (fmO (rangeL 0 count_0) fun k_42 => (guardO (0 ≤ ((count_0 - (1 : Int)) - k_42)) (some (some ((number_0 / 2 ^ (((count_0 - (1 : Int)) - k_42)).toNat) % (2 : Int)))))).bind fun ys_40 =>
  some ys_40

def m__law_codes (cell_0 : Int) (states_0 : Int) : Option (List (List (Int))) :=
  guardO (-(2 ^ 62) ≤ (12 : Int) ∧ (12 : Int) < 2 ^ 62) <|
  guardO (((rangeL 0 (12 : Int))).length ≤ sizeLine) <|
  (fmO (rangeL 0 (12 : Int)) fun k_49 => (guardO (0 ≤ k_49 ∧ k_49 ≤ 1000000) (some (some (if decide (((1 : Int) * 2 ^ (k_49).toNat) < states_0) then 1 else 0))))).bind fun ys_47 =>
  letO ((ys_47).sum + (cell_0 % (4 : Int))) fun width_52 =>
  letO ((1 : Int) + ((2 : Int) * (cell_0 / (4 : Int)))) fun step_54 =>
  guardO (-(2 ^ 62) ≤ states_0 ∧ states_0 < 2 ^ 62) <|
  guardO (((rangeL 0 states_0)).length ≤ sizeLine) <|
  (fmO (rangeL 0 states_0) fun s_60 => (guardO ((-(2 ^ 64) < step_54 ∧ step_54 < 2 ^ 64) ∨ (-(2 ^ 64) < s_60 ∧ s_60 < 2 ^ 64)) (guardO (0 ≤ width_52 ∧ width_52 ≤ 1000000) (guardO (0 < ((1 : Int) * 2 ^ (width_52).toNat)) ((m__law_row width_52 (((step_54 * s_60) + (cell_0 / (64 : Int))) % ((1 : Int) * 2 ^ (width_52).toNat))).bind fun r_64 => some (some r_64)))))).bind fun ys_58 =>
  some ys_58

def m_is_move (move_0 : (Int) × (Int)) (state_count_0 : Int) (output_count_0 : Int) : Option (Bool) :=
  (bif (decide ((0 : Int) ≤ move_0.1) && decide (move_0.1 < state_count_0)) then ((bif decide ((0 : Int) ≤ move_0.2) then (guardO (0 ≤ output_count_0 ∧ output_count_0 ≤ 1000000) (some (decide (move_0.2 < ((1 : Int) * 2 ^ (output_count_0).toNat))))) else some false).bind fun b_68 => some b_68) else some false).bind fun b_70 =>
  some b_70

def m_Machine_init (input_count_0 : Int) (output_count_0 : Int) (moves_0 : List (List ((Int) × (Int)))) : Option (Rx (S_Machine × Unit)) :=
  bif ((!(decide ((0 : Int) ≤ input_count_0) && decide (input_count_0 ≤ (6 : Int)))) || (!(decide ((0 : Int) ≤ output_count_0) && decide (output_count_0 ≤ (32 : Int))))) then (
  some (.ex ("InvalidCount", [])))
  else (
  bif decide (((moves_0).length : Int) = (0 : Int)) then (
  guardO ((XF.i (0 : Int)).ok) <|
  guardO ((XF.i (0 : Int)).ok) <|
  some (.ex ("InvalidMachine", [.i (0 : Int), .i (0 : Int)])))
  else (
  guardO (0 ≤ input_count_0 ∧ input_count_0 ≤ 1000000) <|
  letO ((1 : Int) * 2 ^ (input_count_0).toNat) fun rows_75 =>
  flK (forF (ρ := Rx (S_Machine × Unit)) ((moves_0).zipIdx.map fun x => ((x.2 : Int), x.1)) (() : Unit) fun p_77 _ =>
  bif decide (p_77.1 = (1000 : Int)) then (
  guardO ((XF.i p_77.1).ok) <|
  guardO ((XF.i (0 : Int)).ok) <|
  some (.ret (.ex ("InvalidMachine", [.i p_77.1, .i (0 : Int)]))))
  else (
  guardO (-(2 ^ 62) ≤ (if ((p_77.2).length : Int) > rows_75 then ((p_77.2).length : Int) else rows_75) ∧ (if ((p_77.2).length : Int) > rows_75 then ((p_77.2).length : Int) else rows_75) < 2 ^ 62) <|
  flK (forF (ρ := Rx (S_Machine × Unit)) (rangeL 0 (if ((p_77.2).length : Int) > rows_75 then ((p_77.2).length : Int) else rows_75)) (() : Unit) fun row_82 _ =>
  (bif decide ((if ((p_77.2).length : Int) < rows_75 then ((p_77.2).length : Int) else rows_75) ≤ row_82) then some true else ((atI p_77.2 row_82).bind fun v_83 => (m_is_move v_83 ((moves_0).length : Int) output_count_0).bind fun r_85 => some (!r_85))).bind fun b_87 =>
  bif b_87 then (
  guardO ((XF.i p_77.1).ok) <|
  guardO ((XF.i row_82).ok) <|
  some (.ret (.ex ("InvalidMachine", [.i p_77.1, .i row_82]))))
  else (
  some (.next ()))) (fun _ =>
  some (.next ()))
  (fun r => some (.ret r)))) (fun _ =>
  guardO ((moves_0).length ≤ sizeLine) <|
  (fmO moves_0 fun entry_93 => (some (some entry_93))).bind fun ys_91 =>
  some (.ok (⟨input_count_0, output_count_0, ys_91⟩, ())))
  (fun r => some r)))

def m_check_codes (machine_0 : S_Machine) (codes_0 : List (List (Int))) : Option (Rx (Unit)) :=
  guardO (-(2 ^ 62) ≤ (if ((codes_0).length : Int) > ((machine_0.moves).length : Int) then ((codes_0).length : Int) else ((machine_0.moves).length : Int)) ∧ (if ((codes_0).length : Int) > ((machine_0.moves).length : Int) then ((codes_0).length : Int) else ((machine_0.moves).length : Int)) < 2 ^ 62) <|
  flK (forF (ρ := Rx (Unit)) (rangeL 0 (if ((codes_0).length : Int) > ((machine_0.moves).length : Int) then ((codes_0).length : Int) else ((machine_0.moves).length : Int))) (([] : List ((List Int) × (Bool))) : (List ((List Int) × (Bool)))) fun state_98 known_97 =>
  bif decide ((if ((codes_0).length : Int) < ((machine_0.moves).length : Int) then ((codes_0).length : Int) else ((machine_0.moves).length : Int)) ≤ state_98) then (
  guardO ((XF.i state_98).ok) <|
  some (.ret (.ex ("InvalidCodes", [.i state_98]))))
  else (
  (atI codes_0 state_98).bind fun v_100 =>
  (atI codes_0 (0 : Int)).bind fun v_102 =>
  (bif (!decide (((v_100).length : Int) = ((v_102).length : Int))) then some true else ((bif (dget known_97 v_100).isSome then some true else (guardO ((v_100).length ≤ sizeLine) ((fmO v_100 fun bit_106 => (bif ((!decide (bit_106 = (0 : Int))) && (!decide (bit_106 = (1 : Int)))) then (some (some bit_106)) else some none)).bind fun ys_104 => some (!decide (ys_104 = ([] : List (Int))))))).bind fun b_108 => some b_108)).bind fun b_110 =>
  bif b_110 then (
  guardO ((XF.i state_98).ok) <|
  some (.ret (.ex ("InvalidCodes", [.i state_98]))))
  else (
  guardO ((known_97).length < sizeLine) <|
  some (.next (dput known_97 v_100 true))))) (fun known_97 =>
  some (.ok ()))
  (fun r => some r)

def m_Builder_init (leaf_count_0 : Int) : Option (S_Builder × Unit) :=
  guardO (-(2 ^ 63) ≤ (leaf_count_0 + (1 : Int)) ∧ (leaf_count_0 + (1 : Int)) < 2 ^ 63 ∧ ([(0 : Int)]).length * ((leaf_count_0 + (1 : Int))).toNat ≤ sizeLine) <|
  some (⟨leaf_count_0, ([] : List ((Int) × (Int))), ([] : List ((Int × Int) × (Int))), (List.replicate ((leaf_count_0 + (1 : Int))).toNat ([(0 : Int)])).flatten⟩, ())

def m_Decoder_init (input_count_0 : Int) (codes_0 : List (List (Int))) : Option (S_Decoder × Unit) :=
  guardO ((codes_0).length ≤ sizeLine) <|
  (fmO codes_0 fun code_117 => (some (some code_117))).bind fun ys_115 =>
  (atI codes_0 (0 : Int)).bind fun v_119 =>
  (m_Builder_init (input_count_0 + ((v_119).length : Int))).bind fun o_121 =>
  some (⟨input_count_0, ys_115, o_121.1⟩, ())

def m_is_name (text_0 : Str) : Option (Bool) :=
  guardO ((text_0).length ≤ sizeLine) <|
  (bif (!(decide ((1 : Int) ≤ ((text_0).length : Int)) && decide (((text_0).length : Int) ≤ (12 : Int)))) then some true else (guardO ((text_0).length ≤ sizeLine) ((atI (text_0).cps.toList (0 : Int)).bind fun c_124 => some (!decide (c_124 ∈ (("abcdefghijklmnopqrstuvwxyz" : Str)).cps.toList))))).bind fun b_127 =>
  bif b_127 then (
  some false)
  else (
  flK (forF (ρ := Bool) ((text_0).cps.toList) (() : Unit) fun sign_129 _ =>
  bif (!decide (sign_129 ∈ (("abcdefghijklmnopqrstuvwxyz0123456789_" : Str)).cps.toList)) then (
  some (.ret false))
  else (
  some (.next ()))) (fun _ =>
  some true)
  (fun r => some r))

def m_fault_of_leaves (inputs_0 : List (Str)) (latches_0 : List ((Str) × (Int) × (Int))) (node_count_0 : Int) : Option (Option ((Str) × (Int))) :=
  flK (forF (ρ := Option ((Str) × (Int))) ((inputs_0).zipIdx.map fun x => ((x.2 : Int), x.1)) (([] : List ((Str) × (Bool))) : (List ((Str) × (Bool)))) fun p_131 names_130 =>
  (bif decide (p_131.1 = (16 : Int)) then some true else ((m_is_name p_131.2).bind fun r_132 => some ((!r_132) || (dget names_130 p_131.2).isSome))).bind fun b_134 =>
  bif b_134 then (
  some (.ret (some (("inputs" : Str), p_131.1))))
  else (
  guardO ((names_130).length < sizeLine) <|
  some (.next (dput names_130 p_131.2 true)))) (fun names_130 =>
  flK (forF (ρ := Option ((Str) × (Int))) ((latches_0).zipIdx.map fun x => ((x.2 : Int), x.1)) (names_130 : (List ((Str) × (Bool)))) fun p_138 names_137 =>
  (bif decide (p_138.1 = (40 : Int)) then some true else ((m_is_name p_138.2.1).bind fun r_139 => some ((!r_139) || (dget names_137 p_138.2.1).isSome))).bind fun b_141 =>
  bif b_141 then (
  some (.ret (some (("latches" : Str), p_138.1))))
  else (
  bif ((!(decide ((0 : Int) ≤ p_138.2.2.1) && decide (p_138.2.2.1 ≤ (1 : Int)))) || (!(decide ((0 : Int) ≤ p_138.2.2.2) && decide (p_138.2.2.2 < ((2 : Int) * node_count_0))))) then (
  some (.ret (some (("latches" : Str), p_138.1))))
  else (
  guardO ((names_137).length < sizeLine) <|
  some (.next (dput names_137 p_138.2.1 true))))) (fun names_137 =>
  some none)
  (fun r => some r))
  (fun r => some r)

def m_fault_of_ands (first_and_0 : Int) (ands_0 : List ((Int) × (Int))) : Option (Option ((Str) × (Int))) :=
  flK (forF (ρ := Option ((Str) × (Int))) ((ands_0).zipIdx.map fun x => ((x.2 : Int), x.1)) (() : Unit) fun p_144 _ =>
  letO ((2 : Int) * (first_and_0 + p_144.1)) fun limit_145 =>
  bif (decide (p_144.1 = (2000 : Int)) || ((!(decide ((0 : Int) ≤ p_144.2.1) && decide (p_144.2.1 < limit_145))) || (!(decide ((0 : Int) ≤ p_144.2.2) && decide (p_144.2.2 < limit_145))))) then (
  some (.ret (some (("ands" : Str), p_144.1))))
  else (
  some (.next ()))) (fun _ =>
  some none)
  (fun r => some r)

def m_fault_of_outputs (outputs_0 : List ((Str) × (Int))) (node_count_0 : Int) : Option (Option ((Str) × (Int))) :=
  flK (forF (ρ := Option ((Str) × (Int))) ((outputs_0).zipIdx.map fun x => ((x.2 : Int), x.1)) (([] : List ((Str) × (Bool))) : (List ((Str) × (Bool)))) fun p_148 names_147 =>
  (bif decide (p_148.1 = (32 : Int)) then some true else ((m_is_name p_148.2.1).bind fun r_149 => some ((!r_149) || (dget names_147 p_148.2.1).isSome))).bind fun b_151 =>
  bif b_151 then (
  some (.ret (some (("outputs" : Str), p_148.1))))
  else (
  bif (!(decide ((0 : Int) ≤ p_148.2.2) && decide (p_148.2.2 < ((2 : Int) * node_count_0)))) then (
  some (.ret (some (("outputs" : Str), p_148.1))))
  else (
  guardO ((names_147).length < sizeLine) <|
  some (.next (dput names_147 p_148.2.1 true))))) (fun names_147 =>
  some none)
  (fun r => some r)

def m_Circuit_init (inputs_0 : List (Str)) (latches_0 : List ((Str) × (Int) × (Int))) (ands_0 : List ((Int) × (Int))) (outputs_0 : List ((Str) × (Int))) : Option (Rx (S_Circuit × Unit)) :=
  letO (((1 : Int) + ((inputs_0).length : Int)) + ((latches_0).length : Int)) fun first_and_154 =>
  letO (first_and_154 + ((ands_0).length : Int)) fun node_count_156 =>
  (m_fault_of_leaves inputs_0 latches_0 node_count_156).bind fun r_158 =>
  (bif (r_158).isNone then (
  (m_fault_of_ands first_and_154 ands_0).bind fun r_161 =>
  some r_161)
  else (
  some r_158) : Option ((Option ((Str) × (Int))))).bind fun fault_160 =>
  (bif (fault_160).isNone then (
  (m_fault_of_outputs outputs_0 node_count_156).bind fun r_166 =>
  some r_166)
  else (
  some fault_160) : Option ((Option ((Str) × (Int))))).bind fun fault_165 =>
  bif (fault_165).isSome then (
  (fault_165).bind fun u_170 =>
  (fault_165).bind fun u_172 =>
  guardO ((XF.s u_170.1).ok) <|
  guardO ((XF.i u_172.2).ok) <|
  some (.ex ("InvalidCircuit", [.s u_170.1, .i u_172.2])))
  else (
  some (.ok (⟨inputs_0, latches_0, ands_0, outputs_0⟩, ())))

def m_Builder_level_of (self_0 : S_Builder) (literal_0 : Int) : Option (Int) :=
  (atI self_0._levels (literal_0 / 2 ^ ((1 : Int)).toNat)).bind fun v_176 =>
  some v_176

def m_Builder_both (self_0 : S_Builder) (left_0 : Int) (right_0 : Int) : Option (S_Builder × (Int)) :=
  letO (if right_0 < left_0 then right_0 else left_0) fun low_178 =>
  letO (if right_0 > left_0 then right_0 else left_0) fun high_180 =>
  bif (decide (low_178 = (0 : Int)) || decide (high_180 = (Builtin.bitXor low_178 (1 : Int)))) then (
  some (⟨self_0.leaf_count, self_0.pairs, self_0._nodes, self_0._levels⟩, (0 : Int)))
  else (
  bif (decide (low_178 = (1 : Int)) || decide (low_178 = high_180)) then (
  some (⟨self_0.leaf_count, self_0.pairs, self_0._nodes, self_0._levels⟩, high_180))
  else (
  (bif (!(dget self_0._nodes (low_178, high_180)).isSome) then (
  guardO ((self_0.pairs).length < sizeLine) <|
  (m_Builder_level_of (⟨self_0.leaf_count, (self_0.pairs ++ [(low_178, high_180)]), self_0._nodes, self_0._levels⟩ : S_Builder) low_178).bind fun r_184 =>
  (m_Builder_level_of (⟨self_0.leaf_count, (self_0.pairs ++ [(low_178, high_180)]), self_0._nodes, self_0._levels⟩ : S_Builder) high_180).bind fun r_186 =>
  guardO ((self_0._levels).length < sizeLine) <|
  guardO ((self_0._nodes).length < sizeLine) <|
  some (⟨self_0.leaf_count, (self_0.pairs ++ [(low_178, high_180)]), (dput self_0._nodes (low_178, high_180) (self_0.leaf_count + (((self_0.pairs ++ [(low_178, high_180)])).length : Int))), (self_0._levels ++ [((1 : Int) + (if r_186 > r_184 then r_186 else r_184))])⟩ : S_Builder))
  else (
  some (⟨self_0.leaf_count, self_0.pairs, self_0._nodes, self_0._levels⟩ : S_Builder)) : Option ((S_Builder))).bind fun self_182 =>
  (dget self_182._nodes (low_178, high_180)).bind fun v_192 =>
  some (⟨self_182.leaf_count, self_182.pairs, self_182._nodes, self_182._levels⟩, ((2 : Int) * v_192))))

def m_Builder_either (self_0 : S_Builder) (left_0 : Int) (right_0 : Int) : Option (S_Builder × (Int)) :=
  (m_Builder_both (⟨self_0.leaf_count, self_0.pairs, self_0._nodes, self_0._levels⟩ : S_Builder) (Builtin.bitXor left_0 (1 : Int)) (Builtin.bitXor right_0 (1 : Int))).bind fun o_194 =>
  some (⟨o_194.1.leaf_count, o_194.1.pairs, o_194.1._nodes, o_194.1._levels⟩, (Builtin.bitXor o_194.2 (1 : Int)))

def m_Builder_choose (self_0 : S_Builder) (test_0 : Int) (yes_0 : Int) (no_0 : Int) : Option (S_Builder × (Int)) :=
  (m_Builder_both (⟨self_0.leaf_count, self_0.pairs, self_0._nodes, self_0._levels⟩ : S_Builder) test_0 yes_0).bind fun o_196 =>
  (m_Builder_both (⟨o_196.1.leaf_count, o_196.1.pairs, o_196.1._nodes, o_196.1._levels⟩ : S_Builder) (Builtin.bitXor test_0 (1 : Int)) no_0).bind fun o_198 =>
  (m_Builder_either (⟨o_198.1.leaf_count, o_198.1.pairs, o_198.1._nodes, o_198.1._levels⟩ : S_Builder) o_196.2 o_198.2).bind fun o_200 =>
  some (⟨o_200.1.leaf_count, o_200.1.pairs, o_200.1._nodes, o_200.1._levels⟩, o_200.2)

def m_mask_of (case_count_0 : Int) : Option (Int) :=
  guardO (0 ≤ case_count_0 ∧ case_count_0 ≤ 1000000) <|
  some (((1 : Int) * 2 ^ (case_count_0).toNat) - (1 : Int))

def mr_Decoder_under_rows (fu : Nat) (self_0 : S_Decoder) (table_0 : Int) (place_0 : Int) : Option (S_Decoder × (Int)) :=
  match fu with
  | 0 => none
  | fu + 1 =>
    letO (self_0.input_count - place_0) fun count_203 =>
    bif decide (table_0 = (0 : Int)) then (
    some (⟨self_0.input_count, self_0.codes, self_0.builder⟩, (0 : Int)))
    else (
    guardO (0 ≤ count_203 ∧ count_203 ≤ 1000000) <|
    (m_mask_of ((1 : Int) * 2 ^ (count_203).toNat)).bind fun r_206 =>
    bif decide (table_0 = r_206) then (
    some (⟨self_0.input_count, self_0.codes, self_0.builder⟩, (1 : Int)))
    else (
    guardO (0 ≤ (count_203 - (1 : Int)) ∧ (count_203 - (1 : Int)) ≤ 1000000) <|
    letO ((1 : Int) * 2 ^ ((count_203 - (1 : Int))).toNat) fun half_209 =>
    (m_mask_of half_209).bind fun r_211 =>
    guardO (0 ≤ half_209) <|
    letO (Builtin.bitAnd table_0 r_211) fun low_214 =>
    letO (table_0 / 2 ^ (half_209).toNat) fun high_216 =>
    bif decide (low_214 = high_216) then (
    (mr_Decoder_under_rows fu (⟨self_0.input_count, self_0.codes, self_0.builder⟩ : S_Decoder) low_214 (place_0 + (1 : Int))).bind fun o_218 =>
    some (⟨o_218.1.input_count, o_218.1.codes, o_218.1.builder⟩, o_218.2))
    else (
    (mr_Decoder_under_rows fu (⟨self_0.input_count, self_0.codes, self_0.builder⟩ : S_Decoder) high_216 (place_0 + (1 : Int))).bind fun o_220 =>
    (mr_Decoder_under_rows fu (⟨o_220.1.input_count, o_220.1.codes, o_220.1.builder⟩ : S_Decoder) low_214 (place_0 + (1 : Int))).bind fun o_222 =>
    (m_Builder_choose o_222.1.builder ((2 : Int) * ((1 : Int) + place_0)) o_220.2 o_222.2).bind fun o_224 =>
    some (⟨o_222.1.input_count, o_222.1.codes, o_224.1⟩, o_224.2))))
def m_Decoder_under_rows (self_0 : S_Decoder) (table_0 : Int) (place_0 : Int) : Option (S_Decoder × (Int)) := mr_Decoder_under_rows 5 self_0 table_0 place_0

def mr_Decoder_under_codes (fu : Nat) (self_0 : S_Decoder) (tables_0 : List (Int)) (states_0 : List (Int)) (place_0 : Int) : Option (S_Decoder × (Int)) :=
  match fu with
  | 0 => none
  | fu + 1 =>
    guardO ((states_0).length ≤ sizeLine) <|
    (fmO states_0 fun state_228 => ((atI tables_0 state_228).bind fun v_229 => (atI states_0 (0 : Int)).bind fun v_231 => (atI tables_0 v_231).bind fun v_233 => bif (!decide (v_229 = v_233)) then (some (some state_228)) else some none)).bind fun ys_226 =>
    bif decide (ys_226 = ([] : List (Int))) then (
    (atI states_0 (0 : Int)).bind fun v_236 =>
    (atI tables_0 v_236).bind fun v_238 =>
    (m_Decoder_under_rows (⟨self_0.input_count, self_0.codes, self_0.builder⟩ : S_Decoder) v_238 (0 : Int)).bind fun o_240 =>
    some (⟨o_240.1.input_count, o_240.1.codes, o_240.1.builder⟩, o_240.2))
    else (
    guardO ((states_0).length ≤ sizeLine) <|
    (fmO states_0 fun state_244 => ((atI self_0.codes state_244).bind fun v_245 => (atI v_245 place_0).bind fun v_247 => bif decide (v_247 = (0 : Int)) then (some (some state_244)) else some none)).bind fun ys_242 =>
    guardO ((states_0).length ≤ sizeLine) <|
    (fmO states_0 fun state_252 => ((atI self_0.codes state_252).bind fun v_253 => (atI v_253 place_0).bind fun v_255 => bif decide (v_255 = (1 : Int)) then (some (some state_252)) else some none)).bind fun ys_250 =>
    bif (decide (ys_242 = ([] : List (Int))) || decide (ys_250 = ([] : List (Int)))) then (
    (mr_Decoder_under_codes fu (⟨self_0.input_count, self_0.codes, self_0.builder⟩ : S_Decoder) tables_0 states_0 (place_0 + (1 : Int))).bind fun o_258 =>
    some (⟨o_258.1.input_count, o_258.1.codes, o_258.1.builder⟩, o_258.2))
    else (
    (mr_Decoder_under_codes fu (⟨self_0.input_count, self_0.codes, self_0.builder⟩ : S_Decoder) tables_0 ys_250 (place_0 + (1 : Int))).bind fun o_260 =>
    letO ((2 : Int) * (((1 : Int) + o_260.1.input_count) + place_0)) fun test_262 =>
    (mr_Decoder_under_codes fu (⟨o_260.1.input_count, o_260.1.codes, o_260.1.builder⟩ : S_Decoder) tables_0 ys_242 (place_0 + (1 : Int))).bind fun o_264 =>
    (m_Builder_choose o_264.1.builder test_262 o_260.2 o_264.2).bind fun o_266 =>
    some (⟨o_264.1.input_count, o_264.1.codes, o_266.1⟩, o_266.2)))
def m_Decoder_under_codes (self_0 : S_Decoder) (tables_0 : List (Int)) (states_0 : List (Int)) (place_0 : Int) : Option (S_Decoder × (Int)) := mr_Decoder_under_codes 20 self_0 tables_0 states_0 place_0

def m_Decoder_literal_of (self_0 : S_Decoder) (bits_0 : List (List (Int))) : Option (S_Decoder × (Int)) :=
  flK (forF (ρ := S_Decoder × (Int)) bits_0 (([] : List (Int)) : (List (Int))) fun entry_269 tables_268 =>
  guardO ((((entry_269).zipIdx.map fun x => ((x.2 : Int), x.1))).length ≤ sizeLine) <|
  (fmO ((entry_269).zipIdx.map fun x => ((x.2 : Int), x.1)) fun p_272 => (guardO (0 ≤ p_272.1 ∧ p_272.1 ≤ 1000000 ∧ (p_272.2).natAbs < 2 ^ 64) (some (some (p_272.2 * 2 ^ (p_272.1).toNat))))).bind fun ys_270 =>
  guardO ((tables_268).length < sizeLine) <|
  some (.next (tables_268 ++ [(ys_270).sum]))) (fun tables_268 =>
  guardO (-(2 ^ 62) ≤ (0 : Int) ∧ (0 : Int) < 2 ^ 62 ∧ -(2 ^ 62) ≤ ((tables_268).length : Int) ∧ ((tables_268).length : Int) < 2 ^ 62 ∧ (((tables_268).length : Int) - (0 : Int)).toNat ≤ 2 ^ 24) <|
  (m_Decoder_under_codes (⟨self_0.input_count, self_0.codes, self_0.builder⟩ : S_Decoder) tables_268 (rangeL 0 ((tables_268).length : Int)) (0 : Int)).bind fun o_277 =>
  some (⟨o_277.1.input_count, o_277.1.codes, o_277.1.builder⟩, o_277.2))
  (fun _ => none)

def m_coded (machine_0 : S_Machine) (codes_0 : List (List (Int))) (inputs_0 : List (Str)) (latches_0 : List (Str)) (outputs_0 : List (Str)) : Option (Rx (S_Circuit)) :=
  exK (m_check_codes machine_0 codes_0) (fun e_281 => some (.ex e_281)) fun r_279 =>
  (m_Decoder_init machine_0.input_count codes_0).bind fun o_282 =>
  flK (forF (ρ := Rx (S_Circuit)) ((latches_0).zipIdx.map fun x => ((x.2 : Int), x.1)) ((o_282.1, ([] : List ((Str) × (Int) × (Int)))) : (S_Decoder) × (List ((Str) × (Int) × (Int)))) fun p_286 (decoder_284, found_285) =>
  guardO ((machine_0.moves).length ≤ sizeLine) <|
  (fmO machine_0.moves fun entry_289 => (guardO ((entry_289).length ≤ sizeLine) ((fmO entry_289 fun p_292 => ((atI codes_0 p_292.1).bind fun v_293 => (atI v_293 p_286.1).bind fun v_295 => some (some v_295))).bind fun ys_290 => some (some ys_290)))).bind fun ys_287 =>
  (atI codes_0 (0 : Int)).bind fun v_303 =>
  (atI v_303 p_286.1).bind fun v_305 =>
  (m_Decoder_literal_of decoder_284 ys_287).bind fun o_307 =>
  guardO ((found_285).length < sizeLine) <|
  some (.next (o_307.1, (found_285 ++ [(p_286.2, v_305, o_307.2)])))) (fun (decoder_284, found_285) =>
  flK (forF (ρ := Rx (S_Circuit)) ((outputs_0).zipIdx.map fun x => ((x.2 : Int), x.1)) ((decoder_284, ([] : List ((Str) × (Int)))) : (S_Decoder) × (List ((Str) × (Int)))) fun p_312 (decoder_310, ends_311) =>
  letO ((machine_0.output_count - (1 : Int)) - p_312.1) fun digit_313 =>
  guardO ((machine_0.moves).length ≤ sizeLine) <|
  (fmO machine_0.moves fun entry_317 => (guardO ((entry_317).length ≤ sizeLine) ((fmO entry_317 fun p_320 => (guardO (0 ≤ digit_313) (some (some (Builtin.bitAnd (p_320.2 / 2 ^ (digit_313).toNat) (1 : Int)))))).bind fun ys_318 => some (some ys_318)))).bind fun ys_315 =>
  (m_Decoder_literal_of decoder_310 ys_315).bind fun o_324 =>
  guardO ((ends_311).length < sizeLine) <|
  some (.next (o_324.1, (ends_311 ++ [(p_312.2, o_324.2)])))) (fun (decoder_310, ends_311) =>
  exK (m_Circuit_init inputs_0 found_285 decoder_310.builder.pairs ends_311) (fun e_329 => some (.ex e_329)) fun r_327 =>
  some (.ok r_327.1))
  (fun _ => none))
  (fun _ => none)

def m__law_told (machine_0 : S_Machine) (codes_0 : List (List (Int))) (names_0 : List (List (Str))) : Option (Sum ((Str) × (S_Circuit)) (PyData)) :=
  (atI names_0 (0 : Int)).bind fun v_330 =>
  (atI names_0 (1 : Int)).bind fun v_332 =>
  (atI names_0 (2 : Int)).bind fun v_334 =>
  exK (m_coded machine_0 codes_0 v_330 v_332 v_334) (fun e_338 => (bif decide (e_338.1 = "InvalidCodes") then (
  (xfI e_338 0).bind fun v_339 =>
  some (Sum.inr (PyData.tuple [DE.str.enc ("codes" : Str), DE.int.enc v_339, DE.bl.enc true])))
  else (bif decide (e_338.1 = "InvalidCircuit") then (
  (xfS e_338 0).bind fun v_341 =>
  (xfI e_338 1).bind fun v_343 =>
  some (Sum.inr (PyData.tuple [DE.str.enc ("names" : Str), DE.str.enc v_341, DE.int.enc v_343])))
  else none))) fun r_336 =>
  some (Sum.inl (("circuit" : Str), r_336))

def m__law_fault (states_0 : Int) (codes_0 : List (List (Int))) : Option (Int) :=
  guardO (-(2 ^ 62) ≤ (if ((codes_0).length : Int) > states_0 then ((codes_0).length : Int) else states_0) ∧ (if ((codes_0).length : Int) > states_0 then ((codes_0).length : Int) else states_0) < 2 ^ 62) <|
  flK (forF (ρ := Int) (rangeL 0 (if ((codes_0).length : Int) > states_0 then ((codes_0).length : Int) else states_0)) (() : Unit) fun s_347 _ =>
  bif (decide (states_0 ≤ s_347) || decide (((codes_0).length : Int) ≤ s_347)) then (
  some (.ret s_347))
  else (
  (atI codes_0 s_347).bind fun v_348 =>
  (atI codes_0 (0 : Int)).bind fun v_350 =>
  (bif (!decide (((v_348).length : Int) = ((v_350).length : Int))) then some true else ((atI codes_0 s_347).bind fun v_352 => guardO ((v_352).length ≤ sizeLine) ((fmO v_352 fun bit_356 => (bif (!decide (bit_356 ∈ [(0 : Int), (1 : Int)])) then (some (some bit_356)) else some none)).bind fun ys_354 => some (!decide (ys_354 = ([] : List (Int))))))).bind fun b_358 =>
  bif b_358 then (
  some (.ret s_347))
  else (
  (atI codes_0 s_347).bind fun v_360 =>
  bif (memD v_360 (cutL codes_0 none (some s_347))) then (
  some (.ret s_347))
  else (
  some (.next ()))))) (fun _ =>
  some (-(1 : Int)))
  (fun r => some r)

def m__law_bit (values_0 : List (Int)) (literal_0 : Int) : Option (Int) :=
  (atI values_0 (literal_0 / (2 : Int))).bind fun v_362 =>
  some (Builtin.bitXor v_362 (literal_0 % (2 : Int)))

def m__law_values (parts_0 : (List (Str)) × (List ((Str) × (Int) × (Int))) × (List ((Int) × (Int))) × (List ((Str) × (Int)))) (state_0 : List (Int)) (row_0 : List (Int)) : Option (List (Int)) :=
  guardO (([(0 : Int)]).length + (row_0).length ≤ sizeLine) <|
  guardO ((([(0 : Int)] ++ row_0)).length + (state_0).length ≤ sizeLine) <|
  flK (forF (ρ := List (Int)) parts_0.2.2.1 ((([(0 : Int)] ++ row_0) ++ state_0) : (List (Int))) fun pair_367 values_366 =>
  (m__law_bit values_366 pair_367.1).bind fun r_368 =>
  (m__law_bit values_366 pair_367.2).bind fun r_370 =>
  guardO ((values_366).length < sizeLine) <|
  some (.next (values_366 ++ [(Builtin.bitAnd r_368 r_370)]))) (fun values_366 =>
  some values_366)
  (fun _ => none)

def m__law_step (parts_0 : (List (Str)) × (List ((Str) × (Int) × (Int))) × (List ((Int) × (Int))) × (List ((Str) × (Int)))) (state_0 : List (Int)) (row_0 : List (Int)) : Option ((List (Int)) × (List (Int))) :=
  (m__law_values parts_0 state_0 row_0).bind fun r_373 =>
  guardO ((parts_0.2.2.2).length ≤ sizeLine) <|
  (fmO parts_0.2.2.2 fun pair_377 => ((m__law_bit r_373 pair_377.2).bind fun r_378 => some (some r_378))).bind fun ys_375 =>
  guardO ((parts_0.2.1).length ≤ sizeLine) <|
  (fmO parts_0.2.1 fun latch_383 => ((m__law_bit r_373 latch_383.2.2).bind fun r_384 => some (some r_384))).bind fun ys_381 =>
  some (ys_375, ys_381)

def m__law_right (parts_0 : (List (Str)) × (List ((Str) × (Int) × (Int))) × (List ((Int) × (Int))) × (List ((Str) × (Int)))) (moves_0 : List (List ((Int) × (Int)))) (codes_0 : List (List (Int))) (inputs_0 : Int) (outputs_0 : Int) : Option (Bool) :=
  guardO (-(2 ^ 62) ≤ ((moves_0).length : Int) ∧ ((moves_0).length : Int) < 2 ^ 62) <|
  flK (forF (ρ := Bool) (rangeL 0 ((moves_0).length : Int)) (() : Unit) fun s_389 _ =>
  guardO (0 ≤ inputs_0 ∧ inputs_0 ≤ 1000000) <|
  guardO (-(2 ^ 62) ≤ ((1 : Int) * 2 ^ (inputs_0).toNat) ∧ ((1 : Int) * 2 ^ (inputs_0).toNat) < 2 ^ 62) <|
  flK (forF (ρ := Bool) (rangeL 0 ((1 : Int) * 2 ^ (inputs_0).toNat)) (() : Unit) fun number_393 _ =>
  (atI moves_0 s_389).bind fun v_394 =>
  (atI v_394 number_393).bind fun v_396 =>
  (m__law_row outputs_0 v_396.2).bind fun r_398 =>
  (atI codes_0 v_396.1).bind fun v_400 =>
  letO (r_398, v_400) fun due_402 =>
  (atI codes_0 s_389).bind fun v_404 =>
  (m__law_row inputs_0 number_393).bind fun r_406 =>
  (m__law_step parts_0 v_404 r_406).bind fun r_408 =>
  bif (!decide (r_408 = due_402)) then (
  some (.ret false))
  else (
  some (.next ()))) (fun _ =>
  some (.next ()))
  (fun r => some (.ret r))) (fun _ =>
  some true)
  (fun r => some r)

def m__law_spoilt (cell_0 : Int) (codes_0 : List (List (Int))) : Option (List (List (Int))) :=
  letO (cell_0 % (6 : Int)) fun kind_410 =>
  letO (cell_0 / (6 : Int)) fun cell_412 =>
  guardO ((codes_0).length ≤ sizeLine) <|
  (fmO codes_0 fun code_416 => (some (some code_416))).bind fun ys_414 =>
  bif (decide (ys_414 = ([] : List (List (Int)))) || decide (kind_410 = (0 : Int))) then (
  (bif (!decide (ys_414 = ([] : List (List (Int))))) then ((atI ys_414 (0 : Int)).bind fun v_418 => some ((v_418).length : Int)) else (some (1 : Int))).bind fun v_420 =>
  guardO (-(2 ^ 62) ≤ v_420 ∧ v_420 < 2 ^ 62) <|
  guardO (((rangeL 0 v_420)).length ≤ sizeLine) <|
  (fmO (rangeL 0 v_420) fun k_426 => (guardO (0 ≤ k_426) (some (some ((cell_412 / 2 ^ (k_426).toNat) % (2 : Int)))))).bind fun ys_424 =>
  guardO ((ys_414).length + ([ys_424]).length ≤ sizeLine) <|
  some (ys_414 ++ [ys_424]))
  else (
  guardO (0 < ((ys_414).length : Int)) <|
  letO (cell_412 % ((ys_414).length : Int)) fun place_431 =>
  letO (cell_412 / (64 : Int)) fun cell_433 =>
  (bif decide (kind_410 = (1 : Int)) then (
  (ixN (ys_414).length place_431).bind fun i_436 =>
  guardO ((ys_414).length < 2 ^ 62) <|
  some (ys_414.eraseIdx i_436))
  else (
  some ys_414) : Option ((List (List (Int))))).bind fun codes_435 =>
  (bif decide (kind_410 = (2 : Int)) then (
  (atI codes_435 place_431).bind fun v_442 =>
  guardO ((v_442).length + ([(cell_433 % (2 : Int))]).length ≤ sizeLine) <|
  (ixN (codes_435).length place_431).bind fun j_445 =>
  some ((codes_435).set j_445 (v_442 ++ [(cell_433 % (2 : Int))])))
  else (
  some codes_435) : Option ((List (List (Int))))).bind fun codes_441 =>
  (bif decide (kind_410 = (3 : Int)) then ((atI codes_441 place_431).bind fun v_449 => some (decide ((0 : Int) < ((v_449).length : Int)))) else some false).bind fun b_451 =>
  (bif b_451 then (
  (ixN (codes_441).length place_431).bind fun j_456 =>
  ((codes_441)[j_456]?).bind fun row_454 =>
  ((row_454).getLast?).bind fun v_458 =>
  some ((codes_441).set j_456 row_454.dropLast))
  else (
  some codes_441) : Option ((List (List (Int))))).bind fun codes_453 =>
  (bif decide (kind_410 = (4 : Int)) then ((atI codes_453 place_431).bind fun v_462 => some (decide ((0 : Int) < ((v_462).length : Int)))) else some false).bind fun b_464 =>
  (bif b_464 then (
  (atI ([(2 : Int), (-(1 : Int)), (3 : Int)]) ((cell_433 / (64 : Int)) % (3 : Int))).bind fun v_470 =>
  (atI codes_453 place_431).bind fun v_467 =>
  guardO (0 < ((v_467).length : Int)) <|
  (ixN (codes_453).length place_431).bind fun j_476 =>
  ((codes_453)[j_476]?).bind fun row_472 =>
  (setI row_472 (cell_433 % ((v_467).length : Int)) v_470).bind fun row_474 =>
  some ((codes_453).set j_476 row_474))
  else (
  some codes_453) : Option ((List (List (Int))))).bind fun codes_466 =>
  (bif decide (kind_410 = (5 : Int)) then (
  guardO (0 < ((codes_466).length : Int)) <|
  (atI codes_466 (cell_433 % ((codes_466).length : Int))).bind fun v_482 =>
  (ixN (codes_466).length place_431).bind fun j_484 =>
  some ((codes_466).set j_484 v_482))
  else (
  some codes_466) : Option ((List (List (Int))))).bind fun codes_480 =>
  some codes_480)

def m_law (script_0 : List Int) : Option (Bool) :=
  (m__law_cell script_0 (0 : Int)).bind fun r_488 =>
  letO (r_488 % (4 : Int)) fun inputs_490 =>
  letO ((r_488 / (4 : Int)) % (5 : Int)) fun outputs_492 =>
  letO ((1 : Int) + ((r_488 / (20 : Int)) % (8 : Int))) fun states_494 =>
  (bif decide (((r_488 / (10007 : Int)) % (8 : Int)) = (5 : Int)) then (
  letO (inputs_490 / (2 : Int)) fun inputs_498 =>
  guardO (0 < ((21 : Int) - ((16 : Int) * inputs_498))) <|
  letO ((20 : Int) + ((r_488 / (80056 : Int)) % ((21 : Int) - ((16 : Int) * inputs_498)))) fun states_501 =>
  some (inputs_498, states_501))
  else (
  some (inputs_490, states_494)) : Option ((Int) × (Int))).bind fun (inputs_496, states_497) =>
  (m__law_moves script_0 (4 : Int) inputs_496 outputs_492 states_497).bind fun r_505 =>
  (m__law_cell script_0 (1 : Int)).bind fun r_507 =>
  (m__law_codes r_507 states_497).bind fun r_509 =>
  (bif decide (((r_488 / (160 : Int)) % (3 : Int)) = (1 : Int)) then (
  (m__law_cell script_0 (2 : Int)).bind fun r_512 =>
  (m__law_spoilt r_512 r_509).bind fun r_514 =>
  (bif decide (((r_488 / (480 : Int)) % (2 : Int)) = (1 : Int)) then (
  (m__law_cell script_0 (3 : Int)).bind fun r_517 =>
  (m__law_spoilt r_517 r_514).bind fun r_519 =>
  some r_519)
  else (
  some r_514) : Option ((List (List (Int))))).bind fun codes_516 =>
  some codes_516)
  else (
  some r_509) : Option ((List (List (Int))))).bind fun codes_511 =>
  exK (m_Machine_init inputs_496 outputs_492 r_505) (fun e_527 => none) fun r_525 =>
  (bif (!decide (codes_511 = ([] : List (List (Int))))) then ((atI codes_511 (0 : Int)).bind fun v_528 => some ((v_528).length : Int)) else (some (0 : Int))).bind fun v_530 =>
  guardO ((("abcdefghijklmnopqrstuvwxyz" : Str)).length ≤ sizeLine) <|
  (atI (("abcdefghijklmnopqrstuvwxyz" : Str)).cps.toList ((r_488 / (960 : Int)) % (26 : Int))).bind fun c_532 =>
  letO (⟨#[c_532]⟩ : Str) fun letters_535 =>
  guardO (-(2 ^ 62) ≤ inputs_496 ∧ inputs_496 < 2 ^ 62) <|
  guardO (((rangeL 0 inputs_496)).length ≤ sizeLine) <|
  (fmO (rangeL 0 inputs_496) fun k_541 => (guardO ((("i" : Str)).length + (letters_535).length ≤ sizeLine) (guardO ((k_541).natAbs < 2 ^ 64) (guardO (((("i" : Str) ++ letters_535)).length + ((Str.ofString (toString k_541))).length ≤ sizeLine) (some (some ((("i" : Str) ++ letters_535) ++ (Str.ofString (toString k_541))))))))).bind fun ys_539 =>
  guardO (-(2 ^ 62) ≤ v_530 ∧ v_530 < 2 ^ 62) <|
  guardO (((rangeL 0 v_530)).length ≤ sizeLine) <|
  (fmO (rangeL 0 v_530) fun k_550 => (guardO ((letters_535).length + (("q" : Str)).length ≤ sizeLine) (guardO ((k_550).natAbs < 2 ^ 64) (guardO (((letters_535 ++ ("q" : Str))).length + ((Str.ofString (toString k_550))).length ≤ sizeLine) (some (some ((letters_535 ++ ("q" : Str)) ++ (Str.ofString (toString k_550))))))))).bind fun ys_548 =>
  guardO (-(2 ^ 62) ≤ outputs_492 ∧ outputs_492 < 2 ^ 62) <|
  guardO (((rangeL 0 outputs_492)).length ≤ sizeLine) <|
  (fmO (rangeL 0 outputs_492) fun k_559 => (guardO (((((10 : Int) * ((r_488 / (24960 : Int)) % (50 : Int))) + k_559)).natAbs < 2 ^ 64) (guardO ((("o" : Str)).length + ((Str.ofString (toString (((10 : Int) * ((r_488 / (24960 : Int)) % (50 : Int))) + k_559)))).length ≤ sizeLine) (some (some (("o" : Str) ++ (Str.ofString (toString (((10 : Int) * ((r_488 / (24960 : Int)) % (50 : Int))) + k_559))))))))).bind fun ys_557 =>
  guardO ((([ys_539, ys_548] : List (List (Str)))).length < sizeLine) <|
  letO (decide (((r_488 / (1300021 : Int)) % (12 : Int)) = (1 : Int)) && decide ((0 : Int) < inputs_496)) fun bad_564 =>
  (bif bad_564 then (
  (atI ([("" : Str), ("A" : Str), ("1a" : Str), ("abcdefghijklm" : Str)]) ((r_488 / (31 : Int)) % (4 : Int))).bind fun v_567 =>
  (ixN ((([ys_539, ys_548] : List (List (Str))) ++ [ys_557])).length (0 : Int)).bind fun j_573 =>
  (((([ys_539, ys_548] : List (List (Str))) ++ [ys_557]))[j_573]?).bind fun row_569 =>
  (setI row_569 (0 : Int) v_567).bind fun row_571 =>
  some (((([ys_539, ys_548] : List (List (Str))) ++ [ys_557])).set j_573 row_571))
  else (
  some (([ys_539, ys_548] : List (List (Str))) ++ [ys_557])) : Option ((List (List (Str))))).bind fun names_566 =>
  guardO ((codes_511).length ≤ sizeLine) <|
  (fmO codes_511 fun code_579 => (some (some code_579))).bind fun ys_577 =>
  guardO ((names_566).length ≤ sizeLine) <|
  (fmO names_566 fun part_591 => (some (some part_591))).bind fun ys_589 =>
  (m__law_told r_525.1 ys_577 ys_589).bind fun r_593 =>
  bif ((!decide (ys_577 = codes_511)) || (!decide (r_525.1.moves = r_505))) then (
  some false)
  else (
  (m__law_fault states_497 codes_511).bind fun r_595 =>
  bif decide ((0 : Int) ≤ r_595) then (
  (Sum.getRight? r_593).bind fun u_597 =>
  guardO (SeqAt.shaped u_597 = true) <|
  guardO (SeqAt.shaped (PyData.tuple [DE.str.enc ("codes" : Str), DE.int.enc r_595, DE.bl.enc true]) = true) <|
  some (PyData.eqv u_597 (PyData.tuple [DE.str.enc ("codes" : Str), DE.int.enc r_595, DE.bl.enc true])))
  else (
  bif bad_564 then (
  (Sum.getRight? r_593).bind fun u_601 =>
  guardO (SeqAt.shaped u_601 = true) <|
  guardO (SeqAt.shaped (PyData.tuple [DE.str.enc ("names" : Str), DE.str.enc ("inputs" : Str), DE.int.enc (0 : Int)]) = true) <|
  some (PyData.eqv u_601 (PyData.tuple [DE.str.enc ("names" : Str), DE.str.enc ("inputs" : Str), DE.int.enc (0 : Int)])))
  else (
  (hdS r_593).bind fun t_605 =>
  (bif (!decide (t_605 = ("circuit" : Str))) then some true else ((Sum.getLeft? r_593).bind fun u_609 => some (!true))).bind fun b_611 =>
  bif b_611 then (
  some false)
  else (
  (Sum.getLeft? r_593).bind fun u_613 =>
  (Sum.getLeft? r_593).bind fun u_615 =>
  (Sum.getLeft? r_593).bind fun u_617 =>
  (Sum.getLeft? r_593).bind fun u_619 =>
  letO (u_613.2.inputs, u_615.2.latches, u_617.2.ands, u_619.2.outputs) fun parts_621 =>
  (atI names_566 (0 : Int)).bind fun v_623 =>
  guardO ((∀ q_627 ∈ parts_621.1, PyData.strOk q_627 = true)) <|
  guardO ((∀ q_628 ∈ v_623, PyData.strOk q_628 = true)) <|
  (bif (!decide (parts_621.1 = v_623)) then some true else (guardO ((parts_621.2.1).length ≤ sizeLine) ((fmO parts_621.2.1 fun latch_631 => (some (some latch_631.1))).bind fun ys_629 => (atI names_566 (1 : Int)).bind fun v_633 => guardO ((∀ q_637 ∈ ys_629, PyData.strOk q_637 = true)) (guardO ((∀ q_638 ∈ v_633, PyData.strOk q_638 = true)) ((bif (!decide (ys_629 = v_633)) then some true else (guardO ((parts_621.2.2.2).length ≤ sizeLine) ((fmO parts_621.2.2.2 fun pair_641 => (some (some pair_641.1))).bind fun ys_639 => (atI names_566 (2 : Int)).bind fun v_643 => guardO ((∀ q_647 ∈ ys_639, PyData.strOk q_647 = true)) (guardO ((∀ q_648 ∈ v_643, PyData.strOk q_648 = true)) (some (!decide (ys_639 = v_643))))))).bind fun b_649 => some b_649))))).bind fun b_651 =>
  bif b_651 then (
  some false)
  else (
  guardO ((parts_621.2.1).length ≤ sizeLine) <|
  (fmO parts_621.2.1 fun latch_655 => (some (some latch_655.2.1))).bind fun ys_653 =>
  (atI codes_511 (0 : Int)).bind fun v_657 =>
  (bif (!decide (ys_653 = v_657)) then some true else (guardO ((-(2 ^ 64) < ((3 : Int) * states_497) ∧ ((3 : Int) * states_497) < 2 ^ 64) ∨ (-(2 ^ 64) < (v_530 + outputs_492) ∧ (v_530 + outputs_492) < 2 ^ 64)) (guardO (0 ≤ inputs_496 ∧ inputs_496 ≤ 1000000 ∧ ((((3 : Int) * states_497) * (v_530 + outputs_492))).natAbs < 2 ^ 64) (some (decide (((((3 : Int) * states_497) * (v_530 + outputs_492)) * 2 ^ (inputs_496).toNat) < ((parts_621.2.2.1).length : Int))))))).bind fun b_661 =>
  bif b_661 then (
  some false)
  else (
  (m__law_right parts_621 r_505 codes_511 inputs_496 outputs_492).bind fun r_663 =>
  some r_663))))))
end K68

/-! K68W -/
namespace K68
open PySem PySem.Spec L2 Ty
open PyProof.Rows (envOfC)
def top (i : Nat) : Stmt := PySem.Challenge.pw_evergate_k68_coded_machines.main.body.getD i (.Pass ⟨0, 0, 0, 0⟩)
abbrev s__law_cell : Stmt := top 35
abbrev N__law_cell : List Str := ["script", "k", "cell"]
theorem sc__law_cell : FnScope N__law_cell ["script", "k"] (defScope s__law_cell) := ⟨rfl, rfl, rfl, by decide +kernel, rfl, by decide +kernel, by decide +kernel⟩
abbrev s__law_moves : Stmt := top 36
abbrev N__law_moves : List Str := ["script", "at", "inputs", "outputs", "states", "moves", "s", "entry", "r", "cell"]
theorem sc__law_moves : FnScope N__law_moves ["script", "at", "inputs", "outputs", "states"] (defScope s__law_moves) := ⟨rfl, rfl, rfl, by decide +kernel, rfl, by decide +kernel, by decide +kernel⟩
abbrev s__law_row : Stmt := top 37
abbrev N__law_row : List Str := ["count", "number", "k"]
theorem sc__law_row : FnScope N__law_row ["count", "number"] (defScope s__law_row) := ⟨rfl, rfl, rfl, by decide +kernel, rfl, by decide +kernel, by decide +kernel⟩
abbrev s__law_codes : Stmt := top 42
abbrev N__law_codes : List Str := ["cell", "states", "width", "step", "s", "k"]
theorem sc__law_codes : FnScope N__law_codes ["cell", "states"] (defScope s__law_codes) := ⟨rfl, rfl, rfl, by decide +kernel, rfl, by decide +kernel, by decide +kernel⟩
abbrev s_is_move : Stmt := top 29
abbrev N_is_move : List Str := ["move", "state_count", "output_count", "later", "answer"]
theorem sc_is_move : FnScope N_is_move ["move", "state_count", "output_count"] (defScope s_is_move) := ⟨rfl, rfl, rfl, by decide +kernel, rfl, by decide +kernel, by decide +kernel⟩
abbrev s_Machine_init : Stmt := inClass (top 28) 0
abbrev N_Machine_init : List Str := ["self", "input_count", "output_count", "moves", "rows", "state", "entry", "row"]
theorem sc_Machine_init : FnScope N_Machine_init ["self", "input_count", "output_count", "moves"] (defScope s_Machine_init) := ⟨rfl, rfl, rfl, by decide +kernel, rfl, by decide +kernel, by decide +kernel⟩
abbrev s_check_codes : Stmt := top 31
abbrev N_check_codes : List Str := ["machine", "codes", "known", "state", "code", "bit"]
theorem sc_check_codes : FnScope N_check_codes ["machine", "codes"] (defScope s_check_codes) := ⟨rfl, rfl, rfl, by decide +kernel, rfl, by decide +kernel, by decide +kernel⟩
abbrev s_Builder_init : Stmt := inClass (top 23) 0
abbrev N_Builder_init : List Str := ["self", "leaf_count"]
theorem sc_Builder_init : FnScope N_Builder_init ["self", "leaf_count"] (defScope s_Builder_init) := ⟨rfl, rfl, rfl, by decide +kernel, rfl, by decide +kernel, by decide +kernel⟩
abbrev s_Decoder_init : Stmt := inClass (top 32) 0
abbrev N_Decoder_init : List Str := ["self", "input_count", "codes", "code"]
theorem sc_Decoder_init : FnScope N_Decoder_init ["self", "input_count", "codes"] (defScope s_Decoder_init) := ⟨rfl, rfl, rfl, by decide +kernel, rfl, by decide +kernel, by decide +kernel⟩
abbrev s_is_name : Stmt := top 17
abbrev N_is_name : List Str := ["text", "sign"]
theorem sc_is_name : FnScope N_is_name ["text"] (defScope s_is_name) := ⟨rfl, rfl, rfl, by decide +kernel, rfl, by decide +kernel, by decide +kernel⟩
abbrev s_fault_of_leaves : Stmt := top 18
abbrev N_fault_of_leaves : List Str := ["inputs", "latches", "node_count", "names", "index", "name", "start", "literal"]
theorem sc_fault_of_leaves : FnScope N_fault_of_leaves ["inputs", "latches", "node_count"] (defScope s_fault_of_leaves) := ⟨rfl, rfl, rfl, by decide +kernel, rfl, by decide +kernel, by decide +kernel⟩
abbrev s_fault_of_ands : Stmt := top 19
abbrev N_fault_of_ands : List Str := ["first_and", "ands", "index", "left", "right", "limit"]
theorem sc_fault_of_ands : FnScope N_fault_of_ands ["first_and", "ands"] (defScope s_fault_of_ands) := ⟨rfl, rfl, rfl, by decide +kernel, rfl, by decide +kernel, by decide +kernel⟩
abbrev s_fault_of_outputs : Stmt := top 20
abbrev N_fault_of_outputs : List Str := ["outputs", "node_count", "names", "index", "name", "literal"]
theorem sc_fault_of_outputs : FnScope N_fault_of_outputs ["outputs", "node_count"] (defScope s_fault_of_outputs) := ⟨rfl, rfl, rfl, by decide +kernel, rfl, by decide +kernel, by decide +kernel⟩
abbrev s_Circuit_init : Stmt := inClass (top 21) 0
abbrev N_Circuit_init : List Str := ["self", "inputs", "latches", "ands", "outputs", "first_and", "node_count", "fault"]
theorem sc_Circuit_init : FnScope N_Circuit_init ["self", "inputs", "latches", "ands", "outputs"] (defScope s_Circuit_init) := ⟨rfl, rfl, rfl, by decide +kernel, rfl, by decide +kernel, by decide +kernel⟩
abbrev s_Builder_level_of : Stmt := inClass (top 23) 2
abbrev N_Builder_level_of : List Str := ["self", "literal"]
theorem sc_Builder_level_of : FnScope N_Builder_level_of ["self", "literal"] (defScope s_Builder_level_of) := ⟨rfl, rfl, rfl, by decide +kernel, rfl, by decide +kernel, by decide +kernel⟩
abbrev s_Builder_both : Stmt := inClass (top 23) 3
abbrev N_Builder_both : List Str := ["self", "left", "right", "low", "high"]
theorem sc_Builder_both : FnScope N_Builder_both ["self", "left", "right"] (defScope s_Builder_both) := ⟨rfl, rfl, rfl, by decide +kernel, rfl, by decide +kernel, by decide +kernel⟩
abbrev s_Builder_either : Stmt := inClass (top 23) 4
abbrev N_Builder_either : List Str := ["self", "left", "right"]
theorem sc_Builder_either : FnScope N_Builder_either ["self", "left", "right"] (defScope s_Builder_either) := ⟨rfl, rfl, rfl, by decide +kernel, rfl, by decide +kernel, by decide +kernel⟩
abbrev s_Builder_choose : Stmt := inClass (top 23) 6
abbrev N_Builder_choose : List Str := ["self", "test", "yes", "no", "first", "second"]
theorem sc_Builder_choose : FnScope N_Builder_choose ["self", "test", "yes", "no"] (defScope s_Builder_choose) := ⟨rfl, rfl, rfl, by decide +kernel, rfl, by decide +kernel, by decide +kernel⟩
abbrev s_mask_of : Stmt := top 8
abbrev N_mask_of : List Str := ["case_count"]
theorem sc_mask_of : FnScope N_mask_of ["case_count"] (defScope s_mask_of) := ⟨rfl, rfl, rfl, by decide +kernel, rfl, by decide +kernel, by decide +kernel⟩
abbrev s_Decoder_under_rows : Stmt := inClass (top 32) 1
abbrev N_Decoder_under_rows : List Str := ["self", "table", "place", "count", "half", "low", "high", "yes"]
theorem sc_Decoder_under_rows : FnScope N_Decoder_under_rows ["self", "table", "place"] (defScope s_Decoder_under_rows) := ⟨rfl, rfl, rfl, by decide +kernel, rfl, by decide +kernel, by decide +kernel⟩
abbrev s_Decoder_under_codes : Stmt := inClass (top 32) 2
abbrev N_Decoder_under_codes : List Str := ["self", "tables", "states", "place", "low", "high", "yes", "test", "state"]
theorem sc_Decoder_under_codes : FnScope N_Decoder_under_codes ["self", "tables", "states", "place"] (defScope s_Decoder_under_codes) := ⟨rfl, rfl, rfl, by decide +kernel, rfl, by decide +kernel, by decide +kernel⟩
abbrev s_Decoder_literal_of : Stmt := inClass (top 32) 3
abbrev N_Decoder_literal_of : List Str := ["self", "bits", "tables", "entry", "row", "bit"]
theorem sc_Decoder_literal_of : FnScope N_Decoder_literal_of ["self", "bits"] (defScope s_Decoder_literal_of) := ⟨rfl, rfl, rfl, by decide +kernel, rfl, by decide +kernel, by decide +kernel⟩
abbrev s_coded : Stmt := top 33
abbrev N_coded : List Str := ["machine", "codes", "inputs", "latches", "outputs", "decoder", "found", "place", "name", "bits", "ends", "digit", "entry", "later", "_", "answer"]
theorem sc_coded : FnScope N_coded ["machine", "codes", "inputs", "latches", "outputs"] (defScope s_coded) := ⟨rfl, rfl, rfl, by decide +kernel, rfl, by decide +kernel, by decide +kernel⟩
abbrev s__law_told : Stmt := top 45
abbrev N__law_told : List Str := ["machine", "codes", "names", "e"]
theorem sc__law_told : FnScope N__law_told ["machine", "codes", "names"] (defScope s__law_told) := ⟨rfl, rfl, rfl, by decide +kernel, rfl, by decide +kernel, by decide +kernel⟩
abbrev s__law_fault : Stmt := top 44
abbrev N__law_fault : List Str := ["states", "codes", "s", "bit"]
theorem sc__law_fault : FnScope N__law_fault ["states", "codes"] (defScope s__law_fault) := ⟨rfl, rfl, rfl, by decide +kernel, rfl, by decide +kernel, by decide +kernel⟩
abbrev s__law_bit : Stmt := top 39
abbrev N__law_bit : List Str := ["values", "literal"]
theorem sc__law_bit : FnScope N__law_bit ["values", "literal"] (defScope s__law_bit) := ⟨rfl, rfl, rfl, by decide +kernel, rfl, by decide +kernel, by decide +kernel⟩
abbrev s__law_values : Stmt := top 40
abbrev N__law_values : List Str := ["parts", "state", "row", "values", "pair"]
theorem sc__law_values : FnScope N__law_values ["parts", "state", "row"] (defScope s__law_values) := ⟨rfl, rfl, rfl, by decide +kernel, rfl, by decide +kernel, by decide +kernel⟩
abbrev s__law_step : Stmt := top 41
abbrev N__law_step : List Str := ["parts", "state", "row", "values", "pair", "latch"]
theorem sc__law_step : FnScope N__law_step ["parts", "state", "row"] (defScope s__law_step) := ⟨rfl, rfl, rfl, by decide +kernel, rfl, by decide +kernel, by decide +kernel⟩
abbrev s__law_right : Stmt := top 46
abbrev N__law_right : List Str := ["parts", "moves", "codes", "inputs", "outputs", "s", "number", "later", "answer", "due"]
theorem sc__law_right : FnScope N__law_right ["parts", "moves", "codes", "inputs", "outputs"] (defScope s__law_right) := ⟨rfl, rfl, rfl, by decide +kernel, rfl, by decide +kernel, by decide +kernel⟩
abbrev s__law_spoilt : Stmt := top 43
abbrev N__law_spoilt : List Str := ["cell", "codes", "kind", "place", "code", "k"]
theorem sc__law_spoilt : FnScope N__law_spoilt ["cell", "codes"] (defScope s__law_spoilt) := ⟨rfl, rfl, rfl, by decide +kernel, rfl, by decide +kernel, by decide +kernel⟩
abbrev s_law : Stmt := top 47
abbrev N_law : List Str := ["script", "base", "inputs", "outputs", "states", "moves", "codes", "machine", "width", "letters", "names", "bad", "given", "told", "fault", "parts", "code", "k", "part", "latch", "pair"]
theorem sc_law : FnScope N_law ["script"] (defScope s_law) := ⟨rfl, rfl, rfl, by decide +kernel, rfl, by decide +kernel, by decide +kernel⟩
abbrev s_InvalidCircuit_init : Stmt := inClass (top 3) 0
theorem sc_InvalidCircuit_init : ScS ["self", "part", "index"] (defScope s_InvalidCircuit_init) := ⟨rfl, rfl, rfl, by decide +kernel, by decide +kernel, by decide +kernel, by decide +kernel, rfl, rfl⟩
abbrev s_InvalidMachine_init : Stmt := inClass (top 4) 0
theorem sc_InvalidMachine_init : ScS ["self", "state", "row"] (defScope s_InvalidMachine_init) := ⟨rfl, rfl, rfl, by decide +kernel, by decide +kernel, by decide +kernel, by decide +kernel, rfl, rfl⟩
abbrev s_InvalidCodes_init : Stmt := inClass (top 5) 0
theorem sc_InvalidCodes_init : ScS ["self", "state"] (defScope s_InvalidCodes_init) := ⟨rfl, rfl, rfl, by decide +kernel, by decide +kernel, by decide +kernel, by decide +kernel, rfl, rfl⟩
abbrev ns_Circuit : List Str := ["inputs", "latches", "ands", "outputs"]
abbrev dl_Circuit (V : S_Circuit) : List Slot := [own (oL pStr) V.inputs, own (oL (pT3 pStr pInt pInt)) V.latches, own (oL (pT2 pInt pInt)) V.ands, own (oL (pT2 pStr pInt)) V.outputs]
abbrev sl_Circuit (V : S_Circuit) : List Slot := [val (pL pStr) V.inputs, val (pL (pT3 pStr pInt pInt)) V.latches, val (pL (pT2 pInt pInt)) V.ands, val (pL (pT2 pStr pInt)) V.outputs]
abbrev ns_Builder : List Str := ["leaf_count", "pairs", "_nodes", "_levels"]
abbrev dl_Builder (V : S_Builder) : List Slot := [val pInt V.leaf_count, own (oL (pT2 pInt pInt)) V.pairs, own (oD dII pInt) V._nodes, own (oL pInt) V._levels]
abbrev sl_Builder (V : S_Builder) : List Slot := [val pInt V.leaf_count, val (pL (pT2 pInt pInt)) V.pairs, val (pD dII pInt) V._nodes, val (pL pInt) V._levels]
abbrev ns_Machine : List Str := ["input_count", "output_count", "moves"]
abbrev dl_Machine (V : S_Machine) : List Slot := [val pInt V.input_count, val pInt V.output_count, own (oL (pL (pT2 pInt pInt))) V.moves]
abbrev sl_Machine (V : S_Machine) : List Slot := [val pInt V.input_count, val pInt V.output_count, val (pL (pL (pT2 pInt pInt))) V.moves]
abbrev ns_Decoder : List Str := ["input_count", "codes", "builder"]
abbrev slH_0 (V : (List (Str)) × (List ((Str) × (Int) × (Int))) × (List ((Int) × (Int))) × (List ((Str) × (Int)))) : List Slot := [val (pL pStr) V.1, val (pL (pT3 pStr pInt pInt)) V.2.1, val (pL (pT2 pInt pInt)) V.2.2.1, val (pL (pT2 pStr pInt)) V.2.2.2]
structure Txt (P : Program) (K : PySem.W.Frag) (mg : Str → Option Value) where
  f__law_cell : Addr
  d__law_cell : FuncData
  F__law_cell : Fun K "_law_cell" "_law_cell" s__law_cell f__law_cell d__law_cell
  b__law_cell : Binds K d__law_cell ["script", "k"] []
  g__law_cell : mg "_law_cell" = some (.ref f__law_cell)
  k__law_cell : PySem.W.keepIn K (.ref f__law_cell) = true
  f__law_moves : Addr
  d__law_moves : FuncData
  F__law_moves : Fun K "_law_moves" "_law_moves" s__law_moves f__law_moves d__law_moves
  b__law_moves : Binds K d__law_moves ["script", "at", "inputs", "outputs", "states"] []
  g__law_moves : mg "_law_moves" = some (.ref f__law_moves)
  k__law_moves : PySem.W.keepIn K (.ref f__law_moves) = true
  f__law_row : Addr
  d__law_row : FuncData
  F__law_row : Fun K "_law_row" "_law_row" s__law_row f__law_row d__law_row
  b__law_row : Binds K d__law_row ["count", "number"] []
  g__law_row : mg "_law_row" = some (.ref f__law_row)
  k__law_row : PySem.W.keepIn K (.ref f__law_row) = true
  f__law_codes : Addr
  d__law_codes : FuncData
  F__law_codes : Fun K "_law_codes" "_law_codes" s__law_codes f__law_codes d__law_codes
  b__law_codes : Binds K d__law_codes ["cell", "states"] []
  g__law_codes : mg "_law_codes" = some (.ref f__law_codes)
  k__law_codes : PySem.W.keepIn K (.ref f__law_codes) = true
  f_is_move : Addr
  d_is_move : FuncData
  F_is_move : Fun K "is_move" "is_move" s_is_move f_is_move d_is_move
  b_is_move : Binds K d_is_move ["move", "state_count", "output_count"] []
  g_is_move : mg "is_move" = some (.ref f_is_move)
  k_is_move : PySem.W.keepIn K (.ref f_is_move) = true
  f_Machine_init : Addr
  d_Machine_init : FuncData
  F_Machine_init : Fun K "__init__" "Machine.__init__" s_Machine_init f_Machine_init d_Machine_init
  b_Machine_init : Binds K d_Machine_init ["self", "input_count", "output_count", "moves"] []
  f_check_codes : Addr
  d_check_codes : FuncData
  F_check_codes : Fun K "check_codes" "check_codes" s_check_codes f_check_codes d_check_codes
  b_check_codes : Binds K d_check_codes ["machine", "codes"] []
  g_check_codes : mg "check_codes" = some (.ref f_check_codes)
  k_check_codes : PySem.W.keepIn K (.ref f_check_codes) = true
  f_Builder_init : Addr
  d_Builder_init : FuncData
  F_Builder_init : Fun K "__init__" "Builder.__init__" s_Builder_init f_Builder_init d_Builder_init
  b_Builder_init : Binds K d_Builder_init ["self", "leaf_count"] []
  f_Decoder_init : Addr
  d_Decoder_init : FuncData
  F_Decoder_init : Fun K "__init__" "Decoder.__init__" s_Decoder_init f_Decoder_init d_Decoder_init
  b_Decoder_init : Binds K d_Decoder_init ["self", "input_count", "codes"] []
  f_is_name : Addr
  d_is_name : FuncData
  F_is_name : Fun K "is_name" "is_name" s_is_name f_is_name d_is_name
  b_is_name : Binds K d_is_name ["text"] []
  g_is_name : mg "is_name" = some (.ref f_is_name)
  k_is_name : PySem.W.keepIn K (.ref f_is_name) = true
  f_fault_of_leaves : Addr
  d_fault_of_leaves : FuncData
  F_fault_of_leaves : Fun K "fault_of_leaves" "fault_of_leaves" s_fault_of_leaves f_fault_of_leaves d_fault_of_leaves
  b_fault_of_leaves : Binds K d_fault_of_leaves ["inputs", "latches", "node_count"] []
  g_fault_of_leaves : mg "fault_of_leaves" = some (.ref f_fault_of_leaves)
  k_fault_of_leaves : PySem.W.keepIn K (.ref f_fault_of_leaves) = true
  f_fault_of_ands : Addr
  d_fault_of_ands : FuncData
  F_fault_of_ands : Fun K "fault_of_ands" "fault_of_ands" s_fault_of_ands f_fault_of_ands d_fault_of_ands
  b_fault_of_ands : Binds K d_fault_of_ands ["first_and", "ands"] []
  g_fault_of_ands : mg "fault_of_ands" = some (.ref f_fault_of_ands)
  k_fault_of_ands : PySem.W.keepIn K (.ref f_fault_of_ands) = true
  f_fault_of_outputs : Addr
  d_fault_of_outputs : FuncData
  F_fault_of_outputs : Fun K "fault_of_outputs" "fault_of_outputs" s_fault_of_outputs f_fault_of_outputs d_fault_of_outputs
  b_fault_of_outputs : Binds K d_fault_of_outputs ["outputs", "node_count"] []
  g_fault_of_outputs : mg "fault_of_outputs" = some (.ref f_fault_of_outputs)
  k_fault_of_outputs : PySem.W.keepIn K (.ref f_fault_of_outputs) = true
  f_Circuit_init : Addr
  d_Circuit_init : FuncData
  F_Circuit_init : Fun K "__init__" "Circuit.__init__" s_Circuit_init f_Circuit_init d_Circuit_init
  b_Circuit_init : Binds K d_Circuit_init ["self", "inputs", "latches", "ands", "outputs"] []
  f_Builder_level_of : Addr
  d_Builder_level_of : FuncData
  F_Builder_level_of : Fun K "level_of" "Builder.level_of" s_Builder_level_of f_Builder_level_of d_Builder_level_of
  b_Builder_level_of : Binds K d_Builder_level_of ["self", "literal"] []
  f_Builder_both : Addr
  d_Builder_both : FuncData
  F_Builder_both : Fun K "both" "Builder.both" s_Builder_both f_Builder_both d_Builder_both
  b_Builder_both : Binds K d_Builder_both ["self", "left", "right"] []
  f_Builder_either : Addr
  d_Builder_either : FuncData
  F_Builder_either : Fun K "either" "Builder.either" s_Builder_either f_Builder_either d_Builder_either
  b_Builder_either : Binds K d_Builder_either ["self", "left", "right"] []
  f_Builder_choose : Addr
  d_Builder_choose : FuncData
  F_Builder_choose : Fun K "choose" "Builder.choose" s_Builder_choose f_Builder_choose d_Builder_choose
  b_Builder_choose : Binds K d_Builder_choose ["self", "test", "yes", "no"] []
  f_mask_of : Addr
  d_mask_of : FuncData
  F_mask_of : Fun K "mask_of" "mask_of" s_mask_of f_mask_of d_mask_of
  b_mask_of : Binds K d_mask_of ["case_count"] []
  g_mask_of : mg "mask_of" = some (.ref f_mask_of)
  k_mask_of : PySem.W.keepIn K (.ref f_mask_of) = true
  f_Decoder_under_rows : Addr
  d_Decoder_under_rows : FuncData
  F_Decoder_under_rows : Fun K "under_rows" "Decoder.under_rows" s_Decoder_under_rows f_Decoder_under_rows d_Decoder_under_rows
  b_Decoder_under_rows : Binds K d_Decoder_under_rows ["self", "table", "place"] []
  f_Decoder_under_codes : Addr
  d_Decoder_under_codes : FuncData
  F_Decoder_under_codes : Fun K "under_codes" "Decoder.under_codes" s_Decoder_under_codes f_Decoder_under_codes d_Decoder_under_codes
  b_Decoder_under_codes : Binds K d_Decoder_under_codes ["self", "tables", "states", "place"] []
  f_Decoder_literal_of : Addr
  d_Decoder_literal_of : FuncData
  F_Decoder_literal_of : Fun K "literal_of" "Decoder.literal_of" s_Decoder_literal_of f_Decoder_literal_of d_Decoder_literal_of
  b_Decoder_literal_of : Binds K d_Decoder_literal_of ["self", "bits"] []
  f_coded : Addr
  d_coded : FuncData
  F_coded : Fun K "coded" "coded" s_coded f_coded d_coded
  b_coded : Binds K d_coded ["machine", "codes", "inputs", "latches", "outputs"] []
  g_coded : mg "coded" = some (.ref f_coded)
  k_coded : PySem.W.keepIn K (.ref f_coded) = true
  f__law_told : Addr
  d__law_told : FuncData
  F__law_told : Fun K "_law_told" "_law_told" s__law_told f__law_told d__law_told
  b__law_told : Binds K d__law_told ["machine", "codes", "names"] []
  g__law_told : mg "_law_told" = some (.ref f__law_told)
  k__law_told : PySem.W.keepIn K (.ref f__law_told) = true
  f__law_fault : Addr
  d__law_fault : FuncData
  F__law_fault : Fun K "_law_fault" "_law_fault" s__law_fault f__law_fault d__law_fault
  b__law_fault : Binds K d__law_fault ["states", "codes"] []
  g__law_fault : mg "_law_fault" = some (.ref f__law_fault)
  k__law_fault : PySem.W.keepIn K (.ref f__law_fault) = true
  f__law_bit : Addr
  d__law_bit : FuncData
  F__law_bit : Fun K "_law_bit" "_law_bit" s__law_bit f__law_bit d__law_bit
  b__law_bit : Binds K d__law_bit ["values", "literal"] []
  g__law_bit : mg "_law_bit" = some (.ref f__law_bit)
  k__law_bit : PySem.W.keepIn K (.ref f__law_bit) = true
  f__law_values : Addr
  d__law_values : FuncData
  F__law_values : Fun K "_law_values" "_law_values" s__law_values f__law_values d__law_values
  b__law_values : Binds K d__law_values ["parts", "state", "row"] []
  g__law_values : mg "_law_values" = some (.ref f__law_values)
  k__law_values : PySem.W.keepIn K (.ref f__law_values) = true
  f__law_step : Addr
  d__law_step : FuncData
  F__law_step : Fun K "_law_step" "_law_step" s__law_step f__law_step d__law_step
  b__law_step : Binds K d__law_step ["parts", "state", "row"] []
  g__law_step : mg "_law_step" = some (.ref f__law_step)
  k__law_step : PySem.W.keepIn K (.ref f__law_step) = true
  f__law_right : Addr
  d__law_right : FuncData
  F__law_right : Fun K "_law_right" "_law_right" s__law_right f__law_right d__law_right
  b__law_right : Binds K d__law_right ["parts", "moves", "codes", "inputs", "outputs"] []
  g__law_right : mg "_law_right" = some (.ref f__law_right)
  k__law_right : PySem.W.keepIn K (.ref f__law_right) = true
  f__law_spoilt : Addr
  d__law_spoilt : FuncData
  F__law_spoilt : Fun K "_law_spoilt" "_law_spoilt" s__law_spoilt f__law_spoilt d__law_spoilt
  b__law_spoilt : Binds K d__law_spoilt ["cell", "codes"] []
  g__law_spoilt : mg "_law_spoilt" = some (.ref f__law_spoilt)
  k__law_spoilt : PySem.W.keepIn K (.ref f__law_spoilt) = true
  f_law : Addr
  d_law : FuncData
  F_law : Fun K "law" "law" s_law f_law d_law
  b_law : Binds K d_law ["script"] []
  g_law : mg "law" = some (.ref f_law)
  k_law : PySem.W.keepIn K (.ref f_law) = true
  C_Circuit : Addr
  cl_Circuit : Cls K C_Circuit
  g_Circuit : mg "Circuit" = some (.ref C_Circuit)
  at_Circuit_inputs : At K C_Circuit "inputs"
  at_Circuit_latches : At K C_Circuit "latches"
  at_Circuit_ands : At K C_Circuit "ands"
  at_Circuit_outputs : At K C_Circuit "outputs"
  ic_Circuit : IsC K C_Circuit
  mk_Circuit : Mk K C_Circuit f_Circuit_init
  C_Builder : Addr
  cl_Builder : Cls K C_Builder
  g_Builder : mg "Builder" = some (.ref C_Builder)
  at_Builder_leaf_count : At K C_Builder "leaf_count"
  at_Builder_pairs : At K C_Builder "pairs"
  at_Builder__nodes : At K C_Builder "_nodes"
  at_Builder__levels : At K C_Builder "_levels"
  mk_Builder : Mk K C_Builder f_Builder_init
  me_Builder_level_of : Meth K C_Builder "level_of" f_Builder_level_of
  me_Builder_both : Meth K C_Builder "both" f_Builder_both
  me_Builder_either : Meth K C_Builder "either" f_Builder_either
  me_Builder_choose : Meth K C_Builder "choose" f_Builder_choose
  C_Machine : Addr
  cl_Machine : Cls K C_Machine
  g_Machine : mg "Machine" = some (.ref C_Machine)
  at_Machine_input_count : At K C_Machine "input_count"
  at_Machine_output_count : At K C_Machine "output_count"
  at_Machine_moves : At K C_Machine "moves"
  mk_Machine : Mk K C_Machine f_Machine_init
  C_Decoder : Addr
  cl_Decoder : Cls K C_Decoder
  g_Decoder : mg "Decoder" = some (.ref C_Decoder)
  at_Decoder_input_count : At K C_Decoder "input_count"
  at_Decoder_codes : At K C_Decoder "codes"
  at_Decoder_builder : At K C_Decoder "builder"
  mk_Decoder : Mk K C_Decoder f_Decoder_init
  me_Decoder_under_rows : Meth K C_Decoder "under_rows" f_Decoder_under_rows
  me_Decoder_under_codes : Meth K C_Decoder "under_codes" f_Decoder_under_codes
  me_Decoder_literal_of : Meth K C_Decoder "literal_of" f_Decoder_literal_of
  g_enumerate : mg "enumerate" = none
  g_int : mg "int" = none
  g_isinstance : mg "isinstance" = none
  g_len : mg "len" = none
  g_list : mg "list" = none
  g_max : mg "max" = none
  g_min : mg "min" = none
  g_range : mg "range" = none
  g_str : mg "str" = none
  g_sum : mg "sum" = none
  g_tuple : mg "tuple" = none
  t_FIRST_SIGNS : Tok
  g_FIRST_SIGNS : mg "FIRST_SIGNS" = some (.str "abcdefghijklmnopqrstuvwxyz" t_FIRST_SIGNS)
  t_MOST_ANDS : Tok
  g_MOST_ANDS : mg "MOST_ANDS" = some (.int 2000 t_MOST_ANDS)
  t_MOST_INPUTS_circuit : Tok
  g_MOST_INPUTS_circuit : mg "MOST_INPUTS_circuit" = some (.int 16 t_MOST_INPUTS_circuit)
  t_MOST_INPUTS_machine : Tok
  g_MOST_INPUTS_machine : mg "MOST_INPUTS_machine" = some (.int 6 t_MOST_INPUTS_machine)
  t_MOST_LATCHES : Tok
  g_MOST_LATCHES : mg "MOST_LATCHES" = some (.int 40 t_MOST_LATCHES)
  t_MOST_OUTPUTS_circuit : Tok
  g_MOST_OUTPUTS_circuit : mg "MOST_OUTPUTS_circuit" = some (.int 32 t_MOST_OUTPUTS_circuit)
  t_MOST_OUTPUTS_machine : Tok
  g_MOST_OUTPUTS_machine : mg "MOST_OUTPUTS_machine" = some (.int 32 t_MOST_OUTPUTS_machine)
  t_MOST_SIGNS : Tok
  g_MOST_SIGNS : mg "MOST_SIGNS" = some (.int 12 t_MOST_SIGNS)
  t_MOST_STATES : Tok
  g_MOST_STATES : mg "MOST_STATES" = some (.int 1000 t_MOST_STATES)
  t_SIGNS : Tok
  g_SIGNS : mg "SIGNS" = some (.str "abcdefghijklmnopqrstuvwxyz0123456789_" t_SIGNS)
  C_EvergateError : Addr
  g_EvergateError : mg "EvergateError" = some (.ref C_EvergateError)
  C_InvalidCircuit : Addr
  g_InvalidCircuit : mg "InvalidCircuit" = some (.ref C_InvalidCircuit)
  C_InvalidCodes : Addr
  g_InvalidCodes : mg "InvalidCodes" = some (.ref C_InvalidCodes)
  C_InvalidCount : Addr
  g_InvalidCount : mg "InvalidCount" = some (.ref C_InvalidCount)
  C_InvalidMachine : Addr
  g_InvalidMachine : mg "InvalidMachine" = some (.ref C_InvalidMachine)
  f_InvalidCircuit_init : Addr
  d_InvalidCircuit_init : FuncData
  FS_InvalidCircuit : FunS K P "__init__" "InvalidCircuit.__init__" s_InvalidCircuit_init f_InvalidCircuit_init d_InvalidCircuit_init C_InvalidCircuit
  b_InvalidCircuit_init : Binds K d_InvalidCircuit_init ["self", "part", "index"] []
  xo_InvalidCircuit : OexC K C_InvalidCircuit
  xu_InvalidCircuit : SupC K P mg C_InvalidCircuit
  xic_InvalidCircuit : PySem.W.findIn K (.ref C_InvalidCircuit) "__init__" = some (some (.ref f_InvalidCircuit_init))
  xti_InvalidCircuit : PySem.W.typeIn K (.ref f_InvalidCircuit_init) = some (.type "function")
  xn_InvalidCircuit_part : PySem.W.findIn K (.ref C_InvalidCircuit) "part" = some none
  xn_InvalidCircuit_index : PySem.W.findIn K (.ref C_InvalidCircuit) "index" = some none
  xe_InvalidCircuit : ExcC K C_InvalidCircuit
  f_InvalidCodes_init : Addr
  d_InvalidCodes_init : FuncData
  FS_InvalidCodes : FunS K P "__init__" "InvalidCodes.__init__" s_InvalidCodes_init f_InvalidCodes_init d_InvalidCodes_init C_InvalidCodes
  b_InvalidCodes_init : Binds K d_InvalidCodes_init ["self", "state"] []
  xo_InvalidCodes : OexC K C_InvalidCodes
  xu_InvalidCodes : SupC K P mg C_InvalidCodes
  xic_InvalidCodes : PySem.W.findIn K (.ref C_InvalidCodes) "__init__" = some (some (.ref f_InvalidCodes_init))
  xti_InvalidCodes : PySem.W.typeIn K (.ref f_InvalidCodes_init) = some (.type "function")
  xn_InvalidCodes_state : PySem.W.findIn K (.ref C_InvalidCodes) "state" = some none
  xe_InvalidCodes : ExcC K C_InvalidCodes
  xq_InvalidCount : PySem.W.excIn K C_InvalidCount [.type "ValueError", .type "Exception", .type "BaseException", .type "object"] "ValueError.__new__" = true
  xk_InvalidCount : PySem.W.keepIn K (.ref C_InvalidCount) = true
  xs_InvalidCount : PySem.W.subIn K (.ref C_InvalidCount) (.type "BaseException") = some true
  xt_InvalidCount : PySem.W.typeIn K (.ref C_InvalidCount) = some (.type "type")
  f_InvalidMachine_init : Addr
  d_InvalidMachine_init : FuncData
  FS_InvalidMachine : FunS K P "__init__" "InvalidMachine.__init__" s_InvalidMachine_init f_InvalidMachine_init d_InvalidMachine_init C_InvalidMachine
  b_InvalidMachine_init : Binds K d_InvalidMachine_init ["self", "state", "row"] []
  xo_InvalidMachine : OexC K C_InvalidMachine
  xu_InvalidMachine : SupC K P mg C_InvalidMachine
  xic_InvalidMachine : PySem.W.findIn K (.ref C_InvalidMachine) "__init__" = some (some (.ref f_InvalidMachine_init))
  xti_InvalidMachine : PySem.W.typeIn K (.ref f_InvalidMachine_init) = some (.type "function")
  xn_InvalidMachine_state : PySem.W.findIn K (.ref C_InvalidMachine) "state" = some none
  xn_InvalidMachine_row : PySem.W.findIn K (.ref C_InvalidMachine) "row" = some none
  xp_InvalidCircuit_InvalidCircuit : PySem.W.exmOne K (.ref C_InvalidCircuit) (.ref C_InvalidCircuit) = some true
  xp_InvalidCodes_InvalidCodes : PySem.W.exmOne K (.ref C_InvalidCodes) (.ref C_InvalidCodes) = some true
  xp_InvalidCircuit_InvalidCodes : PySem.W.exmOne K (.ref C_InvalidCircuit) (.ref C_InvalidCodes) = some false
  xi_InvalidCodes_EvergateError : PySem.W.kitOne K (.ref C_InvalidCodes) (.ref C_EvergateError) = some true
abbrev dl_Decoder {P : Program} {K : PySem.W.Frag} {mg : Str → Option Value} (T : Txt P K mg) (V : S_Decoder) : List Slot := [val pInt V.input_count, own (oL (pTup pInt)) V.codes, obj T.C_Builder ns_Builder (dl_Builder V.builder)]
abbrev sl_Decoder {P : Program} {K : PySem.W.Frag} {mg : Str → Option Value} (T : Txt P K mg) (V : S_Decoder) : List Slot := [val pInt V.input_count, val (pL (pTup pInt)) V.codes, val (pObj T.C_Builder ns_Builder sl_Builder) V.builder]
abbrev dlp_Decoder {P : Program} {K : PySem.W.Frag} {mg : Str → Option Value} (T : Txt P K mg) (bv : V) (V : S_Decoder) : List Slot := [val pInt V.input_count, own (oL (pTup pInt)) V.codes, hold (obj T.C_Builder ns_Builder (dl_Builder V.builder)) bv]
abbrev xns_InvalidCircuit : List Str := ["part", "index"]
abbrev xns_InvalidCodes : List Str := ["state"]
abbrev xns_InvalidMachine : List Str := ["state", "row"]
def exT {P : Program} {K : PySem.W.Frag} {mg : Str → Option Value} (T : Txt P K mg) : ExT := fun e cls d F => (e.1 = "InvalidCircuit" ∧ exFd T.C_InvalidCircuit xns_InvalidCircuit e cls d F) ∨ (e.1 = "InvalidCodes" ∧ exFd T.C_InvalidCodes xns_InvalidCodes e cls d F) ∨ (e.1 = "InvalidCount" ∧ cls = .ref T.C_InvalidCount ∧ d = none) ∨ (e.1 = "InvalidMachine" ∧ exFd T.C_InvalidMachine xns_InvalidMachine e cls d F)
theorem exT_mk_InvalidCircuit {P : Program} {K : PySem.W.Frag} {mg : Str → Option Value} (T : Txt P K mg) {F : Hp} {l : List XF} {dd : Addr} (h : F dd = some (.xd (xfd xns_InvalidCircuit l))) : exT T ("InvalidCircuit", l) (.ref T.C_InvalidCircuit) (some dd) F := by unfold exT exFd; simp; exact h
theorem exT_is_InvalidCircuit {P : Program} {K : PySem.W.Frag} {mg : Str → Option Value} (T : Txt P K mg) {e : Exn} {cls : Value} {d : Option Addr} {F : Hp} (hz : e.1 = "InvalidCircuit") (h : exT T e cls d F) : exFd T.C_InvalidCircuit xns_InvalidCircuit e cls d F := by
  unfold exT at h
  rw [hz] at h
  simpa using h
theorem exT_mk_InvalidCodes {P : Program} {K : PySem.W.Frag} {mg : Str → Option Value} (T : Txt P K mg) {F : Hp} {l : List XF} {dd : Addr} (h : F dd = some (.xd (xfd xns_InvalidCodes l))) : exT T ("InvalidCodes", l) (.ref T.C_InvalidCodes) (some dd) F := by unfold exT exFd; simp; exact h
theorem exT_is_InvalidCodes {P : Program} {K : PySem.W.Frag} {mg : Str → Option Value} (T : Txt P K mg) {e : Exn} {cls : Value} {d : Option Addr} {F : Hp} (hz : e.1 = "InvalidCodes") (h : exT T e cls d F) : exFd T.C_InvalidCodes xns_InvalidCodes e cls d F := by
  unfold exT at h
  rw [hz] at h
  simpa using h
theorem exT_mk_InvalidCount {P : Program} {K : PySem.W.Frag} {mg : Str → Option Value} (T : Txt P K mg) {F : Hp} {l : List XF} : exT T ("InvalidCount", l) (.ref T.C_InvalidCount) none F := by unfold exT; simp
theorem exT_mk_InvalidMachine {P : Program} {K : PySem.W.Frag} {mg : Str → Option Value} (T : Txt P K mg) {F : Hp} {l : List XF} {dd : Addr} (h : F dd = some (.xd (xfd xns_InvalidMachine l))) : exT T ("InvalidMachine", l) (.ref T.C_InvalidMachine) (some dd) F := by unfold exT exFd; simp; exact h
section
variable {P : Program} {w : World} {K : PySem.W.Frag} {mg : Str → Option Value} {base : Heap}
theorem ok_InvalidCircuit_init (T : Txt P K mg) : FnOk P w K mg base CX0 1 T.f_InvalidCircuit_init T.d_InvalidCircuit_init ["self", "part", "index"] (spE T.C_InvalidCircuit xns_InvalidCircuit) :=
  ex2_of (st := s_InvalidCircuit_init) T.FS_InvalidCircuit sc_InvalidCircuit_init T.xu_InvalidCircuit T.xo_InvalidCircuit T.xn_InvalidCircuit_part T.xn_InvalidCircuit_index rfl ⟨fun _ _ _ _ => rfl, fun _ _ _ _ => rfl, fun _ _ _ _ => ⟨_, rfl⟩, fun _ _ _ _ => rfl, fun _ _ _ _ => rfl⟩ rfl rfl (.cons (.v 0 rfl (by decide) (by decide)) (.cons (.c rfl) (.cons (.v 1 rfl (by decide) (by decide)) .nil))) rfl (fun _ _ _ _ => rfl) (fun _ _ _ _ => rfl) (by decide) (by decide) (by decide) (by decide)
theorem ok_InvalidCodes_init (T : Txt P K mg) : FnOk P w K mg base CX0 1 T.f_InvalidCodes_init T.d_InvalidCodes_init ["self", "state"] (spE T.C_InvalidCodes xns_InvalidCodes) :=
  ex1_of (st := s_InvalidCodes_init) T.FS_InvalidCodes sc_InvalidCodes_init T.xu_InvalidCodes T.xo_InvalidCodes T.xn_InvalidCodes_state rfl ⟨fun _ _ _ _ => rfl, fun _ _ _ _ => rfl, fun _ _ _ _ => ⟨_, rfl⟩, fun _ _ _ _ => rfl, fun _ _ _ _ => rfl⟩ rfl rfl (.cons (.c rfl) (.cons (.v 0 rfl (by decide) (by decide)) .nil)) rfl (fun _ _ _ _ => rfl) (by decide) (by decide)
theorem ok_InvalidMachine_init (T : Txt P K mg) : FnOk P w K mg base CX0 1 T.f_InvalidMachine_init T.d_InvalidMachine_init ["self", "state", "row"] (spE T.C_InvalidMachine xns_InvalidMachine) :=
  ex2_of (st := s_InvalidMachine_init) T.FS_InvalidMachine sc_InvalidMachine_init T.xu_InvalidMachine T.xo_InvalidMachine T.xn_InvalidMachine_state T.xn_InvalidMachine_row rfl ⟨fun _ _ _ _ => rfl, fun _ _ _ _ => rfl, fun _ _ _ _ => ⟨_, rfl⟩, fun _ _ _ _ => rfl, fun _ _ _ _ => rfl⟩ rfl rfl (.cons (.c rfl) (.cons (.v 0 rfl (by decide) (by decide)) (.cons (.c rfl) (.cons (.v 1 rfl (by decide) (by decide)) .nil)))) rfl (fun _ _ _ _ => rfl) (fun _ _ _ _ => rfl) (by decide) (by decide) (by decide) (by decide)

theorem ok__law_cell (T : Txt P K mg) : FnOk P w K mg base CX0 1 T.f__law_cell T.d__law_cell ["script", "k"] (spP (fun (z : (List Int) × (Int)) => [val (pScr K) z.1, val pInt z.2]) (fun z => m__law_cell z.1 z.2) (fun r => val pInt r)) := by
  refine fn_pure T.F__law_cell sc__law_cell (fun _ => rfl) (fun cdv A outer s H E hr z r B hm => ?_)
  obtain ⟨script_0, k_0⟩ := z
  replace hm : m__law_cell script_0 k_0 = some r := hm
  unfold m__law_cell at hm
  show Go _ _ _ _ _ [val (pScr K) script_0, val pInt k_0, dead]
  obtain ⟨b_3, h_4, hm⟩ := Option.bind_eq_some_iff.mp hm
  refine go_if (xw_pt (xw_andP (xt_cmp (fun _ => op_lt) o_bl (nomark _) (x_var 1) (x_callB (c_len _) T.g_len (by decide +kernel) (o_lenL SV.scr) (xa1 (x_var 0)))) h_4 (fun z hm => by obtain ⟨v_1, h_2, hm⟩ := Option.bind_eq_some_iff.mp hm; cases hm; exact (xw_and1 (xt_cmp (fun _ => op_ge) o_bl (nomark _) (x_ix (x_var 0) SV.scr (x_var 1) h_2) (x_op (fun _ => op_pow) (o_intC ⟨by decide, by decide, by decide⟩) x_int x_int)))))) (fun hz => ?_) (fun hz => ?_)
  · have hm := condT hz hm
    obtain ⟨v_5, h_6, hm⟩ := Option.bind_eq_some_iff.mp hm
    cases hm
    exact go_ret (x_ix (x_var 0) SV.scr (x_var 1) h_6) (fun v H h => h)
  · have hm := condF hz hm
    refine go_join ?_
    obtain ⟨cell_7, h_8, hm⟩ := letO_some hm
    refine go_set 2 (XV.eqV (x_op (fun _ => op_add) o_int (x_op (fun _ => op_mul) (o_intC (.inl (by decide))) x_int (x_var 1)) x_int) h_8) ?_
    show Go _ _ _ _ _ [val (pScr K) script_0, val pInt k_0, val pInt cell_7]
    obtain ⟨cell_9, hj_15, hm⟩ := Option.bind_eq_some_iff.mp hm
    refine go_ifJ [val (pScr K) script_0, val pInt k_0, val pInt cell_9] (xt_cmp (fun _ => op_gt) o_bl (nomark _) (x_callB (c_len _) T.g_len (by decide +kernel) (o_lenL SV.scr) (xa1 (x_var 0))) x_int) (fun hz => ?_) (fun hz => ?_) ?_
    · have hm := condT hz hj_15
      obtain ⟨h_10, hm⟩ := guardO_some hm
      obtain ⟨v_11, h_12, hm⟩ := Option.bind_eq_some_iff.mp hm
      obtain ⟨cell_13, h_14, hm⟩ := letO_some hm
      refine go_set 2 (XV.eqV (x_op (fun _ => op_add) o_int (x_var 2) (x_op (fun _ => op_mul) (o_intC (.inl (by decide))) x_int (x_ix (x_var 0) SV.scr (x_op (fun _ => op_mod) (o_intC h_10) (x_callTy (fun _ => call_int1) T.g_int (by decide +kernel) o_intI (xa1 (x_var 1))) (x_callB (c_len _) T.g_len (by decide +kernel) (o_lenL SV.scr) (xa1 (x_var 0)))) h_12))) h_14) ?_
      show Go _ _ _ _ _ [val (pScr K) script_0, val pInt k_0, val pInt cell_13]
      cases hm
      exact go_nx (by repeat' (first | exact WkL.nil | exact WkS.refl | exact WkS.dead | exact WkS.list | exact WkS.dict | exact WkS.lstS (fun _ => WkS.list) | refine WkL.cons ?_ ?_))
    · have hm := condF hz hj_15
      cases hm
      exact go_nx (by repeat' (first | exact WkL.nil | exact WkS.refl | exact WkS.dead | exact WkS.list | exact WkS.dict | exact WkS.lstS (fun _ => WkS.list) | refine WkL.cons ?_ ?_))
    obtain ⟨cell_17, h_18, hm⟩ := letO_some hm
    refine go_set 2 (XV.eqV (x_op (fun _ => op_mod) (o_intC (by decide)) (x_callTy (fun _ => call_int1) T.g_int (by decide +kernel) o_intI (xa1 (x_op (fun _ => op_add) o_int (x_op (fun _ => op_mul) (o_intC (.inr (by decide))) (x_var 2) x_int) (x_op (fun _ => op_mul) (o_intC (.inl (by decide))) x_int (x_var 1))))) x_int) h_18) ?_
    show Go _ _ _ _ _ [val (pScr K) script_0, val pInt k_0, val pInt cell_17]
    cases hm
    exact go_ret (x_op (fun _ => op_mod) (o_intC (by decide)) (x_callTy (fun _ => call_int1) T.g_int (by decide +kernel) o_intI (xa1 (x_op (fun _ => op_add) o_int (x_op (fun _ => op_mul) (o_intC (.inr (by decide))) (x_var 2) x_int) (x_op (fun _ => op_mul) (o_intC (.inl (by decide))) x_int (x_op (fun _ => op_fdiv) (o_intC ⟨by decide, by decide⟩) (x_var 2) x_int))))) x_int) (fun v H h => h)

theorem ok__law_moves (T : Txt P K mg) : FnOk P w K mg base CX0 2 T.f__law_moves T.d__law_moves ["script", "at", "inputs", "outputs", "states"] (spP (fun (z : (List Int) × (Int) × (Int) × (Int) × (Int)) => [val (pScr K) z.1, val pInt z.2.1, val pInt z.2.2.1, val pInt z.2.2.2.1, val pInt z.2.2.2.2]) (fun z => m__law_moves z.1 z.2.1 z.2.2.1 z.2.2.2.1 z.2.2.2.2) (fun r => own (oL (pL (pT2 pInt pInt))) r)) := by
  refine fn_pure T.F__law_moves sc__law_moves (fun _ => rfl) (fun cdv A outer s H E hr z r B hm => ?_)
  obtain ⟨script_0, at_0, inputs_0, outputs_0, states_0⟩ := z
  replace hm : m__law_moves script_0 at_0 inputs_0 outputs_0 states_0 = some r := hm
  unfold m__law_moves at hm
  show Go _ _ _ _ _ [val (pScr K) script_0, val pInt at_0, val pInt inputs_0, val pInt outputs_0, val pInt states_0, dead, dead, dead, dead, dead]
  refine go_set 5 (x_lst (p := (pL (pT2 pInt pInt))) (xs := []) xa_nil (Nat.zero_le _)) ?_
  show Go _ _ _ _ _ [val (pScr K) script_0, val pInt at_0, val pInt inputs_0, val pInt outputs_0, val pInt states_0, own (oL (pL (pT2 pInt pInt))) ([] : List (List ((Int) × (Int)))), dead, dead, dead, dead]
  obtain ⟨h_20, hm⟩ := guardO_some hm
  refine go_forK (rs := val pInt) (fun s => [val (pScr K) script_0, val pInt at_0, val pInt inputs_0, val pInt outputs_0, val pInt states_0, own (oL (pL (pT2 pInt pInt))) s, dead, dead, dead, dead]) (fun r => own (oL (pL (pT2 pInt pInt))) r) (xi_range1 T.g_range (x_var 4) h_20) (by repeat' (first | exact WkL.nil | exact WkS.refl | exact WkS.dead | exact WkS.list | exact WkS.dict | exact WkS.lstS (fun _ => WkS.list) | refine WkL.cons ?_ ?_)) hm ?_ ?_ ?_
  · rintro B1 s_22 moves_21 out hx hm hr1 hl1
    refine ⟨_, _, (xg_name 6), ?_⟩
    show Go _ _ _ _ _ [val (pScr K) script_0, val pInt at_0, val pInt inputs_0, val pInt outputs_0, val pInt states_0, own (oL (pL (pT2 pInt pInt))) moves_21, val pInt s_22, dead, dead, dead]
    refine go_set 7 (x_lst (p := (pT2 pInt pInt)) (xs := []) xa_nil (Nat.zero_le _)) ?_
    show Go _ _ _ _ _ [val (pScr K) script_0, val pInt at_0, val pInt inputs_0, val pInt outputs_0, val pInt states_0, own (oL (pL (pT2 pInt pInt))) moves_21, val pInt s_22, own (oL (pT2 pInt pInt)) ([] : List ((Int) × (Int))), dead, dead]
    obtain ⟨h_23, hm⟩ := guardO_some hm
    obtain ⟨h_25, hm⟩ := guardO_some hm
    refine go_forK (rs := val pInt) (fun s => [val (pScr K) script_0, val pInt at_0, val pInt inputs_0, val pInt outputs_0, val pInt states_0, own (oL (pL (pT2 pInt pInt))) moves_21, val pInt s_22, own (oL (pT2 pInt pInt)) s, dead, dead]) (fun r => own (oL (pL (pT2 pInt pInt))) r) (xi_range1 T.g_range (x_op (fun _ => op_shl) (o_intC ⟨h_23.1, h_23.2, by decide⟩) x_int (x_var 2)) h_25) (by repeat' (first | exact WkL.nil | exact WkS.refl | exact WkS.dead | exact WkS.list | exact WkS.dict | exact WkS.lstS (fun _ => WkS.list) | refine WkL.cons ?_ ?_)) hm ?_ ?_ ?_
    · rintro B1 r_27 entry_26 out hx hm hr2 hl2
      refine ⟨_, _, (xg_name 8), ?_⟩
      show Go _ _ _ _ _ [val (pScr K) script_0, val pInt at_0, val pInt inputs_0, val pInt outputs_0, val pInt states_0, own (oL (pL (pT2 pInt pInt))) moves_21, val pInt s_22, own (oL (pT2 pInt pInt)) entry_26, val pInt r_27, dead]
      obtain ⟨r_28, h_29, hm⟩ := Option.bind_eq_some_iff.mp hm
      obtain ⟨h_30, hm⟩ := guardO_some hm
      obtain ⟨cell_31, h_32, hm⟩ := letO_some hm
      refine go_set 9 (XV.eqV (x_op (fun _ => op_mod) (o_intC (by decide)) (x_callTy (fun _ => call_int1) T.g_int (by decide +kernel) o_intI (xa1 (x_op (fun _ => op_mul) (o_intC (.inr (by decide))) (x_op (fun _ => op_add) o_int (x_op (fun _ => op_add) o_int (x_op (fun _ => op_fdiv) (o_intC h_30) (x_call (z := (script_0, (at_0 + s_22))) (ok__law_cell T) (by decide) T.g__law_cell T.k__law_cell T.b__law_cell (xa_cons (x_var 0) (xa_cons (x_op (fun _ => op_add) o_int (x_var 1) (x_var 6)) xa_nil)) rfl (by repeat' (first | exact trivial | refine ⟨no_val, ?_⟩ | refine ⟨no_borL, ?_⟩ | refine ⟨no_bor, ?_⟩)) h_29) (x_op (fun _ => op_add) o_int (x_var 8) x_int)) (x_op (fun _ => op_mul) (o_intC (.inl (by decide))) x_int (x_var 8))) (x_op (fun _ => op_mul) (o_intC (.inl (by decide))) x_int (x_var 6))) x_int))) x_int) h_32) ?_
      show Go _ _ _ _ _ [val (pScr K) script_0, val pInt at_0, val pInt inputs_0, val pInt outputs_0, val pInt states_0, own (oL (pL (pT2 pInt pInt))) moves_21, val pInt s_22, own (oL (pT2 pInt pInt)) entry_26, val pInt r_27, val pInt cell_31]
      obtain ⟨h_33, hm⟩ := guardO_some hm
      obtain ⟨h_34, hm⟩ := guardO_some hm
      obtain ⟨h_35, hm⟩ := guardO_some hm
      obtain ⟨h_36, hm⟩ := guardO_some hm
      refine go_append (pl_name 7 (by repeat' (first | exact Stb.nil | exact trivial | exact stb_map (fun _ => trivial) _ | refine Stb.cons ?_ ?_)) (hso := own_some)) (x_tup2 (xa_cons (x_op (fun _ => op_mod) (o_intC h_33) (x_callTy (fun _ => call_int1) T.g_int (by decide +kernel) o_intI (xa1 (x_var 9))) (x_var 4)) (xa_cons (x_op (fun _ => op_mod) (o_intC h_35) (x_callTy (fun _ => call_int1) T.g_int (by decide +kernel) o_intI (xa1 (x_op (fun _ => op_fdiv) (o_intC ⟨by decide, by decide⟩) (x_var 9) x_int))) (x_op (fun _ => op_shl) (o_intC ⟨h_34.1, h_34.2, by decide⟩) x_int (x_var 3))) xa_nil))) h_36 ?_
      show Go _ _ _ _ _ [val (pScr K) script_0, val pInt at_0, val pInt inputs_0, val pInt outputs_0, val pInt states_0, own (oL (pL (pT2 pInt pInt))) moves_21, val pInt s_22, own (oL (pT2 pInt pInt)) (entry_26 ++ [((cell_31 % states_0), ((cell_31 / (1009 : Int)) % ((1 : Int) * 2 ^ (outputs_0).toNat)))]), val pInt r_27, val pInt cell_31]
      cases hm
      exact go_nil (fun σ H h => ⟨_, rfl, h.wk (by repeat' (first | exact WkL.nil | exact WkS.refl | exact WkS.dead | exact WkS.list | exact WkS.dict | exact WkS.lstS (fun _ => WkS.list) | refine WkL.cons ?_ ?_))⟩)
    · rintro entry_26 hm
      show Go _ _ _ _ _ [val (pScr K) script_0, val pInt at_0, val pInt inputs_0, val pInt outputs_0, val pInt states_0, own (oL (pL (pT2 pInt pInt))) moves_21, val pInt s_22, own (oL (pT2 pInt pInt)) entry_26, dead, dead]
      refine go_wk (Γ' := [val (pScr K) script_0, val pInt at_0, val pInt inputs_0, val pInt outputs_0, val pInt states_0, own (oL (pL (pT2 pInt pInt))) moves_21, val pInt s_22, val (pL (pT2 pInt pInt)) entry_26, dead, dead]) ?_ (WkL.at (j := 7) WkS.list rfl)
      obtain ⟨h_37, hm⟩ := guardO_some hm
      refine go_append (pl_name 5 (by repeat' (first | exact Stb.nil | exact trivial | exact stb_map (fun _ => trivial) _ | refine Stb.cons ?_ ?_)) (hso := own_some)) (x_var 7) h_37 ?_
      show Go _ _ _ _ _ [val (pScr K) script_0, val pInt at_0, val pInt inputs_0, val pInt outputs_0, val pInt states_0, own (oL (pL (pT2 pInt pInt))) (moves_21 ++ [entry_26]), val pInt s_22, val (pL (pT2 pInt pInt)) entry_26, dead, dead]
      cases hm
      exact go_nil (fun σ H h => ⟨_, rfl, h.wk (by repeat' (first | exact WkL.nil | exact WkS.refl | exact WkS.dead | exact WkS.list | exact WkS.dict | exact WkS.lstS (fun _ => WkS.list) | refine WkL.cons ?_ ?_))⟩)
    · rintro r hm v H h
      cases hm
  · rintro moves_21 hm
    show Go _ _ _ _ _ [val (pScr K) script_0, val pInt at_0, val pInt inputs_0, val pInt outputs_0, val pInt states_0, own (oL (pL (pT2 pInt pInt))) moves_21, dead, dead, dead, dead]
    cases hm
    exact go_retV 5 rfl own_some (fun v H h => h)
  · rintro r hm v H h
    cases hm

theorem ok__law_row (T : Txt P K mg) : FnOk P w K mg base CX0 1 T.f__law_row T.d__law_row ["count", "number"] (spP (fun (z : (Int) × (Int)) => [val pInt z.1, val pInt z.2]) (fun z => m__law_row z.1 z.2) (fun r => own (oL pInt) r)) := by
  refine fn_pure T.F__law_row sc__law_row (fun _ => rfl) (fun cdv A outer s H E hr z r B hm => ?_)
  obtain ⟨count_0, number_0⟩ := z
  replace hm : m__law_row count_0 number_0 = some r := hm
  unfold m__law_row at hm
  show Go _ _ _ _ _ [val pInt count_0, val pInt number_0, dead]
  obtain ⟨h_39, hm⟩ := guardO_some hm
  obtain ⟨h_44, hm⟩ := guardO_some hm
  obtain ⟨ys_40, h_41, hm⟩ := Option.bind_eq_some_iff.mp hm
  cases hm
  exact go_ret (x_lc (rs := val pInt) (own := [("k", 2)]) (xi_range1 T.g_range (x_var 0) h_39).ro ⟨fun _ => blkOk_by (N := N__law_row) (sc := defScope s__law_row) (by decide +kernel), fun _ _ => rfl⟩ h_44 h_41 ⟨rfl, trivial⟩ (fun k_42 o hx hm => by obtain ⟨h_43, hm⟩ := guardO_some hm; cases hm; exact ⟨_, _, rfl, (xg_name 2), lc_el (x_op (fun _ => op_mod) (o_intC (by decide)) (x_callTy (fun _ => call_int1) T.g_int (by decide +kernel) o_intI (xa1 (x_op (fun _ => op_shr) (o_intC h_43) (x_var 1) (x_op (fun _ => op_sub) o_int (x_op (fun _ => op_sub) o_int (x_var 0) x_int) (x_var 2))))) x_int)⟩)) (fun v H h => h)

theorem ok__law_codes (T : Txt P K mg) : FnOk P w K mg base CX0 2 T.f__law_codes T.d__law_codes ["cell", "states"] (spP (fun (z : (Int) × (Int)) => [val pInt z.1, val pInt z.2]) (fun z => m__law_codes z.1 z.2) (fun r => val (pL (pL pInt)) r)) := by
  refine fn_pure T.F__law_codes sc__law_codes (fun _ => rfl) (fun cdv A outer s H E hr z r B hm => ?_)
  obtain ⟨cell_0, states_0⟩ := z
  replace hm : m__law_codes cell_0 states_0 = some r := hm
  unfold m__law_codes at hm
  show Go _ _ _ _ _ [val pInt cell_0, val pInt states_0, dead, dead, dead, dead]
  obtain ⟨h_46, hm⟩ := guardO_some hm
  obtain ⟨h_51, hm⟩ := guardO_some hm
  obtain ⟨ys_47, h_48, hm⟩ := Option.bind_eq_some_iff.mp hm
  obtain ⟨width_52, h_53, hm⟩ := letO_some hm
  refine go_set 2 (XV.eqV (x_op (fun _ => op_add) o_int (x_callB (c_sum _) T.g_sum (by decide +kernel) (o_sum LV.own.sv) (xa1 (x_lc (rs := val pInt) (own := [("k", 5)]) (xi_range1 T.g_range x_int h_46).ro ⟨fun _ => blkOk_by (N := N__law_codes) (sc := defScope s__law_codes) (by decide +kernel), fun _ _ => rfl⟩ h_51 h_48 ⟨rfl, trivial⟩ (fun k_49 o hx hm => by obtain ⟨h_50, hm⟩ := guardO_some hm; cases hm; exact ⟨_, _, rfl, (xg_name 5), lc_el (x_callTy (fun _ => call_int1) T.g_int (by decide +kernel) o_intB (xa1 (x_cmp (fun _ => op_lt) o_bl (nomark _) (x_op (fun _ => op_shl) (o_intC ⟨h_50.1, h_50.2, by decide⟩) x_int (x_var 5)) (x_var 1))))⟩)))) (x_op (fun _ => op_mod) (o_intC (by decide)) (x_callTy (fun _ => call_int1) T.g_int (by decide +kernel) o_intI (xa1 (x_var 0))) x_int)) h_53) ?_
  show Go _ _ _ _ _ [val pInt cell_0, val pInt states_0, val pInt width_52, dead, dead, dead]
  obtain ⟨step_54, h_55, hm⟩ := letO_some hm
  refine go_set 3 (XV.eqV (x_op (fun _ => op_add) o_int x_int (x_op (fun _ => op_mul) (o_intC (.inl (by decide))) x_int (x_callTy (fun _ => call_int1) T.g_int (by decide +kernel) o_intI (xa1 (x_op (fun _ => op_fdiv) (o_intC ⟨by decide, by decide⟩) (x_var 0) x_int))))) h_55) ?_
  show Go _ _ _ _ _ [val pInt cell_0, val pInt states_0, val pInt width_52, val pInt step_54, dead, dead]
  obtain ⟨h_57, hm⟩ := guardO_some hm
  obtain ⟨h_66, hm⟩ := guardO_some hm
  obtain ⟨ys_58, h_59, hm⟩ := Option.bind_eq_some_iff.mp hm
  cases hm
  exact go_ret (XV.frz (x_lc (rs := val pInt) (own := [("s", 4)]) (xi_range1 T.g_range (x_var 1) h_57).ro ⟨fun _ => blkOk_by (N := N__law_codes) (sc := defScope s__law_codes) (by decide +kernel), fun _ _ => rfl⟩ h_66 h_59 ⟨rfl, trivial⟩ (fun s_60 o hx hm => by obtain ⟨h_61, hm⟩ := guardO_some hm; obtain ⟨h_62, hm⟩ := guardO_some hm; obtain ⟨h_63, hm⟩ := guardO_some hm; obtain ⟨r_64, h_65, hm⟩ := Option.bind_eq_some_iff.mp hm; cases hm; exact ⟨_, _, rfl, (xg_name 4), lc_el (XV.frz (x_call (z := (width_52, (((step_54 * s_60) + (cell_0 / (64 : Int))) % ((1 : Int) * 2 ^ (width_52).toNat)))) (ok__law_row T) (by decide) T.g__law_row T.k__law_row T.b__law_row (xa_cons (x_var 2) (xa_cons (x_op (fun _ => op_mod) (o_intC h_63) (x_op (fun _ => op_add) o_int (x_op (fun _ => op_mul) (o_intC h_61) (x_var 3) (x_var 4)) (x_callTy (fun _ => call_int1) T.g_int (by decide +kernel) o_intI (xa1 (x_op (fun _ => op_fdiv) (o_intC ⟨by decide, by decide⟩) (x_var 0) x_int)))) (x_op (fun _ => op_shl) (o_intC ⟨h_62.1, h_62.2, by decide⟩) x_int (x_var 2))) xa_nil)) rfl (by repeat' (first | exact trivial | refine ⟨no_val, ?_⟩ | refine ⟨no_borL, ?_⟩ | refine ⟨no_bor, ?_⟩)) h_65))⟩))) (fun v H h => h)

theorem ok_is_move (T : Txt P K mg) : FnOk P w K mg base CX0 1 T.f_is_move T.d_is_move ["move", "state_count", "output_count"] (spP (fun (z : ((Int) × (Int)) × (Int) × (Int)) => [val (pT2 pInt pInt) z.1, val pInt z.2.1, val pInt z.2.2]) (fun z => m_is_move z.1 z.2.1 z.2.2) (fun r => val pBl r)) := by
  refine fn_pure T.F_is_move sc_is_move (fun _ => rfl) (fun cdv A outer s H E hr z r B hm => ?_)
  obtain ⟨move_0, state_count_0, output_count_0⟩ := z
  replace hm : m_is_move move_0 state_count_0 output_count_0 = some r := hm
  unfold m_is_move at hm
  show Go _ _ _ _ _ [val (pT2 pInt pInt) move_0, val pInt state_count_0, val pInt output_count_0, dead, dead]
  refine go_asg (x_var (z := move_0) 0) (xg_tup2 (xgs_cons (xg_name 3) (xgs_cons (xg_name 4) xgs_nil))) ?_
  show Go _ _ _ _ _ [val (pT2 pInt pInt) move_0, val pInt state_count_0, val pInt output_count_0, val pInt move_0.1, val pInt move_0.2]
  obtain ⟨b_70, h_71, hm⟩ := Option.bind_eq_some_iff.mp hm
  cases hm
  exact go_ret (x_andP (x_chain (fun _ => op_le) (fun _ => op_lt) o_bl (fun _ => o_bl) rfl x_int (x_var 3) (fun _ => (x_var 1))) h_71 (fun z hm => by obtain ⟨b_68, h_69, hm⟩ := Option.bind_eq_some_iff.mp hm; cases hm; exact (x_one (x_chainP (fun _ => op_le) (fun _ => op_lt) o_bl h_69 x_int (x_var 4) (fun z hm => by obtain ⟨h_67, hm⟩ := guardO_some hm; cases hm; exact ⟨_, (x_op (fun _ => op_shl) (o_intC ⟨h_67.1, h_67.2, by decide⟩) x_int (x_var 2)), o_bl⟩))))) (fun v H h => h)

theorem ok_Machine_init (T : Txt P K mg) : FnOk P w K mg base (L2.CX P w) 3 T.f_Machine_init T.d_Machine_init ["self", "input_count", "output_count", "moves"] (spMX T.C_Machine (fun (z : (Int) × (Int) × (List (List ((Int) × (Int))))) => [val pInt z.1, val pInt z.2.1, val (pL (pL (pT2 pInt pInt))) z.2.2]) (fun z => m_Machine_init z.1 z.2.1 z.2.2) (fun r => obj T.C_Machine ns_Machine (dl_Machine r)) (exT T)) := by
  refine fn_mutX T.F_Machine_init sc_Machine_init (fun _ => rfl) (fun cdv A outer s H E hr z r v0 B hm hW => ?_)
  obtain ⟨input_count_0, output_count_0, moves_0⟩ := z
  replace hm : m_Machine_init input_count_0 output_count_0 moves_0 = some r := hm
  unfold m_Machine_init at hm
  show Go _ _ _ _ _ [hold (obj T.C_Machine [] []) v0, val pInt input_count_0, val pInt output_count_0, val (pL (pL (pT2 pInt pInt))) moves_0, dead, dead, dead, dead]
  refine go_if (xw_pt (xw_or (xt_not (xt_chain (fun _ => op_le) (fun _ => op_le) o_bl (fun _ => o_bl) rfl x_int (x_var 1) (fun _ => (x_glob (v := .int 6) T.g_MOST_INPUTS_machine ⟨_, rfl⟩ (fun _ => rfl)))) rfl) (fun _ => (xw_or1 (xt_not (xt_chain (fun _ => op_le) (fun _ => op_le) o_bl (fun _ => o_bl) rfl x_int (x_var 2) (fun _ => (x_glob (v := .int 32) T.g_MOST_OUTPUTS_machine ⟨_, rfl⟩ (fun _ => rfl)))) rfl))) rfl)) (fun hz => ?_) (fun hz => ?_)
  · have hm := condT hz hm
    cases hm
    exact go_raise (EX := exT T) (xm_own PySem.F.excBase_ValueError T.xq_InvalidCount T.g_InvalidCount T.xk_InvalidCount T.xs_InvalidCount T.xt_InvalidCount (fun _ => exT_mk_InvalidCount T)) (hW _ rfl _)
  · have hm := condF hz hm
    refine go_join ?_
    refine go_if (xt_cmp (fun _ => op_eq) o_eqI (nomark _) (x_callB (c_len _) T.g_len (by decide +kernel) (o_lenL LV.val.sv) (xa1 (x_var 3))) x_int) (fun hz => ?_) (fun hz => ?_)
    · have hm := condT hz hm
      obtain ⟨h_72, hm⟩ := guardO_some hm
      obtain ⟨h_73, hm⟩ := guardO_some hm
      cases hm
      exact go_raise (EX := exT T) (xm_init (fs := [.i (0 : Int), .i (0 : Int)]) T.xo_InvalidMachine T.xic_InvalidMachine T.xti_InvalidMachine (ok_InvalidMachine_init T) (by decide) T.b_InvalidMachine_init T.g_InvalidMachine (xa_cons x_int (xa_cons x_int xa_nil)) rfl rfl (ok2 h_72 h_73) (fun dd F h => exT_mk_InvalidMachine T h)) (hW _ rfl _)
    · have hm := condF hz hm
      refine go_join ?_
      obtain ⟨h_74, hm⟩ := guardO_some hm
      obtain ⟨rows_75, h_76, hm⟩ := letO_some hm
      refine go_set 4 (XV.eqV (x_op (fun _ => op_shl) (o_intC ⟨h_74.1, h_74.2, by decide⟩) x_int (x_var 1)) h_76) ?_
      show Go _ _ _ _ _ [hold (obj T.C_Machine [] []) v0, val pInt input_count_0, val pInt output_count_0, val (pL (pL (pT2 pInt pInt))) moves_0, val pInt rows_75, dead, dead, dead]
      refine go_forK (rs := val (pT2 pInt (pL (pT2 pInt pInt)))) (fun s => [hold (obj T.C_Machine [] []) v0, val pInt input_count_0, val pInt output_count_0, val (pL (pL (pT2 pInt pInt))) moves_0, val pInt rows_75, dead, dead, dead]) (fun r => noS) (xi_enum' T.g_enumerate (x_var 3)) (by repeat' (first | exact WkL.nil | exact WkS.refl | exact WkS.dead | exact WkS.list | exact WkS.dict | exact WkS.lstS (fun _ => WkS.list) | refine WkL.cons ?_ ?_)) hm ?_ ?_ ?_
      · rintro B1 p_77 s out hx hm hr1 hl1
        refine ⟨_, _, (xg_tup2 (xgs_cons (xg_name 5) (xgs_cons (xg_name 6) xgs_nil))), ?_⟩
        show Go _ _ _ _ _ [hold (obj T.C_Machine [] []) v0, val pInt input_count_0, val pInt output_count_0, val (pL (pL (pT2 pInt pInt))) moves_0, val pInt rows_75, val pInt p_77.1, val (pL (pT2 pInt pInt)) p_77.2, dead]
        refine go_if (xt_cmp (fun _ => op_eq) o_eqI (nomark _) (x_var 5) (x_glob (v := .int 1000) T.g_MOST_STATES ⟨_, rfl⟩ (fun _ => rfl))) (fun hz => ?_) (fun hz => ?_)
        · have hm := condT hz hm
          obtain ⟨h_78, hm⟩ := guardO_some hm
          obtain ⟨h_79, hm⟩ := guardO_some hm
          cases hm
          exact go_raise (EX := exT T) (xm_init (fs := [.i p_77.1, .i (0 : Int)]) T.xo_InvalidMachine T.xic_InvalidMachine T.xti_InvalidMachine (ok_InvalidMachine_init T) (by decide) T.b_InvalidMachine_init T.g_InvalidMachine (xa_cons (x_var 5) (xa_cons x_int xa_nil)) rfl rfl (ok2 h_78 h_79) (fun dd F h => exT_mk_InvalidMachine T h)) (Wish.lift (hW _ (Option.some.inj (hr1 _ rfl)).symm _) hl1)
        · have hm := condF hz hm
          refine go_join ?_
          obtain ⟨h_81, hm⟩ := guardO_some hm
          refine go_forK (rs := val pInt) (fun s => [hold (obj T.C_Machine [] []) v0, val pInt input_count_0, val pInt output_count_0, val (pL (pL (pT2 pInt pInt))) moves_0, val pInt rows_75, val pInt p_77.1, val (pL (pT2 pInt pInt)) p_77.2, dead]) (fun r => noS) (xi_range1 T.g_range (x_callB (c_max2 _) T.g_max (by decide +kernel) o_max2 (xa2 (x_var 4) (x_callB (c_len _) T.g_len (by decide +kernel) (o_lenL LV.val.sv) (xa1 (x_var 6))))) h_81) (by repeat' (first | exact WkL.nil | exact WkS.refl | exact WkS.dead | exact WkS.list | exact WkS.dict | exact WkS.lstS (fun _ => WkS.list) | refine WkL.cons ?_ ?_)) hm ?_ ?_ ?_
          · rintro B1 row_82 s out hx hm hr2 hl2
            refine ⟨_, _, (xg_name 7), ?_⟩
            show Go _ _ _ _ _ [hold (obj T.C_Machine [] []) v0, val pInt input_count_0, val pInt output_count_0, val (pL (pL (pT2 pInt pInt))) moves_0, val pInt rows_75, val pInt p_77.1, val (pL (pT2 pInt pInt)) p_77.2, val pInt row_82]
            obtain ⟨b_87, h_88, hm⟩ := Option.bind_eq_some_iff.mp hm
            refine go_if (xw_pt (xw_orP (xt_cmp (fun _ => op_ge) o_bl (nomark _) (x_var 7) (x_callB (c_min2 _) T.g_min (by decide +kernel) o_min2 (xa2 (x_var 4) (x_callB (c_len _) T.g_len (by decide +kernel) (o_lenL LV.val.sv) (xa1 (x_var 6)))))) h_88 (fun z hm => by obtain ⟨v_83, h_84, hm⟩ := Option.bind_eq_some_iff.mp hm; obtain ⟨r_85, h_86, hm⟩ := Option.bind_eq_some_iff.mp hm; cases hm; exact (xw_or1 (xt_not (xt_val (x_call (z := (v_83, ((moves_0).length : Int), output_count_0)) (ok_is_move T) (by decide) T.g_is_move T.k_is_move T.b_is_move (xa_cons (x_ix (x_var 6) LV.val.sv (x_var 7) h_84) (xa_cons (x_callB (c_len _) T.g_len (by decide +kernel) (o_lenL LV.val.sv) (xa1 (x_var 3))) (xa_cons (x_var 2) xa_nil))) rfl (by repeat' (first | exact trivial | refine ⟨no_val, ?_⟩ | refine ⟨no_borL, ?_⟩ | refine ⟨no_bor, ?_⟩)) h_86)) rfl))))) (fun hz => ?_) (fun hz => ?_)
            · have hm := condT hz hm
              obtain ⟨h_89, hm⟩ := guardO_some hm
              obtain ⟨h_90, hm⟩ := guardO_some hm
              cases hm
              exact go_raise (EX := exT T) (xm_init (fs := [.i p_77.1, .i row_82]) T.xo_InvalidMachine T.xic_InvalidMachine T.xti_InvalidMachine (ok_InvalidMachine_init T) (by decide) T.b_InvalidMachine_init T.g_InvalidMachine (xa_cons (x_var 5) (xa_cons (x_var 7) xa_nil)) rfl rfl (ok2 h_89 h_90) (fun dd F h => exT_mk_InvalidMachine T h)) (Wish.lift (Wish.lift (hW _ (Option.some.inj (hr1 _ (Option.some.inj (hr2 _ rfl)).symm)).symm _) hl1) hl2)
            · have hm := condF hz hm
              refine go_join ?_
              cases hm
              exact go_nil (fun σ H h => ⟨_, rfl, h.wk (by repeat' (first | exact WkL.nil | exact WkS.refl | exact WkS.dead | exact WkS.list | exact WkS.dict | exact WkS.lstS (fun _ => WkS.list) | refine WkL.cons ?_ ?_))⟩)
          · rintro s hm
            show Go _ _ _ _ _ [hold (obj T.C_Machine [] []) v0, val pInt input_count_0, val pInt output_count_0, val (pL (pL (pT2 pInt pInt))) moves_0, val pInt rows_75, val pInt p_77.1, val (pL (pT2 pInt pInt)) p_77.2, dead]
            cases hm
            exact go_nil (fun σ H h => ⟨_, rfl, h.wk (by repeat' (first | exact WkL.nil | exact WkS.refl | exact WkS.dead | exact WkS.list | exact WkS.dict | exact WkS.lstS (fun _ => WkS.list) | refine WkL.cons ?_ ?_))⟩)
          · rintro r hm v H h
            cases hm
            first | exact h | exact ⟨_, rfl, h⟩ | exact (no_noS h).elim
      · rintro s hm
        show Go _ _ _ _ _ [hold (obj T.C_Machine [] []) v0, val pInt input_count_0, val pInt output_count_0, val (pL (pL (pT2 pInt pInt))) moves_0, val pInt rows_75, dead, dead, dead]
        refine go_newfld (pl_hold 0 (by repeat' (first | exact Stb.nil | exact trivial | exact stb_map (fun _ => trivial) _ | refine Stb.cons ?_ ?_))) (x_var 1) T.at_Machine_input_count (by repeat' (first | exact Stb.nil | exact trivial | exact stb_map (fun _ => trivial) _ | refine Stb.cons ?_ ?_)) trivial ?_
        show Go _ _ _ _ _ [hold (obj T.C_Machine ["input_count"] [val pInt input_count_0]) v0, val pInt input_count_0, val pInt output_count_0, val (pL (pL (pT2 pInt pInt))) moves_0, val pInt rows_75, dead, dead, dead]
        refine go_newfld (pl_hold 0 (by repeat' (first | exact Stb.nil | exact trivial | exact stb_map (fun _ => trivial) _ | refine Stb.cons ?_ ?_))) (x_var 2) T.at_Machine_output_count (by repeat' (first | exact Stb.nil | exact trivial | exact stb_map (fun _ => trivial) _ | refine Stb.cons ?_ ?_)) trivial ?_
        show Go _ _ _ _ _ [hold (obj T.C_Machine ["input_count", "output_count"] [val pInt input_count_0, val pInt output_count_0]) v0, val pInt input_count_0, val pInt output_count_0, val (pL (pL (pT2 pInt pInt))) moves_0, val pInt rows_75, dead, dead, dead]
        obtain ⟨h_94, hm⟩ := guardO_some hm
        obtain ⟨ys_91, h_92, hm⟩ := Option.bind_eq_some_iff.mp hm
        refine go_newfld (pl_hold 0 (by repeat' (first | exact Stb.nil | exact trivial | exact stb_map (fun _ => trivial) _ | refine Stb.cons ?_ ?_))) (x_lc (rs := val (pL (pT2 pInt pInt))) (own := [("entry", 6)]) (xi_list (x_var 3)).ro ⟨fun _ => blkOk_by (N := N_Machine_init) (sc := defScope s_Machine_init) (by decide +kernel), fun _ _ => rfl⟩ h_94 h_92 ⟨rfl, trivial⟩ (fun entry_93 o hx hm => by skip; cases hm; exact ⟨_, _, rfl, (xg_name 6), lc_el (XV.frz (x_callTy (c_list _) T.g_list (by decide +kernel) (o_listL LV.val.sv) (xa1 (x_var 6))))⟩)) T.at_Machine_moves (by repeat' (first | exact Stb.nil | exact trivial | exact stb_map (fun _ => trivial) _ | refine Stb.cons ?_ ?_)) trivial ?_
        show Go _ _ _ _ _ [hold (obj T.C_Machine ["input_count", "output_count", "moves"] [val pInt input_count_0, val pInt output_count_0, own (oL (pL (pT2 pInt pInt))) ys_91]) v0, val pInt input_count_0, val pInt output_count_0, val (pL (pL (pT2 pInt pInt))) moves_0, val pInt rows_75, dead, dead, dead]
        cases hm
        exact go_nilMX
      · rintro r hm v H h
        cases hm
        first | exact h | exact ⟨_, rfl, h⟩ | exact (no_noS h).elim

theorem ok_check_codes (T : Txt P K mg) : FnOk P w K mg base (L2.CX P w) 3 T.f_check_codes T.d_check_codes ["machine", "codes"] (spX (fun (z : (S_Machine) × (List (List (Int)))) => [val (pObj T.C_Machine ns_Machine sl_Machine) z.1, val (pL (pL pInt)) z.2]) (fun z => m_check_codes z.1 z.2) (fun r => val pNon r) (exT T)) := by
  refine fn_pureX T.F_check_codes sc_check_codes (fun _ => rfl) (fun cdv A outer s H E hr z r B hm hW => ?_)
  obtain ⟨machine_0, codes_0⟩ := z
  replace hm : m_check_codes machine_0 codes_0 = some r := hm
  unfold m_check_codes at hm
  show Go _ _ _ _ _ [val (pObj T.C_Machine ns_Machine sl_Machine) machine_0, val (pL (pL pInt)) codes_0, dead, dead, dead, dead]
  refine go_set 2 (x_dnewT (q := dInts) (p := pBl) rfl) ?_
  show Go _ _ _ _ _ [val (pObj T.C_Machine ns_Machine sl_Machine) machine_0, val (pL (pL pInt)) codes_0, own (oD dInts pBl) ([] : List ((List Int) × (Bool))), dead, dead, dead]
  obtain ⟨h_96, hm⟩ := guardO_some hm
  refine go_forK (rs := val pInt) (fun s => [val (pObj T.C_Machine ns_Machine sl_Machine) machine_0, val (pL (pL pInt)) codes_0, own (oD dInts pBl) s, dead, dead, dead]) (fun r => (slRx (fun r => val pNon r) r)) (xi_range1 T.g_range (x_callB (c_max2 _) T.g_max (by decide +kernel) o_max2 (xa2 (x_callB (c_len _) T.g_len (by decide +kernel) (o_lenL LV.val.sv) (xa1 (x_fld 2 (x_var 0) OV.val T.at_Machine_moves))) (x_callB (c_len _) T.g_len (by decide +kernel) (o_lenL LV.val.sv) (xa1 (x_var 1))))) h_96) (by repeat' (first | exact WkL.nil | exact WkS.refl | exact WkS.dead | exact WkS.list | exact WkS.dict | exact WkS.lstS (fun _ => WkS.list) | refine WkL.cons ?_ ?_)) hm ?_ ?_ ?_
  · rintro B1 state_98 known_97 out hx hm hr1 hl1
    refine ⟨_, _, (xg_name 3), ?_⟩
    show Go _ _ _ _ _ [val (pObj T.C_Machine ns_Machine sl_Machine) machine_0, val (pL (pL pInt)) codes_0, own (oD dInts pBl) known_97, val pInt state_98, dead, dead]
    refine go_if (xt_cmp (fun _ => op_ge) o_bl (nomark _) (x_var 3) (x_callB (c_min2 _) T.g_min (by decide +kernel) o_min2 (xa2 (x_callB (c_len _) T.g_len (by decide +kernel) (o_lenL LV.val.sv) (xa1 (x_fld 2 (x_var 0) OV.val T.at_Machine_moves))) (x_callB (c_len _) T.g_len (by decide +kernel) (o_lenL LV.val.sv) (xa1 (x_var 1)))))) (fun hz => ?_) (fun hz => ?_)
    · have hm := condT hz hm
      obtain ⟨h_99, hm⟩ := guardO_some hm
      cases hm
      exact go_raise (EX := exT T) (xm_init (fs := [.i state_98]) T.xo_InvalidCodes T.xic_InvalidCodes T.xti_InvalidCodes (ok_InvalidCodes_init T) (by decide) T.b_InvalidCodes_init T.g_InvalidCodes (xa_cons (x_var 3) xa_nil) rfl rfl (ok1 h_99) (fun dd F h => exT_mk_InvalidCodes T h)) (Wish.lift (hW _ (Option.some.inj (hr1 _ rfl)).symm _) hl1)
    · have hm := condF hz hm
      refine go_join ?_
      obtain ⟨v_100, h_101, hm⟩ := Option.bind_eq_some_iff.mp hm
      refine go_set 4 (x_callTy (c_tup _) T.g_tuple (by decide +kernel) (o_tupL LV.val.sv) (xa1 (x_ix (x_var 1) LV.val.sv (x_var 3) h_101))) ?_
      show Go _ _ _ _ _ [val (pObj T.C_Machine ns_Machine sl_Machine) machine_0, val (pL (pL pInt)) codes_0, own (oD dInts pBl) known_97, val pInt state_98, val (pTup pInt) v_100, dead]
      obtain ⟨v_102, h_103, hm⟩ := Option.bind_eq_some_iff.mp hm
      obtain ⟨b_110, h_111, hm⟩ := Option.bind_eq_some_iff.mp hm
      refine go_if (xw_pt (xw_orP (xt_cmp (fun _ => op_ne) o_neI (nomark _) (x_callB (c_len _) T.g_len (by decide +kernel) (o_lenT TV.val) (xa1 (x_var 4))) (x_callB (c_len _) T.g_len (by decide +kernel) (o_lenL LV.val.sv) (xa1 (x_ix (x_var 1) LV.val.sv x_int h_103)))) h_111 (fun z hm => by obtain ⟨b_108, h_109, hm⟩ := Option.bind_eq_some_iff.mp hm; cases hm; exact (xw_orP (xt_din (q := dInts) (x_var 4) (x_varD 2) DV.bor rfl) h_109 (fun z hm => by obtain ⟨h_107, hm⟩ := guardO_some hm; obtain ⟨ys_104, h_105, hm⟩ := Option.bind_eq_some_iff.mp hm; cases hm; exact (xw_or1 (xt_cmp (c_neD _) (o_neD (DE.list DE.int) (by decide) (LV.vw LV.own) (LV.vw LV.own) (fun _ _ => trivial) (fun _ _ => trivial)) (nomark _) (x_lc (rs := val pInt) (own := [("bit", 5)]) (xi_tup (x_var 4)).ro ⟨fun _ => blkOk_by (N := N_check_codes) (sc := defScope s_check_codes) (by decide +kernel), fun _ _ => rfl⟩ h_107 h_105 ⟨rfl, trivial⟩ (fun bit_106 o hx hm => by skip; refine ⟨_, _, rfl, (xg_name 5), lc_if (q := pInt) (xw_pt (xw_and (xt_cmp (fun _ => op_ne) o_neI (nomark _) (x_var 5) x_int) (fun _ => (xw_and1 (xt_cmp (fun _ => op_ne) o_neI (nomark _) (x_var 5) x_int))) rfl)) hm (fun hm => ?_)⟩; skip; cases hm; exact ⟨_, rfl, (x_var 5)⟩)) (x_lst (xs := []) xa_nil (Nat.zero_le _))))))))) (fun hz => ?_) (fun hz => ?_)
      · have hm := condT hz hm
        obtain ⟨h_112, hm⟩ := guardO_some hm
        cases hm
        exact go_raise (EX := exT T) (xm_init (fs := [.i state_98]) T.xo_InvalidCodes T.xic_InvalidCodes T.xti_InvalidCodes (ok_InvalidCodes_init T) (by decide) T.b_InvalidCodes_init T.g_InvalidCodes (xa_cons (x_var 3) xa_nil) rfl rfl (ok1 h_112) (fun dd F h => exT_mk_InvalidCodes T h)) (Wish.lift (hW _ (Option.some.inj (hr1 _ rfl)).symm _) hl1)
      · have hm := condF hz hm
        refine go_join ?_
        obtain ⟨h_113, hm⟩ := guardO_some hm
        refine go_dput (q := dInts) (pl_name 2 (by repeat' (first | exact Stb.nil | exact trivial | exact stb_map (fun _ => trivial) _ | refine Stb.cons ?_ ?_)) (hso := own_some)) (x_var 4) x_bl h_113 ?_
        show Go _ _ _ _ _ [val (pObj T.C_Machine ns_Machine sl_Machine) machine_0, val (pL (pL pInt)) codes_0, own (oD dInts pBl) (dput known_97 v_100 true), val pInt state_98, val (pTup pInt) v_100, dead]
        cases hm
        exact go_nil (fun σ H h => ⟨_, rfl, h.wk (by repeat' (first | exact WkL.nil | exact WkS.refl | exact WkS.dead | exact WkS.list | exact WkS.dict | exact WkS.lstS (fun _ => WkS.list) | refine WkL.cons ?_ ?_))⟩)
  · rintro known_97 hm
    show Go _ _ _ _ _ [val (pObj T.C_Machine ns_Machine sl_Machine) machine_0, val (pL (pL pInt)) codes_0, own (oD dInts pBl) known_97, dead, dead, dead]
    cases hm
    exact go_nil (fun σ H h => fi_off h (fun _ _ => ⟨rfl, _, rfl, rfl⟩))
  · rintro r hm v H h
    cases hm
    first | exact h | exact ⟨_, rfl, h⟩ | exact (no_noS h).elim

theorem ok_Builder_init (T : Txt P K mg) : FnOk P w K mg base CX0 1 T.f_Builder_init T.d_Builder_init ["self", "leaf_count"] (spM (fun _ => obj T.C_Builder [] []) (fun (z : (Int)) => [val pInt z]) (fun z => m_Builder_init z) (fun r => obj T.C_Builder ns_Builder (dl_Builder r)) (fun (_ : Unit) => vNon)) := by
  refine fn_mut T.F_Builder_init sc_Builder_init (fun _ => rfl) (fun cdv A outer s H E hr leaf_count_0 r v0 B hm => ?_)
  replace hm : m_Builder_init leaf_count_0 = some r := hm
  unfold m_Builder_init at hm
  show Go _ _ _ _ _ [hold (obj T.C_Builder [] []) v0, val pInt leaf_count_0]
  refine go_newfld (pl_hold 0 (by repeat' (first | exact Stb.nil | exact trivial | exact stb_map (fun _ => trivial) _ | refine Stb.cons ?_ ?_))) (x_var 1) T.at_Builder_leaf_count (by repeat' (first | exact Stb.nil | exact trivial | exact stb_map (fun _ => trivial) _ | refine Stb.cons ?_ ?_)) trivial ?_
  show Go _ _ _ _ _ [hold (obj T.C_Builder ["leaf_count"] [val pInt leaf_count_0]) v0, val pInt leaf_count_0]
  refine go_newfld (pl_hold 0 (by repeat' (first | exact Stb.nil | exact trivial | exact stb_map (fun _ => trivial) _ | refine Stb.cons ?_ ?_))) (x_lst (p := (pT2 pInt pInt)) (xs := []) xa_nil (Nat.zero_le _)) T.at_Builder_pairs (by repeat' (first | exact Stb.nil | exact trivial | exact stb_map (fun _ => trivial) _ | refine Stb.cons ?_ ?_)) trivial ?_
  show Go _ _ _ _ _ [hold (obj T.C_Builder ["leaf_count", "pairs"] [val pInt leaf_count_0, own (oL (pT2 pInt pInt)) ([] : List ((Int) × (Int)))]) v0, val pInt leaf_count_0]
  refine go_newfld (pl_hold 0 (by repeat' (first | exact Stb.nil | exact trivial | exact stb_map (fun _ => trivial) _ | refine Stb.cons ?_ ?_))) (x_dnewT (q := dII) (p := pInt) rfl) T.at_Builder__nodes (by repeat' (first | exact Stb.nil | exact trivial | exact stb_map (fun _ => trivial) _ | refine Stb.cons ?_ ?_)) trivial ?_
  show Go _ _ _ _ _ [hold (obj T.C_Builder ["leaf_count", "pairs", "_nodes"] [val pInt leaf_count_0, own (oL (pT2 pInt pInt)) ([] : List ((Int) × (Int))), own (oD dII pInt) ([] : List ((Int × Int) × (Int)))]) v0, val pInt leaf_count_0]
  obtain ⟨h_114, hm⟩ := guardO_some hm
  refine go_newfld (pl_hold 0 (by repeat' (first | exact Stb.nil | exact trivial | exact stb_map (fun _ => trivial) _ | refine Stb.cons ?_ ?_))) (x_op (fun _ => op_rep) (o_rep LV.own h_114) (x_lst (xs := [(0 : Int)]) (xa_cons x_int xa_nil) (le_line rfl)) (x_op (fun _ => op_add) o_int (x_var 1) x_int)) T.at_Builder__levels (by repeat' (first | exact Stb.nil | exact trivial | exact stb_map (fun _ => trivial) _ | refine Stb.cons ?_ ?_)) trivial ?_
  show Go _ _ _ _ _ [hold (obj T.C_Builder ["leaf_count", "pairs", "_nodes", "_levels"] [val pInt leaf_count_0, own (oL (pT2 pInt pInt)) ([] : List ((Int) × (Int))), own (oD dII pInt) ([] : List ((Int × Int) × (Int))), own (oL pInt) ((List.replicate ((leaf_count_0 + (1 : Int))).toNat ([(0 : Int)])).flatten)]) v0, val pInt leaf_count_0]
  cases hm
  exact go_nilM 0

theorem ok_Decoder_init (T : Txt P K mg) : FnOk P w K mg base CX0 3 T.f_Decoder_init T.d_Decoder_init ["self", "input_count", "codes"] (spM (fun _ => obj T.C_Decoder [] []) (fun (z : (Int) × (List (List (Int)))) => [val pInt z.1, val (pL (pL pInt)) z.2]) (fun z => m_Decoder_init z.1 z.2) (fun r => obj T.C_Decoder ns_Decoder ((dl_Decoder T) r)) (fun (_ : Unit) => vNon)) := by
  refine fn_mut T.F_Decoder_init sc_Decoder_init (fun _ => rfl) (fun cdv A outer s H E hr z r v0 B hm => ?_)
  obtain ⟨input_count_0, codes_0⟩ := z
  replace hm : m_Decoder_init input_count_0 codes_0 = some r := hm
  unfold m_Decoder_init at hm
  show Go _ _ _ _ _ [hold (obj T.C_Decoder [] []) v0, val pInt input_count_0, val (pL (pL pInt)) codes_0, dead]
  refine go_newfld (pl_hold 0 (by repeat' (first | exact Stb.nil | exact trivial | exact stb_map (fun _ => trivial) _ | refine Stb.cons ?_ ?_))) (x_var 1) T.at_Decoder_input_count (by repeat' (first | exact Stb.nil | exact trivial | exact stb_map (fun _ => trivial) _ | refine Stb.cons ?_ ?_)) trivial ?_
  show Go _ _ _ _ _ [hold (obj T.C_Decoder ["input_count"] [val pInt input_count_0]) v0, val pInt input_count_0, val (pL (pL pInt)) codes_0, dead]
  obtain ⟨h_118, hm⟩ := guardO_some hm
  obtain ⟨ys_115, h_116, hm⟩ := Option.bind_eq_some_iff.mp hm
  refine go_newfld (pl_hold 0 (by repeat' (first | exact Stb.nil | exact trivial | exact stb_map (fun _ => trivial) _ | refine Stb.cons ?_ ?_))) (x_lc (rs := val (pL pInt)) (own := [("code", 3)]) (xi_list (x_var 2)).ro ⟨fun _ => blkOk_by (N := N_Decoder_init) (sc := defScope s_Decoder_init) (by decide +kernel), fun _ _ => rfl⟩ h_118 h_116 ⟨rfl, trivial⟩ (fun code_117 o hx hm => by skip; cases hm; exact ⟨_, _, rfl, (xg_name 3), lc_el (x_callTy (c_tup _) T.g_tuple (by decide +kernel) (o_tupL LV.val.sv) (xa1 (x_var 3)))⟩)) T.at_Decoder_codes (by repeat' (first | exact Stb.nil | exact trivial | exact stb_map (fun _ => trivial) _ | refine Stb.cons ?_ ?_)) trivial ?_
  show Go _ _ _ _ _ [hold (obj T.C_Decoder ["input_count", "codes"] [val pInt input_count_0, own (oL (pTup pInt)) ys_115]) v0, val pInt input_count_0, val (pL (pL pInt)) codes_0, dead]
  obtain ⟨v_119, h_120, hm⟩ := Option.bind_eq_some_iff.mp hm
  obtain ⟨o_121, h_122, hm⟩ := Option.bind_eq_some_iff.mp hm
  refine go_newfld (pl_hold 0 (by repeat' (first | exact Stb.nil | exact trivial | exact stb_map (fun _ => trivial) _ | refine Stb.cons ?_ ?_))) (x_make (z := (input_count_0 + ((v_119).length : Int))) (ok_Builder_init T) (by decide) T.mk_Builder T.g_Builder T.b_Builder_init (xa_cons (x_op (fun _ => op_add) o_int (x_var 1) (x_callB (c_len _) T.g_len (by decide +kernel) (o_lenL LV.val.sv) (xa1 (x_ix (x_var 2) LV.val.sv x_int h_120)))) xa_nil) rfl (by repeat' (first | exact trivial | refine ⟨no_val, ?_⟩ | refine ⟨no_borL, ?_⟩ | refine ⟨no_bor, ?_⟩)) rfl h_122 rfl) T.at_Decoder_builder (by repeat' (first | exact Stb.nil | exact trivial | exact stb_map (fun _ => trivial) _ | refine Stb.cons ?_ ?_)) (by repeat' (first | exact Stb.nil | exact trivial | exact stb_map (fun _ => trivial) _ | refine Stb.cons ?_ ?_)) ?_
  show Go _ _ _ _ _ [hold (obj T.C_Decoder ["input_count", "codes", "builder"] [val pInt input_count_0, own (oL (pTup pInt)) ys_115, obj T.C_Builder ns_Builder (dl_Builder o_121.1)]) v0, val pInt input_count_0, val (pL (pL pInt)) codes_0, dead]
  cases hm
  exact go_nilM 0

theorem ok_is_name (T : Txt P K mg) : FnOk P w K mg base CX0 1 T.f_is_name T.d_is_name ["text"] (spP (fun (z : (Str)) => [val pStr z]) (fun z => m_is_name z) (fun r => val pBl r)) := by
  refine fn_pure T.F_is_name sc_is_name (fun _ => rfl) (fun cdv A outer s H E hr text_0 r B hm => ?_)
  replace hm : m_is_name text_0 = some r := hm
  unfold m_is_name at hm
  show Go _ _ _ _ _ [val pStr text_0, dead]
  obtain ⟨h_123, hm⟩ := guardO_some hm
  obtain ⟨b_127, h_128, hm⟩ := Option.bind_eq_some_iff.mp hm
  refine go_if (xw_pt (xw_orP (xt_not (xt_chain (fun _ => op_le) (fun _ => op_le) o_bl (fun _ => o_bl) rfl x_int (x_callB (fun _ => call_len_str) T.g_len (by decide +kernel) (o_lenS h_123) (xa1 (x_var 0))) (fun _ => (x_glob (v := .int 12) T.g_MOST_SIGNS ⟨_, rfl⟩ (fun _ => rfl)))) rfl) h_128 (fun z hm => by obtain ⟨h_126, hm⟩ := guardO_some hm; obtain ⟨c_124, h_125, hm⟩ := Option.bind_eq_some_iff.mp hm; cases hm; exact (xw_or1 (xt_cmp (fun _ => op_notin_str) o_ninS (by with_unfolding_all rfl) (x_ixS (x_var 0) x_int h_126 h_125) (x_glob (p := pStr) (v := .str "abcdefghijklmnopqrstuvwxyz") T.g_FIRST_SIGNS ⟨_, rfl⟩ (fun _ => rfl))))))) (fun hz => ?_) (fun hz => ?_)
  · have hm := condT hz hm
    cases hm
    exact go_ret x_bl (fun v H h => h)
  · have hm := condF hz hm
    refine go_join ?_
    refine go_forK (rs := fun c => vStr ⟨#[c]⟩) (fun s => [val pStr text_0, dead]) (fun r => val pBl r) (xi_str (x_var 0)) (by repeat' (first | exact WkL.nil | exact WkS.refl | exact WkS.dead | exact WkS.list | exact WkS.dict | exact WkS.lstS (fun _ => WkS.list) | refine WkL.cons ?_ ?_)) hm ?_ ?_ ?_
    · rintro B1 sign_129 s out hx hm hr1 hl1
      refine ⟨_, _, (xg_name 1), ?_⟩
      show Go _ _ _ _ _ [val pStr text_0, val pStr (⟨#[sign_129]⟩ : Str)]
      refine go_if (xt_cmp (fun _ => op_notin_str) o_ninS (by with_unfolding_all rfl) (x_var 1) (x_glob (p := pStr) (v := .str "abcdefghijklmnopqrstuvwxyz0123456789_") T.g_SIGNS ⟨_, rfl⟩ (fun _ => rfl))) (fun hz => ?_) (fun hz => ?_)
      · have hm := condT hz hm
        cases hm
        exact go_ret x_bl (fun v H h => ⟨_, rfl, h⟩)
      · have hm := condF hz hm
        refine go_join ?_
        cases hm
        exact go_nil (fun σ H h => ⟨_, rfl, h.wk (by repeat' (first | exact WkL.nil | exact WkS.refl | exact WkS.dead | exact WkS.list | exact WkS.dict | exact WkS.lstS (fun _ => WkS.list) | refine WkL.cons ?_ ?_))⟩)
    · rintro s hm
      show Go _ _ _ _ _ [val pStr text_0, dead]
      cases hm
      exact go_ret x_bl (fun v H h => h)
    · rintro r hm v H h
      cases hm
      first | exact h | exact ⟨_, rfl, h⟩ | exact (no_noS h).elim

theorem ok_fault_of_leaves (T : Txt P K mg) : FnOk P w K mg base CX0 2 T.f_fault_of_leaves T.d_fault_of_leaves ["inputs", "latches", "node_count"] (spP (fun (z : (List (Str)) × (List ((Str) × (Int) × (Int))) × (Int)) => [val (pL pStr) z.1, val (pL (pT3 pStr pInt pInt)) z.2.1, val pInt z.2.2]) (fun z => m_fault_of_leaves z.1 z.2.1 z.2.2) (fun r => val (pOpt (pT2 pStr pInt)) r)) := by
  refine fn_pure T.F_fault_of_leaves sc_fault_of_leaves (fun _ => rfl) (fun cdv A outer s H E hr z r B hm => ?_)
  obtain ⟨inputs_0, latches_0, node_count_0⟩ := z
  replace hm : m_fault_of_leaves inputs_0 latches_0 node_count_0 = some r := hm
  unfold m_fault_of_leaves at hm
  show Go _ _ _ _ _ [val (pL pStr) inputs_0, val (pL (pT3 pStr pInt pInt)) latches_0, val pInt node_count_0, dead, dead, dead, dead, dead]
  refine go_set 3 (x_dnewK (q := dStr) (p := pBl) rfl) ?_
  show Go _ _ _ _ _ [val (pL pStr) inputs_0, val (pL (pT3 pStr pInt pInt)) latches_0, val pInt node_count_0, own (oD dStr pBl) ([] : List ((Str) × (Bool))), dead, dead, dead, dead]
  refine go_forK (rs := val (pT2 pInt pStr)) (fun s => [val (pL pStr) inputs_0, val (pL (pT3 pStr pInt pInt)) latches_0, val pInt node_count_0, own (oD dStr pBl) s, dead, dead, dead, dead]) (fun r => val (pOpt (pT2 pStr pInt)) r) (xi_enum' T.g_enumerate (x_var 0)) (by repeat' (first | exact WkL.nil | exact WkS.refl | exact WkS.dead | exact WkS.list | exact WkS.dict | exact WkS.lstS (fun _ => WkS.list) | refine WkL.cons ?_ ?_)) hm ?_ ?_ ?_
  · rintro B1 p_131 names_130 out hx hm hr1 hl1
    refine ⟨_, _, (xg_tup2 (xgs_cons (xg_name 4) (xgs_cons (xg_name 5) xgs_nil))), ?_⟩
    show Go _ _ _ _ _ [val (pL pStr) inputs_0, val (pL (pT3 pStr pInt pInt)) latches_0, val pInt node_count_0, own (oD dStr pBl) names_130, val pInt p_131.1, val pStr p_131.2, dead, dead]
    obtain ⟨b_134, h_135, hm⟩ := Option.bind_eq_some_iff.mp hm
    refine go_if (xw_pt (xw_orP (xt_cmp (fun _ => op_eq) o_eqI (nomark _) (x_var 4) (x_glob (v := .int 16) T.g_MOST_INPUTS_circuit ⟨_, rfl⟩ (fun _ => rfl))) h_135 (fun z hm => by obtain ⟨r_132, h_133, hm⟩ := Option.bind_eq_some_iff.mp hm; cases hm; exact (xw_or (xt_not (xt_val (x_call (z := p_131.2) (ok_is_name T) (by decide) T.g_is_name T.k_is_name T.b_is_name (xa_cons (x_var 5) xa_nil) rfl (by repeat' (first | exact trivial | refine ⟨no_val, ?_⟩ | refine ⟨no_borL, ?_⟩ | refine ⟨no_bor, ?_⟩)) h_133)) rfl) (fun _ => (xw_or1 (xt_din (q := dStr) (x_var 5) (x_varD 3) DV.bor rfl))) rfl)))) (fun hz => ?_) (fun hz => ?_)
    · have hm := condT hz hm
      cases hm
      exact go_ret (XV.wk (x_tup2 (xa_cons x_str (xa_cons (x_var 4) xa_nil))) (WkS.opt (fun F v h e => by obtain ⟨l, a, b, q, _⟩ := h; rw [e] at q; cases q))) (fun v H h => ⟨_, rfl, h⟩)
    · have hm := condF hz hm
      refine go_join ?_
      obtain ⟨h_136, hm⟩ := guardO_some hm
      refine go_dput (q := dStr) (pl_name 3 (by repeat' (first | exact Stb.nil | exact trivial | exact stb_map (fun _ => trivial) _ | refine Stb.cons ?_ ?_)) (hso := own_some)) (x_var 5) x_bl h_136 ?_
      show Go _ _ _ _ _ [val (pL pStr) inputs_0, val (pL (pT3 pStr pInt pInt)) latches_0, val pInt node_count_0, own (oD dStr pBl) (dput names_130 p_131.2 true), val pInt p_131.1, val pStr p_131.2, dead, dead]
      cases hm
      exact go_nil (fun σ H h => ⟨_, rfl, h.wk (by repeat' (first | exact WkL.nil | exact WkS.refl | exact WkS.dead | exact WkS.list | exact WkS.dict | exact WkS.lstS (fun _ => WkS.list) | refine WkL.cons ?_ ?_))⟩)
  · rintro names_130 hm
    show Go _ _ _ _ _ [val (pL pStr) inputs_0, val (pL (pT3 pStr pInt pInt)) latches_0, val pInt node_count_0, own (oD dStr pBl) names_130, dead, dead, dead, dead]
    refine go_forK (rs := val (pT2 pInt (pT3 pStr pInt pInt))) (fun s => [val (pL pStr) inputs_0, val (pL (pT3 pStr pInt pInt)) latches_0, val pInt node_count_0, own (oD dStr pBl) s, dead, dead, dead, dead]) (fun r => val (pOpt (pT2 pStr pInt)) r) (xi_enum' T.g_enumerate (x_var 1)) (by repeat' (first | exact WkL.nil | exact WkS.refl | exact WkS.dead | exact WkS.list | exact WkS.dict | exact WkS.lstS (fun _ => WkS.list) | refine WkL.cons ?_ ?_)) hm ?_ ?_ ?_
    · rintro B1 p_138 names_137 out hx hm hr1 hl1
      refine ⟨_, _, (xg_tup2 (xgs_cons (xg_name 4) (xgs_cons (xg_tup3 (xgs_cons (xg_name 5) (xgs_cons (xg_name 6) (xgs_cons (xg_name 7) xgs_nil)))) xgs_nil))), ?_⟩
      show Go _ _ _ _ _ [val (pL pStr) inputs_0, val (pL (pT3 pStr pInt pInt)) latches_0, val pInt node_count_0, own (oD dStr pBl) names_137, val pInt p_138.1, val pStr p_138.2.1, val pInt p_138.2.2.1, val pInt p_138.2.2.2]
      obtain ⟨b_141, h_142, hm⟩ := Option.bind_eq_some_iff.mp hm
      refine go_if (xw_pt (xw_orP (xt_cmp (fun _ => op_eq) o_eqI (nomark _) (x_var 4) (x_glob (v := .int 40) T.g_MOST_LATCHES ⟨_, rfl⟩ (fun _ => rfl))) h_142 (fun z hm => by obtain ⟨r_139, h_140, hm⟩ := Option.bind_eq_some_iff.mp hm; cases hm; exact (xw_or (xt_not (xt_val (x_call (z := p_138.2.1) (ok_is_name T) (by decide) T.g_is_name T.k_is_name T.b_is_name (xa_cons (x_var 5) xa_nil) rfl (by repeat' (first | exact trivial | refine ⟨no_val, ?_⟩ | refine ⟨no_borL, ?_⟩ | refine ⟨no_bor, ?_⟩)) h_140)) rfl) (fun _ => (xw_or1 (xt_din (q := dStr) (x_var 5) (x_varD 3) DV.bor rfl))) rfl)))) (fun hz => ?_) (fun hz => ?_)
      · have hm := condT hz hm
        cases hm
        exact go_ret (XV.wk (x_tup2 (xa_cons x_str (xa_cons (x_var 4) xa_nil))) (WkS.opt (fun F v h e => by obtain ⟨l, a, b, q, _⟩ := h; rw [e] at q; cases q))) (fun v H h => ⟨_, rfl, h⟩)
      · have hm := condF hz hm
        refine go_join ?_
        refine go_if (xw_pt (xw_or (xt_not (xt_chain (fun _ => op_le) (fun _ => op_le) o_bl (fun _ => o_bl) rfl x_int (x_var 6) (fun _ => x_int)) rfl) (fun _ => (xw_or1 (xt_not (xt_chain (fun _ => op_le) (fun _ => op_lt) o_bl (fun _ => o_bl) rfl x_int (x_var 7) (fun _ => (x_op (fun _ => op_mul) (o_intC (.inl (by decide))) x_int (x_var 2)))) rfl))) rfl)) (fun hz => ?_) (fun hz => ?_)
        · have hm := condT hz hm
          cases hm
          exact go_ret (XV.wk (x_tup2 (xa_cons x_str (xa_cons (x_var 4) xa_nil))) (WkS.opt (fun F v h e => by obtain ⟨l, a, b, q, _⟩ := h; rw [e] at q; cases q))) (fun v H h => ⟨_, rfl, h⟩)
        · have hm := condF hz hm
          refine go_join ?_
          obtain ⟨h_143, hm⟩ := guardO_some hm
          refine go_dput (q := dStr) (pl_name 3 (by repeat' (first | exact Stb.nil | exact trivial | exact stb_map (fun _ => trivial) _ | refine Stb.cons ?_ ?_)) (hso := own_some)) (x_var 5) x_bl h_143 ?_
          show Go _ _ _ _ _ [val (pL pStr) inputs_0, val (pL (pT3 pStr pInt pInt)) latches_0, val pInt node_count_0, own (oD dStr pBl) (dput names_137 p_138.2.1 true), val pInt p_138.1, val pStr p_138.2.1, val pInt p_138.2.2.1, val pInt p_138.2.2.2]
          cases hm
          exact go_nil (fun σ H h => ⟨_, rfl, h.wk (by repeat' (first | exact WkL.nil | exact WkS.refl | exact WkS.dead | exact WkS.list | exact WkS.dict | exact WkS.lstS (fun _ => WkS.list) | refine WkL.cons ?_ ?_))⟩)
    · rintro names_137 hm
      show Go _ _ _ _ _ [val (pL pStr) inputs_0, val (pL (pT3 pStr pInt pInt)) latches_0, val pInt node_count_0, own (oD dStr pBl) names_137, dead, dead, dead, dead]
      cases hm
      exact go_ret (XV.wk x_non WkS.optN) (fun v H h => h)
    · rintro r hm v H h
      cases hm
      first | exact h | exact ⟨_, rfl, h⟩ | exact (no_noS h).elim
  · rintro r hm v H h
    cases hm
    first | exact h | exact ⟨_, rfl, h⟩ | exact (no_noS h).elim

theorem ok_fault_of_ands (T : Txt P K mg) : FnOk P w K mg base CX0 1 T.f_fault_of_ands T.d_fault_of_ands ["first_and", "ands"] (spP (fun (z : (Int) × (List ((Int) × (Int)))) => [val pInt z.1, val (pL (pT2 pInt pInt)) z.2]) (fun z => m_fault_of_ands z.1 z.2) (fun r => val (pOpt (pT2 pStr pInt)) r)) := by
  refine fn_pure T.F_fault_of_ands sc_fault_of_ands (fun _ => rfl) (fun cdv A outer s H E hr z r B hm => ?_)
  obtain ⟨first_and_0, ands_0⟩ := z
  replace hm : m_fault_of_ands first_and_0 ands_0 = some r := hm
  unfold m_fault_of_ands at hm
  show Go _ _ _ _ _ [val pInt first_and_0, val (pL (pT2 pInt pInt)) ands_0, dead, dead, dead, dead]
  refine go_forK (rs := val (pT2 pInt (pT2 pInt pInt))) (fun s => [val pInt first_and_0, val (pL (pT2 pInt pInt)) ands_0, dead, dead, dead, dead]) (fun r => val (pOpt (pT2 pStr pInt)) r) (xi_enum' T.g_enumerate (x_var 1)) (by repeat' (first | exact WkL.nil | exact WkS.refl | exact WkS.dead | exact WkS.list | exact WkS.dict | exact WkS.lstS (fun _ => WkS.list) | refine WkL.cons ?_ ?_)) hm ?_ ?_ ?_
  · rintro B1 p_144 s out hx hm hr1 hl1
    refine ⟨_, _, (xg_tup2 (xgs_cons (xg_name 2) (xgs_cons (xg_tup2 (xgs_cons (xg_name 3) (xgs_cons (xg_name 4) xgs_nil))) xgs_nil))), ?_⟩
    show Go _ _ _ _ _ [val pInt first_and_0, val (pL (pT2 pInt pInt)) ands_0, val pInt p_144.1, val pInt p_144.2.1, val pInt p_144.2.2, dead]
    obtain ⟨limit_145, h_146, hm⟩ := letO_some hm
    refine go_set 5 (XV.eqV (x_op (fun _ => op_mul) (o_intC (.inl (by decide))) x_int (x_op (fun _ => op_add) o_int (x_var 0) (x_var 2))) h_146) ?_
    show Go _ _ _ _ _ [val pInt first_and_0, val (pL (pT2 pInt pInt)) ands_0, val pInt p_144.1, val pInt p_144.2.1, val pInt p_144.2.2, val pInt limit_145]
    refine go_if (xw_pt (xw_or (xt_cmp (fun _ => op_eq) o_eqI (nomark _) (x_var 2) (x_glob (v := .int 2000) T.g_MOST_ANDS ⟨_, rfl⟩ (fun _ => rfl))) (fun _ => (xw_or (xt_not (xt_chain (fun _ => op_le) (fun _ => op_lt) o_bl (fun _ => o_bl) rfl x_int (x_var 3) (fun _ => (x_var 5))) rfl) (fun _ => (xw_or1 (xt_not (xt_chain (fun _ => op_le) (fun _ => op_lt) o_bl (fun _ => o_bl) rfl x_int (x_var 4) (fun _ => (x_var 5))) rfl))) rfl)) rfl)) (fun hz => ?_) (fun hz => ?_)
    · have hm := condT hz hm
      cases hm
      exact go_ret (XV.wk (x_tup2 (xa_cons x_str (xa_cons (x_var 2) xa_nil))) (WkS.opt (fun F v h e => by obtain ⟨l, a, b, q, _⟩ := h; rw [e] at q; cases q))) (fun v H h => ⟨_, rfl, h⟩)
    · have hm := condF hz hm
      refine go_join ?_
      cases hm
      exact go_nil (fun σ H h => ⟨_, rfl, h.wk (by repeat' (first | exact WkL.nil | exact WkS.refl | exact WkS.dead | exact WkS.list | exact WkS.dict | exact WkS.lstS (fun _ => WkS.list) | refine WkL.cons ?_ ?_))⟩)
  · rintro s hm
    show Go _ _ _ _ _ [val pInt first_and_0, val (pL (pT2 pInt pInt)) ands_0, dead, dead, dead, dead]
    cases hm
    exact go_ret (XV.wk x_non WkS.optN) (fun v H h => h)
  · rintro r hm v H h
    cases hm
    first | exact h | exact ⟨_, rfl, h⟩ | exact (no_noS h).elim

theorem ok_fault_of_outputs (T : Txt P K mg) : FnOk P w K mg base CX0 2 T.f_fault_of_outputs T.d_fault_of_outputs ["outputs", "node_count"] (spP (fun (z : (List ((Str) × (Int))) × (Int)) => [val (pL (pT2 pStr pInt)) z.1, val pInt z.2]) (fun z => m_fault_of_outputs z.1 z.2) (fun r => val (pOpt (pT2 pStr pInt)) r)) := by
  refine fn_pure T.F_fault_of_outputs sc_fault_of_outputs (fun _ => rfl) (fun cdv A outer s H E hr z r B hm => ?_)
  obtain ⟨outputs_0, node_count_0⟩ := z
  replace hm : m_fault_of_outputs outputs_0 node_count_0 = some r := hm
  unfold m_fault_of_outputs at hm
  show Go _ _ _ _ _ [val (pL (pT2 pStr pInt)) outputs_0, val pInt node_count_0, dead, dead, dead, dead]
  refine go_set 2 (x_dnewK (q := dStr) (p := pBl) rfl) ?_
  show Go _ _ _ _ _ [val (pL (pT2 pStr pInt)) outputs_0, val pInt node_count_0, own (oD dStr pBl) ([] : List ((Str) × (Bool))), dead, dead, dead]
  refine go_forK (rs := val (pT2 pInt (pT2 pStr pInt))) (fun s => [val (pL (pT2 pStr pInt)) outputs_0, val pInt node_count_0, own (oD dStr pBl) s, dead, dead, dead]) (fun r => val (pOpt (pT2 pStr pInt)) r) (xi_enum' T.g_enumerate (x_var 0)) (by repeat' (first | exact WkL.nil | exact WkS.refl | exact WkS.dead | exact WkS.list | exact WkS.dict | exact WkS.lstS (fun _ => WkS.list) | refine WkL.cons ?_ ?_)) hm ?_ ?_ ?_
  · rintro B1 p_148 names_147 out hx hm hr1 hl1
    refine ⟨_, _, (xg_tup2 (xgs_cons (xg_name 3) (xgs_cons (xg_tup2 (xgs_cons (xg_name 4) (xgs_cons (xg_name 5) xgs_nil))) xgs_nil))), ?_⟩
    show Go _ _ _ _ _ [val (pL (pT2 pStr pInt)) outputs_0, val pInt node_count_0, own (oD dStr pBl) names_147, val pInt p_148.1, val pStr p_148.2.1, val pInt p_148.2.2]
    obtain ⟨b_151, h_152, hm⟩ := Option.bind_eq_some_iff.mp hm
    refine go_if (xw_pt (xw_orP (xt_cmp (fun _ => op_eq) o_eqI (nomark _) (x_var 3) (x_glob (v := .int 32) T.g_MOST_OUTPUTS_circuit ⟨_, rfl⟩ (fun _ => rfl))) h_152 (fun z hm => by obtain ⟨r_149, h_150, hm⟩ := Option.bind_eq_some_iff.mp hm; cases hm; exact (xw_or (xt_not (xt_val (x_call (z := p_148.2.1) (ok_is_name T) (by decide) T.g_is_name T.k_is_name T.b_is_name (xa_cons (x_var 4) xa_nil) rfl (by repeat' (first | exact trivial | refine ⟨no_val, ?_⟩ | refine ⟨no_borL, ?_⟩ | refine ⟨no_bor, ?_⟩)) h_150)) rfl) (fun _ => (xw_or1 (xt_din (q := dStr) (x_var 4) (x_varD 2) DV.bor rfl))) rfl)))) (fun hz => ?_) (fun hz => ?_)
    · have hm := condT hz hm
      cases hm
      exact go_ret (XV.wk (x_tup2 (xa_cons x_str (xa_cons (x_var 3) xa_nil))) (WkS.opt (fun F v h e => by obtain ⟨l, a, b, q, _⟩ := h; rw [e] at q; cases q))) (fun v H h => ⟨_, rfl, h⟩)
    · have hm := condF hz hm
      refine go_join ?_
      refine go_if (xt_not (xt_chain (fun _ => op_le) (fun _ => op_lt) o_bl (fun _ => o_bl) rfl x_int (x_var 5) (fun _ => (x_op (fun _ => op_mul) (o_intC (.inl (by decide))) x_int (x_var 1)))) rfl) (fun hz => ?_) (fun hz => ?_)
      · have hm := condT hz hm
        cases hm
        exact go_ret (XV.wk (x_tup2 (xa_cons x_str (xa_cons (x_var 3) xa_nil))) (WkS.opt (fun F v h e => by obtain ⟨l, a, b, q, _⟩ := h; rw [e] at q; cases q))) (fun v H h => ⟨_, rfl, h⟩)
      · have hm := condF hz hm
        refine go_join ?_
        obtain ⟨h_153, hm⟩ := guardO_some hm
        refine go_dput (q := dStr) (pl_name 2 (by repeat' (first | exact Stb.nil | exact trivial | exact stb_map (fun _ => trivial) _ | refine Stb.cons ?_ ?_)) (hso := own_some)) (x_var 4) x_bl h_153 ?_
        show Go _ _ _ _ _ [val (pL (pT2 pStr pInt)) outputs_0, val pInt node_count_0, own (oD dStr pBl) (dput names_147 p_148.2.1 true), val pInt p_148.1, val pStr p_148.2.1, val pInt p_148.2.2]
        cases hm
        exact go_nil (fun σ H h => ⟨_, rfl, h.wk (by repeat' (first | exact WkL.nil | exact WkS.refl | exact WkS.dead | exact WkS.list | exact WkS.dict | exact WkS.lstS (fun _ => WkS.list) | refine WkL.cons ?_ ?_))⟩)
  · rintro names_147 hm
    show Go _ _ _ _ _ [val (pL (pT2 pStr pInt)) outputs_0, val pInt node_count_0, own (oD dStr pBl) names_147, dead, dead, dead]
    cases hm
    exact go_ret (XV.wk x_non WkS.optN) (fun v H h => h)
  · rintro r hm v H h
    cases hm
    first | exact h | exact ⟨_, rfl, h⟩ | exact (no_noS h).elim

theorem ok_Circuit_init (T : Txt P K mg) : FnOk P w K mg base (L2.CX P w) 3 T.f_Circuit_init T.d_Circuit_init ["self", "inputs", "latches", "ands", "outputs"] (spMX T.C_Circuit (fun (z : (List (Str)) × (List ((Str) × (Int) × (Int))) × (List ((Int) × (Int))) × (List ((Str) × (Int)))) => [val (pL pStr) z.1, val (pL (pT3 pStr pInt pInt)) z.2.1, val (pL (pT2 pInt pInt)) z.2.2.1, val (pL (pT2 pStr pInt)) z.2.2.2]) (fun z => m_Circuit_init z.1 z.2.1 z.2.2.1 z.2.2.2) (fun r => obj T.C_Circuit ns_Circuit (dl_Circuit r)) (exT T)) := by
  refine fn_mutX T.F_Circuit_init sc_Circuit_init (fun _ => rfl) (fun cdv A outer s H E hr z r v0 B hm hW => ?_)
  obtain ⟨inputs_0, latches_0, ands_0, outputs_0⟩ := z
  replace hm : m_Circuit_init inputs_0 latches_0 ands_0 outputs_0 = some r := hm
  unfold m_Circuit_init at hm
  show Go _ _ _ _ _ [hold (obj T.C_Circuit [] []) v0, val (pL pStr) inputs_0, val (pL (pT3 pStr pInt pInt)) latches_0, val (pL (pT2 pInt pInt)) ands_0, val (pL (pT2 pStr pInt)) outputs_0, dead, dead, dead]
  obtain ⟨first_and_154, h_155, hm⟩ := letO_some hm
  refine go_set 5 (XV.eqV (x_op (fun _ => op_add) o_int (x_op (fun _ => op_add) o_int x_int (x_callB (c_len _) T.g_len (by decide +kernel) (o_lenL LV.val.sv) (xa1 (x_var 1)))) (x_callB (c_len _) T.g_len (by decide +kernel) (o_lenL LV.val.sv) (xa1 (x_var 2)))) h_155) ?_
  show Go _ _ _ _ _ [hold (obj T.C_Circuit [] []) v0, val (pL pStr) inputs_0, val (pL (pT3 pStr pInt pInt)) latches_0, val (pL (pT2 pInt pInt)) ands_0, val (pL (pT2 pStr pInt)) outputs_0, val pInt first_and_154, dead, dead]
  obtain ⟨node_count_156, h_157, hm⟩ := letO_some hm
  refine go_set 6 (XV.eqV (x_op (fun _ => op_add) o_int (x_var 5) (x_callB (c_len _) T.g_len (by decide +kernel) (o_lenL LV.val.sv) (xa1 (x_var 3)))) h_157) ?_
  show Go _ _ _ _ _ [hold (obj T.C_Circuit [] []) v0, val (pL pStr) inputs_0, val (pL (pT3 pStr pInt pInt)) latches_0, val (pL (pT2 pInt pInt)) ands_0, val (pL (pT2 pStr pInt)) outputs_0, val pInt first_and_154, val pInt node_count_156, dead]
  obtain ⟨r_158, h_159, hm⟩ := Option.bind_eq_some_iff.mp hm
  refine go_set 7 (x_call (z := (inputs_0, latches_0, node_count_156)) (ok_fault_of_leaves T) (by decide) T.g_fault_of_leaves T.k_fault_of_leaves T.b_fault_of_leaves (xa_cons (x_var 1) (xa_cons (x_var 2) (xa_cons (x_var 6) xa_nil))) rfl (by repeat' (first | exact trivial | refine ⟨no_val, ?_⟩ | refine ⟨no_borL, ?_⟩ | refine ⟨no_bor, ?_⟩)) h_159) ?_
  show Go _ _ _ _ _ [hold (obj T.C_Circuit [] []) v0, val (pL pStr) inputs_0, val (pL (pT3 pStr pInt pInt)) latches_0, val (pL (pT2 pInt pInt)) ands_0, val (pL (pT2 pStr pInt)) outputs_0, val pInt first_and_154, val pInt node_count_156, val (pOpt (pT2 pStr pInt)) r_158]
  obtain ⟨fault_160, hj_163, hm⟩ := Option.bind_eq_some_iff.mp hm
  refine go_ifJ [hold (obj T.C_Circuit [] []) v0, val (pL pStr) inputs_0, val (pL (pT3 pStr pInt pInt)) latches_0, val (pL (pT2 pInt pInt)) ands_0, val (pL (pT2 pStr pInt)) outputs_0, val pInt first_and_154, val pInt node_count_156, val (pOpt (pT2 pStr pInt)) fault_160] (xt_cmp (fun _ => op_isN) (o_isN opt_isN) (nomark _) (x_var 7) x_non) (fun hz => ?_) (fun hz => ?_) ?_
  · have hm := condT hz hj_163
    obtain ⟨r_161, h_162, hm⟩ := Option.bind_eq_some_iff.mp hm
    refine go_set 7 (x_call (z := (first_and_154, ands_0)) (ok_fault_of_ands T) (by decide) T.g_fault_of_ands T.k_fault_of_ands T.b_fault_of_ands (xa_cons (x_var 5) (xa_cons (x_var 3) xa_nil)) rfl (by repeat' (first | exact trivial | refine ⟨no_val, ?_⟩ | refine ⟨no_borL, ?_⟩ | refine ⟨no_bor, ?_⟩)) h_162) ?_
    show Go _ _ _ _ _ [hold (obj T.C_Circuit [] []) v0, val (pL pStr) inputs_0, val (pL (pT3 pStr pInt pInt)) latches_0, val (pL (pT2 pInt pInt)) ands_0, val (pL (pT2 pStr pInt)) outputs_0, val pInt first_and_154, val pInt node_count_156, val (pOpt (pT2 pStr pInt)) r_161]
    cases hm
    exact go_nx (by repeat' (first | exact WkL.nil | exact WkS.refl | exact WkS.dead | exact WkS.list | exact WkS.dict | exact WkS.lstS (fun _ => WkS.list) | refine WkL.cons ?_ ?_))
  · have hm := condF hz hj_163
    cases hm
    exact go_nx (by repeat' (first | exact WkL.nil | exact WkS.refl | exact WkS.dead | exact WkS.list | exact WkS.dict | exact WkS.lstS (fun _ => WkS.list) | refine WkL.cons ?_ ?_))
  obtain ⟨fault_165, hj_168, hm⟩ := Option.bind_eq_some_iff.mp hm
  refine go_ifJ [hold (obj T.C_Circuit [] []) v0, val (pL pStr) inputs_0, val (pL (pT3 pStr pInt pInt)) latches_0, val (pL (pT2 pInt pInt)) ands_0, val (pL (pT2 pStr pInt)) outputs_0, val pInt first_and_154, val pInt node_count_156, val (pOpt (pT2 pStr pInt)) fault_165] (xt_cmp (fun _ => op_isN) (o_isN opt_isN) (nomark _) (x_var 7) x_non) (fun hz => ?_) (fun hz => ?_) ?_
  · have hm := condT hz hj_168
    obtain ⟨r_166, h_167, hm⟩ := Option.bind_eq_some_iff.mp hm
    refine go_set 7 (x_call (z := (outputs_0, node_count_156)) (ok_fault_of_outputs T) (by decide) T.g_fault_of_outputs T.k_fault_of_outputs T.b_fault_of_outputs (xa_cons (x_var 4) (xa_cons (x_var 6) xa_nil)) rfl (by repeat' (first | exact trivial | refine ⟨no_val, ?_⟩ | refine ⟨no_borL, ?_⟩ | refine ⟨no_bor, ?_⟩)) h_167) ?_
    show Go _ _ _ _ _ [hold (obj T.C_Circuit [] []) v0, val (pL pStr) inputs_0, val (pL (pT3 pStr pInt pInt)) latches_0, val (pL (pT2 pInt pInt)) ands_0, val (pL (pT2 pStr pInt)) outputs_0, val pInt first_and_154, val pInt node_count_156, val (pOpt (pT2 pStr pInt)) r_166]
    cases hm
    exact go_nx (by repeat' (first | exact WkL.nil | exact WkS.refl | exact WkS.dead | exact WkS.list | exact WkS.dict | exact WkS.lstS (fun _ => WkS.list) | refine WkL.cons ?_ ?_))
  · have hm := condF hz hj_168
    cases hm
    exact go_nx (by repeat' (first | exact WkL.nil | exact WkS.refl | exact WkS.dead | exact WkS.list | exact WkS.dict | exact WkS.lstS (fun _ => WkS.list) | refine WkL.cons ?_ ?_))
  refine go_if (xt_cmp (fun _ => op_notN) (o_notN opt_notN) (nomark _) (x_var 7) x_non) (fun hz => ?_) (fun hz => ?_)
  · have hm := condT hz hm
    obtain ⟨u_170, h_171, hm⟩ := Option.bind_eq_some_iff.mp hm
    obtain ⟨u_172, h_173, hm⟩ := Option.bind_eq_some_iff.mp hm
    obtain ⟨h_174, hm⟩ := guardO_some hm
    obtain ⟨h_175, hm⟩ := guardO_some hm
    cases hm
    exact go_raise (EX := exT T) (xm_init (fs := [.s u_170.1, .i u_172.2]) T.xo_InvalidCircuit T.xic_InvalidCircuit T.xti_InvalidCircuit (ok_InvalidCircuit_init T) (by decide) T.b_InvalidCircuit_init T.g_InvalidCircuit (xa_cons (x_fst (opt_get h_171 (x_var 7)) x_int) (xa_cons (x_snd (opt_get h_173 (x_var 7)) x_int) xa_nil)) rfl rfl (ok2 h_174 h_175) (fun dd F h => exT_mk_InvalidCircuit T h)) (hW _ rfl _)
  · have hm := condF hz hm
    refine go_join ?_
    refine go_newfld (pl_hold 0 (by repeat' (first | exact Stb.nil | exact trivial | exact stb_map (fun _ => trivial) _ | refine Stb.cons ?_ ?_))) (x_callTy (c_list _) T.g_list (by decide +kernel) (o_listL LV.val.sv) (xa1 (x_var 1))) T.at_Circuit_inputs (by repeat' (first | exact Stb.nil | exact trivial | exact stb_map (fun _ => trivial) _ | refine Stb.cons ?_ ?_)) trivial ?_
    show Go _ _ _ _ _ [hold (obj T.C_Circuit ["inputs"] [own (oL pStr) inputs_0]) v0, val (pL pStr) inputs_0, val (pL (pT3 pStr pInt pInt)) latches_0, val (pL (pT2 pInt pInt)) ands_0, val (pL (pT2 pStr pInt)) outputs_0, val pInt first_and_154, val pInt node_count_156, val (pOpt (pT2 pStr pInt)) fault_165]
    refine go_newfld (pl_hold 0 (by repeat' (first | exact Stb.nil | exact trivial | exact stb_map (fun _ => trivial) _ | refine Stb.cons ?_ ?_))) (x_callTy (c_list _) T.g_list (by decide +kernel) (o_listL LV.val.sv) (xa1 (x_var 2))) T.at_Circuit_latches (by repeat' (first | exact Stb.nil | exact trivial | exact stb_map (fun _ => trivial) _ | refine Stb.cons ?_ ?_)) trivial ?_
    show Go _ _ _ _ _ [hold (obj T.C_Circuit ["inputs", "latches"] [own (oL pStr) inputs_0, own (oL (pT3 pStr pInt pInt)) latches_0]) v0, val (pL pStr) inputs_0, val (pL (pT3 pStr pInt pInt)) latches_0, val (pL (pT2 pInt pInt)) ands_0, val (pL (pT2 pStr pInt)) outputs_0, val pInt first_and_154, val pInt node_count_156, val (pOpt (pT2 pStr pInt)) fault_165]
    refine go_newfld (pl_hold 0 (by repeat' (first | exact Stb.nil | exact trivial | exact stb_map (fun _ => trivial) _ | refine Stb.cons ?_ ?_))) (x_callTy (c_list _) T.g_list (by decide +kernel) (o_listL LV.val.sv) (xa1 (x_var 3))) T.at_Circuit_ands (by repeat' (first | exact Stb.nil | exact trivial | exact stb_map (fun _ => trivial) _ | refine Stb.cons ?_ ?_)) trivial ?_
    show Go _ _ _ _ _ [hold (obj T.C_Circuit ["inputs", "latches", "ands"] [own (oL pStr) inputs_0, own (oL (pT3 pStr pInt pInt)) latches_0, own (oL (pT2 pInt pInt)) ands_0]) v0, val (pL pStr) inputs_0, val (pL (pT3 pStr pInt pInt)) latches_0, val (pL (pT2 pInt pInt)) ands_0, val (pL (pT2 pStr pInt)) outputs_0, val pInt first_and_154, val pInt node_count_156, val (pOpt (pT2 pStr pInt)) fault_165]
    refine go_newfld (pl_hold 0 (by repeat' (first | exact Stb.nil | exact trivial | exact stb_map (fun _ => trivial) _ | refine Stb.cons ?_ ?_))) (x_callTy (c_list _) T.g_list (by decide +kernel) (o_listL LV.val.sv) (xa1 (x_var 4))) T.at_Circuit_outputs (by repeat' (first | exact Stb.nil | exact trivial | exact stb_map (fun _ => trivial) _ | refine Stb.cons ?_ ?_)) trivial ?_
    show Go _ _ _ _ _ [hold (obj T.C_Circuit ["inputs", "latches", "ands", "outputs"] [own (oL pStr) inputs_0, own (oL (pT3 pStr pInt pInt)) latches_0, own (oL (pT2 pInt pInt)) ands_0, own (oL (pT2 pStr pInt)) outputs_0]) v0, val (pL pStr) inputs_0, val (pL (pT3 pStr pInt pInt)) latches_0, val (pL (pT2 pInt pInt)) ands_0, val (pL (pT2 pStr pInt)) outputs_0, val pInt first_and_154, val pInt node_count_156, val (pOpt (pT2 pStr pInt)) fault_165]
    cases hm
    exact go_nilMX

theorem ok_Builder_level_of (T : Txt P K mg) : FnOk P w K mg base CX0 1 T.f_Builder_level_of T.d_Builder_level_of ["self", "literal"] (spP (fun (z : (S_Builder) × (Int)) => [val (pObj T.C_Builder ns_Builder sl_Builder) z.1, val pInt z.2]) (fun z => m_Builder_level_of z.1 z.2) (fun r => val pInt r)) := by
  refine fn_pure T.F_Builder_level_of sc_Builder_level_of (fun _ => rfl) (fun cdv A outer s H E hr z r B hm => ?_)
  obtain ⟨self_0, literal_0⟩ := z
  replace hm : m_Builder_level_of self_0 literal_0 = some r := hm
  unfold m_Builder_level_of at hm
  show Go _ _ _ _ _ [val (pObj T.C_Builder ns_Builder sl_Builder) self_0, val pInt literal_0]
  obtain ⟨v_176, h_177, hm⟩ := Option.bind_eq_some_iff.mp hm
  cases hm
  exact go_ret (x_ix (x_fld 3 (x_var 0) OV.val T.at_Builder__levels) LV.val.sv (x_op (fun _ => op_shr) (o_intC (by decide)) (x_var 1) x_int) h_177) (fun v H h => h)

theorem ok_Builder_both (T : Txt P K mg) : FnOk P w K mg base CX0 2 T.f_Builder_both T.d_Builder_both ["self", "left", "right"] (spM (fun z => obj T.C_Builder ns_Builder (dl_Builder z.1)) (fun (z : (S_Builder) × (Int) × (Int)) => [val pInt z.2.1, val pInt z.2.2]) (fun z => m_Builder_both z.1 z.2.1 z.2.2) (fun r => obj T.C_Builder ns_Builder (dl_Builder r)) (fun r => val pInt r)) := by
  refine fn_mut T.F_Builder_both sc_Builder_both (fun _ => rfl) (fun cdv A outer s H E hr z r v0 B hm => ?_)
  obtain ⟨self_0, left_0, right_0⟩ := z
  replace hm : m_Builder_both self_0 left_0 right_0 = some r := hm
  unfold m_Builder_both at hm
  show Go _ _ _ _ _ [hold (obj T.C_Builder ["leaf_count", "pairs", "_nodes", "_levels"] [val pInt self_0.leaf_count, own (oL (pT2 pInt pInt)) self_0.pairs, own (oD dII pInt) self_0._nodes, own (oL pInt) self_0._levels]) v0, val pInt left_0, val pInt right_0, dead, dead]
  obtain ⟨low_178, h_179, hm⟩ := letO_some hm
  obtain ⟨high_180, h_181, hm⟩ := letO_some hm
  refine go_par 3 4 (xa_cons (XV.eqV (x_callB (c_min2 _) T.g_min (by decide +kernel) o_min2 (xa2 (x_var 1) (x_var 2))) h_179) (xa_cons (XV.eqV (x_callB (c_max2 _) T.g_max (by decide +kernel) o_max2 (xa2 (x_var 1) (x_var 2))) h_181) xa_nil)) ?_
  show Go _ _ _ _ _ [hold (obj T.C_Builder ["leaf_count", "pairs", "_nodes", "_levels"] [val pInt self_0.leaf_count, own (oL (pT2 pInt pInt)) self_0.pairs, own (oD dII pInt) self_0._nodes, own (oL pInt) self_0._levels]) v0, val pInt left_0, val pInt right_0, val pInt low_178, val pInt high_180]
  refine go_if (xw_pt (xw_or (xt_cmp (fun _ => op_eq) o_eqI (nomark _) (x_var 3) x_int) (fun _ => (xw_or1 (xt_cmp (fun _ => op_eq) o_eqI (nomark _) (x_var 4) (x_op (fun _ => op_xor) (o_int (g := Builtin.bitXor)) (x_var 3) x_int)))) rfl)) (fun hz => ?_) (fun hz => ?_)
  · have hm := condT hz hm
    cases hm
    exact go_retS (q := ((⟨self_0.leaf_count, self_0.pairs, self_0._nodes, self_0._levels⟩ : S_Builder), ((0 : Int) : Int))) (s1 := fun r => obj T.C_Builder ns_Builder (dl_Builder r)) (Sr := fun r => val pInt r) 0 x_int (fun v H h => mS_rt h)
  · have hm := condF hz hm
    refine go_join ?_
    refine go_if (xw_pt (xw_or (xt_cmp (fun _ => op_eq) o_eqI (nomark _) (x_var 3) x_int) (fun _ => (xw_or1 (xt_cmp (fun _ => op_eq) o_eqI (nomark _) (x_var 3) (x_var 4)))) rfl)) (fun hz => ?_) (fun hz => ?_)
    · have hm := condT hz hm
      cases hm
      exact go_retS (q := ((⟨self_0.leaf_count, self_0.pairs, self_0._nodes, self_0._levels⟩ : S_Builder), (high_180 : Int))) (s1 := fun r => obj T.C_Builder ns_Builder (dl_Builder r)) (Sr := fun r => val pInt r) 0 (x_var 4) (fun v H h => mS_rt h)
    · have hm := condF hz hm
      refine go_join ?_
      obtain ⟨self_182, hj_190, hm⟩ := Option.bind_eq_some_iff.mp hm
      refine go_ifJ [hold (obj T.C_Builder ["leaf_count", "pairs", "_nodes", "_levels"] [val pInt self_182.leaf_count, own (oL (pT2 pInt pInt)) self_182.pairs, own (oD dII pInt) self_182._nodes, own (oL pInt) self_182._levels]) v0, val pInt left_0, val pInt right_0, val pInt low_178, val pInt high_180] (xt_dnin (q := dII) (x_tup2 (xa_cons (x_var 3) (xa_cons (x_var 4) xa_nil))) (x_fldD 2 (x_varH 0) OV.bobj T.at_Builder__nodes) DV.bor rfl) (fun hz => ?_) (fun hz => ?_) ?_
      · have hm := condT hz hj_190
        obtain ⟨h_183, hm⟩ := guardO_some hm
        refine go_append (pl_fld 1 (pl_hold 0 (by repeat' (first | exact Stb.nil | exact trivial | exact stb_map (fun _ => trivial) _ | refine Stb.cons ?_ ?_))) T.at_Builder_pairs (by repeat' (first | exact Stb.nil | exact trivial | exact stb_map (fun _ => trivial) _ | refine Stb.cons ?_ ?_)) own_some) (x_tup2 (xa_cons (x_var 3) (xa_cons (x_var 4) xa_nil))) h_183 ?_
        show Go _ _ _ _ _ [hold (obj T.C_Builder ["leaf_count", "pairs", "_nodes", "_levels"] [val pInt self_0.leaf_count, own (oL (pT2 pInt pInt)) (self_0.pairs ++ [(low_178, high_180)]), own (oD dII pInt) self_0._nodes, own (oL pInt) self_0._levels]) v0, val pInt left_0, val pInt right_0, val pInt low_178, val pInt high_180]
        obtain ⟨r_184, h_185, hm⟩ := Option.bind_eq_some_iff.mp hm
        obtain ⟨r_186, h_187, hm⟩ := Option.bind_eq_some_iff.mp hm
        obtain ⟨h_188, hm⟩ := guardO_some hm
        refine go_append (pl_fld 3 (pl_hold 0 (by repeat' (first | exact Stb.nil | exact trivial | exact stb_map (fun _ => trivial) _ | refine Stb.cons ?_ ?_))) T.at_Builder__levels (by repeat' (first | exact Stb.nil | exact trivial | exact stb_map (fun _ => trivial) _ | refine Stb.cons ?_ ?_)) own_some) (x_op (fun _ => op_add) o_int x_int (x_callB (c_max2 _) T.g_max (by decide +kernel) o_max2 (xa2 (x_lendF 0 rfl (WkS.hold (WkS.obj (sl := sl_Builder) (z := (⟨self_0.leaf_count, (self_0.pairs ++ [(low_178, high_180)]), self_0._nodes, self_0._levels⟩ : S_Builder)) (by repeat' (first | exact WkL.nil | exact WkS.refl | exact WkS.dead | exact WkS.list | exact WkS.dict | exact WkS.lstS (fun _ => WkS.list) | refine WkL.cons ?_ ?_)) (by repeat' (first | exact trivial | refine ⟨⟨_, _, _, rfl⟩, ?_⟩)))) Flat.int (x_meth (z := ((⟨self_0.leaf_count, (self_0.pairs ++ [(low_178, high_180)]), self_0._nodes, self_0._levels⟩ : S_Builder), low_178)) (ok_Builder_level_of T) (by decide) T.cl_Builder T.me_Builder_level_of T.b_Builder_level_of (x_var 0) (xa_cons (x_var 3) xa_nil) rfl (by repeat' (first | exact trivial | refine ⟨no_val, ?_⟩ | refine ⟨no_borL, ?_⟩ | refine ⟨no_bor, ?_⟩)) h_185)) (x_lendF 0 rfl (WkS.hold (WkS.obj (sl := sl_Builder) (z := (⟨self_0.leaf_count, (self_0.pairs ++ [(low_178, high_180)]), self_0._nodes, self_0._levels⟩ : S_Builder)) (by repeat' (first | exact WkL.nil | exact WkS.refl | exact WkS.dead | exact WkS.list | exact WkS.dict | exact WkS.lstS (fun _ => WkS.list) | refine WkL.cons ?_ ?_)) (by repeat' (first | exact trivial | refine ⟨⟨_, _, _, rfl⟩, ?_⟩)))) Flat.int (x_meth (z := ((⟨self_0.leaf_count, (self_0.pairs ++ [(low_178, high_180)]), self_0._nodes, self_0._levels⟩ : S_Builder), high_180)) (ok_Builder_level_of T) (by decide) T.cl_Builder T.me_Builder_level_of T.b_Builder_level_of (x_var 0) (xa_cons (x_var 4) xa_nil) rfl (by repeat' (first | exact trivial | refine ⟨no_val, ?_⟩ | refine ⟨no_borL, ?_⟩ | refine ⟨no_bor, ?_⟩)) h_187))))) h_188 ?_
        show Go _ _ _ _ _ [hold (obj T.C_Builder ["leaf_count", "pairs", "_nodes", "_levels"] [val pInt self_0.leaf_count, own (oL (pT2 pInt pInt)) (self_0.pairs ++ [(low_178, high_180)]), own (oD dII pInt) self_0._nodes, own (oL pInt) (self_0._levels ++ [((1 : Int) + (if r_186 > r_184 then r_186 else r_184))])]) v0, val pInt left_0, val pInt right_0, val pInt low_178, val pInt high_180]
        obtain ⟨h_189, hm⟩ := guardO_some hm
        refine go_dput (q := dII) (pl_fld 2 (pl_hold 0 (by repeat' (first | exact Stb.nil | exact trivial | exact stb_map (fun _ => trivial) _ | refine Stb.cons ?_ ?_))) T.at_Builder__nodes (by repeat' (first | exact Stb.nil | exact trivial | exact stb_map (fun _ => trivial) _ | refine Stb.cons ?_ ?_)) own_some) (x_tup2 (xa_cons (x_var 3) (xa_cons (x_var 4) xa_nil))) (x_op (fun _ => op_add) o_int (x_fld 0 (x_varH 0) OV.bobj T.at_Builder_leaf_count) (x_callB (c_len _) T.g_len (by decide +kernel) (o_lenL LV.bor.sv) (xa1 (x_fldL 1 (x_varH 0) OV.bobj T.at_Builder_pairs)))) h_189 ?_
        show Go _ _ _ _ _ [hold (obj T.C_Builder ["leaf_count", "pairs", "_nodes", "_levels"] [val pInt self_0.leaf_count, own (oL (pT2 pInt pInt)) (self_0.pairs ++ [(low_178, high_180)]), own (oD dII pInt) (dput self_0._nodes (low_178, high_180) (self_0.leaf_count + (((self_0.pairs ++ [(low_178, high_180)])).length : Int))), own (oL pInt) (self_0._levels ++ [((1 : Int) + (if r_186 > r_184 then r_186 else r_184))])]) v0, val pInt left_0, val pInt right_0, val pInt low_178, val pInt high_180]
        cases hm
        exact go_nx (by repeat' (first | exact WkL.nil | exact WkS.refl | exact WkS.dead | exact WkS.list | exact WkS.dict | exact WkS.lstS (fun _ => WkS.list) | refine WkL.cons ?_ ?_))
      · have hm := condF hz hj_190
        cases hm
        exact go_nx (by repeat' (first | exact WkL.nil | exact WkS.refl | exact WkS.dead | exact WkS.list | exact WkS.dict | exact WkS.lstS (fun _ => WkS.list) | refine WkL.cons ?_ ?_))
      obtain ⟨v_192, h_193, hm⟩ := Option.bind_eq_some_iff.mp hm
      cases hm
      exact go_retS (q := ((⟨self_182.leaf_count, self_182.pairs, self_182._nodes, self_182._levels⟩ : S_Builder), (((2 : Int) * v_192) : Int))) (s1 := fun r => obj T.C_Builder ns_Builder (dl_Builder r)) (Sr := fun r => val pInt r) 0 (x_op (fun _ => op_mul) (o_intC (.inl (by decide))) x_int (x_dget (q := dII) (x_fldD 2 (x_varH 0) OV.bobj T.at_Builder__nodes) DV.bor (x_tup2 (xa_cons (x_var 3) (xa_cons (x_var 4) xa_nil))) h_193)) (fun v H h => mS_rt h)

theorem ok_Builder_either (T : Txt P K mg) : FnOk P w K mg base CX0 3 T.f_Builder_either T.d_Builder_either ["self", "left", "right"] (spM (fun z => obj T.C_Builder ns_Builder (dl_Builder z.1)) (fun (z : (S_Builder) × (Int) × (Int)) => [val pInt z.2.1, val pInt z.2.2]) (fun z => m_Builder_either z.1 z.2.1 z.2.2) (fun r => obj T.C_Builder ns_Builder (dl_Builder r)) (fun r => val pInt r)) := by
  refine fn_mut T.F_Builder_either sc_Builder_either (fun _ => rfl) (fun cdv A outer s H E hr z r v0 B hm => ?_)
  obtain ⟨self_0, left_0, right_0⟩ := z
  replace hm : m_Builder_either self_0 left_0 right_0 = some r := hm
  unfold m_Builder_either at hm
  show Go _ _ _ _ _ [hold (obj T.C_Builder ["leaf_count", "pairs", "_nodes", "_levels"] [val pInt self_0.leaf_count, own (oL (pT2 pInt pInt)) self_0.pairs, own (oD dII pInt) self_0._nodes, own (oL pInt) self_0._levels]) v0, val pInt left_0, val pInt right_0]
  obtain ⟨o_194, h_195, hm⟩ := Option.bind_eq_some_iff.mp hm
  cases hm
  exact go_retXS (q := ((⟨o_194.1.leaf_count, o_194.1.pairs, o_194.1._nodes, o_194.1._levels⟩ : S_Builder), ((Builtin.bitXor o_194.2 (1 : Int)) : Int))) (s1 := fun r => obj T.C_Builder ns_Builder (dl_Builder r)) (Sr := fun r => val pInt r) 0 (xm_opL (fun _ => op_xor) (o_int (g := Builtin.bitXor)) (xm_meth (z := ((⟨self_0.leaf_count, self_0.pairs, self_0._nodes, self_0._levels⟩ : S_Builder), (Builtin.bitXor left_0 (1 : Int)), (Builtin.bitXor right_0 (1 : Int)))) (ok_Builder_both T) (by decide) T.cl_Builder T.me_Builder_both T.b_Builder_both (pl_hold 0 (by repeat' (first | exact Stb.nil | exact trivial | exact stb_map (fun _ => trivial) _ | refine Stb.cons ?_ ?_))) rfl (xa_cons (x_op (fun _ => op_xor) (o_int (g := Builtin.bitXor)) (x_var 1) x_int) (xa_cons (x_op (fun _ => op_xor) (o_int (g := Builtin.bitXor)) (x_var 2) x_int) xa_nil)) rfl (by repeat' (first | exact trivial | refine ⟨no_val, ?_⟩ | refine ⟨no_borL, ?_⟩ | refine ⟨no_bor, ?_⟩)) h_195) x_int) (fun v H h => mS_rt h)

theorem ok_Builder_choose (T : Txt P K mg) : FnOk P w K mg base CX0 4 T.f_Builder_choose T.d_Builder_choose ["self", "test", "yes", "no"] (spM (fun z => obj T.C_Builder ns_Builder (dl_Builder z.1)) (fun (z : (S_Builder) × (Int) × (Int) × (Int)) => [val pInt z.2.1, val pInt z.2.2.1, val pInt z.2.2.2]) (fun z => m_Builder_choose z.1 z.2.1 z.2.2.1 z.2.2.2) (fun r => obj T.C_Builder ns_Builder (dl_Builder r)) (fun r => val pInt r)) := by
  refine fn_mut T.F_Builder_choose sc_Builder_choose (fun _ => rfl) (fun cdv A outer s H E hr z r v0 B hm => ?_)
  obtain ⟨self_0, test_0, yes_0, no_0⟩ := z
  replace hm : m_Builder_choose self_0 test_0 yes_0 no_0 = some r := hm
  unfold m_Builder_choose at hm
  show Go _ _ _ _ _ [hold (obj T.C_Builder ["leaf_count", "pairs", "_nodes", "_levels"] [val pInt self_0.leaf_count, own (oL (pT2 pInt pInt)) self_0.pairs, own (oD dII pInt) self_0._nodes, own (oL pInt) self_0._levels]) v0, val pInt test_0, val pInt yes_0, val pInt no_0, dead, dead]
  obtain ⟨o_196, h_197, hm⟩ := Option.bind_eq_some_iff.mp hm
  refine go_setM 4 (xm_meth (z := ((⟨self_0.leaf_count, self_0.pairs, self_0._nodes, self_0._levels⟩ : S_Builder), test_0, yes_0)) (ok_Builder_both T) (by decide) T.cl_Builder T.me_Builder_both T.b_Builder_both (pl_hold 0 (by repeat' (first | exact Stb.nil | exact trivial | exact stb_map (fun _ => trivial) _ | refine Stb.cons ?_ ?_))) rfl (xa_cons (x_var 1) (xa_cons (x_var 2) xa_nil)) rfl (by repeat' (first | exact trivial | refine ⟨no_val, ?_⟩ | refine ⟨no_borL, ?_⟩ | refine ⟨no_bor, ?_⟩)) h_197) ?_
  show Go _ _ _ _ _ [hold (obj T.C_Builder ["leaf_count", "pairs", "_nodes", "_levels"] [val pInt o_196.1.leaf_count, own (oL (pT2 pInt pInt)) o_196.1.pairs, own (oD dII pInt) o_196.1._nodes, own (oL pInt) o_196.1._levels]) v0, val pInt test_0, val pInt yes_0, val pInt no_0, val pInt o_196.2, dead]
  obtain ⟨o_198, h_199, hm⟩ := Option.bind_eq_some_iff.mp hm
  refine go_setM 5 (xm_meth (z := ((⟨o_196.1.leaf_count, o_196.1.pairs, o_196.1._nodes, o_196.1._levels⟩ : S_Builder), (Builtin.bitXor test_0 (1 : Int)), no_0)) (ok_Builder_both T) (by decide) T.cl_Builder T.me_Builder_both T.b_Builder_both (pl_hold 0 (by repeat' (first | exact Stb.nil | exact trivial | exact stb_map (fun _ => trivial) _ | refine Stb.cons ?_ ?_))) rfl (xa_cons (x_op (fun _ => op_xor) (o_int (g := Builtin.bitXor)) (x_var 1) x_int) (xa_cons (x_var 3) xa_nil)) rfl (by repeat' (first | exact trivial | refine ⟨no_val, ?_⟩ | refine ⟨no_borL, ?_⟩ | refine ⟨no_bor, ?_⟩)) h_199) ?_
  show Go _ _ _ _ _ [hold (obj T.C_Builder ["leaf_count", "pairs", "_nodes", "_levels"] [val pInt o_198.1.leaf_count, own (oL (pT2 pInt pInt)) o_198.1.pairs, own (oD dII pInt) o_198.1._nodes, own (oL pInt) o_198.1._levels]) v0, val pInt test_0, val pInt yes_0, val pInt no_0, val pInt o_196.2, val pInt o_198.2]
  obtain ⟨o_200, h_201, hm⟩ := Option.bind_eq_some_iff.mp hm
  cases hm
  exact go_retXS (q := ((⟨o_200.1.leaf_count, o_200.1.pairs, o_200.1._nodes, o_200.1._levels⟩ : S_Builder), (o_200.2 : Int))) (s1 := fun r => obj T.C_Builder ns_Builder (dl_Builder r)) (Sr := fun r => val pInt r) 0 (xm_meth (z := ((⟨o_198.1.leaf_count, o_198.1.pairs, o_198.1._nodes, o_198.1._levels⟩ : S_Builder), o_196.2, o_198.2)) (ok_Builder_either T) (by decide) T.cl_Builder T.me_Builder_either T.b_Builder_either (pl_hold 0 (by repeat' (first | exact Stb.nil | exact trivial | exact stb_map (fun _ => trivial) _ | refine Stb.cons ?_ ?_))) rfl (xa_cons (x_var 4) (xa_cons (x_var 5) xa_nil)) rfl (by repeat' (first | exact trivial | refine ⟨no_val, ?_⟩ | refine ⟨no_borL, ?_⟩ | refine ⟨no_bor, ?_⟩)) h_201) (fun v H h => mS_rt h)

theorem ok_mask_of (T : Txt P K mg) : FnOk P w K mg base CX0 1 T.f_mask_of T.d_mask_of ["case_count"] (spP (fun (z : (Int)) => [val pInt z]) (fun z => m_mask_of z) (fun r => val pInt r)) := by
  refine fn_pure T.F_mask_of sc_mask_of (fun _ => rfl) (fun cdv A outer s H E hr case_count_0 r B hm => ?_)
  replace hm : m_mask_of case_count_0 = some r := hm
  unfold m_mask_of at hm
  show Go _ _ _ _ _ [val pInt case_count_0]
  obtain ⟨h_202, hm⟩ := guardO_some hm
  cases hm
  exact go_ret (x_op (fun _ => op_sub) o_int (x_op (fun _ => op_shl) (o_intC ⟨h_202.1, h_202.2, by decide⟩) x_int (x_var 0)) x_int) (fun v H h => h)

theorem okpr_Decoder_under_rows (T : Txt P K mg) (bv : V) : ∀ fu : Nat, FnOk P w K mg base CX0 (5 + fu) T.f_Decoder_under_rows T.d_Decoder_under_rows ["self", "table", "place"] (spM (fun z => obj T.C_Decoder ns_Decoder (dlp_Decoder T bv z.1)) (fun (z : (S_Decoder) × (Int) × (Int)) => [val pInt z.2.1, val pInt z.2.2]) (fun z => mr_Decoder_under_rows fu z.1 z.2.1 z.2.2) (fun r => obj T.C_Decoder ns_Decoder (dlp_Decoder T bv r)) (fun r => val pInt r)) := by
  intro fu
  induction fu with
  | zero =>
    refine fn_mut T.F_Decoder_under_rows sc_Decoder_under_rows (fun _ => rfl) (fun cdv A outer s H E hr z r v0 B hm => ?_)
    have hm2 : (none : Option _) = some r := hm
    cases hm2
  | succ fu ih =>
    refine fn_mut T.F_Decoder_under_rows sc_Decoder_under_rows (fun _ => rfl) (fun cdv A outer s H E hr z r v0 B hm => ?_)
    obtain ⟨self_0, table_0, place_0⟩ := z
    replace hm : mr_Decoder_under_rows (fu + 1) self_0 table_0 place_0 = some r := hm
    rw [mr_Decoder_under_rows] at hm
    show Go _ _ _ _ _ [hold (obj T.C_Decoder ["input_count", "codes", "builder"] [val pInt self_0.input_count, own (oL (pTup pInt)) self_0.codes, hold (obj T.C_Builder ns_Builder (dl_Builder self_0.builder)) bv]) v0, val pInt table_0, val pInt place_0, dead, dead, dead, dead, dead]
    obtain ⟨count_203, h_204, hm⟩ := letO_some hm
    refine go_set 3 (XV.eqV (x_op (fun _ => op_sub) o_int (x_fld 0 (x_varH 0) OV.bobj T.at_Decoder_input_count) (x_var 2)) h_204) ?_
    show Go _ _ _ _ _ [hold (obj T.C_Decoder ["input_count", "codes", "builder"] [val pInt self_0.input_count, own (oL (pTup pInt)) self_0.codes, hold (obj T.C_Builder ns_Builder (dl_Builder self_0.builder)) bv]) v0, val pInt table_0, val pInt place_0, val pInt count_203, dead, dead, dead, dead]
    refine go_if (xt_cmp (fun _ => op_eq) o_eqI (nomark _) (x_var 1) x_int) (fun hz => ?_) (fun hz => ?_)
    · have hm := condT hz hm
      cases hm
      exact go_retS (q := ((⟨self_0.input_count, self_0.codes, self_0.builder⟩ : S_Decoder), ((0 : Int) : Int))) (s1 := fun r => obj T.C_Decoder ns_Decoder (dlp_Decoder T bv r)) (Sr := fun r => val pInt r) 0 x_int (fun v H h => mS_rt h)
    · have hm := condF hz hm
      refine go_join ?_
      obtain ⟨h_205, hm⟩ := guardO_some hm
      obtain ⟨r_206, h_207, hm⟩ := Option.bind_eq_some_iff.mp hm
      refine go_if (xt_cmp (fun _ => op_eq) o_eqI (nomark _) (x_var 1) (x_call (z := ((1 : Int) * 2 ^ (count_203).toNat)) (ok_mask_of T) (Nat.le_trans (by decide : _ ≤ 5) (Nat.le_add_right 5 fu)) T.g_mask_of T.k_mask_of T.b_mask_of (xa_cons (x_op (fun _ => op_shl) (o_intC ⟨h_205.1, h_205.2, by decide⟩) x_int (x_var 3)) xa_nil) rfl (by repeat' (first | exact trivial | refine ⟨no_val, ?_⟩ | refine ⟨no_borL, ?_⟩ | refine ⟨no_bor, ?_⟩)) h_207)) (fun hz => ?_) (fun hz => ?_)
      · have hm := condT hz hm
        cases hm
        exact go_retS (q := ((⟨self_0.input_count, self_0.codes, self_0.builder⟩ : S_Decoder), ((1 : Int) : Int))) (s1 := fun r => obj T.C_Decoder ns_Decoder (dlp_Decoder T bv r)) (Sr := fun r => val pInt r) 0 x_int (fun v H h => mS_rt h)
      · have hm := condF hz hm
        refine go_join ?_
        obtain ⟨h_208, hm⟩ := guardO_some hm
        obtain ⟨half_209, h_210, hm⟩ := letO_some hm
        refine go_set 4 (XV.eqV (x_op (fun _ => op_shl) (o_intC ⟨h_208.1, h_208.2, by decide⟩) x_int (x_op (fun _ => op_sub) o_int (x_var 3) x_int)) h_210) ?_
        show Go _ _ _ _ _ [hold (obj T.C_Decoder ["input_count", "codes", "builder"] [val pInt self_0.input_count, own (oL (pTup pInt)) self_0.codes, hold (obj T.C_Builder ns_Builder (dl_Builder self_0.builder)) bv]) v0, val pInt table_0, val pInt place_0, val pInt count_203, val pInt half_209, dead, dead, dead]
        obtain ⟨r_211, h_212, hm⟩ := Option.bind_eq_some_iff.mp hm
        obtain ⟨h_213, hm⟩ := guardO_some hm
        obtain ⟨low_214, h_215, hm⟩ := letO_some hm
        obtain ⟨high_216, h_217, hm⟩ := letO_some hm
        refine go_par 5 6 (xa_cons (XV.eqV (x_op (fun _ => op_and) (o_int (g := Builtin.bitAnd)) (x_var 1) (x_call (z := half_209) (ok_mask_of T) (Nat.le_trans (by decide : _ ≤ 5) (Nat.le_add_right 5 fu)) T.g_mask_of T.k_mask_of T.b_mask_of (xa_cons (x_var 4) xa_nil) rfl (by repeat' (first | exact trivial | refine ⟨no_val, ?_⟩ | refine ⟨no_borL, ?_⟩ | refine ⟨no_bor, ?_⟩)) h_212)) h_215) (xa_cons (XV.eqV (x_op (fun _ => op_shr) (o_intC h_213) (x_var 1) (x_var 4)) h_217) xa_nil)) ?_
        show Go _ _ _ _ _ [hold (obj T.C_Decoder ["input_count", "codes", "builder"] [val pInt self_0.input_count, own (oL (pTup pInt)) self_0.codes, hold (obj T.C_Builder ns_Builder (dl_Builder self_0.builder)) bv]) v0, val pInt table_0, val pInt place_0, val pInt count_203, val pInt half_209, val pInt low_214, val pInt high_216, dead]
        refine go_if (xt_cmp (fun _ => op_eq) o_eqI (nomark _) (x_var 5) (x_var 6)) (fun hz => ?_) (fun hz => ?_)
        · have hm := condT hz hm
          obtain ⟨o_218, h_219, hm⟩ := Option.bind_eq_some_iff.mp hm
          cases hm
          exact go_retXS (q := ((⟨o_218.1.input_count, o_218.1.codes, o_218.1.builder⟩ : S_Decoder), (o_218.2 : Int))) (s1 := fun r => obj T.C_Decoder ns_Decoder (dlp_Decoder T bv r)) (Sr := fun r => val pInt r) 0 (xm_meth (z := ((⟨self_0.input_count, self_0.codes, self_0.builder⟩ : S_Decoder), low_214, (place_0 + (1 : Int)))) ih (Nat.le_refl _) T.cl_Decoder T.me_Decoder_under_rows T.b_Decoder_under_rows (pl_hold 0 (by repeat' (first | exact Stb.nil | exact trivial | exact stb_map (fun _ => trivial) _ | refine Stb.cons ?_ ?_))) rfl (xa_cons (x_var 5) (xa_cons (x_op (fun _ => op_add) o_int (x_var 2) x_int) xa_nil)) rfl (by repeat' (first | exact trivial | refine ⟨no_val, ?_⟩ | refine ⟨no_borL, ?_⟩ | refine ⟨no_bor, ?_⟩)) h_219) (fun v H h => mS_rt h)
        · have hm := condF hz hm
          refine go_join ?_
          obtain ⟨o_220, h_221, hm⟩ := Option.bind_eq_some_iff.mp hm
          refine go_setM 7 (xm_meth (z := ((⟨self_0.input_count, self_0.codes, self_0.builder⟩ : S_Decoder), high_216, (place_0 + (1 : Int)))) ih (Nat.le_refl _) T.cl_Decoder T.me_Decoder_under_rows T.b_Decoder_under_rows (pl_hold 0 (by repeat' (first | exact Stb.nil | exact trivial | exact stb_map (fun _ => trivial) _ | refine Stb.cons ?_ ?_))) rfl (xa_cons (x_var 6) (xa_cons (x_op (fun _ => op_add) o_int (x_var 2) x_int) xa_nil)) rfl (by repeat' (first | exact trivial | refine ⟨no_val, ?_⟩ | refine ⟨no_borL, ?_⟩ | refine ⟨no_bor, ?_⟩)) h_221) ?_
          show Go _ _ _ _ _ [hold (obj T.C_Decoder ["input_count", "codes", "builder"] [val pInt o_220.1.input_count, own (oL (pTup pInt)) o_220.1.codes, hold (obj T.C_Builder ns_Builder (dl_Builder o_220.1.builder)) bv]) v0, val pInt table_0, val pInt place_0, val pInt count_203, val pInt half_209, val pInt low_214, val pInt high_216, val pInt o_220.2]
          obtain ⟨o_222, h_223, hm⟩ := Option.bind_eq_some_iff.mp hm
          obtain ⟨o_224, h_225, hm⟩ := Option.bind_eq_some_iff.mp hm
          cases hm
          exact go_retXS (q := ((⟨o_222.1.input_count, o_222.1.codes, o_224.1⟩ : S_Decoder), (o_224.2 : Int))) (s1 := fun r => obj T.C_Decoder ns_Decoder (dlp_Decoder T bv r)) (Sr := fun r => val pInt r) 0 (xm_methH (z := (o_222.1.builder, ((2 : Int) * ((1 : Int) + place_0)), o_220.2, o_222.2)) (q := o_224) (ok_Builder_choose T) (Nat.le_trans (by decide : _ ≤ 5) (Nat.le_add_right 5 fu)) T.cl_Builder T.me_Builder_choose T.b_Builder_choose (pl_fld 2 (pl_hold 0 (by repeat' (first | exact Stb.nil | exact trivial | exact stb_map (fun _ => trivial) _ | refine Stb.cons ?_ ?_))) T.at_Decoder_builder (by repeat' (first | exact Stb.nil | exact trivial | exact stb_map (fun _ => trivial) _ | refine Stb.cons ?_ ?_)) hold_some) (xam_cons (x_op (fun _ => op_mul) (o_intC (.inl (by decide))) x_int (x_op (fun _ => op_add) o_int x_int (x_var 2))) Flat.int (xam_cons (x_var 7) Flat.int (xam_last (xm_meth (z := ((⟨o_220.1.input_count, o_220.1.codes, o_220.1.builder⟩ : S_Decoder), low_214, (place_0 + (1 : Int)))) ih (Nat.le_refl _) T.cl_Decoder T.me_Decoder_under_rows T.b_Decoder_under_rows (pl_hold 0 (by repeat' (first | exact Stb.nil | exact trivial | exact stb_map (fun _ => trivial) _ | refine Stb.cons ?_ ?_))) rfl (xa_cons (x_var 5) (xa_cons (x_op (fun _ => op_add) o_int (x_var 2) x_int) xa_nil)) rfl (by repeat' (first | exact trivial | refine ⟨no_val, ?_⟩ | refine ⟨no_borL, ?_⟩ | refine ⟨no_bor, ?_⟩)) h_223)))) (hp_fld 2 (hp_name 0 (by repeat' (first | exact Stb.nil | exact trivial | exact stb_map (fun _ => trivial) _ | refine Stb.cons ?_ ?_))) (by repeat' (first | exact Stb.nil | exact trivial | exact stb_map (fun _ => trivial) _ | refine Stb.cons ?_ ?_))) rfl rfl h_225) (fun v H h => mS_rt h)
theorem okp_Decoder_under_rows (T : Txt P K mg) (bv : V) : FnOk P w K mg base CX0 10 T.f_Decoder_under_rows T.d_Decoder_under_rows ["self", "table", "place"] (spM (fun z => obj T.C_Decoder ns_Decoder (dlp_Decoder T bv z.1)) (fun (z : (S_Decoder) × (Int) × (Int)) => [val pInt z.2.1, val pInt z.2.2]) (fun z => m_Decoder_under_rows z.1 z.2.1 z.2.2) (fun r => obj T.C_Decoder ns_Decoder (dlp_Decoder T bv r)) (fun r => val pInt r)) := okpr_Decoder_under_rows T bv 5
theorem okpr_Decoder_under_codes (T : Txt P K mg) (bv : V) : ∀ fu : Nat, FnOk P w K mg base CX0 (11 + fu) T.f_Decoder_under_codes T.d_Decoder_under_codes ["self", "tables", "states", "place"] (spM (fun z => obj T.C_Decoder ns_Decoder (dlp_Decoder T bv z.1)) (fun (z : (S_Decoder) × (List (Int)) × (List (Int)) × (Int)) => [val (pL pInt) z.2.1, val (pL pInt) z.2.2.1, val pInt z.2.2.2]) (fun z => mr_Decoder_under_codes fu z.1 z.2.1 z.2.2.1 z.2.2.2) (fun r => obj T.C_Decoder ns_Decoder (dlp_Decoder T bv r)) (fun r => val pInt r)) := by
  intro fu
  induction fu with
  | zero =>
    refine fn_mut T.F_Decoder_under_codes sc_Decoder_under_codes (fun _ => rfl) (fun cdv A outer s H E hr z r v0 B hm => ?_)
    have hm2 : (none : Option _) = some r := hm
    cases hm2
  | succ fu ih =>
    refine fn_mut T.F_Decoder_under_codes sc_Decoder_under_codes (fun _ => rfl) (fun cdv A outer s H E hr z r v0 B hm => ?_)
    obtain ⟨self_0, tables_0, states_0, place_0⟩ := z
    replace hm : mr_Decoder_under_codes (fu + 1) self_0 tables_0 states_0 place_0 = some r := hm
    rw [mr_Decoder_under_codes] at hm
    show Go _ _ _ _ _ [hold (obj T.C_Decoder ["input_count", "codes", "builder"] [val pInt self_0.input_count, own (oL (pTup pInt)) self_0.codes, hold (obj T.C_Builder ns_Builder (dl_Builder self_0.builder)) bv]) v0, val (pL pInt) tables_0, val (pL pInt) states_0, val pInt place_0, dead, dead, dead, dead, dead]
    obtain ⟨h_235, hm⟩ := guardO_some hm
    obtain ⟨ys_226, h_227, hm⟩ := Option.bind_eq_some_iff.mp hm
    refine go_if (xt_cmp (c_eqD _) (o_eqD (DE.list DE.int) (by decide) (LV.vw LV.own) (LV.vw LV.own) (fun _ _ => trivial) (fun _ _ => trivial)) (nomark _) (x_lc (rs := val pInt) (own := [("state", 8)]) (xi_list (x_var 2)).ro ⟨fun _ => blkOk_by (N := N_Decoder_under_codes) (sc := defScope s_Decoder_under_codes) (by decide +kernel), fun _ _ => rfl⟩ h_235 h_227 ⟨rfl, trivial⟩ (fun state_228 o hx hm => by obtain ⟨v_229, h_230, hm⟩ := Option.bind_eq_some_iff.mp hm; obtain ⟨v_231, h_232, hm⟩ := Option.bind_eq_some_iff.mp hm; obtain ⟨v_233, h_234, hm⟩ := Option.bind_eq_some_iff.mp hm; refine ⟨_, _, rfl, (xg_name 8), lc_if (q := pInt) (xt_cmp (fun _ => op_ne) o_neI (nomark _) (x_ix (x_var 1) LV.val.sv (x_var 8) h_230) (x_ix (x_var 1) LV.val.sv (x_ix (x_var 2) LV.val.sv x_int h_232) h_234)) hm (fun hm => ?_)⟩; skip; cases hm; exact ⟨_, rfl, (x_var 8)⟩)) (x_lst (xs := []) xa_nil (Nat.zero_le _))) (fun hz => ?_) (fun hz => ?_)
    · have hm := condT hz hm
      obtain ⟨v_236, h_237, hm⟩ := Option.bind_eq_some_iff.mp hm
      obtain ⟨v_238, h_239, hm⟩ := Option.bind_eq_some_iff.mp hm
      obtain ⟨o_240, h_241, hm⟩ := Option.bind_eq_some_iff.mp hm
      cases hm
      exact go_retXS (q := ((⟨o_240.1.input_count, o_240.1.codes, o_240.1.builder⟩ : S_Decoder), (o_240.2 : Int))) (s1 := fun r => obj T.C_Decoder ns_Decoder (dlp_Decoder T bv r)) (Sr := fun r => val pInt r) 0 (xm_meth (z := ((⟨self_0.input_count, self_0.codes, self_0.builder⟩ : S_Decoder), v_238, (0 : Int))) (okp_Decoder_under_rows T bv) (Nat.le_trans (by decide : _ ≤ 11) (Nat.le_add_right 11 fu)) T.cl_Decoder T.me_Decoder_under_rows T.b_Decoder_under_rows (pl_hold 0 (by repeat' (first | exact Stb.nil | exact trivial | exact stb_map (fun _ => trivial) _ | refine Stb.cons ?_ ?_))) rfl (xa_cons (x_ix (x_var 1) LV.val.sv (x_ix (x_var 2) LV.val.sv x_int h_237) h_239) (xa_cons x_int xa_nil)) rfl (by repeat' (first | exact trivial | refine ⟨no_val, ?_⟩ | refine ⟨no_borL, ?_⟩ | refine ⟨no_bor, ?_⟩)) h_241) (fun v H h => mS_rt h)
    · have hm := condF hz hm
      refine go_join ?_
      obtain ⟨h_249, hm⟩ := guardO_some hm
      obtain ⟨ys_242, h_243, hm⟩ := Option.bind_eq_some_iff.mp hm
      refine go_setLc 4 (rs := val pInt) (own := [("state", 8)]) (xi_list (x_var 2)).ro ⟨fun _ => blkOk_by (N := N_Decoder_under_codes) (sc := defScope s_Decoder_under_codes) (by decide +kernel), fun _ _ => rfl⟩ h_249 h_243 ⟨rfl, trivial⟩ (fun state_244 o hx hm => by obtain ⟨v_245, h_246, hm⟩ := Option.bind_eq_some_iff.mp hm; obtain ⟨v_247, h_248, hm⟩ := Option.bind_eq_some_iff.mp hm; refine ⟨_, _, rfl, (xg_name 8), lc_if (q := pInt) (xt_cmp (fun _ => op_eq) o_eqI (nomark _) (x_ixT (x_ix (x_fldL 1 (x_varH 0) OV.bobj T.at_Decoder_codes) LV.bor.sv (x_var 8) h_246) TV.val (x_var 3) h_248) x_int) hm (fun hm => ?_)⟩; skip; cases hm; exact ⟨_, rfl, (x_var 8)⟩) ?_ (hsw := sw_true rfl rfl rfl (by decide +kernel))
      show Go _ _ _ _ _ [hold (obj T.C_Decoder ["input_count", "codes", "builder"] [val pInt self_0.input_count, own (oL (pTup pInt)) self_0.codes, hold (obj T.C_Builder ns_Builder (dl_Builder self_0.builder)) bv]) v0, val (pL pInt) tables_0, val (pL pInt) states_0, val pInt place_0, own (oL pInt) ys_242, dead, dead, dead, dead]
      obtain ⟨h_257, hm⟩ := guardO_some hm
      obtain ⟨ys_250, h_251, hm⟩ := Option.bind_eq_some_iff.mp hm
      refine go_setLc 5 (rs := val pInt) (own := [("state", 8)]) (xi_list (x_var 2)).ro ⟨fun _ => blkOk_by (N := N_Decoder_under_codes) (sc := defScope s_Decoder_under_codes) (by decide +kernel), fun _ _ => rfl⟩ h_257 h_251 ⟨rfl, trivial⟩ (fun state_252 o hx hm => by obtain ⟨v_253, h_254, hm⟩ := Option.bind_eq_some_iff.mp hm; obtain ⟨v_255, h_256, hm⟩ := Option.bind_eq_some_iff.mp hm; refine ⟨_, _, rfl, (xg_name 8), lc_if (q := pInt) (xt_cmp (fun _ => op_eq) o_eqI (nomark _) (x_ixT (x_ix (x_fldL 1 (x_varH 0) OV.bobj T.at_Decoder_codes) LV.bor.sv (x_var 8) h_254) TV.val (x_var 3) h_256) x_int) hm (fun hm => ?_)⟩; skip; cases hm; exact ⟨_, rfl, (x_var 8)⟩) ?_ (hsw := sw_true rfl rfl rfl (by decide +kernel))
      show Go _ _ _ _ _ [hold (obj T.C_Decoder ["input_count", "codes", "builder"] [val pInt self_0.input_count, own (oL (pTup pInt)) self_0.codes, hold (obj T.C_Builder ns_Builder (dl_Builder self_0.builder)) bv]) v0, val (pL pInt) tables_0, val (pL pInt) states_0, val pInt place_0, own (oL pInt) ys_242, own (oL pInt) ys_250, dead, dead, dead]
      refine go_if (xw_pt (xw_or (xt_cmp (c_eqD _) (o_eqD (DE.list DE.int) (by decide) (LV.vw LV.bor) (LV.vw LV.own) (fun _ _ => trivial) (fun _ _ => trivial)) (nomark _) (x_varL 4) (x_lst (xs := []) xa_nil (Nat.zero_le _))) (fun _ => (xw_or1 (xt_cmp (c_eqD _) (o_eqD (DE.list DE.int) (by decide) (LV.vw LV.bor) (LV.vw LV.own) (fun _ _ => trivial) (fun _ _ => trivial)) (nomark _) (x_varL 5) (x_lst (xs := []) xa_nil (Nat.zero_le _))))) rfl)) (fun hz => ?_) (fun hz => ?_)
      · have hm := condT hz hm
        obtain ⟨o_258, h_259, hm⟩ := Option.bind_eq_some_iff.mp hm
        cases hm
        exact go_retXS (q := ((⟨o_258.1.input_count, o_258.1.codes, o_258.1.builder⟩ : S_Decoder), (o_258.2 : Int))) (s1 := fun r => obj T.C_Decoder ns_Decoder (dlp_Decoder T bv r)) (Sr := fun r => val pInt r) 0 (xm_meth (z := ((⟨self_0.input_count, self_0.codes, self_0.builder⟩ : S_Decoder), tables_0, states_0, (place_0 + (1 : Int)))) ih (Nat.le_refl _) T.cl_Decoder T.me_Decoder_under_codes T.b_Decoder_under_codes (pl_hold 0 (by repeat' (first | exact Stb.nil | exact trivial | exact stb_map (fun _ => trivial) _ | refine Stb.cons ?_ ?_))) rfl (xa_cons (x_var 1) (xa_cons (x_var 2) (xa_cons (x_op (fun _ => op_add) o_int (x_var 3) x_int) xa_nil))) rfl (by repeat' (first | exact trivial | refine ⟨no_val, ?_⟩ | refine ⟨no_borL, ?_⟩ | refine ⟨no_bor, ?_⟩)) h_259) (fun v H h => mS_rt h)
      · have hm := condF hz hm
        refine go_join ?_
        refine go_wk (Γ' := [hold (obj T.C_Decoder ["input_count", "codes", "builder"] [val pInt self_0.input_count, own (oL (pTup pInt)) self_0.codes, hold (obj T.C_Builder ns_Builder (dl_Builder self_0.builder)) bv]) v0, val (pL pInt) tables_0, val (pL pInt) states_0, val pInt place_0, own (oL pInt) ys_242, val (pL pInt) ys_250, dead, dead, dead]) ?_ (WkL.at (j := 5) WkS.list rfl)
        obtain ⟨o_260, h_261, hm⟩ := Option.bind_eq_some_iff.mp hm
        refine go_setM 6 (xm_meth (z := ((⟨self_0.input_count, self_0.codes, self_0.builder⟩ : S_Decoder), tables_0, ys_250, (place_0 + (1 : Int)))) ih (Nat.le_refl _) T.cl_Decoder T.me_Decoder_under_codes T.b_Decoder_under_codes (pl_hold 0 (by repeat' (first | exact Stb.nil | exact trivial | exact stb_map (fun _ => trivial) _ | refine Stb.cons ?_ ?_))) rfl (xa_cons (x_var 1) (xa_cons (x_var 5) (xa_cons (x_op (fun _ => op_add) o_int (x_var 3) x_int) xa_nil))) rfl (by repeat' (first | exact trivial | refine ⟨no_val, ?_⟩ | refine ⟨no_borL, ?_⟩ | refine ⟨no_bor, ?_⟩)) h_261) ?_
        show Go _ _ _ _ _ [hold (obj T.C_Decoder ["input_count", "codes", "builder"] [val pInt o_260.1.input_count, own (oL (pTup pInt)) o_260.1.codes, hold (obj T.C_Builder ns_Builder (dl_Builder o_260.1.builder)) bv]) v0, val (pL pInt) tables_0, val (pL pInt) states_0, val pInt place_0, own (oL pInt) ys_242, val (pL pInt) ys_250, val pInt o_260.2, dead, dead]
        obtain ⟨test_262, h_263, hm⟩ := letO_some hm
        refine go_set 7 (XV.eqV (x_op (fun _ => op_mul) (o_intC (.inl (by decide))) x_int (x_op (fun _ => op_add) o_int (x_op (fun _ => op_add) o_int x_int (x_fld 0 (x_varH 0) OV.bobj T.at_Decoder_input_count)) (x_var 3))) h_263) ?_
        show Go _ _ _ _ _ [hold (obj T.C_Decoder ["input_count", "codes", "builder"] [val pInt o_260.1.input_count, own (oL (pTup pInt)) o_260.1.codes, hold (obj T.C_Builder ns_Builder (dl_Builder o_260.1.builder)) bv]) v0, val (pL pInt) tables_0, val (pL pInt) states_0, val pInt place_0, own (oL pInt) ys_242, val (pL pInt) ys_250, val pInt o_260.2, val pInt test_262, dead]
        refine go_wk (Γ' := [hold (obj T.C_Decoder ["input_count", "codes", "builder"] [val pInt o_260.1.input_count, own (oL (pTup pInt)) o_260.1.codes, hold (obj T.C_Builder ns_Builder (dl_Builder o_260.1.builder)) bv]) v0, val (pL pInt) tables_0, val (pL pInt) states_0, val pInt place_0, val (pL pInt) ys_242, val (pL pInt) ys_250, val pInt o_260.2, val pInt test_262, dead]) ?_ (WkL.at (j := 4) WkS.list rfl)
        obtain ⟨o_264, h_265, hm⟩ := Option.bind_eq_some_iff.mp hm
        obtain ⟨o_266, h_267, hm⟩ := Option.bind_eq_some_iff.mp hm
        cases hm
        exact go_retXS (q := ((⟨o_264.1.input_count, o_264.1.codes, o_266.1⟩ : S_Decoder), (o_266.2 : Int))) (s1 := fun r => obj T.C_Decoder ns_Decoder (dlp_Decoder T bv r)) (Sr := fun r => val pInt r) 0 (xm_methH (z := (o_264.1.builder, test_262, o_260.2, o_264.2)) (q := o_266) (ok_Builder_choose T) (Nat.le_trans (by decide : _ ≤ 11) (Nat.le_add_right 11 fu)) T.cl_Builder T.me_Builder_choose T.b_Builder_choose (pl_fld 2 (pl_hold 0 (by repeat' (first | exact Stb.nil | exact trivial | exact stb_map (fun _ => trivial) _ | refine Stb.cons ?_ ?_))) T.at_Decoder_builder (by repeat' (first | exact Stb.nil | exact trivial | exact stb_map (fun _ => trivial) _ | refine Stb.cons ?_ ?_)) hold_some) (xam_cons (x_var 7) Flat.int (xam_cons (x_var 6) Flat.int (xam_last (xm_meth (z := ((⟨o_260.1.input_count, o_260.1.codes, o_260.1.builder⟩ : S_Decoder), tables_0, ys_242, (place_0 + (1 : Int)))) ih (Nat.le_refl _) T.cl_Decoder T.me_Decoder_under_codes T.b_Decoder_under_codes (pl_hold 0 (by repeat' (first | exact Stb.nil | exact trivial | exact stb_map (fun _ => trivial) _ | refine Stb.cons ?_ ?_))) rfl (xa_cons (x_var 1) (xa_cons (x_var 4) (xa_cons (x_op (fun _ => op_add) o_int (x_var 3) x_int) xa_nil))) rfl (by repeat' (first | exact trivial | refine ⟨no_val, ?_⟩ | refine ⟨no_borL, ?_⟩ | refine ⟨no_bor, ?_⟩)) h_265)))) (hp_fld 2 (hp_name 0 (by repeat' (first | exact Stb.nil | exact trivial | exact stb_map (fun _ => trivial) _ | refine Stb.cons ?_ ?_))) (by repeat' (first | exact Stb.nil | exact trivial | exact stb_map (fun _ => trivial) _ | refine Stb.cons ?_ ?_))) rfl rfl h_267) (fun v H h => mS_rt h)
theorem okp_Decoder_under_codes (T : Txt P K mg) (bv : V) : FnOk P w K mg base CX0 31 T.f_Decoder_under_codes T.d_Decoder_under_codes ["self", "tables", "states", "place"] (spM (fun z => obj T.C_Decoder ns_Decoder (dlp_Decoder T bv z.1)) (fun (z : (S_Decoder) × (List (Int)) × (List (Int)) × (Int)) => [val (pL pInt) z.2.1, val (pL pInt) z.2.2.1, val pInt z.2.2.2]) (fun z => m_Decoder_under_codes z.1 z.2.1 z.2.2.1 z.2.2.2) (fun r => obj T.C_Decoder ns_Decoder (dlp_Decoder T bv r)) (fun r => val pInt r)) := okpr_Decoder_under_codes T bv 20
theorem okp_Decoder_literal_of (T : Txt P K mg) (bv : V) : FnOk P w K mg base CX0 32 T.f_Decoder_literal_of T.d_Decoder_literal_of ["self", "bits"] (spM (fun z => obj T.C_Decoder ns_Decoder (dlp_Decoder T bv z.1)) (fun (z : (S_Decoder) × (List (List (Int)))) => [val (pL (pL pInt)) z.2]) (fun z => m_Decoder_literal_of z.1 z.2) (fun r => obj T.C_Decoder ns_Decoder (dlp_Decoder T bv r)) (fun r => val pInt r)) := by
  refine fn_mut T.F_Decoder_literal_of sc_Decoder_literal_of (fun _ => rfl) (fun cdv A outer s H E hr z r v0 B hm => ?_)
  obtain ⟨self_0, bits_0⟩ := z
  replace hm : m_Decoder_literal_of self_0 bits_0 = some r := hm
  unfold m_Decoder_literal_of at hm
  show Go _ _ _ _ _ [hold (obj T.C_Decoder ["input_count", "codes", "builder"] [val pInt self_0.input_count, own (oL (pTup pInt)) self_0.codes, hold (obj T.C_Builder ns_Builder (dl_Builder self_0.builder)) bv]) v0, val (pL (pL pInt)) bits_0, dead, dead, dead, dead]
  refine go_set 2 (x_lst (p := pInt) (xs := []) xa_nil (Nat.zero_le _)) ?_
  show Go _ _ _ _ _ [hold (obj T.C_Decoder ["input_count", "codes", "builder"] [val pInt self_0.input_count, own (oL (pTup pInt)) self_0.codes, hold (obj T.C_Builder ns_Builder (dl_Builder self_0.builder)) bv]) v0, val (pL (pL pInt)) bits_0, own (oL pInt) ([] : List (Int)), dead, dead, dead]
  refine go_forK (rs := val (pL pInt)) (fun s => [hold (obj T.C_Decoder ["input_count", "codes", "builder"] [val pInt self_0.input_count, own (oL (pTup pInt)) self_0.codes, hold (obj T.C_Builder ns_Builder (dl_Builder self_0.builder)) bv]) v0, val (pL (pL pInt)) bits_0, own (oL pInt) s, dead, dead, dead]) (fun r => (mS v0 (fun r => obj T.C_Decoder ns_Decoder (dlp_Decoder T bv r)) (fun r => val pInt r) r)) (xi_list (x_var 1)) (by repeat' (first | exact WkL.nil | exact WkS.refl | exact WkS.dead | exact WkS.list | exact WkS.dict | exact WkS.lstS (fun _ => WkS.list) | refine WkL.cons ?_ ?_)) hm ?_ ?_ ?_
  · rintro B1 entry_269 tables_268 out hx hm hr1 hl1
    refine ⟨_, _, (xg_name 3), ?_⟩
    show Go _ _ _ _ _ [hold (obj T.C_Decoder ["input_count", "codes", "builder"] [val pInt self_0.input_count, own (oL (pTup pInt)) self_0.codes, hold (obj T.C_Builder ns_Builder (dl_Builder self_0.builder)) bv]) v0, val (pL (pL pInt)) bits_0, own (oL pInt) tables_268, val (pL pInt) entry_269, dead, dead]
    obtain ⟨h_274, hm⟩ := guardO_some hm
    obtain ⟨ys_270, h_271, hm⟩ := Option.bind_eq_some_iff.mp hm
    obtain ⟨h_275, hm⟩ := guardO_some hm
    refine go_append (pl_name 2 (by repeat' (first | exact Stb.nil | exact trivial | exact stb_map (fun _ => trivial) _ | refine Stb.cons ?_ ?_)) (hso := own_some)) (x_callB (c_sum _) T.g_sum (by decide +kernel) (o_sum LV.own.sv) (xa1 (x_lc (rs := val (pT2 pInt pInt)) (own := [("row", 4), ("bit", 5)]) (xi_enum' T.g_enumerate (x_var 3)).ro ⟨fun _ => blkOk_by (N := N_Decoder_literal_of) (sc := defScope s_Decoder_literal_of) (by decide +kernel), fun _ _ => rfl⟩ h_274 h_271 ⟨rfl, rfl, trivial⟩ (fun p_272 o hx hm => by obtain ⟨h_273, hm⟩ := guardO_some hm; cases hm; exact ⟨_, _, rfl, (xg_tup2 (xgs_cons (xg_name 4) (xgs_cons (xg_name 5) xgs_nil))), lc_el (x_op (fun _ => op_shl) (o_intC h_273) (x_var 5) (x_var 4))⟩)))) h_275 ?_
    show Go _ _ _ _ _ [hold (obj T.C_Decoder ["input_count", "codes", "builder"] [val pInt self_0.input_count, own (oL (pTup pInt)) self_0.codes, hold (obj T.C_Builder ns_Builder (dl_Builder self_0.builder)) bv]) v0, val (pL (pL pInt)) bits_0, own (oL pInt) (tables_268 ++ [(ys_270).sum]), val (pL pInt) entry_269, dead, dead]
    cases hm
    exact go_nil (fun σ H h => ⟨_, rfl, h.wk (by repeat' (first | exact WkL.nil | exact WkS.refl | exact WkS.dead | exact WkS.list | exact WkS.dict | exact WkS.lstS (fun _ => WkS.list) | refine WkL.cons ?_ ?_))⟩)
  · rintro tables_268 hm
    show Go _ _ _ _ _ [hold (obj T.C_Decoder ["input_count", "codes", "builder"] [val pInt self_0.input_count, own (oL (pTup pInt)) self_0.codes, hold (obj T.C_Builder ns_Builder (dl_Builder self_0.builder)) bv]) v0, val (pL (pL pInt)) bits_0, own (oL pInt) tables_268, dead, dead, dead]
    refine go_wk (Γ' := [hold (obj T.C_Decoder ["input_count", "codes", "builder"] [val pInt self_0.input_count, own (oL (pTup pInt)) self_0.codes, hold (obj T.C_Builder ns_Builder (dl_Builder self_0.builder)) bv]) v0, val (pL (pL pInt)) bits_0, val (pL pInt) tables_268, dead, dead, dead]) ?_ (WkL.at (j := 2) WkS.list rfl)
    obtain ⟨h_276, hm⟩ := guardO_some hm
    obtain ⟨o_277, h_278, hm⟩ := Option.bind_eq_some_iff.mp hm
    cases hm
    exact go_retXS (q := ((⟨o_277.1.input_count, o_277.1.codes, o_277.1.builder⟩ : S_Decoder), (o_277.2 : Int))) (s1 := fun r => obj T.C_Decoder ns_Decoder (dlp_Decoder T bv r)) (Sr := fun r => val pInt r) 0 (xm_meth (z := ((⟨self_0.input_count, self_0.codes, self_0.builder⟩ : S_Decoder), tables_268, (rangeL 0 ((tables_268).length : Int)), (0 : Int))) (okp_Decoder_under_codes T bv) (by decide) T.cl_Decoder T.me_Decoder_under_codes T.b_Decoder_under_codes (pl_hold 0 (by repeat' (first | exact Stb.nil | exact trivial | exact stb_map (fun _ => trivial) _ | refine Stb.cons ?_ ?_))) rfl (xa_cons (x_var 2) (xa_cons (XV.frz (x_lstRg (x_callB (c_len _) T.g_len (by decide +kernel) (o_lenL LV.val.sv) (xa1 (x_var 2))) h_276 T.g_list T.g_range)) (xa_cons x_int xa_nil))) rfl (by repeat' (first | exact trivial | refine ⟨no_val, ?_⟩ | refine ⟨no_borL, ?_⟩ | refine ⟨no_bor, ?_⟩)) h_278) (fun v H h => mS_rt h)
  · rintro r hm v H h
    cases hm
theorem ok_Decoder_literal_of (T : Txt P K mg) : FnOk P w K mg base CX0 32 T.f_Decoder_literal_of T.d_Decoder_literal_of ["self", "bits"] (spM (fun z => obj T.C_Decoder ns_Decoder (dl_Decoder T z.1)) (fun (z : (S_Decoder) × (List (List (Int)))) => [val (pL (pL pInt)) z.2]) (fun z => m_Decoder_literal_of z.1 z.2) (fun r => obj T.C_Decoder ns_Decoder (dl_Decoder T r)) (fun r => val pInt r)) :=
  FnOk.unpin (fun bv => okp_Decoder_literal_of T bv) (fun z F H fp o h => obj_pin (Δ1 := [val pInt z.1.input_count, own (oL (pTup pInt)) z.1.codes]) (s := obj T.C_Builder ns_Builder (dl_Builder z.1.builder)) (Δ2 := []) obj_some h) (fun bv z F H fp o h => obj_unpin (Δ1 := [val pInt z.input_count, own (oL (pTup pInt)) z.codes]) (s := obj T.C_Builder ns_Builder (dl_Builder z.builder)) (Δ2 := []) h)

theorem ok_coded (T : Txt P K mg) : FnOk P w K mg base (L2.CX P w) 33 T.f_coded T.d_coded ["machine", "codes", "inputs", "latches", "outputs"] (spX (fun (z : (S_Machine) × (List (List (Int))) × (List (Str)) × (List (Str)) × (List (Str))) => [val (pObj T.C_Machine ns_Machine sl_Machine) z.1, val (pL (pL pInt)) z.2.1, val (pL pStr) z.2.2.1, val (pL pStr) z.2.2.2.1, val (pL pStr) z.2.2.2.2]) (fun z => m_coded z.1 z.2.1 z.2.2.1 z.2.2.2.1 z.2.2.2.2) (fun r => obj T.C_Circuit ns_Circuit (dl_Circuit r)) (exT T)) := by
  refine fn_pureX T.F_coded sc_coded (fun _ => rfl) (fun cdv A outer s H E hr z r B hm hW => ?_)
  obtain ⟨machine_0, codes_0, inputs_0, latches_0, outputs_0⟩ := z
  replace hm : m_coded machine_0 codes_0 inputs_0 latches_0 outputs_0 = some r := hm
  unfold m_coded at hm
  show Go _ _ _ _ _ [val (pObj T.C_Machine ns_Machine sl_Machine) machine_0, val (pL (pL pInt)) codes_0, val (pL pStr) inputs_0, val (pL pStr) latches_0, val (pL pStr) outputs_0, dead, dead, dead, dead, dead, dead, dead, dead, dead, dead, dead]
  rcases exK_some hm with ⟨e_281, h_280, hm⟩ | ⟨r_279, h_280, hm⟩
  · cases hm
    exact go_exprE (xx_call (EX := exT T) (z := (machine_0, codes_0)) (ok_check_codes T) (by decide) T.g_check_codes T.k_check_codes T.b_check_codes (xa_cons (x_var 0) (xa_cons (x_var 1) xa_nil)) rfl (by repeat' (first | exact trivial | refine ⟨no_val, ?_⟩ | refine ⟨no_borL, ?_⟩ | refine ⟨no_bor, ?_⟩)) h_280) (hW _ rfl _)
  · refine go_expr (x_callX (z := (machine_0, codes_0)) (ok_check_codes T) (by decide) T.g_check_codes T.k_check_codes T.b_check_codes (xa_cons (x_var 0) (xa_cons (x_var 1) xa_nil)) rfl (by repeat' (first | exact trivial | refine ⟨no_val, ?_⟩ | refine ⟨no_borL, ?_⟩ | refine ⟨no_bor, ?_⟩)) h_280) ?_
    obtain ⟨o_282, h_283, hm⟩ := Option.bind_eq_some_iff.mp hm
    refine go_set 5 (x_make (z := (machine_0.input_count, codes_0)) (ok_Decoder_init T) (by decide) T.mk_Decoder T.g_Decoder T.b_Decoder_init (xa_cons (x_fld 0 (x_var 0) OV.val T.at_Machine_input_count) (xa_cons (x_var 1) xa_nil)) rfl (by repeat' (first | exact trivial | refine ⟨no_val, ?_⟩ | refine ⟨no_borL, ?_⟩ | refine ⟨no_bor, ?_⟩)) rfl h_283 rfl) ?_
    show Go _ _ _ _ _ [val (pObj T.C_Machine ns_Machine sl_Machine) machine_0, val (pL (pL pInt)) codes_0, val (pL pStr) inputs_0, val (pL pStr) latches_0, val (pL pStr) outputs_0, obj T.C_Decoder ns_Decoder ((dl_Decoder T) o_282.1), dead, dead, dead, dead, dead, dead, dead, dead, dead, dead]
    refine go_set 6 (x_lst (p := (pT3 pStr pInt pInt)) (xs := []) xa_nil (Nat.zero_le _)) ?_
    show Go _ _ _ _ _ [val (pObj T.C_Machine ns_Machine sl_Machine) machine_0, val (pL (pL pInt)) codes_0, val (pL pStr) inputs_0, val (pL pStr) latches_0, val (pL pStr) outputs_0, obj T.C_Decoder ns_Decoder ((dl_Decoder T) o_282.1), own (oL (pT3 pStr pInt pInt)) ([] : List ((Str) × (Int) × (Int))), dead, dead, dead, dead, dead, dead, dead, dead, dead]
    refine go_forK (rs := val (pT2 pInt pStr)) (fun s => [val (pObj T.C_Machine ns_Machine sl_Machine) machine_0, val (pL (pL pInt)) codes_0, val (pL pStr) inputs_0, val (pL pStr) latches_0, val (pL pStr) outputs_0, obj T.C_Decoder ns_Decoder ((dl_Decoder T) s.1), own (oL (pT3 pStr pInt pInt)) s.2, dead, dead, dead, dead, dead, dead, dead, dead, dead]) (fun r => (slRx (fun r => obj T.C_Circuit ns_Circuit (dl_Circuit r)) r)) (xi_enum' T.g_enumerate (x_var 3)) (by repeat' (first | exact WkL.nil | exact WkS.refl | exact WkS.dead | exact WkS.list | exact WkS.dict | exact WkS.lstS (fun _ => WkS.list) | refine WkL.cons ?_ ?_)) hm ?_ ?_ ?_
    · rintro B1 p_286 s out hx hm hr1 hl1
      obtain ⟨decoder_284, found_285⟩ := s
      refine ⟨_, _, (xg_tup2 (xgs_cons (xg_name 7) (xgs_cons (xg_name 8) xgs_nil))), ?_⟩
      show Go _ _ _ _ _ [val (pObj T.C_Machine ns_Machine sl_Machine) machine_0, val (pL (pL pInt)) codes_0, val (pL pStr) inputs_0, val (pL pStr) latches_0, val (pL pStr) outputs_0, obj T.C_Decoder ns_Decoder ((dl_Decoder T) decoder_284), own (oL (pT3 pStr pInt pInt)) found_285, val pInt p_286.1, val pStr p_286.2, dead, dead, dead, dead, dead, dead, dead]
      obtain ⟨h_298, hm⟩ := guardO_some hm
      obtain ⟨ys_287, h_288, hm⟩ := Option.bind_eq_some_iff.mp hm
      refine go_setLc 9 (rs := val (pL (pT2 pInt pInt))) (own := [("entry", 12)]) (xi_list (x_fld 2 (x_var 0) OV.val T.at_Machine_moves)).ro ⟨fun _ => blkOk_by (N := N_coded) (sc := defScope s_coded) (by decide +kernel), fun _ _ => rfl⟩ h_298 h_288 ⟨rfl, trivial⟩ (fun entry_289 o hx hm => by obtain ⟨h_297, hm⟩ := guardO_some hm; obtain ⟨ys_290, h_291, hm⟩ := Option.bind_eq_some_iff.mp hm; cases hm; exact ⟨_, _, rfl, (xg_name 12), lc_el (XV.frz (x_lc (rs := val (pT2 pInt pInt)) (own := [("later", 13), ("_", 14)]) (xi_list (x_var 12)).ro ⟨fun _ => blkOk_by (N := N_coded) (by kernel_rfl), fun _ _ => rfl⟩ h_297 h_291 ⟨rfl, rfl, trivial⟩ (fun p_292 o hx hm => by obtain ⟨v_293, h_294, hm⟩ := Option.bind_eq_some_iff.mp hm; obtain ⟨v_295, h_296, hm⟩ := Option.bind_eq_some_iff.mp hm; cases hm; exact ⟨_, _, rfl, (xg_tup2 (xgs_cons (xg_name 13) (xgs_cons (xg_name 14) xgs_nil))), lc_el (x_ix (x_ix (x_var 1) LV.val.sv (x_var 13) h_294) LV.val.sv (x_var 7) h_296)⟩)))⟩) ?_ (hsw := sw_true rfl rfl rfl (by decide +kernel))
      show Go _ _ _ _ _ [val (pObj T.C_Machine ns_Machine sl_Machine) machine_0, val (pL (pL pInt)) codes_0, val (pL pStr) inputs_0, val (pL pStr) latches_0, val (pL pStr) outputs_0, obj T.C_Decoder ns_Decoder ((dl_Decoder T) decoder_284), own (oL (pT3 pStr pInt pInt)) found_285, val pInt p_286.1, val pStr p_286.2, own (oL (pL pInt)) ys_287, dead, dead, dead, dead, dead, dead]
      refine go_wk (Γ' := [val (pObj T.C_Machine ns_Machine sl_Machine) machine_0, val (pL (pL pInt)) codes_0, val (pL pStr) inputs_0, val (pL pStr) latches_0, val (pL pStr) outputs_0, obj T.C_Decoder ns_Decoder ((dl_Decoder T) decoder_284), own (oL (pT3 pStr pInt pInt)) found_285, val pInt p_286.1, val pStr p_286.2, val (pL (pL pInt)) ys_287, dead, dead, dead, dead, dead, dead]) ?_ (WkL.at (j := 9) WkS.list rfl)
      obtain ⟨v_303, h_304, hm⟩ := Option.bind_eq_some_iff.mp hm
      obtain ⟨v_305, h_306, hm⟩ := Option.bind_eq_some_iff.mp hm
      obtain ⟨o_307, h_308, hm⟩ := Option.bind_eq_some_iff.mp hm
      obtain ⟨h_309, hm⟩ := guardO_some hm
      refine go_appM (Γ1 := [val (pObj T.C_Machine ns_Machine sl_Machine) machine_0, val (pL (pL pInt)) codes_0, val (pL pStr) inputs_0, val (pL pStr) latches_0, val (pL pStr) outputs_0, obj T.C_Decoder ns_Decoder ((dl_Decoder T) o_307.1), own (oL (pT3 pStr pInt pInt)) found_285, val pInt p_286.1, val pStr p_286.2, val (pL (pL pInt)) ys_287, dead, dead, dead, dead, dead, dead]) 6 (xm_tup3 (xam_cons (x_var 8) Flat.str (xam_cons (x_ix (x_ix (x_var 1) LV.val.sv x_int h_304) LV.val.sv (x_var 7) h_306) Flat.int (xam_last (xm_meth (z := (decoder_284, ys_287)) (ok_Decoder_literal_of T) (by decide) T.cl_Decoder T.me_Decoder_literal_of T.b_Decoder_literal_of (pl_name 5 (by repeat' (first | exact Stb.nil | exact trivial | exact stb_map (fun _ => trivial) _ | refine Stb.cons ?_ ?_)) (hso := obj_some)) rfl (xa_cons (x_var 9) xa_nil) rfl (by repeat' (first | exact trivial | refine ⟨no_val, ?_⟩ | refine ⟨no_borL, ?_⟩ | refine ⟨no_bor, ?_⟩)) h_308))))) rfl rfl h_309 (by repeat' (first | exact Stb.nil | exact trivial | exact stb_map (fun _ => trivial) _ | refine Stb.cons ?_ ?_)) ?_
      show Go _ _ _ _ _ [val (pObj T.C_Machine ns_Machine sl_Machine) machine_0, val (pL (pL pInt)) codes_0, val (pL pStr) inputs_0, val (pL pStr) latches_0, val (pL pStr) outputs_0, obj T.C_Decoder ns_Decoder ((dl_Decoder T) o_307.1), own (oL (pT3 pStr pInt pInt)) (found_285 ++ [(p_286.2, v_305, o_307.2)]), val pInt p_286.1, val pStr p_286.2, val (pL (pL pInt)) ys_287, dead, dead, dead, dead, dead, dead]
      cases hm
      exact go_nil (fun σ H h => ⟨_, rfl, h.wk (by repeat' (first | exact WkL.nil | exact WkS.refl | exact WkS.dead | exact WkS.list | exact WkS.dict | exact WkS.lstS (fun _ => WkS.list) | refine WkL.cons ?_ ?_))⟩)
    · rintro s hm
      obtain ⟨decoder_284, found_285⟩ := s
      show Go _ _ _ _ _ [val (pObj T.C_Machine ns_Machine sl_Machine) machine_0, val (pL (pL pInt)) codes_0, val (pL pStr) inputs_0, val (pL pStr) latches_0, val (pL pStr) outputs_0, obj T.C_Decoder ns_Decoder ((dl_Decoder T) decoder_284), own (oL (pT3 pStr pInt pInt)) found_285, dead, dead, dead, dead, dead, dead, dead, dead, dead]
      refine go_set 10 (x_lst (p := (pT2 pStr pInt)) (xs := []) xa_nil (Nat.zero_le _)) ?_
      show Go _ _ _ _ _ [val (pObj T.C_Machine ns_Machine sl_Machine) machine_0, val (pL (pL pInt)) codes_0, val (pL pStr) inputs_0, val (pL pStr) latches_0, val (pL pStr) outputs_0, obj T.C_Decoder ns_Decoder ((dl_Decoder T) decoder_284), own (oL (pT3 pStr pInt pInt)) found_285, dead, dead, dead, own (oL (pT2 pStr pInt)) ([] : List ((Str) × (Int))), dead, dead, dead, dead, dead]
      refine go_forK (rs := val (pT2 pInt pStr)) (fun s => [val (pObj T.C_Machine ns_Machine sl_Machine) machine_0, val (pL (pL pInt)) codes_0, val (pL pStr) inputs_0, val (pL pStr) latches_0, val (pL pStr) outputs_0, obj T.C_Decoder ns_Decoder ((dl_Decoder T) s.1), own (oL (pT3 pStr pInt pInt)) found_285, dead, dead, dead, own (oL (pT2 pStr pInt)) s.2, dead, dead, dead, dead, dead]) (fun r => (slRx (fun r => obj T.C_Circuit ns_Circuit (dl_Circuit r)) r)) (xi_enum' T.g_enumerate (x_var 4)) (by repeat' (first | exact WkL.nil | exact WkS.refl | exact WkS.dead | exact WkS.list | exact WkS.dict | exact WkS.lstS (fun _ => WkS.list) | refine WkL.cons ?_ ?_)) hm ?_ ?_ ?_
      · rintro B1 p_312 s out hx hm hr1 hl1
        obtain ⟨decoder_310, ends_311⟩ := s
        refine ⟨_, _, (xg_tup2 (xgs_cons (xg_name 7) (xgs_cons (xg_name 8) xgs_nil))), ?_⟩
        show Go _ _ _ _ _ [val (pObj T.C_Machine ns_Machine sl_Machine) machine_0, val (pL (pL pInt)) codes_0, val (pL pStr) inputs_0, val (pL pStr) latches_0, val (pL pStr) outputs_0, obj T.C_Decoder ns_Decoder ((dl_Decoder T) decoder_310), own (oL (pT3 pStr pInt pInt)) found_285, val pInt p_312.1, val pStr p_312.2, dead, own (oL (pT2 pStr pInt)) ends_311, dead, dead, dead, dead, dead]
        obtain ⟨digit_313, h_314, hm⟩ := letO_some hm
        refine go_set 11 (XV.eqV (x_op (fun _ => op_sub) o_int (x_op (fun _ => op_sub) o_int (x_fld 1 (x_var 0) OV.val T.at_Machine_output_count) x_int) (x_var 7)) h_314) ?_
        show Go _ _ _ _ _ [val (pObj T.C_Machine ns_Machine sl_Machine) machine_0, val (pL (pL pInt)) codes_0, val (pL pStr) inputs_0, val (pL pStr) latches_0, val (pL pStr) outputs_0, obj T.C_Decoder ns_Decoder ((dl_Decoder T) decoder_310), own (oL (pT3 pStr pInt pInt)) found_285, val pInt p_312.1, val pStr p_312.2, dead, own (oL (pT2 pStr pInt)) ends_311, val pInt digit_313, dead, dead, dead, dead]
        obtain ⟨h_323, hm⟩ := guardO_some hm
        obtain ⟨ys_315, h_316, hm⟩ := Option.bind_eq_some_iff.mp hm
        refine go_setLc 9 (rs := val (pL (pT2 pInt pInt))) (own := [("entry", 12)]) (xi_list (x_fld 2 (x_var 0) OV.val T.at_Machine_moves)).ro ⟨fun _ => blkOk_by (N := N_coded) (sc := defScope s_coded) (by decide +kernel), fun _ _ => rfl⟩ h_323 h_316 ⟨rfl, trivial⟩ (fun entry_317 o hx hm => by obtain ⟨h_322, hm⟩ := guardO_some hm; obtain ⟨ys_318, h_319, hm⟩ := Option.bind_eq_some_iff.mp hm; cases hm; exact ⟨_, _, rfl, (xg_name 12), lc_el (XV.frz (x_lc (rs := val (pT2 pInt pInt)) (own := [("_", 14), ("answer", 15)]) (xi_list (x_var 12)).ro ⟨fun _ => blkOk_by (N := N_coded) (by kernel_rfl), fun _ _ => rfl⟩ h_322 h_319 ⟨rfl, rfl, trivial⟩ (fun p_320 o hx hm => by obtain ⟨h_321, hm⟩ := guardO_some hm; cases hm; exact ⟨_, _, rfl, (xg_tup2 (xgs_cons (xg_name 14) (xgs_cons (xg_name 15) xgs_nil))), lc_el (x_op (fun _ => op_and) (o_int (g := Builtin.bitAnd)) (x_op (fun _ => op_shr) (o_intC h_321) (x_var 15) (x_var 11)) x_int)⟩)))⟩) ?_ (hsw := sw_true rfl rfl rfl (by decide +kernel))
        show Go _ _ _ _ _ [val (pObj T.C_Machine ns_Machine sl_Machine) machine_0, val (pL (pL pInt)) codes_0, val (pL pStr) inputs_0, val (pL pStr) latches_0, val (pL pStr) outputs_0, obj T.C_Decoder ns_Decoder ((dl_Decoder T) decoder_310), own (oL (pT3 pStr pInt pInt)) found_285, val pInt p_312.1, val pStr p_312.2, own (oL (pL pInt)) ys_315, own (oL (pT2 pStr pInt)) ends_311, val pInt digit_313, dead, dead, dead, dead]
        refine go_wk (Γ' := [val (pObj T.C_Machine ns_Machine sl_Machine) machine_0, val (pL (pL pInt)) codes_0, val (pL pStr) inputs_0, val (pL pStr) latches_0, val (pL pStr) outputs_0, obj T.C_Decoder ns_Decoder ((dl_Decoder T) decoder_310), own (oL (pT3 pStr pInt pInt)) found_285, val pInt p_312.1, val pStr p_312.2, val (pL (pL pInt)) ys_315, own (oL (pT2 pStr pInt)) ends_311, val pInt digit_313, dead, dead, dead, dead]) ?_ (WkL.at (j := 9) WkS.list rfl)
        obtain ⟨o_324, h_325, hm⟩ := Option.bind_eq_some_iff.mp hm
        obtain ⟨h_326, hm⟩ := guardO_some hm
        refine go_appM (Γ1 := [val (pObj T.C_Machine ns_Machine sl_Machine) machine_0, val (pL (pL pInt)) codes_0, val (pL pStr) inputs_0, val (pL pStr) latches_0, val (pL pStr) outputs_0, obj T.C_Decoder ns_Decoder ((dl_Decoder T) o_324.1), own (oL (pT3 pStr pInt pInt)) found_285, val pInt p_312.1, val pStr p_312.2, val (pL (pL pInt)) ys_315, own (oL (pT2 pStr pInt)) ends_311, val pInt digit_313, dead, dead, dead, dead]) 10 (xm_tup2 (xam_cons (x_var 8) Flat.str (xam_last (xm_meth (z := (decoder_310, ys_315)) (ok_Decoder_literal_of T) (by decide) T.cl_Decoder T.me_Decoder_literal_of T.b_Decoder_literal_of (pl_name 5 (by repeat' (first | exact Stb.nil | exact trivial | exact stb_map (fun _ => trivial) _ | refine Stb.cons ?_ ?_)) (hso := obj_some)) rfl (xa_cons (x_var 9) xa_nil) rfl (by repeat' (first | exact trivial | refine ⟨no_val, ?_⟩ | refine ⟨no_borL, ?_⟩ | refine ⟨no_bor, ?_⟩)) h_325)))) rfl rfl h_326 (by repeat' (first | exact Stb.nil | exact trivial | exact stb_map (fun _ => trivial) _ | refine Stb.cons ?_ ?_)) ?_
        show Go _ _ _ _ _ [val (pObj T.C_Machine ns_Machine sl_Machine) machine_0, val (pL (pL pInt)) codes_0, val (pL pStr) inputs_0, val (pL pStr) latches_0, val (pL pStr) outputs_0, obj T.C_Decoder ns_Decoder ((dl_Decoder T) o_324.1), own (oL (pT3 pStr pInt pInt)) found_285, val pInt p_312.1, val pStr p_312.2, val (pL (pL pInt)) ys_315, own (oL (pT2 pStr pInt)) (ends_311 ++ [(p_312.2, o_324.2)]), val pInt digit_313, dead, dead, dead, dead]
        cases hm
        exact go_nil (fun σ H h => ⟨_, rfl, h.wk (by repeat' (first | exact WkL.nil | exact WkS.refl | exact WkS.dead | exact WkS.list | exact WkS.dict | exact WkS.lstS (fun _ => WkS.list) | refine WkL.cons ?_ ?_))⟩)
      · rintro s hm
        obtain ⟨decoder_310, ends_311⟩ := s
        show Go _ _ _ _ _ [val (pObj T.C_Machine ns_Machine sl_Machine) machine_0, val (pL (pL pInt)) codes_0, val (pL pStr) inputs_0, val (pL pStr) latches_0, val (pL pStr) outputs_0, obj T.C_Decoder ns_Decoder ((dl_Decoder T) decoder_310), own (oL (pT3 pStr pInt pInt)) found_285, dead, dead, dead, own (oL (pT2 pStr pInt)) ends_311, dead, dead, dead, dead, dead]
        refine go_wk (Γ' := [val (pObj T.C_Machine ns_Machine sl_Machine) machine_0, val (pL (pL pInt)) codes_0, val (pL pStr) inputs_0, val (pL pStr) latches_0, val (pL pStr) outputs_0, obj T.C_Decoder ns_Decoder ((dl_Decoder T) decoder_310), val (pL (pT3 pStr pInt pInt)) found_285, dead, dead, dead, own (oL (pT2 pStr pInt)) ends_311, dead, dead, dead, dead, dead]) ?_ (WkL.at (j := 6) WkS.list rfl)
        refine go_wk (Γ' := [val (pObj T.C_Machine ns_Machine sl_Machine) machine_0, val (pL (pL pInt)) codes_0, val (pL pStr) inputs_0, val (pL pStr) latches_0, val (pL pStr) outputs_0, val (pObj T.C_Decoder ns_Decoder (sl_Decoder T)) decoder_310, val (pL (pT3 pStr pInt pInt)) found_285, dead, dead, dead, own (oL (pT2 pStr pInt)) ends_311, dead, dead, dead, dead, dead]) ?_ (WkL.at (j := 5) (WkS.obj (sl := (sl_Decoder T)) (.cons WkS.refl (.cons WkS.list (.cons (WkS.obj (sl := sl_Builder) (by repeat' (first | exact WkL.nil | exact WkS.refl | exact WkS.dead | exact WkS.list | exact WkS.dict | exact WkS.lstS (fun _ => WkS.list) | refine WkL.cons ?_ ?_)) (by repeat' (first | exact trivial | refine ⟨⟨_, _, _, rfl⟩, ?_⟩))) .nil))) (by repeat' (first | exact trivial | refine ⟨⟨_, _, _, rfl⟩, ?_⟩))) rfl)
        refine go_wk (Γ' := [val (pObj T.C_Machine ns_Machine sl_Machine) machine_0, val (pL (pL pInt)) codes_0, val (pL pStr) inputs_0, val (pL pStr) latches_0, val (pL pStr) outputs_0, val (pObj T.C_Decoder ns_Decoder (sl_Decoder T)) decoder_310, val (pL (pT3 pStr pInt pInt)) found_285, dead, dead, dead, val (pL (pT2 pStr pInt)) ends_311, dead, dead, dead, dead, dead]) ?_ (WkL.at (j := 10) WkS.list rfl)
        rcases exK_some hm with ⟨e_329, h_328, hm⟩ | ⟨r_327, h_328, hm⟩
        · cases hm
          exact go_retE (xx_make (EX := exT T) (z := (inputs_0, found_285, decoder_310.builder.pairs, ends_311)) (ok_Circuit_init T) (by decide) T.mk_Circuit T.g_Circuit T.b_Circuit_init (xa_cons (x_var 2) (xa_cons (x_var 6) (xa_cons (x_fld 1 (x_fld 2 (x_var 5) OV.val T.at_Decoder_builder) OV.val T.at_Builder_pairs) (xa_cons (x_var 10) xa_nil)))) rfl (by repeat' (first | exact trivial | refine ⟨no_val, ?_⟩ | refine ⟨no_borL, ?_⟩ | refine ⟨no_bor, ?_⟩)) h_328) (hW _ rfl _)
        · cases hm
          exact go_ret (x_makeX (z := (inputs_0, found_285, decoder_310.builder.pairs, ends_311)) (ok_Circuit_init T) (by decide) T.mk_Circuit T.g_Circuit T.b_Circuit_init (xa_cons (x_var 2) (xa_cons (x_var 6) (xa_cons (x_fld 1 (x_fld 2 (x_var 5) OV.val T.at_Decoder_builder) OV.val T.at_Builder_pairs) (xa_cons (x_var 10) xa_nil)))) rfl (by repeat' (first | exact trivial | refine ⟨no_val, ?_⟩ | refine ⟨no_borL, ?_⟩ | refine ⟨no_bor, ?_⟩)) h_328) (fun v H h => h)
      · rintro r hm v H h
        cases hm
    · rintro r hm v H h
      cases hm

theorem ok__law_told (T : Txt P K mg) : FnOk P w K mg base CX0 34 T.f__law_told T.d__law_told ["machine", "codes", "names"] (spP (fun (z : (S_Machine) × (List (List (Int))) × (List (List (Str)))) => [val (pObj T.C_Machine ns_Machine sl_Machine) z.1, val (pL (pL pInt)) z.2.1, val (pL (pL pStr)) z.2.2]) (fun z => m__law_told z.1 z.2.1 z.2.2) (fun r => val (pSum (pT2 pStr (pObj T.C_Circuit ns_Circuit sl_Circuit)) (pDa K)) r)) := by
  refine fn_pure T.F__law_told sc__law_told (fun _ => rfl) (fun cdv A outer s H E hr z r B hm => ?_)
  obtain ⟨machine_0, codes_0, names_0⟩ := z
  replace hm : m__law_told machine_0 codes_0 names_0 = some r := hm
  unfold m__law_told at hm
  show Go _ _ _ _ _ [val (pObj T.C_Machine ns_Machine sl_Machine) machine_0, val (pL (pL pInt)) codes_0, val (pL (pL pStr)) names_0, dead]
  refine go_try_as2 (c1 := .ref T.C_InvalidCodes) (c2 := .ref T.C_InvalidCircuit) 3 3 ⟨rfl, by decide, .inl T.g_InvalidCodes⟩ ⟨rfl, by decide, .inl T.g_InvalidCircuit⟩ (fun j hj => ?_)
  show Go _ _ _ _ _ [val (pObj T.C_Machine ns_Machine sl_Machine) machine_0, val (pL (pL pInt)) codes_0, val (pL (pL pStr)) names_0, dead]
  obtain ⟨v_330, h_331, hm⟩ := Option.bind_eq_some_iff.mp hm
  obtain ⟨v_332, h_333, hm⟩ := Option.bind_eq_some_iff.mp hm
  obtain ⟨v_334, h_335, hm⟩ := Option.bind_eq_some_iff.mp hm
  rcases exK_some hm with ⟨e_338, h_337, hm⟩ | ⟨r_336, h_337, hm⟩
  · cases hz : decide (e_338.1 = "InvalidCodes") with
    | true =>
      have hm := condT hz hm
      refine go_retE (xx_tup (xae_next x_str (xae_here (xx_call (EX := exT T) (z := (machine_0, codes_0, v_330, v_332, v_334)) (ok_coded T) (by decide) T.g_coded T.k_coded T.b_coded (xa_cons (x_var 0) (xa_cons (x_var 1) (xa_cons (x_ix (x_var 2) LV.val.sv x_int h_331) (xa_cons (x_ix (x_var 2) LV.val.sv x_int h_333) (xa_cons (x_ix (x_var 2) LV.val.sv x_int h_335) xa_nil))))) rfl (by repeat' (first | exact trivial | refine ⟨no_val, ?_⟩ | refine ⟨no_borL, ?_⟩ | refine ⟨no_bor, ?_⟩)) h_337)))) (wish_as (Γd := [val (pObj T.C_Machine ns_Machine sl_Machine) machine_0, val (pL (pL pInt)) codes_0, val (pL (pL pStr)) names_0, dead]) (fun cls d F hx => by rw [(exT_is_InvalidCodes T (of_decide_eq_true hz) hx).1]; exact T.xp_InvalidCodes_InvalidCodes) (by repeat' (first | exact WkL.nil | exact WkS.refl | exact WkS.dead | exact WkS.list | exact WkS.dict | exact WkS.lstS (fun _ => WkS.list) | refine WkL.cons ?_ ?_)) rfl (fun ae_338 cls d F hx => ?_))
      obtain ⟨rfl, dde_338, rfl, hdde_338⟩ := exT_is_InvalidCodes T (of_decide_eq_true hz) hx
      refine ⟨pExc ae_338 dde_338 (xfd xns_InvalidCodes e_338.2), ⟨rfl, hdde_338⟩, fun j hj => ?_⟩
      show Go _ _ _ _ _ [val (pObj T.C_Machine ns_Machine sl_Machine) machine_0, val (pL (pL pInt)) codes_0, val (pL (pL pStr)) names_0, val (pExc ae_338 dde_338 (xfd xns_InvalidCodes e_338.2)) ()]
      obtain ⟨v_339, h_340, hm⟩ := Option.bind_eq_some_iff.mp hm
      cases hm
      exact go_ret (XV.inr (x_tupD (ds := [DE.str.enc ("codes" : Str), DE.int.enc v_339, DE.bl.enc true]) (xa_cons (XV.data DE.str x_str) (xa_cons (XV.data DE.int (x_efld (p := pInt) (xfC T.xe_InvalidCodes) T.xn_InvalidCodes_state (x_var 3) (xfd_I h_340 rfl) (fun _ => rfl))) (xa_cons (XV.data DE.bl (x_isED T.g_isinstance T.xe_InvalidCodes T.xi_InvalidCodes_EvergateError (x_var 3) (x_cls T.g_EvergateError) pRef_is)) xa_nil))) (le_line rfl))) (fun v H h => h)
    | false =>
      have hm := condF hz hm
      cases hz : decide (e_338.1 = "InvalidCircuit") with
      | true =>
        have hm := condT hz hm
        refine go_retE (xx_tup (xae_next x_str (xae_here (xx_call (EX := exT T) (z := (machine_0, codes_0, v_330, v_332, v_334)) (ok_coded T) (by decide) T.g_coded T.k_coded T.b_coded (xa_cons (x_var 0) (xa_cons (x_var 1) (xa_cons (x_ix (x_var 2) LV.val.sv x_int h_331) (xa_cons (x_ix (x_var 2) LV.val.sv x_int h_333) (xa_cons (x_ix (x_var 2) LV.val.sv x_int h_335) xa_nil))))) rfl (by repeat' (first | exact trivial | refine ⟨no_val, ?_⟩ | refine ⟨no_borL, ?_⟩ | refine ⟨no_bor, ?_⟩)) h_337)))) (wish_as_no (fun cls d F hx => by rw [(exT_is_InvalidCircuit T (of_decide_eq_true hz) hx).1]; exact T.xp_InvalidCircuit_InvalidCodes) (wish_as (Γd := [val (pObj T.C_Machine ns_Machine sl_Machine) machine_0, val (pL (pL pInt)) codes_0, val (pL (pL pStr)) names_0, dead]) (fun cls d F hx => by rw [(exT_is_InvalidCircuit T (of_decide_eq_true hz) hx).1]; exact T.xp_InvalidCircuit_InvalidCircuit) (by repeat' (first | exact WkL.nil | exact WkS.refl | exact WkS.dead | exact WkS.list | exact WkS.dict | exact WkS.lstS (fun _ => WkS.list) | refine WkL.cons ?_ ?_)) rfl (fun ae_338 cls d F hx => ?_)))
        obtain ⟨rfl, dde_338, rfl, hdde_338⟩ := exT_is_InvalidCircuit T (of_decide_eq_true hz) hx
        refine ⟨pExc ae_338 dde_338 (xfd xns_InvalidCircuit e_338.2), ⟨rfl, hdde_338⟩, fun j hj => ?_⟩
        show Go _ _ _ _ _ [val (pObj T.C_Machine ns_Machine sl_Machine) machine_0, val (pL (pL pInt)) codes_0, val (pL (pL pStr)) names_0, val (pExc ae_338 dde_338 (xfd xns_InvalidCircuit e_338.2)) ()]
        obtain ⟨v_341, h_342, hm⟩ := Option.bind_eq_some_iff.mp hm
        obtain ⟨v_343, h_344, hm⟩ := Option.bind_eq_some_iff.mp hm
        cases hm
        exact go_ret (XV.inr (x_tupD (ds := [DE.str.enc ("names" : Str), DE.str.enc v_341, DE.int.enc v_343]) (xa_cons (XV.data DE.str x_str) (xa_cons (XV.data DE.str (x_efld (p := pStr) (xfC T.xe_InvalidCircuit) T.xn_InvalidCircuit_part (x_var 3) (xfd_S h_342 rfl) (fun _ => rfl))) (xa_cons (XV.data DE.int (x_efld (p := pInt) (xfC T.xe_InvalidCircuit) T.xn_InvalidCircuit_index (x_var 3) (xfd_I h_344 rfl) (fun _ => rfl))) xa_nil))) (le_line rfl))) (fun v H h => h)
      | false =>
        have hm := condF hz hm
        cases hm
  · cases hm
    exact go_ret (XV.inl (x_tup2 (xa_cons x_str (xa_cons (XV.wk (x_callX (z := (machine_0, codes_0, v_330, v_332, v_334)) (ok_coded T) (by decide) T.g_coded T.k_coded T.b_coded (xa_cons (x_var 0) (xa_cons (x_var 1) (xa_cons (x_ix (x_var 2) LV.val.sv x_int h_331) (xa_cons (x_ix (x_var 2) LV.val.sv x_int h_333) (xa_cons (x_ix (x_var 2) LV.val.sv x_int h_335) xa_nil))))) rfl (by repeat' (first | exact trivial | refine ⟨no_val, ?_⟩ | refine ⟨no_borL, ?_⟩ | refine ⟨no_bor, ?_⟩)) h_337) (WkS.obj (sl := sl_Circuit) (by repeat' (first | exact WkL.nil | exact WkS.refl | exact WkS.dead | exact WkS.list | exact WkS.dict | exact WkS.lstS (fun _ => WkS.list) | refine WkL.cons ?_ ?_)) (by repeat' (first | exact trivial | refine ⟨⟨_, _, _, rfl⟩, ?_⟩)))) xa_nil)))) (fun v H h => h)

theorem ok__law_fault (T : Txt P K mg) : FnOk P w K mg base CX0 1 T.f__law_fault T.d__law_fault ["states", "codes"] (spP (fun (z : (Int) × (List (List (Int)))) => [val pInt z.1, val (pL (pL pInt)) z.2]) (fun z => m__law_fault z.1 z.2) (fun r => val pInt r)) := by
  refine fn_pure T.F__law_fault sc__law_fault (fun _ => rfl) (fun cdv A outer s H E hr z r B hm => ?_)
  obtain ⟨states_0, codes_0⟩ := z
  replace hm : m__law_fault states_0 codes_0 = some r := hm
  unfold m__law_fault at hm
  show Go _ _ _ _ _ [val pInt states_0, val (pL (pL pInt)) codes_0, dead, dead]
  obtain ⟨h_346, hm⟩ := guardO_some hm
  refine go_forK (rs := val pInt) (fun s => [val pInt states_0, val (pL (pL pInt)) codes_0, dead, dead]) (fun r => val pInt r) (xi_range1 T.g_range (x_callB (c_max2 _) T.g_max (by decide +kernel) o_max2 (xa2 (x_var 0) (x_callB (c_len _) T.g_len (by decide +kernel) (o_lenL LV.val.sv) (xa1 (x_var 1))))) h_346) (by repeat' (first | exact WkL.nil | exact WkS.refl | exact WkS.dead | exact WkS.list | exact WkS.dict | exact WkS.lstS (fun _ => WkS.list) | refine WkL.cons ?_ ?_)) hm ?_ ?_ ?_
  · rintro B1 s_347 s out hx hm hr1 hl1
    refine ⟨_, _, (xg_name 2), ?_⟩
    show Go _ _ _ _ _ [val pInt states_0, val (pL (pL pInt)) codes_0, val pInt s_347, dead]
    refine go_if (xw_pt (xw_or (xt_cmp (fun _ => op_ge) o_bl (nomark _) (x_var 2) (x_var 0)) (fun _ => (xw_or1 (xt_cmp (fun _ => op_ge) o_bl (nomark _) (x_var 2) (x_callB (c_len _) T.g_len (by decide +kernel) (o_lenL LV.val.sv) (xa1 (x_var 1)))))) rfl)) (fun hz => ?_) (fun hz => ?_)
    · have hm := condT hz hm
      cases hm
      exact go_ret (x_var 2) (fun v H h => ⟨_, rfl, h⟩)
    · have hm := condF hz hm
      refine go_join ?_
      obtain ⟨v_348, h_349, hm⟩ := Option.bind_eq_some_iff.mp hm
      obtain ⟨v_350, h_351, hm⟩ := Option.bind_eq_some_iff.mp hm
      obtain ⟨b_358, h_359, hm⟩ := Option.bind_eq_some_iff.mp hm
      refine go_if (xw_pt (xw_orP (xt_cmp (fun _ => op_ne) o_neI (nomark _) (x_callB (c_len _) T.g_len (by decide +kernel) (o_lenL LV.val.sv) (xa1 (x_ix (x_var 1) LV.val.sv (x_var 2) h_349))) (x_callB (c_len _) T.g_len (by decide +kernel) (o_lenL LV.val.sv) (xa1 (x_ix (x_var 1) LV.val.sv x_int h_351)))) h_359 (fun z hm => by obtain ⟨v_352, h_353, hm⟩ := Option.bind_eq_some_iff.mp hm; obtain ⟨h_357, hm⟩ := guardO_some hm; obtain ⟨ys_354, h_355, hm⟩ := Option.bind_eq_some_iff.mp hm; cases hm; exact (xw_or1 (xt_cmp (c_neD _) (o_neD (DE.list DE.int) (by decide) (LV.vw LV.own) (LV.vw LV.own) (fun _ _ => trivial) (fun _ _ => trivial)) (nomark _) (x_lc (rs := val pInt) (own := [("bit", 3)]) (xi_list (x_ix (x_var 1) LV.val.sv (x_var 2) h_353)).ro ⟨fun _ => blkOk_by (N := N__law_fault) (sc := defScope s__law_fault) (by decide +kernel), fun _ _ => rfl⟩ h_357 h_355 ⟨rfl, trivial⟩ (fun bit_356 o hx hm => by skip; refine ⟨_, _, rfl, (xg_name 3), lc_if (q := pInt) (xt_cmp (c_nin _) (o_ninL Eqv.int LV.own.sv) (by with_unfolding_all rfl) (x_var 3) (x_lst (xs := [(0 : Int), (1 : Int)]) (xa_cons x_int (xa_cons x_int xa_nil)) (le_line rfl))) hm (fun hm => ?_)⟩; skip; cases hm; exact ⟨_, rfl, (x_var 3)⟩)) (x_lst (xs := []) xa_nil (Nat.zero_le _))))))) (fun hz => ?_) (fun hz => ?_)
      · have hm := condT hz hm
        cases hm
        exact go_ret (x_var 2) (fun v H h => ⟨_, rfl, h⟩)
      · have hm := condF hz hm
        refine go_join ?_
        obtain ⟨v_360, h_361, hm⟩ := Option.bind_eq_some_iff.mp hm
        refine go_if (xt_cmp (c_inD _) (o_inD (DE.list DE.int) (by decide) Vw.val (LV.vw LV.own) (fun _ _ => trivial) (fun x _ => (fun _ _ => trivial))) (by with_unfolding_all rfl) (x_ix (x_var 1) LV.val.sv (x_var 2) h_361) (x_slc (x_var 1) LV.val.sv xo_none (xo_some (x_var 2)))) (fun hz => ?_) (fun hz => ?_)
        · have hm := condT hz hm
          cases hm
          exact go_ret (x_var 2) (fun v H h => ⟨_, rfl, h⟩)
        · have hm := condF hz hm
          refine go_join ?_
          cases hm
          exact go_nil (fun σ H h => ⟨_, rfl, h.wk (by repeat' (first | exact WkL.nil | exact WkS.refl | exact WkS.dead | exact WkS.list | exact WkS.dict | exact WkS.lstS (fun _ => WkS.list) | refine WkL.cons ?_ ?_))⟩)
  · rintro s hm
    show Go _ _ _ _ _ [val pInt states_0, val (pL (pL pInt)) codes_0, dead, dead]
    cases hm
    exact go_ret (x_neg x_int) (fun v H h => h)
  · rintro r hm v H h
    cases hm
    first | exact h | exact ⟨_, rfl, h⟩ | exact (no_noS h).elim

theorem ok__law_bit (T : Txt P K mg) : FnOk P w K mg base CX0 1 T.f__law_bit T.d__law_bit ["values", "literal"] (spP (fun (z : (List (Int)) × (Int)) => [val (pL pInt) z.1, val pInt z.2]) (fun z => m__law_bit z.1 z.2) (fun r => val pInt r)) := by
  refine fn_pure T.F__law_bit sc__law_bit (fun _ => rfl) (fun cdv A outer s H E hr z r B hm => ?_)
  obtain ⟨values_0, literal_0⟩ := z
  replace hm : m__law_bit values_0 literal_0 = some r := hm
  unfold m__law_bit at hm
  show Go _ _ _ _ _ [val (pL pInt) values_0, val pInt literal_0]
  obtain ⟨v_362, h_363, hm⟩ := Option.bind_eq_some_iff.mp hm
  cases hm
  exact go_ret (x_op (fun _ => op_xor) (o_int (g := Builtin.bitXor)) (x_ix (x_var 0) LV.val.sv (x_op (fun _ => op_fdiv) (o_intC ⟨by decide, by decide⟩) (x_var 1) x_int) h_363) (x_op (fun _ => op_mod) (o_intC (by decide)) (x_callTy (fun _ => call_int1) T.g_int (by decide +kernel) o_intI (xa1 (x_var 1))) x_int)) (fun v H h => h)

theorem ok__law_values (T : Txt P K mg) : FnOk P w K mg base CX0 2 T.f__law_values T.d__law_values ["parts", "state", "row"] (spP (fun (z : ((List (Str)) × (List ((Str) × (Int) × (Int))) × (List ((Int) × (Int))) × (List ((Str) × (Int)))) × (List (Int)) × (List (Int))) => [val (pH slH_0) z.1, val (pL pInt) z.2.1, val (pL pInt) z.2.2]) (fun z => m__law_values z.1 z.2.1 z.2.2) (fun r => own (oL pInt) r)) := by
  refine fn_pure T.F__law_values sc__law_values (fun _ => rfl) (fun cdv A outer s H E hr z r B hm => ?_)
  obtain ⟨parts_0, state_0, row_0⟩ := z
  replace hm : m__law_values parts_0 state_0 row_0 = some r := hm
  unfold m__law_values at hm
  show Go _ _ _ _ _ [val (pH slH_0) parts_0, val (pL pInt) state_0, val (pL pInt) row_0, dead, dead]
  obtain ⟨h_364, hm⟩ := guardO_some hm
  obtain ⟨h_365, hm⟩ := guardO_some hm
  refine go_set 3 (x_op (fun _ => op_cat) (o_cat LV.own LV.own h_365) (x_op (fun _ => op_cat) (o_cat LV.own LV.own h_364) (x_lst (xs := [(0 : Int)]) (xa_cons x_int xa_nil) (le_line rfl)) (x_callTy (c_list _) T.g_list (by decide +kernel) (o_listL LV.val.sv) (xa1 (x_var 2)))) (x_callTy (c_list _) T.g_list (by decide +kernel) (o_listL LV.val.sv) (xa1 (x_var 1)))) ?_
  show Go _ _ _ _ _ [val (pH slH_0) parts_0, val (pL pInt) state_0, val (pL pInt) row_0, own (oL pInt) (([(0 : Int)] ++ row_0) ++ state_0), dead]
  refine go_forK (rs := val (pT2 pInt pInt)) (fun s => [val (pH slH_0) parts_0, val (pL pInt) state_0, val (pL pInt) row_0, own (oL pInt) s, dead]) (fun r => own (oL pInt) r) (xi_list (x_ixH 2 (x_var 0) x_int rfl)) (by repeat' (first | exact WkL.nil | exact WkS.refl | exact WkS.dead | exact WkS.list | exact WkS.dict | exact WkS.lstS (fun _ => WkS.list) | refine WkL.cons ?_ ?_)) hm ?_ ?_ ?_
  · rintro B1 pair_367 values_366 out hx hm hr1 hl1
    refine ⟨_, _, (xg_name 4), ?_⟩
    show Go _ _ _ _ _ [val (pH slH_0) parts_0, val (pL pInt) state_0, val (pL pInt) row_0, own (oL pInt) values_366, val (pT2 pInt pInt) pair_367]
    obtain ⟨r_368, h_369, hm⟩ := Option.bind_eq_some_iff.mp hm
    obtain ⟨r_370, h_371, hm⟩ := Option.bind_eq_some_iff.mp hm
    obtain ⟨h_372, hm⟩ := guardO_some hm
    refine go_append (pl_name 3 (by repeat' (first | exact Stb.nil | exact trivial | exact stb_map (fun _ => trivial) _ | refine Stb.cons ?_ ?_)) (hso := own_some)) (x_op (fun _ => op_and) (o_int (g := Builtin.bitAnd)) (x_callF (z := (values_366, pair_367.1)) (ok__law_bit T) Flat.int (by decide) T.g__law_bit T.k__law_bit T.b__law_bit (xa_cons (x_varL 3) (xa_cons (x_fst (x_var (z := pair_367) 4) x_int) xa_nil)) (AV.to (.cons (LV.vw LV.bor) (.cons Vw.val .nil))) (by repeat' (first | exact trivial | refine ⟨no_val, ?_⟩ | refine ⟨no_borL, ?_⟩ | refine ⟨no_bor, ?_⟩)) h_369) (x_callF (z := (values_366, pair_367.2)) (ok__law_bit T) Flat.int (by decide) T.g__law_bit T.k__law_bit T.b__law_bit (xa_cons (x_varL 3) (xa_cons (x_snd (x_var (z := pair_367) 4) x_int) xa_nil)) (AV.to (.cons (LV.vw LV.bor) (.cons Vw.val .nil))) (by repeat' (first | exact trivial | refine ⟨no_val, ?_⟩ | refine ⟨no_borL, ?_⟩ | refine ⟨no_bor, ?_⟩)) h_371)) h_372 ?_
    show Go _ _ _ _ _ [val (pH slH_0) parts_0, val (pL pInt) state_0, val (pL pInt) row_0, own (oL pInt) (values_366 ++ [(Builtin.bitAnd r_368 r_370)]), val (pT2 pInt pInt) pair_367]
    cases hm
    exact go_nil (fun σ H h => ⟨_, rfl, h.wk (by repeat' (first | exact WkL.nil | exact WkS.refl | exact WkS.dead | exact WkS.list | exact WkS.dict | exact WkS.lstS (fun _ => WkS.list) | refine WkL.cons ?_ ?_))⟩)
  · rintro values_366 hm
    show Go _ _ _ _ _ [val (pH slH_0) parts_0, val (pL pInt) state_0, val (pL pInt) row_0, own (oL pInt) values_366, dead]
    cases hm
    exact go_retV 3 rfl own_some (fun v H h => h)
  · rintro r hm v H h
    cases hm

theorem ok__law_step (T : Txt P K mg) : FnOk P w K mg base CX0 3 T.f__law_step T.d__law_step ["parts", "state", "row"] (spP (fun (z : ((List (Str)) × (List ((Str) × (Int) × (Int))) × (List ((Int) × (Int))) × (List ((Str) × (Int)))) × (List (Int)) × (List (Int))) => [val (pH slH_0) z.1, val (pL pInt) z.2.1, val (pL pInt) z.2.2]) (fun z => m__law_step z.1 z.2.1 z.2.2) (fun r => val (pT2 (pL pInt) (pTup pInt)) r)) := by
  refine fn_pure T.F__law_step sc__law_step (fun _ => rfl) (fun cdv A outer s H E hr z r B hm => ?_)
  obtain ⟨parts_0, state_0, row_0⟩ := z
  replace hm : m__law_step parts_0 state_0 row_0 = some r := hm
  unfold m__law_step at hm
  show Go _ _ _ _ _ [val (pH slH_0) parts_0, val (pL pInt) state_0, val (pL pInt) row_0, dead, dead, dead]
  obtain ⟨r_373, h_374, hm⟩ := Option.bind_eq_some_iff.mp hm
  refine go_set 3 (x_call (z := (parts_0, state_0, row_0)) (ok__law_values T) (by decide) T.g__law_values T.k__law_values T.b__law_values (xa_cons (x_var 0) (xa_cons (x_var 1) (xa_cons (x_var 2) xa_nil))) rfl (by repeat' (first | exact trivial | refine ⟨no_val, ?_⟩ | refine ⟨no_borL, ?_⟩ | refine ⟨no_bor, ?_⟩)) h_374) ?_
  show Go _ _ _ _ _ [val (pH slH_0) parts_0, val (pL pInt) state_0, val (pL pInt) row_0, own (oL pInt) r_373, dead, dead]
  obtain ⟨h_380, hm⟩ := guardO_some hm
  obtain ⟨ys_375, h_376, hm⟩ := Option.bind_eq_some_iff.mp hm
  obtain ⟨h_386, hm⟩ := guardO_some hm
  obtain ⟨ys_381, h_382, hm⟩ := Option.bind_eq_some_iff.mp hm
  cases hm
  exact go_ret (x_tup2 (xa_cons (XV.frz (x_lc (rs := val (pT2 pStr pInt)) (own := [("pair", 4)]) (xi_list (x_ixH 3 (x_var 0) x_int rfl)).ro ⟨fun _ => blkOk_by (N := N__law_step) (sc := defScope s__law_step) (by decide +kernel), fun _ _ => rfl⟩ h_380 h_376 ⟨rfl, trivial⟩ (fun pair_377 o hx hm => by obtain ⟨r_378, h_379, hm⟩ := Option.bind_eq_some_iff.mp hm; cases hm; exact ⟨_, _, rfl, (xg_name 4), lc_el (x_callF (z := (r_373, pair_377.2)) (ok__law_bit T) Flat.int (by decide) T.g__law_bit T.k__law_bit T.b__law_bit (xa_cons (x_varL 3) (xa_cons (x_snd (x_var (z := pair_377) 4) x_int) xa_nil)) (AV.to (.cons (LV.vw LV.bor) (.cons Vw.val .nil))) (by repeat' (first | exact trivial | refine ⟨no_val, ?_⟩ | refine ⟨no_borL, ?_⟩ | refine ⟨no_bor, ?_⟩)) h_379)⟩))) (xa_cons (x_callTy (c_tup _) T.g_tuple (by decide +kernel) (o_tupL LV.own.sv) (xa1 (x_lc (rs := val (pT3 pStr pInt pInt)) (own := [("latch", 5)]) (xi_list (x_ixH 1 (x_var 0) x_int rfl)).ro ⟨fun _ => blkOk_by (N := N__law_step) (sc := defScope s__law_step) (by decide +kernel), fun _ _ => rfl⟩ h_386 h_382 ⟨rfl, trivial⟩ (fun latch_383 o hx hm => by obtain ⟨r_384, h_385, hm⟩ := Option.bind_eq_some_iff.mp hm; cases hm; exact ⟨_, _, rfl, (xg_name 5), lc_el (x_callF (z := (r_373, latch_383.2.2)) (ok__law_bit T) Flat.int (by decide) T.g__law_bit T.k__law_bit T.b__law_bit (xa_cons (x_varL 3) (xa_cons (x_t33 (x_var (z := latch_383) 5) x_int) xa_nil)) (AV.to (.cons (LV.vw LV.bor) (.cons Vw.val .nil))) (by repeat' (first | exact trivial | refine ⟨no_val, ?_⟩ | refine ⟨no_borL, ?_⟩ | refine ⟨no_bor, ?_⟩)) h_385)⟩)))) xa_nil))) (fun v H h => h)

theorem ok__law_right (T : Txt P K mg) : FnOk P w K mg base CX0 4 T.f__law_right T.d__law_right ["parts", "moves", "codes", "inputs", "outputs"] (spP (fun (z : ((List (Str)) × (List ((Str) × (Int) × (Int))) × (List ((Int) × (Int))) × (List ((Str) × (Int)))) × (List (List ((Int) × (Int)))) × (List (List (Int))) × (Int) × (Int)) => [val (pH slH_0) z.1, val (pL (pL (pT2 pInt pInt))) z.2.1, val (pL (pL pInt)) z.2.2.1, val pInt z.2.2.2.1, val pInt z.2.2.2.2]) (fun z => m__law_right z.1 z.2.1 z.2.2.1 z.2.2.2.1 z.2.2.2.2) (fun r => val pBl r)) := by
  refine fn_pure T.F__law_right sc__law_right (fun _ => rfl) (fun cdv A outer s H E hr z r B hm => ?_)
  obtain ⟨parts_0, moves_0, codes_0, inputs_0, outputs_0⟩ := z
  replace hm : m__law_right parts_0 moves_0 codes_0 inputs_0 outputs_0 = some r := hm
  unfold m__law_right at hm
  show Go _ _ _ _ _ [val (pH slH_0) parts_0, val (pL (pL (pT2 pInt pInt))) moves_0, val (pL (pL pInt)) codes_0, val pInt inputs_0, val pInt outputs_0, dead, dead, dead, dead, dead]
  obtain ⟨h_388, hm⟩ := guardO_some hm
  refine go_forK (rs := val pInt) (fun s => [val (pH slH_0) parts_0, val (pL (pL (pT2 pInt pInt))) moves_0, val (pL (pL pInt)) codes_0, val pInt inputs_0, val pInt outputs_0, dead, dead, dead, dead, dead]) (fun r => val pBl r) (xi_range1 T.g_range (x_callB (c_len _) T.g_len (by decide +kernel) (o_lenL LV.val.sv) (xa1 (x_var 1))) h_388) (by repeat' (first | exact WkL.nil | exact WkS.refl | exact WkS.dead | exact WkS.list | exact WkS.dict | exact WkS.lstS (fun _ => WkS.list) | refine WkL.cons ?_ ?_)) hm ?_ ?_ ?_
  · rintro B1 s_389 s out hx hm hr1 hl1
    refine ⟨_, _, (xg_name 5), ?_⟩
    show Go _ _ _ _ _ [val (pH slH_0) parts_0, val (pL (pL (pT2 pInt pInt))) moves_0, val (pL (pL pInt)) codes_0, val pInt inputs_0, val pInt outputs_0, val pInt s_389, dead, dead, dead, dead]
    obtain ⟨h_390, hm⟩ := guardO_some hm
    obtain ⟨h_392, hm⟩ := guardO_some hm
    refine go_forK (rs := val pInt) (fun s => [val (pH slH_0) parts_0, val (pL (pL (pT2 pInt pInt))) moves_0, val (pL (pL pInt)) codes_0, val pInt inputs_0, val pInt outputs_0, val pInt s_389, dead, dead, dead, dead]) (fun r => val pBl r) (xi_range1 T.g_range (x_op (fun _ => op_shl) (o_intC ⟨h_390.1, h_390.2, by decide⟩) x_int (x_var 3)) h_392) (by repeat' (first | exact WkL.nil | exact WkS.refl | exact WkS.dead | exact WkS.list | exact WkS.dict | exact WkS.lstS (fun _ => WkS.list) | refine WkL.cons ?_ ?_)) hm ?_ ?_ ?_
    · rintro B1 number_393 s out hx hm hr2 hl2
      refine ⟨_, _, (xg_name 6), ?_⟩
      show Go _ _ _ _ _ [val (pH slH_0) parts_0, val (pL (pL (pT2 pInt pInt))) moves_0, val (pL (pL pInt)) codes_0, val pInt inputs_0, val pInt outputs_0, val pInt s_389, val pInt number_393, dead, dead, dead]
      obtain ⟨v_394, h_395, hm⟩ := Option.bind_eq_some_iff.mp hm
      obtain ⟨v_396, h_397, hm⟩ := Option.bind_eq_some_iff.mp hm
      refine go_asg (x_ix (x_ix (x_var 1) LV.val.sv (x_var 5) h_395) LV.val.sv (x_var 6) h_397) (xg_tup2 (xgs_cons (xg_name 7) (xgs_cons (xg_name 8) xgs_nil))) ?_
      show Go _ _ _ _ _ [val (pH slH_0) parts_0, val (pL (pL (pT2 pInt pInt))) moves_0, val (pL (pL pInt)) codes_0, val pInt inputs_0, val pInt outputs_0, val pInt s_389, val pInt number_393, val pInt v_396.1, val pInt v_396.2, dead]
      obtain ⟨r_398, h_399, hm⟩ := Option.bind_eq_some_iff.mp hm
      obtain ⟨v_400, h_401, hm⟩ := Option.bind_eq_some_iff.mp hm
      obtain ⟨due_402, h_403, hm⟩ := letO_some hm
      refine go_set 9 (XV.eqV (x_tup2 (xa_cons (XV.frz (x_call (z := (outputs_0, v_396.2)) (ok__law_row T) (by decide) T.g__law_row T.k__law_row T.b__law_row (xa_cons (x_var 4) (xa_cons (x_var 8) xa_nil)) rfl (by repeat' (first | exact trivial | refine ⟨no_val, ?_⟩ | refine ⟨no_borL, ?_⟩ | refine ⟨no_bor, ?_⟩)) h_399)) (xa_cons (x_callTy (c_tup _) T.g_tuple (by decide +kernel) (o_tupL LV.val.sv) (xa1 (x_ix (x_var 2) LV.val.sv (x_var 7) h_401))) xa_nil))) h_403) ?_
      show Go _ _ _ _ _ [val (pH slH_0) parts_0, val (pL (pL (pT2 pInt pInt))) moves_0, val (pL (pL pInt)) codes_0, val pInt inputs_0, val pInt outputs_0, val pInt s_389, val pInt number_393, val pInt v_396.1, val pInt v_396.2, val (pT2 (pL pInt) (pTup pInt)) due_402]
      obtain ⟨v_404, h_405, hm⟩ := Option.bind_eq_some_iff.mp hm
      obtain ⟨r_406, h_407, hm⟩ := Option.bind_eq_some_iff.mp hm
      obtain ⟨r_408, h_409, hm⟩ := Option.bind_eq_some_iff.mp hm
      refine go_if (xt_cmp (c_neD _) (o_neD (DE.t2 (DE.list DE.int) (DE.tup DE.int)) (by decide) Vw.val Vw.val ⟨(fun _ _ => trivial), (fun _ _ => trivial)⟩ ⟨(fun _ _ => trivial), (fun _ _ => trivial)⟩) (nomark _) (x_call (z := (parts_0, v_404, r_406)) (ok__law_step T) (by decide) T.g__law_step T.k__law_step T.b__law_step (xa_cons (x_var 0) (xa_cons (x_ix (x_var 2) LV.val.sv (x_var 5) h_405) (xa_cons (XV.frz (x_call (z := (inputs_0, number_393)) (ok__law_row T) (by decide) T.g__law_row T.k__law_row T.b__law_row (xa_cons (x_var 3) (xa_cons (x_var 6) xa_nil)) rfl (by repeat' (first | exact trivial | refine ⟨no_val, ?_⟩ | refine ⟨no_borL, ?_⟩ | refine ⟨no_bor, ?_⟩)) h_407)) xa_nil))) rfl (by repeat' (first | exact trivial | refine ⟨no_val, ?_⟩ | refine ⟨no_borL, ?_⟩ | refine ⟨no_bor, ?_⟩)) h_409) (x_var (z := due_402) 9)) (fun hz => ?_) (fun hz => ?_)
      · have hm := condT hz hm
        cases hm
        exact go_ret x_bl (fun v H h => ⟨_, rfl, h⟩)
      · have hm := condF hz hm
        refine go_join ?_
        cases hm
        exact go_nil (fun σ H h => ⟨_, rfl, h.wk (by repeat' (first | exact WkL.nil | exact WkS.refl | exact WkS.dead | exact WkS.list | exact WkS.dict | exact WkS.lstS (fun _ => WkS.list) | refine WkL.cons ?_ ?_))⟩)
    · rintro s hm
      show Go _ _ _ _ _ [val (pH slH_0) parts_0, val (pL (pL (pT2 pInt pInt))) moves_0, val (pL (pL pInt)) codes_0, val pInt inputs_0, val pInt outputs_0, val pInt s_389, dead, dead, dead, dead]
      cases hm
      exact go_nil (fun σ H h => ⟨_, rfl, h.wk (by repeat' (first | exact WkL.nil | exact WkS.refl | exact WkS.dead | exact WkS.list | exact WkS.dict | exact WkS.lstS (fun _ => WkS.list) | refine WkL.cons ?_ ?_))⟩)
    · rintro r hm v H h
      cases hm
      first | exact h | exact ⟨_, rfl, h⟩ | exact (no_noS h).elim
  · rintro s hm
    show Go _ _ _ _ _ [val (pH slH_0) parts_0, val (pL (pL (pT2 pInt pInt))) moves_0, val (pL (pL pInt)) codes_0, val pInt inputs_0, val pInt outputs_0, dead, dead, dead, dead, dead]
    cases hm
    exact go_ret x_bl (fun v H h => h)
  · rintro r hm v H h
    cases hm
    first | exact h | exact ⟨_, rfl, h⟩ | exact (no_noS h).elim

theorem ok__law_spoilt (T : Txt P K mg) : FnOk P w K mg base CX0 1 T.f__law_spoilt T.d__law_spoilt ["cell", "codes"] (spP (fun (z : (Int) × (List (List (Int)))) => [val pInt z.1, val (pL (pL pInt)) z.2]) (fun z => m__law_spoilt z.1 z.2) (fun r => val (pL (pL pInt)) r)) := by
  refine fn_pure T.F__law_spoilt sc__law_spoilt (fun _ => rfl) (fun cdv A outer s H E hr z r B hm => ?_)
  obtain ⟨cell_0, codes_0⟩ := z
  replace hm : m__law_spoilt cell_0 codes_0 = some r := hm
  unfold m__law_spoilt at hm
  show Go _ _ _ _ _ [val pInt cell_0, val (pL (pL pInt)) codes_0, dead, dead, dead, dead]
  obtain ⟨kind_410, h_411, hm⟩ := letO_some hm
  refine go_set 2 (XV.eqV (x_op (fun _ => op_mod) (o_intC (by decide)) (x_callTy (fun _ => call_int1) T.g_int (by decide +kernel) o_intI (xa1 (x_var 0))) x_int) h_411) ?_
  show Go _ _ _ _ _ [val pInt cell_0, val (pL (pL pInt)) codes_0, val pInt kind_410, dead, dead, dead]
  obtain ⟨cell_412, h_413, hm⟩ := letO_some hm
  refine go_set 0 (XV.eqV (x_callTy (fun _ => call_int1) T.g_int (by decide +kernel) o_intI (xa1 (x_op (fun _ => op_fdiv) (o_intC ⟨by decide, by decide⟩) (x_var 0) x_int))) h_413) ?_
  show Go _ _ _ _ _ [val pInt cell_412, val (pL (pL pInt)) codes_0, val pInt kind_410, dead, dead, dead]
  obtain ⟨h_417, hm⟩ := guardO_some hm
  obtain ⟨ys_414, h_415, hm⟩ := Option.bind_eq_some_iff.mp hm
  refine go_setLcS 1 (g := fun x => own (oL pInt) x) (rs := val (pL pInt)) (own := [("code", 4)]) (xi_list (x_var 1)).ro ⟨fun _ => blkOk_by (N := N__law_spoilt) (sc := defScope s__law_spoilt) (by decide +kernel), fun _ _ => rfl⟩ h_417 h_415 ⟨rfl, trivial⟩ (fun _ => trivial) (fun code_416 o hx hm => by skip; cases hm; exact ⟨_, _, rfl, (xg_name 4), lc_elS (g := fun x => own (oL pInt) x) (x_callTy (c_list _) T.g_list (by decide +kernel) (o_listL LV.val.sv) (xa1 (x_var 4)))⟩) ?_ (hsw := sw_true rfl rfl rfl (by decide +kernel))
  show Go _ _ _ _ _ [val pInt cell_412, lstS (ys_414.map fun x => own (oL pInt) x), val pInt kind_410, dead, dead, dead]
  refine go_if (xw_pt (xw_or (xt_cmp (c_eqD _) (o_eqD (DE.list (DE.list DE.int)) (by decide) Vw.bor (LV.vw LV.own) (fun _ _ => (fun _ _ => trivial)) (fun _ _ => (fun _ _ => trivial))) (nomark _) (x_look 1 (Vw.lstS fun _ => LV.vw LV.own)) (x_lst (xs := []) xa_nil (Nat.zero_le _))) (fun _ => (xw_or1 (xt_cmp (fun _ => op_eq) o_eqI (nomark _) (x_var 2) x_int))) rfl)) (fun hz => ?_) (fun hz => ?_)
  · have hm := condT hz hm
    refine go_wk (Γ' := [val pInt cell_412, val (pL (pL pInt)) ys_414, val pInt kind_410, dead, dead, dead]) ?_ (WkL.at (j := 1) (WkS.lstS fun _ => WkS.list) rfl)
    obtain ⟨v_420, h_421, hm⟩ := Option.bind_eq_some_iff.mp hm
    obtain ⟨h_423, hm⟩ := guardO_some hm
    obtain ⟨h_428, hm⟩ := guardO_some hm
    obtain ⟨ys_424, h_425, hm⟩ := Option.bind_eq_some_iff.mp hm
    obtain ⟨h_429, hm⟩ := guardO_some hm
    cases hm
    exact go_ret (XV.frz (x_op (fun _ => op_cat) (o_cat LV.val LV.own h_429) (x_var 1) (x_lst (xs := [ys_424]) (xa_cons (XV.frz (x_lc (rs := val pInt) (own := [("k", 5)]) (xi_range1 T.g_range (x_iteP (g := fun v => val pInt v) (xt_cmp (c_neD _) (o_neD (DE.list (DE.list DE.int)) (by decide) Vw.val (LV.vw LV.own) (fun _ _ => (fun _ _ => trivial)) (fun _ _ => (fun _ _ => trivial))) (nomark _) (x_var 1) (x_lst (xs := []) xa_nil (Nat.zero_le _))) h_421 (fun v hm => by obtain ⟨v_418, h_419, hm⟩ := Option.bind_eq_some_iff.mp hm; cases hm; exact (x_callB (c_len _) T.g_len (by decide +kernel) (o_lenL LV.val.sv) (xa1 (x_ix (x_var 1) LV.val.sv x_int h_419)))) (fun v hm => by skip; cases hm; exact x_int)) h_423).ro ⟨fun _ => blkOk_by (N := N__law_spoilt) (sc := defScope s__law_spoilt) (by decide +kernel), fun _ _ => rfl⟩ h_428 h_425 ⟨rfl, trivial⟩ (fun k_426 o hx hm => by obtain ⟨h_427, hm⟩ := guardO_some hm; cases hm; exact ⟨_, _, rfl, (xg_name 5), lc_el (x_op (fun _ => op_mod) (o_intC (by decide)) (x_callTy (fun _ => call_int1) T.g_int (by decide +kernel) o_intI (xa1 (x_op (fun _ => op_shr) (o_intC h_427) (x_var 0) (x_var 5)))) x_int)⟩))) xa_nil) (le_line rfl)))) (fun v H h => h)
  · have hm := condF hz hm
    refine go_join ?_
    obtain ⟨h_430, hm⟩ := guardO_some hm
    obtain ⟨place_431, h_432, hm⟩ := letO_some hm
    refine go_set 3 (XV.eqV (x_op (fun _ => op_mod) (o_intC h_430) (x_callTy (fun _ => call_int1) T.g_int (by decide +kernel) o_intI (xa1 (x_var 0))) (x_callB (c_len _) T.g_len (by decide +kernel) o_lenB (xa1 (x_look 1 (Vw.lstS fun _ => LV.vw LV.own))))) h_432) ?_
    show Go _ _ _ _ _ [val pInt cell_412, lstS (ys_414.map fun x => own (oL pInt) x), val pInt kind_410, val pInt place_431, dead, dead]
    obtain ⟨cell_433, h_434, hm⟩ := letO_some hm
    refine go_set 0 (XV.eqV (x_callTy (fun _ => call_int1) T.g_int (by decide +kernel) o_intI (xa1 (x_op (fun _ => op_fdiv) (o_intC ⟨by decide, by decide⟩) (x_var 0) x_int))) h_434) ?_
    show Go _ _ _ _ _ [val pInt cell_433, lstS (ys_414.map fun x => own (oL pInt) x), val pInt kind_410, val pInt place_431, dead, dead]
    obtain ⟨codes_435, hj_439, hm⟩ := Option.bind_eq_some_iff.mp hm
    refine go_ifJ [val pInt cell_433, lstS (codes_435.map fun x => own (oL pInt) x), val pInt kind_410, val pInt place_431, dead, dead] (xt_cmp (fun _ => op_eq) o_eqI (nomark _) (x_var 2) x_int) (fun hz => ?_) (fun hz => ?_) ?_
    · have hm := condT hz hj_439
      obtain ⟨i_436, h_437, hm⟩ := Option.bind_eq_some_iff.mp hm
      obtain ⟨h_438, hm⟩ := guardO_some hm
      refine go_exprM (x_popAtO (n := i_436) (pl_name 1 (by repeat' (first | exact Stb.nil | exact trivial | exact stb_map (fun _ => trivial) _ | refine Stb.cons ?_ ?_)) (hso := lstS_some)) (x_var 3) (by rw [List.length_map]; exact h_437) (by repeat' (first | exact Stb.nil | exact trivial | exact stb_map (fun _ => trivial) _ | refine Stb.cons ?_ ?_)) (by rw [List.length_map]; exact h_438)) ?_
      rw [map_eraseO (fun x => own (oL pInt) x)]
      show Go _ _ _ _ _ [val pInt cell_433, lstS ((ys_414.eraseIdx i_436).map fun x => own (oL pInt) x), val pInt kind_410, val pInt place_431, dead, dead]
      cases hm
      exact go_nx (by repeat' (first | exact WkL.nil | exact WkS.refl | exact WkS.dead | exact WkS.list | exact WkS.dict | exact WkS.lstS (fun _ => WkS.list) | refine WkL.cons ?_ ?_))
    · have hm := condF hz hj_439
      cases hm
      exact go_nx (by repeat' (first | exact WkL.nil | exact WkS.refl | exact WkS.dead | exact WkS.list | exact WkS.dict | exact WkS.lstS (fun _ => WkS.list) | refine WkL.cons ?_ ?_))
    obtain ⟨codes_441, hj_447, hm⟩ := Option.bind_eq_some_iff.mp hm
    refine go_ifJ [val pInt cell_433, lstS (codes_441.map fun x => own (oL pInt) x), val pInt kind_410, val pInt place_431, dead, dead] (xt_cmp (fun _ => op_eq) o_eqI (nomark _) (x_var 2) x_int) (fun hz => ?_) (fun hz => ?_) ?_
    · have hm := condT hz hj_447
      obtain ⟨v_442, h_443, hm⟩ := Option.bind_eq_some_iff.mp hm
      obtain ⟨h_444, hm⟩ := guardO_some hm
      obtain ⟨j_445, h_446, hm⟩ := Option.bind_eq_some_iff.mp hm
      refine go_setitemO (s := own (oL pInt) (v_442 ++ [(cell_433 % (2 : Int))])) (j := j_445) (pl_name 1 (by repeat' (first | exact Stb.nil | exact trivial | exact stb_map (fun _ => trivial) _ | refine Stb.cons ?_ ?_)) (hso := lstS_some)) (x_var 3) (x_op (fun _ => op_cat) (o_cat LV.bor LV.own h_444) (XV.bl (x_ixB (x_look 1 (Vw.lstS fun _ => LV.vw LV.own)) (x_var 3) h_443) Flat.int) (x_lst (xs := [(cell_433 % (2 : Int))]) (xa_cons (x_op (fun _ => op_mod) (o_intC (by decide)) (x_callTy (fun _ => call_int1) T.g_int (by decide +kernel) o_intI (xa1 (x_var 0))) x_int) xa_nil) (le_line rfl))) (by rw [List.length_map]; exact h_446) (by repeat' (first | exact Stb.nil | exact trivial | exact stb_map (fun _ => trivial) _ | refine Stb.cons ?_ ?_)) trivial ?_
      rw [← List.map_set (f := fun x => own (oL pInt) x)]
      show Go _ _ _ _ _ [val pInt cell_433, lstS (((codes_435).set j_445 (v_442 ++ [(cell_433 % (2 : Int))])).map fun x => own (oL pInt) x), val pInt kind_410, val pInt place_431, dead, dead]
      cases hm
      exact go_nx (by repeat' (first | exact WkL.nil | exact WkS.refl | exact WkS.dead | exact WkS.list | exact WkS.dict | exact WkS.lstS (fun _ => WkS.list) | refine WkL.cons ?_ ?_))
    · have hm := condF hz hj_447
      cases hm
      exact go_nx (by repeat' (first | exact WkL.nil | exact WkS.refl | exact WkS.dead | exact WkS.list | exact WkS.dict | exact WkS.lstS (fun _ => WkS.list) | refine WkL.cons ?_ ?_))
    obtain ⟨b_451, h_452, hm⟩ := Option.bind_eq_some_iff.mp hm
    obtain ⟨codes_453, hj_460, hm⟩ := Option.bind_eq_some_iff.mp hm
    refine go_ifJ [val pInt cell_433, lstS (codes_453.map fun x => own (oL pInt) x), val pInt kind_410, val pInt place_431, dead, dead] (xw_pt (xw_andP (xt_cmp (fun _ => op_eq) o_eqI (nomark _) (x_var 2) x_int) h_452 (fun z hm => by obtain ⟨v_449, h_450, hm⟩ := Option.bind_eq_some_iff.mp hm; cases hm; exact (xw_and1 (xt_cmp (fun _ => op_gt) o_bl (nomark _) (x_callB (c_len _) T.g_len (by decide +kernel) o_lenB (xa1 (x_ixB (x_look 1 (Vw.lstS fun _ => LV.vw LV.own)) (x_var 3) h_450))) x_int))))) (fun hz => ?_) (fun hz => ?_) ?_
    · have hm := condT hz hj_460
      obtain ⟨j_456, h_455, hm⟩ := Option.bind_eq_some_iff.mp hm
      obtain ⟨row_454, h_457, hm⟩ := Option.bind_eq_some_iff.mp hm
      obtain ⟨v_458, h_459, hm⟩ := Option.bind_eq_some_iff.mp hm
      refine go_exprM (x_pop (pl_ix (s := own (oL pInt) row_454) (j := j_456) (pl_name 1 (by repeat' (first | exact Stb.nil | exact trivial | exact stb_map (fun _ => trivial) _ | refine Stb.cons ?_ ?_)) (hso := lstS_some)) (xs_var 3) (by rw [List.length_map]; exact h_455) (by repeat' (first | exact Stb.nil | exact trivial | exact stb_map (fun _ => trivial) _ | refine Stb.cons ?_ ?_)) (by rw [List.getElem?_map, h_457]; rfl) own_some) h_459) ?_
      rw [← List.map_set (f := fun x => own (oL pInt) x)]
      show Go _ _ _ _ _ [val pInt cell_433, lstS (((codes_441).set j_456 row_454.dropLast).map fun x => own (oL pInt) x), val pInt kind_410, val pInt place_431, dead, dead]
      cases hm
      exact go_nx (by repeat' (first | exact WkL.nil | exact WkS.refl | exact WkS.dead | exact WkS.list | exact WkS.dict | exact WkS.lstS (fun _ => WkS.list) | refine WkL.cons ?_ ?_))
    · have hm := condF hz hj_460
      cases hm
      exact go_nx (by repeat' (first | exact WkL.nil | exact WkS.refl | exact WkS.dead | exact WkS.list | exact WkS.dict | exact WkS.lstS (fun _ => WkS.list) | refine WkL.cons ?_ ?_))
    obtain ⟨b_464, h_465, hm⟩ := Option.bind_eq_some_iff.mp hm
    obtain ⟨codes_466, hj_478, hm⟩ := Option.bind_eq_some_iff.mp hm
    refine go_ifJ [val pInt cell_433, lstS (codes_466.map fun x => own (oL pInt) x), val pInt kind_410, val pInt place_431, dead, dead] (xw_pt (xw_andP (xt_cmp (fun _ => op_eq) o_eqI (nomark _) (x_var 2) x_int) h_465 (fun z hm => by obtain ⟨v_462, h_463, hm⟩ := Option.bind_eq_some_iff.mp hm; cases hm; exact (xw_and1 (xt_cmp (fun _ => op_gt) o_bl (nomark _) (x_callB (c_len _) T.g_len (by decide +kernel) o_lenB (xa1 (x_ixB (x_look 1 (Vw.lstS fun _ => LV.vw LV.own)) (x_var 3) h_463))) x_int))))) (fun hz => ?_) (fun hz => ?_) ?_
    · have hm := condT hz hj_478
      obtain ⟨v_470, h_471, hm⟩ := Option.bind_eq_some_iff.mp hm
      obtain ⟨v_467, h_468, hm⟩ := Option.bind_eq_some_iff.mp hm
      obtain ⟨h_469, hm⟩ := guardO_some hm
      obtain ⟨j_476, h_473, hm⟩ := Option.bind_eq_some_iff.mp hm
      obtain ⟨row_472, h_477, hm⟩ := Option.bind_eq_some_iff.mp hm
      obtain ⟨row_474, h_475, hm⟩ := Option.bind_eq_some_iff.mp hm
      refine go_setitem (p := pInt) (pl_ix (s := own (oL pInt) row_472) (j := j_476) (pl_name 1 (by repeat' (first | exact Stb.nil | exact trivial | exact stb_map (fun _ => trivial) _ | refine Stb.cons ?_ ?_)) (hso := lstS_some)) (xs_var 3) (by rw [List.length_map]; exact h_473) (by repeat' (first | exact Stb.nil | exact trivial | exact stb_map (fun _ => trivial) _ | refine Stb.cons ?_ ?_)) (by rw [List.getElem?_map, h_477]; rfl) own_some) (x_op (fun _ => op_mod) (o_intC h_469) (x_callTy (fun _ => call_int1) T.g_int (by decide +kernel) o_intI (xa1 (x_var 0))) (x_callB (c_len _) T.g_len (by decide +kernel) o_lenB (xa1 (x_ixB (x_look 1 (Vw.lstS fun _ => LV.vw LV.own)) (x_var 3) h_468)))) (x_ix (x_lst (xs := [(2 : Int), (-(1 : Int)), (3 : Int)]) (xa_cons x_int (xa_cons (x_neg x_int) (xa_cons x_int xa_nil))) (le_line rfl)) LV.own.sv (x_op (fun _ => op_mod) (o_intC (by decide)) (x_callTy (fun _ => call_int1) T.g_int (by decide +kernel) o_intI (xa1 (x_op (fun _ => op_fdiv) (o_intC ⟨by decide, by decide⟩) (x_var 0) x_int))) x_int) h_471) h_475 ?_
      rw [← List.map_set (f := fun x => own (oL pInt) x)]
      show Go _ _ _ _ _ [val pInt cell_433, lstS (((codes_453).set j_476 row_474).map fun x => own (oL pInt) x), val pInt kind_410, val pInt place_431, dead, dead]
      cases hm
      exact go_nx (by repeat' (first | exact WkL.nil | exact WkS.refl | exact WkS.dead | exact WkS.list | exact WkS.dict | exact WkS.lstS (fun _ => WkS.list) | refine WkL.cons ?_ ?_))
    · have hm := condF hz hj_478
      cases hm
      exact go_nx (by repeat' (first | exact WkL.nil | exact WkS.refl | exact WkS.dead | exact WkS.list | exact WkS.dict | exact WkS.lstS (fun _ => WkS.list) | refine WkL.cons ?_ ?_))
    obtain ⟨codes_480, hj_486, hm⟩ := Option.bind_eq_some_iff.mp hm
    refine go_ifJ [val pInt cell_433, lstS (codes_480.map fun x => own (oL pInt) x), val pInt kind_410, val pInt place_431, dead, dead] (xt_cmp (fun _ => op_eq) o_eqI (nomark _) (x_var 2) x_int) (fun hz => ?_) (fun hz => ?_) ?_
    · have hm := condT hz hj_486
      obtain ⟨h_481, hm⟩ := guardO_some hm
      obtain ⟨v_482, h_483, hm⟩ := Option.bind_eq_some_iff.mp hm
      obtain ⟨j_484, h_485, hm⟩ := Option.bind_eq_some_iff.mp hm
      refine go_setitemO (s := own (oL pInt) v_482) (j := j_484) (pl_name 1 (by repeat' (first | exact Stb.nil | exact trivial | exact stb_map (fun _ => trivial) _ | refine Stb.cons ?_ ?_)) (hso := lstS_some)) (x_var 3) (x_callTy (c_list _) T.g_list (by decide +kernel) (o_listL LV.bor.sv) (xa1 (XV.bl (x_ixB (x_look 1 (Vw.lstS fun _ => LV.vw LV.own)) (x_op (fun _ => op_mod) (o_intC h_481) (x_callTy (fun _ => call_int1) T.g_int (by decide +kernel) o_intI (xa1 (x_var 0))) (x_callB (c_len _) T.g_len (by decide +kernel) o_lenB (xa1 (x_look 1 (Vw.lstS fun _ => LV.vw LV.own))))) h_483) Flat.int))) (by rw [List.length_map]; exact h_485) (by repeat' (first | exact Stb.nil | exact trivial | exact stb_map (fun _ => trivial) _ | refine Stb.cons ?_ ?_)) trivial ?_
      rw [← List.map_set (f := fun x => own (oL pInt) x)]
      show Go _ _ _ _ _ [val pInt cell_433, lstS (((codes_466).set j_484 v_482).map fun x => own (oL pInt) x), val pInt kind_410, val pInt place_431, dead, dead]
      cases hm
      exact go_nx (by repeat' (first | exact WkL.nil | exact WkS.refl | exact WkS.dead | exact WkS.list | exact WkS.dict | exact WkS.lstS (fun _ => WkS.list) | refine WkL.cons ?_ ?_))
    · have hm := condF hz hj_486
      cases hm
      exact go_nx (by repeat' (first | exact WkL.nil | exact WkS.refl | exact WkS.dead | exact WkS.list | exact WkS.dict | exact WkS.lstS (fun _ => WkS.list) | refine WkL.cons ?_ ?_))
    refine go_wk (Γ' := [val pInt cell_433, val (pL (pL pInt)) codes_480, val pInt kind_410, val pInt place_431, dead, dead]) ?_ (WkL.at (j := 1) (WkS.lstS fun _ => WkS.list) rfl)
    cases hm
    exact go_ret (x_var 1) (fun v H h => h)

theorem ok_law (T : Txt P K mg) : FnOk P w K mg base CX0 35 T.f_law T.d_law ["script"] (spP (fun (z : (List Int)) => [val (pScr K) z]) (fun z => m_law z) (fun r => val pBl r)) := by
  refine fn_pure T.F_law sc_law (fun _ => rfl) (fun cdv A outer s H E hr script_0 r B hm => ?_)
  replace hm : m_law script_0 = some r := hm
  unfold m_law at hm
  show Go _ _ _ _ _ [val (pScr K) script_0, dead, dead, dead, dead, dead, dead, dead, dead, dead, dead, dead, dead, dead, dead, dead, dead, dead, dead, dead, dead]
  obtain ⟨r_488, h_489, hm⟩ := Option.bind_eq_some_iff.mp hm
  refine go_set 1 (x_call (z := (script_0, (0 : Int))) (ok__law_cell T) (by decide) T.g__law_cell T.k__law_cell T.b__law_cell (xa_cons (x_var 0) (xa_cons x_int xa_nil)) rfl (by repeat' (first | exact trivial | refine ⟨no_val, ?_⟩ | refine ⟨no_borL, ?_⟩ | refine ⟨no_bor, ?_⟩)) h_489) ?_
  show Go _ _ _ _ _ [val (pScr K) script_0, val pInt r_488, dead, dead, dead, dead, dead, dead, dead, dead, dead, dead, dead, dead, dead, dead, dead, dead, dead, dead, dead]
  obtain ⟨inputs_490, h_491, hm⟩ := letO_some hm
  refine go_set 2 (XV.eqV (x_op (fun _ => op_mod) (o_intC (by decide)) (x_callTy (fun _ => call_int1) T.g_int (by decide +kernel) o_intI (xa1 (x_var 1))) x_int) h_491) ?_
  show Go _ _ _ _ _ [val (pScr K) script_0, val pInt r_488, val pInt inputs_490, dead, dead, dead, dead, dead, dead, dead, dead, dead, dead, dead, dead, dead, dead, dead, dead, dead, dead]
  obtain ⟨outputs_492, h_493, hm⟩ := letO_some hm
  refine go_set 3 (XV.eqV (x_op (fun _ => op_mod) (o_intC (by decide)) (x_callTy (fun _ => call_int1) T.g_int (by decide +kernel) o_intI (xa1 (x_op (fun _ => op_fdiv) (o_intC ⟨by decide, by decide⟩) (x_var 1) x_int))) x_int) h_493) ?_
  show Go _ _ _ _ _ [val (pScr K) script_0, val pInt r_488, val pInt inputs_490, val pInt outputs_492, dead, dead, dead, dead, dead, dead, dead, dead, dead, dead, dead, dead, dead, dead, dead, dead, dead]
  obtain ⟨states_494, h_495, hm⟩ := letO_some hm
  refine go_set 4 (XV.eqV (x_op (fun _ => op_add) o_int x_int (x_op (fun _ => op_mod) (o_intC (by decide)) (x_callTy (fun _ => call_int1) T.g_int (by decide +kernel) o_intI (xa1 (x_op (fun _ => op_fdiv) (o_intC ⟨by decide, by decide⟩) (x_var 1) x_int))) x_int)) h_495) ?_
  show Go _ _ _ _ _ [val (pScr K) script_0, val pInt r_488, val pInt inputs_490, val pInt outputs_492, val pInt states_494, dead, dead, dead, dead, dead, dead, dead, dead, dead, dead, dead, dead, dead, dead, dead, dead]
  obtain ⟨s_504, hj_503, hm⟩ := Option.bind_eq_some_iff.mp hm
  obtain ⟨inputs_496, states_497⟩ := s_504
  refine go_ifJ [val (pScr K) script_0, val pInt r_488, val pInt inputs_496, val pInt outputs_492, val pInt states_497, dead, dead, dead, dead, dead, dead, dead, dead, dead, dead, dead, dead, dead, dead, dead, dead] (xt_cmp (fun _ => op_eq) o_eqI (nomark _) (x_op (fun _ => op_mod) (o_intC (by decide)) (x_callTy (fun _ => call_int1) T.g_int (by decide +kernel) o_intI (xa1 (x_op (fun _ => op_fdiv) (o_intC ⟨by decide, by decide⟩) (x_var 1) x_int))) x_int) x_int) (fun hz => ?_) (fun hz => ?_) ?_
  · have hm := condT hz hj_503
    obtain ⟨inputs_498, h_499, hm⟩ := letO_some hm
    refine go_set 2 (XV.eqV (x_op (fun _ => op_fdiv) (o_intC ⟨by decide, by decide⟩) (x_var 2) x_int) h_499) ?_
    show Go _ _ _ _ _ [val (pScr K) script_0, val pInt r_488, val pInt inputs_498, val pInt outputs_492, val pInt states_494, dead, dead, dead, dead, dead, dead, dead, dead, dead, dead, dead, dead, dead, dead, dead, dead]
    obtain ⟨h_500, hm⟩ := guardO_some hm
    obtain ⟨states_501, h_502, hm⟩ := letO_some hm
    refine go_set 4 (XV.eqV (x_op (fun _ => op_add) o_int x_int (x_op (fun _ => op_mod) (o_intC h_500) (x_callTy (fun _ => call_int1) T.g_int (by decide +kernel) o_intI (xa1 (x_op (fun _ => op_fdiv) (o_intC ⟨by decide, by decide⟩) (x_var 1) x_int))) (x_op (fun _ => op_sub) o_int x_int (x_op (fun _ => op_mul) (o_intC (.inl (by decide))) x_int (x_var 2))))) h_502) ?_
    show Go _ _ _ _ _ [val (pScr K) script_0, val pInt r_488, val pInt inputs_498, val pInt outputs_492, val pInt states_501, dead, dead, dead, dead, dead, dead, dead, dead, dead, dead, dead, dead, dead, dead, dead, dead]
    cases hm
    exact go_nx (by repeat' (first | exact WkL.nil | exact WkS.refl | exact WkS.dead | exact WkS.list | exact WkS.dict | exact WkS.lstS (fun _ => WkS.list) | refine WkL.cons ?_ ?_))
  · have hm := condF hz hj_503
    cases hm
    exact go_nx (by repeat' (first | exact WkL.nil | exact WkS.refl | exact WkS.dead | exact WkS.list | exact WkS.dict | exact WkS.lstS (fun _ => WkS.list) | refine WkL.cons ?_ ?_))
  obtain ⟨r_505, h_506, hm⟩ := Option.bind_eq_some_iff.mp hm
  refine go_set 5 (x_call (z := (script_0, (4 : Int), inputs_496, outputs_492, states_497)) (ok__law_moves T) (by decide) T.g__law_moves T.k__law_moves T.b__law_moves (xa_cons (x_var 0) (xa_cons x_int (xa_cons (x_var 2) (xa_cons (x_var 3) (xa_cons (x_var 4) xa_nil))))) rfl (by repeat' (first | exact trivial | refine ⟨no_val, ?_⟩ | refine ⟨no_borL, ?_⟩ | refine ⟨no_bor, ?_⟩)) h_506) ?_
  show Go _ _ _ _ _ [val (pScr K) script_0, val pInt r_488, val pInt inputs_496, val pInt outputs_492, val pInt states_497, own (oL (pL (pT2 pInt pInt))) r_505, dead, dead, dead, dead, dead, dead, dead, dead, dead, dead, dead, dead, dead, dead, dead]
  obtain ⟨r_507, h_508, hm⟩ := Option.bind_eq_some_iff.mp hm
  obtain ⟨r_509, h_510, hm⟩ := Option.bind_eq_some_iff.mp hm
  refine go_set 6 (x_call (z := (r_507, states_497)) (ok__law_codes T) (by decide) T.g__law_codes T.k__law_codes T.b__law_codes (xa_cons (x_call (z := (script_0, (1 : Int))) (ok__law_cell T) (by decide) T.g__law_cell T.k__law_cell T.b__law_cell (xa_cons (x_var 0) (xa_cons x_int xa_nil)) rfl (by repeat' (first | exact trivial | refine ⟨no_val, ?_⟩ | refine ⟨no_borL, ?_⟩ | refine ⟨no_bor, ?_⟩)) h_508) (xa_cons (x_var 4) xa_nil)) rfl (by repeat' (first | exact trivial | refine ⟨no_val, ?_⟩ | refine ⟨no_borL, ?_⟩ | refine ⟨no_bor, ?_⟩)) h_510) ?_
  show Go _ _ _ _ _ [val (pScr K) script_0, val pInt r_488, val pInt inputs_496, val pInt outputs_492, val pInt states_497, own (oL (pL (pT2 pInt pInt))) r_505, val (pL (pL pInt)) r_509, dead, dead, dead, dead, dead, dead, dead, dead, dead, dead, dead, dead, dead, dead]
  obtain ⟨codes_511, hj_523, hm⟩ := Option.bind_eq_some_iff.mp hm
  refine go_ifJ [val (pScr K) script_0, val pInt r_488, val pInt inputs_496, val pInt outputs_492, val pInt states_497, own (oL (pL (pT2 pInt pInt))) r_505, val (pL (pL pInt)) codes_511, dead, dead, dead, dead, dead, dead, dead, dead, dead, dead, dead, dead, dead, dead] (xt_cmp (fun _ => op_eq) o_eqI (nomark _) (x_op (fun _ => op_mod) (o_intC (by decide)) (x_callTy (fun _ => call_int1) T.g_int (by decide +kernel) o_intI (xa1 (x_op (fun _ => op_fdiv) (o_intC ⟨by decide, by decide⟩) (x_var 1) x_int))) x_int) x_int) (fun hz => ?_) (fun hz => ?_) ?_
  · have hm := condT hz hj_523
    obtain ⟨r_512, h_513, hm⟩ := Option.bind_eq_some_iff.mp hm
    obtain ⟨r_514, h_515, hm⟩ := Option.bind_eq_some_iff.mp hm
    refine go_set 6 (x_call (z := (r_512, r_509)) (ok__law_spoilt T) (by decide) T.g__law_spoilt T.k__law_spoilt T.b__law_spoilt (xa_cons (x_call (z := (script_0, (2 : Int))) (ok__law_cell T) (by decide) T.g__law_cell T.k__law_cell T.b__law_cell (xa_cons (x_var 0) (xa_cons x_int xa_nil)) rfl (by repeat' (first | exact trivial | refine ⟨no_val, ?_⟩ | refine ⟨no_borL, ?_⟩ | refine ⟨no_bor, ?_⟩)) h_513) (xa_cons (x_var 6) xa_nil)) rfl (by repeat' (first | exact trivial | refine ⟨no_val, ?_⟩ | refine ⟨no_borL, ?_⟩ | refine ⟨no_bor, ?_⟩)) h_515) ?_
    show Go _ _ _ _ _ [val (pScr K) script_0, val pInt r_488, val pInt inputs_496, val pInt outputs_492, val pInt states_497, own (oL (pL (pT2 pInt pInt))) r_505, val (pL (pL pInt)) r_514, dead, dead, dead, dead, dead, dead, dead, dead, dead, dead, dead, dead, dead, dead]
    obtain ⟨codes_516, hj_521, hm⟩ := Option.bind_eq_some_iff.mp hm
    refine go_ifJ [val (pScr K) script_0, val pInt r_488, val pInt inputs_496, val pInt outputs_492, val pInt states_497, own (oL (pL (pT2 pInt pInt))) r_505, val (pL (pL pInt)) codes_516, dead, dead, dead, dead, dead, dead, dead, dead, dead, dead, dead, dead, dead, dead] (xt_cmp (fun _ => op_eq) o_eqI (nomark _) (x_op (fun _ => op_mod) (o_intC (by decide)) (x_callTy (fun _ => call_int1) T.g_int (by decide +kernel) o_intI (xa1 (x_op (fun _ => op_fdiv) (o_intC ⟨by decide, by decide⟩) (x_var 1) x_int))) x_int) x_int) (fun hz => ?_) (fun hz => ?_) ?_
    · have hm := condT hz hj_521
      obtain ⟨r_517, h_518, hm⟩ := Option.bind_eq_some_iff.mp hm
      obtain ⟨r_519, h_520, hm⟩ := Option.bind_eq_some_iff.mp hm
      refine go_set 6 (x_call (z := (r_517, r_514)) (ok__law_spoilt T) (by decide) T.g__law_spoilt T.k__law_spoilt T.b__law_spoilt (xa_cons (x_call (z := (script_0, (3 : Int))) (ok__law_cell T) (by decide) T.g__law_cell T.k__law_cell T.b__law_cell (xa_cons (x_var 0) (xa_cons x_int xa_nil)) rfl (by repeat' (first | exact trivial | refine ⟨no_val, ?_⟩ | refine ⟨no_borL, ?_⟩ | refine ⟨no_bor, ?_⟩)) h_518) (xa_cons (x_var 6) xa_nil)) rfl (by repeat' (first | exact trivial | refine ⟨no_val, ?_⟩ | refine ⟨no_borL, ?_⟩ | refine ⟨no_bor, ?_⟩)) h_520) ?_
      show Go _ _ _ _ _ [val (pScr K) script_0, val pInt r_488, val pInt inputs_496, val pInt outputs_492, val pInt states_497, own (oL (pL (pT2 pInt pInt))) r_505, val (pL (pL pInt)) r_519, dead, dead, dead, dead, dead, dead, dead, dead, dead, dead, dead, dead, dead, dead]
      cases hm
      exact go_nx (by repeat' (first | exact WkL.nil | exact WkS.refl | exact WkS.dead | exact WkS.list | exact WkS.dict | exact WkS.lstS (fun _ => WkS.list) | refine WkL.cons ?_ ?_))
    · have hm := condF hz hj_521
      cases hm
      exact go_nx (by repeat' (first | exact WkL.nil | exact WkS.refl | exact WkS.dead | exact WkS.list | exact WkS.dict | exact WkS.lstS (fun _ => WkS.list) | refine WkL.cons ?_ ?_))
    cases hm
    exact go_nx (by repeat' (first | exact WkL.nil | exact WkS.refl | exact WkS.dead | exact WkS.list | exact WkS.dict | exact WkS.lstS (fun _ => WkS.list) | refine WkL.cons ?_ ?_))
  · have hm := condF hz hj_523
    cases hm
    exact go_nx (by repeat' (first | exact WkL.nil | exact WkS.refl | exact WkS.dead | exact WkS.list | exact WkS.dict | exact WkS.lstS (fun _ => WkS.list) | refine WkL.cons ?_ ?_))
  refine go_wk (Γ' := [val (pScr K) script_0, val pInt r_488, val pInt inputs_496, val pInt outputs_492, val pInt states_497, val (pL (pL (pT2 pInt pInt))) r_505, val (pL (pL pInt)) codes_511, dead, dead, dead, dead, dead, dead, dead, dead, dead, dead, dead, dead, dead, dead]) ?_ (WkL.at (j := 5) WkS.list rfl)
  rcases exK_some hm with ⟨e_527, h_526, hm⟩ | ⟨r_525, h_526, hm⟩
  · cases hm
  · refine go_set 7 (x_makeX (z := (inputs_496, outputs_492, r_505)) (ok_Machine_init T) (by decide) T.mk_Machine T.g_Machine T.b_Machine_init (xa_cons (x_var 2) (xa_cons (x_var 3) (xa_cons (x_var 5) xa_nil))) rfl (by repeat' (first | exact trivial | refine ⟨no_val, ?_⟩ | refine ⟨no_borL, ?_⟩ | refine ⟨no_bor, ?_⟩)) h_526) ?_
    show Go _ _ _ _ _ [val (pScr K) script_0, val pInt r_488, val pInt inputs_496, val pInt outputs_492, val pInt states_497, val (pL (pL (pT2 pInt pInt))) r_505, val (pL (pL pInt)) codes_511, obj T.C_Machine ns_Machine (dl_Machine r_525.1), dead, dead, dead, dead, dead, dead, dead, dead, dead, dead, dead, dead, dead]
    obtain ⟨v_530, h_531, hm⟩ := Option.bind_eq_some_iff.mp hm
    refine go_set 8 (x_iteP (g := fun v => val pInt v) (xt_cmp (c_neD _) (o_neD (DE.list (DE.list DE.int)) (by decide) Vw.val (LV.vw LV.own) (fun _ _ => (fun _ _ => trivial)) (fun _ _ => (fun _ _ => trivial))) (nomark _) (x_var 6) (x_lst (xs := []) xa_nil (Nat.zero_le _))) h_531 (fun v hm => by obtain ⟨v_528, h_529, hm⟩ := Option.bind_eq_some_iff.mp hm; cases hm; exact (x_callB (c_len _) T.g_len (by decide +kernel) (o_lenL LV.val.sv) (xa1 (x_ix (x_var 6) LV.val.sv x_int h_529)))) (fun v hm => by skip; cases hm; exact x_int)) ?_
    show Go _ _ _ _ _ [val (pScr K) script_0, val pInt r_488, val pInt inputs_496, val pInt outputs_492, val pInt states_497, val (pL (pL (pT2 pInt pInt))) r_505, val (pL (pL pInt)) codes_511, obj T.C_Machine ns_Machine (dl_Machine r_525.1), val pInt v_530, dead, dead, dead, dead, dead, dead, dead, dead, dead, dead, dead, dead]
    obtain ⟨h_534, hm⟩ := guardO_some hm
    obtain ⟨c_532, h_533, hm⟩ := Option.bind_eq_some_iff.mp hm
    obtain ⟨letters_535, h_536, hm⟩ := letO_some hm
    refine go_set 9 (XV.eqV (x_ixS x_str (x_op (fun _ => op_mod) (o_intC (by decide)) (x_callTy (fun _ => call_int1) T.g_int (by decide +kernel) o_intI (xa1 (x_op (fun _ => op_fdiv) (o_intC ⟨by decide, by decide⟩) (x_var 1) x_int))) x_int) h_534 h_533) h_536) ?_
    show Go _ _ _ _ _ [val (pScr K) script_0, val pInt r_488, val pInt inputs_496, val pInt outputs_492, val pInt states_497, val (pL (pL (pT2 pInt pInt))) r_505, val (pL (pL pInt)) codes_511, obj T.C_Machine ns_Machine (dl_Machine r_525.1), val pInt v_530, val pStr letters_535, dead, dead, dead, dead, dead, dead, dead, dead, dead, dead, dead]
    obtain ⟨h_538, hm⟩ := guardO_some hm
    obtain ⟨h_545, hm⟩ := guardO_some hm
    obtain ⟨ys_539, h_540, hm⟩ := Option.bind_eq_some_iff.mp hm
    obtain ⟨h_547, hm⟩ := guardO_some hm
    obtain ⟨h_554, hm⟩ := guardO_some hm
    obtain ⟨ys_548, h_549, hm⟩ := Option.bind_eq_some_iff.mp hm
    refine go_set 10 (x_lstA (xa_cons (x_lc (rs := val pInt) (own := [("k", 17)]) (xi_range1 T.g_range (x_var 2) h_538).ro ⟨fun _ => blkOk_by (N := N_law) (sc := defScope s_law) (by decide +kernel), fun _ _ => rfl⟩ h_545 h_540 ⟨rfl, trivial⟩ (fun k_541 o hx hm => by obtain ⟨h_542, hm⟩ := guardO_some hm; obtain ⟨h_543, hm⟩ := guardO_some hm; obtain ⟨h_544, hm⟩ := guardO_some hm; cases hm; exact ⟨_, _, rfl, (xg_name 17), lc_el (x_op (fun _ => op_add_str) (o_addS h_544) (x_op (fun _ => op_add_str) (o_addS h_542) x_str (x_var 9)) (x_callTy (fun _ => call_str_int) T.g_str (by decide +kernel) (o_strI h_543) (xa1 (x_var 17))))⟩)) (xa_cons (x_lc (rs := val pInt) (own := [("k", 17)]) (xi_range1 T.g_range (x_var 8) h_547).ro ⟨fun _ => blkOk_by (N := N_law) (sc := defScope s_law) (by decide +kernel), fun _ _ => rfl⟩ h_554 h_549 ⟨rfl, trivial⟩ (fun k_550 o hx hm => by obtain ⟨h_551, hm⟩ := guardO_some hm; obtain ⟨h_552, hm⟩ := guardO_some hm; obtain ⟨h_553, hm⟩ := guardO_some hm; cases hm; exact ⟨_, _, rfl, (xg_name 17), lc_el (x_op (fun _ => op_add_str) (o_addS h_553) (x_op (fun _ => op_add_str) (o_addS h_551) (x_var 9) x_str) (x_callTy (fun _ => call_str_int) T.g_str (by decide +kernel) (o_strI h_552) (xa1 (x_var 17))))⟩)) xa_nil)) (le_line rfl)) ?_
    show Go _ _ _ _ _ [val (pScr K) script_0, val pInt r_488, val pInt inputs_496, val pInt outputs_492, val pInt states_497, val (pL (pL (pT2 pInt pInt))) r_505, val (pL (pL pInt)) codes_511, obj T.C_Machine ns_Machine (dl_Machine r_525.1), val pInt v_530, val pStr letters_535, lstS (([ys_539, ys_548] : List (List (Str))).map fun x => own (oL pStr) x), dead, dead, dead, dead, dead, dead, dead, dead, dead, dead]
    obtain ⟨h_556, hm⟩ := guardO_some hm
    obtain ⟨h_562, hm⟩ := guardO_some hm
    obtain ⟨ys_557, h_558, hm⟩ := Option.bind_eq_some_iff.mp hm
    obtain ⟨h_563, hm⟩ := guardO_some hm
    refine go_appendO (s := own (oL pStr) ys_557) (pl_name 10 (by repeat' (first | exact Stb.nil | exact trivial | exact stb_map (fun _ => trivial) _ | refine Stb.cons ?_ ?_)) (hso := lstS_some)) (x_lc (rs := val pInt) (own := [("k", 17)]) (xi_range1 T.g_range (x_var 3) h_556).ro ⟨fun _ => blkOk_by (N := N_law) (sc := defScope s_law) (by decide +kernel), fun _ _ => rfl⟩ h_562 h_558 ⟨rfl, trivial⟩ (fun k_559 o hx hm => by obtain ⟨h_560, hm⟩ := guardO_some hm; obtain ⟨h_561, hm⟩ := guardO_some hm; cases hm; exact ⟨_, _, rfl, (xg_name 17), lc_el (x_op (fun _ => op_add_str) (o_addS h_561) x_str (x_callTy (fun _ => call_str_int) T.g_str (by decide +kernel) (o_strI h_560) (xa1 (x_op (fun _ => op_add) o_int (x_op (fun _ => op_mul) (o_intC (.inl (by decide))) x_int (x_callTy (fun _ => call_int1) T.g_int (by decide +kernel) o_intI (xa1 (x_op (fun _ => op_mod) (o_intC (by decide)) (x_op (fun _ => op_fdiv) (o_intC ⟨by decide, by decide⟩) (x_var 1) x_int) x_int)))) (x_var 17)))))⟩)) (by rw [List.length_map]; exact h_563) (by repeat' (first | exact Stb.nil | exact trivial | exact stb_map (fun _ => trivial) _ | refine Stb.cons ?_ ?_)) trivial ?_
    rw [show ((([ys_539, ys_548] : List (List (Str)))).map fun x => own (oL pStr) x) ++ [own (oL pStr) ys_557] = ((([ys_539, ys_548] : List (List (Str))) ++ [ys_557]).map fun x => own (oL pStr) x) by rw [List.map_append]; rfl]
    show Go _ _ _ _ _ [val (pScr K) script_0, val pInt r_488, val pInt inputs_496, val pInt outputs_492, val pInt states_497, val (pL (pL (pT2 pInt pInt))) r_505, val (pL (pL pInt)) codes_511, obj T.C_Machine ns_Machine (dl_Machine r_525.1), val pInt v_530, val pStr letters_535, lstS ((([ys_539, ys_548] : List (List (Str))) ++ [ys_557]).map fun x => own (oL pStr) x), dead, dead, dead, dead, dead, dead, dead, dead, dead, dead]
    obtain ⟨bad_564, h_565, hm⟩ := letO_some hm
    refine go_set 11 (XV.eqV (x_and (x_cmp (fun _ => op_eq) o_eqI (nomark _) (x_op (fun _ => op_mod) (o_intC (by decide)) (x_callTy (fun _ => call_int1) T.g_int (by decide +kernel) o_intI (xa1 (x_op (fun _ => op_fdiv) (o_intC ⟨by decide, by decide⟩) (x_var 1) x_int))) x_int) x_int) (fun _ => (x_one (x_cmp (fun _ => op_gt) o_bl (nomark _) (x_var 2) x_int))) rfl) h_565) ?_
    show Go _ _ _ _ _ [val (pScr K) script_0, val pInt r_488, val pInt inputs_496, val pInt outputs_492, val pInt states_497, val (pL (pL (pT2 pInt pInt))) r_505, val (pL (pL pInt)) codes_511, obj T.C_Machine ns_Machine (dl_Machine r_525.1), val pInt v_530, val pStr letters_535, lstS ((([ys_539, ys_548] : List (List (Str))) ++ [ys_557]).map fun x => own (oL pStr) x), val pBl bad_564, dead, dead, dead, dead, dead, dead, dead, dead, dead]
    obtain ⟨names_566, hj_575, hm⟩ := Option.bind_eq_some_iff.mp hm
    refine go_ifJ [val (pScr K) script_0, val pInt r_488, val pInt inputs_496, val pInt outputs_492, val pInt states_497, val (pL (pL (pT2 pInt pInt))) r_505, val (pL (pL pInt)) codes_511, obj T.C_Machine ns_Machine (dl_Machine r_525.1), val pInt v_530, val pStr letters_535, lstS (names_566.map fun x => own (oL pStr) x), val pBl bad_564, dead, dead, dead, dead, dead, dead, dead, dead, dead] (xt_val (x_var 11)) (fun hz => ?_) (fun hz => ?_) ?_
    · have hm := condT hz hj_575
      obtain ⟨v_567, h_568, hm⟩ := Option.bind_eq_some_iff.mp hm
      obtain ⟨j_573, h_570, hm⟩ := Option.bind_eq_some_iff.mp hm
      obtain ⟨row_569, h_574, hm⟩ := Option.bind_eq_some_iff.mp hm
      obtain ⟨row_571, h_572, hm⟩ := Option.bind_eq_some_iff.mp hm
      refine go_setitem (p := pStr) (pl_ix (s := own (oL pStr) row_569) (j := j_573) (pl_name 10 (by repeat' (first | exact Stb.nil | exact trivial | exact stb_map (fun _ => trivial) _ | refine Stb.cons ?_ ?_)) (hso := lstS_some)) xs_int (by rw [List.length_map]; exact h_570) (by repeat' (first | exact Stb.nil | exact trivial | exact stb_map (fun _ => trivial) _ | refine Stb.cons ?_ ?_)) (by rw [List.getElem?_map, h_574]; rfl) own_some) x_int (x_ix (x_lst (xs := [("" : Str), ("A" : Str), ("1a" : Str), ("abcdefghijklm" : Str)]) (xa_cons x_str (xa_cons x_str (xa_cons x_str (xa_cons x_str xa_nil)))) (le_line rfl)) LV.own.sv (x_op (fun _ => op_mod) (o_intC (by decide)) (x_callTy (fun _ => call_int1) T.g_int (by decide +kernel) o_intI (xa1 (x_op (fun _ => op_fdiv) (o_intC ⟨by decide, by decide⟩) (x_var 1) x_int))) x_int) h_568) h_572 ?_
      rw [← List.map_set (f := fun x => own (oL pStr) x)]
      show Go _ _ _ _ _ [val (pScr K) script_0, val pInt r_488, val pInt inputs_496, val pInt outputs_492, val pInt states_497, val (pL (pL (pT2 pInt pInt))) r_505, val (pL (pL pInt)) codes_511, obj T.C_Machine ns_Machine (dl_Machine r_525.1), val pInt v_530, val pStr letters_535, lstS ((((([ys_539, ys_548] : List (List (Str))) ++ [ys_557])).set j_573 row_571).map fun x => own (oL pStr) x), val pBl bad_564, dead, dead, dead, dead, dead, dead, dead, dead, dead]
      cases hm
      exact go_nx (by repeat' (first | exact WkL.nil | exact WkS.refl | exact WkS.dead | exact WkS.list | exact WkS.dict | exact WkS.lstS (fun _ => WkS.list) | refine WkL.cons ?_ ?_))
    · have hm := condF hz hj_575
      cases hm
      exact go_nx (by repeat' (first | exact WkL.nil | exact WkS.refl | exact WkS.dead | exact WkS.list | exact WkS.dict | exact WkS.lstS (fun _ => WkS.list) | refine WkL.cons ?_ ?_))
    obtain ⟨h_580, hm⟩ := guardO_some hm
    obtain ⟨ys_577, h_578, hm⟩ := Option.bind_eq_some_iff.mp hm
    refine go_setLc 12 (rs := val (pL pInt)) (own := [("code", 16)]) (xi_list (x_var 6)).ro ⟨fun _ => blkOk_by (N := N_law) (sc := defScope s_law) (by decide +kernel), fun _ _ => rfl⟩ h_580 h_578 ⟨rfl, trivial⟩ (fun code_579 o hx hm => by skip; cases hm; exact ⟨_, _, rfl, (xg_name 16), lc_el (XV.frz (x_callTy (c_list _) T.g_list (by decide +kernel) (o_listL LV.val.sv) (xa1 (x_var 16))))⟩) ?_ (hsw := sw_true rfl rfl rfl (by decide +kernel))
    show Go _ _ _ _ _ [val (pScr K) script_0, val pInt r_488, val pInt inputs_496, val pInt outputs_492, val pInt states_497, val (pL (pL (pT2 pInt pInt))) r_505, val (pL (pL pInt)) codes_511, obj T.C_Machine ns_Machine (dl_Machine r_525.1), val pInt v_530, val pStr letters_535, lstS (names_566.map fun x => own (oL pStr) x), val pBl bad_564, own (oL (pL pInt)) ys_577, dead, dead, dead, dead, dead, dead, dead, dead]
    refine go_wk (Γ' := [val (pScr K) script_0, val pInt r_488, val pInt inputs_496, val pInt outputs_492, val pInt states_497, val (pL (pL (pT2 pInt pInt))) r_505, val (pL (pL pInt)) codes_511, obj T.C_Machine ns_Machine (dl_Machine r_525.1), val pInt v_530, val pStr letters_535, val (pL (pL pStr)) names_566, val pBl bad_564, own (oL (pL pInt)) ys_577, dead, dead, dead, dead, dead, dead, dead, dead]) ?_ (WkL.at (j := 10) (WkS.lstS fun _ => WkS.list) rfl)
    refine go_wk (Γ' := [val (pScr K) script_0, val pInt r_488, val pInt inputs_496, val pInt outputs_492, val pInt states_497, val (pL (pL (pT2 pInt pInt))) r_505, val (pL (pL pInt)) codes_511, val (pObj T.C_Machine ns_Machine sl_Machine) r_525.1, val pInt v_530, val pStr letters_535, val (pL (pL pStr)) names_566, val pBl bad_564, own (oL (pL pInt)) ys_577, dead, dead, dead, dead, dead, dead, dead, dead]) ?_ (WkL.at (j := 7) (WkS.obj (sl := sl_Machine) (by repeat' (first | exact WkL.nil | exact WkS.refl | exact WkS.dead | exact WkS.list | exact WkS.dict | exact WkS.lstS (fun _ => WkS.list) | refine WkL.cons ?_ ?_)) (by repeat' (first | exact trivial | refine ⟨⟨_, _, _, rfl⟩, ?_⟩))) rfl)
    refine go_wk (Γ' := [val (pScr K) script_0, val pInt r_488, val pInt inputs_496, val pInt outputs_492, val pInt states_497, val (pL (pL (pT2 pInt pInt))) r_505, val (pL (pL pInt)) codes_511, val (pObj T.C_Machine ns_Machine sl_Machine) r_525.1, val pInt v_530, val pStr letters_535, val (pL (pL pStr)) names_566, val pBl bad_564, val (pL (pL pInt)) ys_577, dead, dead, dead, dead, dead, dead, dead, dead]) ?_ (WkL.at (j := 12) WkS.list rfl)
    obtain ⟨h_592, hm⟩ := guardO_some hm
    obtain ⟨ys_589, h_590, hm⟩ := Option.bind_eq_some_iff.mp hm
    obtain ⟨r_593, h_594, hm⟩ := Option.bind_eq_some_iff.mp hm
    refine go_set 13 (x_call (z := (r_525.1, ys_577, ys_589)) (ok__law_told T) (by decide) T.g__law_told T.k__law_told T.b__law_told (xa_cons (x_var 7) (xa_cons (x_var 12) (xa_cons (XV.frz (x_lc (rs := val (pL pStr)) (own := [("part", 18)]) (xi_list (x_var 10)).ro ⟨fun _ => blkOk_by (N := N_law) (sc := defScope s_law) (by decide +kernel), fun _ _ => rfl⟩ h_592 h_590 ⟨rfl, trivial⟩ (fun part_591 o hx hm => by skip; cases hm; exact ⟨_, _, rfl, (xg_name 18), lc_el (XV.frz (x_callTy (c_list _) T.g_list (by decide +kernel) (o_listL LV.val.sv) (xa1 (x_var 18))))⟩))) xa_nil))) rfl (by repeat' (first | exact trivial | refine ⟨no_val, ?_⟩ | refine ⟨no_borL, ?_⟩ | refine ⟨no_bor, ?_⟩)) h_594) ?_
    show Go _ _ _ _ _ [val (pScr K) script_0, val pInt r_488, val pInt inputs_496, val pInt outputs_492, val pInt states_497, val (pL (pL (pT2 pInt pInt))) r_505, val (pL (pL pInt)) codes_511, val (pObj T.C_Machine ns_Machine sl_Machine) r_525.1, val pInt v_530, val pStr letters_535, val (pL (pL pStr)) names_566, val pBl bad_564, val (pL (pL pInt)) ys_577, val (pSum (pT2 pStr (pObj T.C_Circuit ns_Circuit sl_Circuit)) (pDa K)) r_593, dead, dead, dead, dead, dead, dead, dead]
    refine go_if (xw_pt (xw_or (xt_cmp (c_neD _) (o_neD (DE.list (DE.list DE.int)) (by decide) Vw.val Vw.val (fun _ _ => (fun _ _ => trivial)) (fun _ _ => (fun _ _ => trivial))) (nomark _) (x_var 12) (x_var 6)) (fun _ => (xw_or1 (xt_cmp (c_neD _) (o_neD (DE.list (DE.list (DE.t2 DE.int DE.int))) (by decide) Vw.val Vw.val (fun _ _ => (fun _ _ => ⟨trivial, trivial⟩)) (fun _ _ => (fun _ _ => ⟨trivial, trivial⟩))) (nomark _) (x_fld 2 (x_var 7) OV.val T.at_Machine_moves) (x_var 5)))) rfl)) (fun hz => ?_) (fun hz => ?_)
    · have hm := condT hz hm
      cases hm
      exact go_ret x_bl (fun v H h => h)
    · have hm := condF hz hm
      refine go_join ?_
      obtain ⟨r_595, h_596, hm⟩ := Option.bind_eq_some_iff.mp hm
      refine go_set 14 (x_call (z := (states_497, codes_511)) (ok__law_fault T) (by decide) T.g__law_fault T.k__law_fault T.b__law_fault (xa_cons (x_var 4) (xa_cons (x_var 6) xa_nil)) rfl (by repeat' (first | exact trivial | refine ⟨no_val, ?_⟩ | refine ⟨no_borL, ?_⟩ | refine ⟨no_bor, ?_⟩)) h_596) ?_
      show Go _ _ _ _ _ [val (pScr K) script_0, val pInt r_488, val pInt inputs_496, val pInt outputs_492, val pInt states_497, val (pL (pL (pT2 pInt pInt))) r_505, val (pL (pL pInt)) codes_511, val (pObj T.C_Machine ns_Machine sl_Machine) r_525.1, val pInt v_530, val pStr letters_535, val (pL (pL pStr)) names_566, val pBl bad_564, val (pL (pL pInt)) ys_577, val (pSum (pT2 pStr (pObj T.C_Circuit ns_Circuit sl_Circuit)) (pDa K)) r_593, val pInt r_595, dead, dead, dead, dead, dead, dead]
      refine go_if (xt_cmp (fun _ => op_ge) o_bl (nomark _) (x_var 14) x_int) (fun hz => ?_) (fun hz => ?_)
      · have hm := condT hz hm
        obtain ⟨u_597, h_598, hm⟩ := Option.bind_eq_some_iff.mp hm
        obtain ⟨h_599, hm⟩ := guardO_some hm
        obtain ⟨h_600, hm⟩ := guardO_some hm
        cases hm
        exact go_ret (x_cmp (c_eqD _) (o_eqP Vw.val Vw.val h_599 h_600) (nomark _) (XV.unr h_598 (x_var 13)) (x_tupD (ds := [DE.str.enc ("codes" : Str), DE.int.enc r_595, DE.bl.enc true]) (xa_cons (XV.data DE.str x_str) (xa_cons (XV.data DE.int (x_var 14)) (xa_cons (XV.data DE.bl x_bl) xa_nil))) (le_line rfl))) (fun v H h => h)
      · have hm := condF hz hm
        refine go_join ?_
        refine go_if (xt_val (x_var 11)) (fun hz => ?_) (fun hz => ?_)
        · have hm := condT hz hm
          obtain ⟨u_601, h_602, hm⟩ := Option.bind_eq_some_iff.mp hm
          obtain ⟨h_603, hm⟩ := guardO_some hm
          obtain ⟨h_604, hm⟩ := guardO_some hm
          cases hm
          exact go_ret (x_cmp (c_eqD _) (o_eqP Vw.val Vw.val h_603 h_604) (nomark _) (XV.unr h_602 (x_var 13)) (x_tupD (ds := [DE.str.enc ("names" : Str), DE.str.enc ("inputs" : Str), DE.int.enc (0 : Int)]) (xa_cons (XV.data DE.str x_str) (xa_cons (XV.data DE.str x_str) (xa_cons (XV.data DE.int x_int) xa_nil))) (le_line rfl))) (fun v H h => h)
        · have hm := condF hz hm
          refine go_join ?_
          obtain ⟨t_605, h_606, hm⟩ := Option.bind_eq_some_iff.mp hm
          obtain ⟨b_611, h_612, hm⟩ := Option.bind_eq_some_iff.mp hm
          refine go_if (xw_pt (xw_orP (xt_cmp (fun _ => op_ne) o_neS (nomark _) (x_hdS (x_var 13) x_int h_606) x_str) h_612 (fun z hm => by obtain ⟨u_609, h_610, hm⟩ := Option.bind_eq_some_iff.mp hm; cases hm; exact (xw_or1 (xt_not (xt_val (x_callB (c_isi _) T.g_isinstance (by decide +kernel) (o_isiC (z := true) (TyX'.obj T.ic_Circuit) kit_self) (xa2 (x_snd (u := u_609) (XV.unl h_610 (x_var 13)) x_int) (x_cls T.g_Circuit)))) rfl))))) (fun hz => ?_) (fun hz => ?_)
          · have hm := condT hz hm
            cases hm
            exact go_ret x_bl (fun v H h => h)
          · have hm := condF hz hm
            refine go_join ?_
            obtain ⟨u_613, h_614, hm⟩ := Option.bind_eq_some_iff.mp hm
            obtain ⟨u_615, h_616, hm⟩ := Option.bind_eq_some_iff.mp hm
            obtain ⟨u_617, h_618, hm⟩ := Option.bind_eq_some_iff.mp hm
            obtain ⟨u_619, h_620, hm⟩ := Option.bind_eq_some_iff.mp hm
            obtain ⟨parts_621, h_622, hm⟩ := letO_some hm
            refine go_set 15 (XV.eqV (XV.wk (x_lstA (xa_cons (x_fld 0 (x_snd (u := u_613) (XV.unl h_614 (x_var 13)) x_int) OV.val T.at_Circuit_inputs) (xa_cons (x_fld 1 (x_snd (u := u_615) (XV.unl h_616 (x_var 13)) x_int) OV.val T.at_Circuit_latches) (xa_cons (x_fld 2 (x_snd (u := u_617) (XV.unl h_618 (x_var 13)) x_int) OV.val T.at_Circuit_ands) (xa_cons (x_fld 3 (x_snd (u := u_619) (XV.unl h_620 (x_var 13)) x_int) OV.val T.at_Circuit_outputs) xa_nil)))) (le_line rfl)) (WkS.lstH (sl := slH_0) (z := (u_613.2.inputs, u_615.2.latches, u_617.2.ands, u_619.2.outputs)) (by repeat' (first | exact WkL.nil | exact WkS.refl | exact WkS.dead | exact WkS.list | exact WkS.dict | exact WkS.lstS (fun _ => WkS.list) | refine WkL.cons ?_ ?_)) (by repeat' (first | exact trivial | refine ⟨⟨_, _, _, rfl⟩, ?_⟩)))) h_622) ?_
            show Go _ _ _ _ _ [val (pScr K) script_0, val pInt r_488, val pInt inputs_496, val pInt outputs_492, val pInt states_497, val (pL (pL (pT2 pInt pInt))) r_505, val (pL (pL pInt)) codes_511, val (pObj T.C_Machine ns_Machine sl_Machine) r_525.1, val pInt v_530, val pStr letters_535, val (pL (pL pStr)) names_566, val pBl bad_564, val (pL (pL pInt)) ys_577, val (pSum (pT2 pStr (pObj T.C_Circuit ns_Circuit sl_Circuit)) (pDa K)) r_593, val pInt r_595, val (pH slH_0) parts_621, dead, dead, dead, dead, dead]
            obtain ⟨v_623, h_624, hm⟩ := Option.bind_eq_some_iff.mp hm
            obtain ⟨h_625, hm⟩ := guardO_some hm
            obtain ⟨h_626, hm⟩ := guardO_some hm
            obtain ⟨b_651, h_652, hm⟩ := Option.bind_eq_some_iff.mp hm
            refine go_if (xw_pt (xw_orP (xt_cmp (c_neD _) (o_neD (DE.list DE.str) (by decide) Vw.val Vw.val h_625 h_626) (nomark _) (x_ixH 0 (x_var 15) x_int rfl) (x_ix (x_var 10) LV.val.sv x_int h_624)) h_652 (fun z hm => by obtain ⟨h_632, hm⟩ := guardO_some hm; obtain ⟨ys_629, h_630, hm⟩ := Option.bind_eq_some_iff.mp hm; obtain ⟨v_633, h_634, hm⟩ := Option.bind_eq_some_iff.mp hm; obtain ⟨h_635, hm⟩ := guardO_some hm; obtain ⟨h_636, hm⟩ := guardO_some hm; obtain ⟨b_649, h_650, hm⟩ := Option.bind_eq_some_iff.mp hm; cases hm; exact (xw_orP (xt_cmp (c_neD _) (o_neD (DE.list DE.str) (by decide) (LV.vw LV.own) Vw.val h_635 h_636) (nomark _) (x_lc (rs := val (pT3 pStr pInt pInt)) (own := [("latch", 19)]) (xi_list (x_ixH 1 (x_var 15) x_int rfl)).ro ⟨fun _ => blkOk_by (N := N_law) (sc := defScope s_law) (by decide +kernel), fun _ _ => rfl⟩ h_632 h_630 ⟨rfl, trivial⟩ (fun latch_631 o hx hm => by skip; cases hm; exact ⟨_, _, rfl, (xg_name 19), lc_el (x_t31 (x_var (z := latch_631) 19) x_int)⟩)) (x_ix (x_var 10) LV.val.sv x_int h_634)) h_650 (fun z hm => by obtain ⟨h_642, hm⟩ := guardO_some hm; obtain ⟨ys_639, h_640, hm⟩ := Option.bind_eq_some_iff.mp hm; obtain ⟨v_643, h_644, hm⟩ := Option.bind_eq_some_iff.mp hm; obtain ⟨h_645, hm⟩ := guardO_some hm; obtain ⟨h_646, hm⟩ := guardO_some hm; cases hm; exact (xw_or1 (xt_cmp (c_neD _) (o_neD (DE.list DE.str) (by decide) (LV.vw LV.own) Vw.val h_645 h_646) (nomark _) (x_lc (rs := val (pT2 pStr pInt)) (own := [("pair", 20)]) (xi_list (x_ixH 3 (x_var 15) x_int rfl)).ro ⟨fun _ => blkOk_by (N := N_law) (sc := defScope s_law) (by decide +kernel), fun _ _ => rfl⟩ h_642 h_640 ⟨rfl, trivial⟩ (fun pair_641 o hx hm => by skip; cases hm; exact ⟨_, _, rfl, (xg_name 20), lc_el (x_fst (x_var (z := pair_641) 20) x_int)⟩)) (x_ix (x_var 10) LV.val.sv x_int h_644)))))))) (fun hz => ?_) (fun hz => ?_)
            · have hm := condT hz hm
              cases hm
              exact go_ret x_bl (fun v H h => h)
            · have hm := condF hz hm
              refine go_join ?_
              obtain ⟨h_656, hm⟩ := guardO_some hm
              obtain ⟨ys_653, h_654, hm⟩ := Option.bind_eq_some_iff.mp hm
              obtain ⟨v_657, h_658, hm⟩ := Option.bind_eq_some_iff.mp hm
              obtain ⟨b_661, h_662, hm⟩ := Option.bind_eq_some_iff.mp hm
              refine go_if (xw_pt (xw_orP (xt_cmp (c_neD _) (o_neD (DE.list DE.int) (by decide) (LV.vw LV.own) Vw.val (fun _ _ => trivial) (fun _ _ => trivial)) (nomark _) (x_lc (rs := val (pT3 pStr pInt pInt)) (own := [("latch", 19)]) (xi_list (x_ixH 1 (x_var 15) x_int rfl)).ro ⟨fun _ => blkOk_by (N := N_law) (sc := defScope s_law) (by decide +kernel), fun _ _ => rfl⟩ h_656 h_654 ⟨rfl, trivial⟩ (fun latch_655 o hx hm => by skip; cases hm; exact ⟨_, _, rfl, (xg_name 19), lc_el (x_t32 (x_var (z := latch_655) 19) x_int)⟩)) (x_ix (x_var 6) LV.val.sv x_int h_658)) h_662 (fun z hm => by obtain ⟨h_659, hm⟩ := guardO_some hm; obtain ⟨h_660, hm⟩ := guardO_some hm; cases hm; exact (xw_or1 (xt_cmp (fun _ => op_gt) o_bl (nomark _) (x_callB (c_len _) T.g_len (by decide +kernel) (o_lenL LV.val.sv) (xa1 (x_ixH 2 (x_var 15) x_int rfl))) (x_op (fun _ => op_shl) (o_intC h_660) (x_op (fun _ => op_mul) (o_intC h_659) (x_op (fun _ => op_mul) (o_intC (.inl (by decide))) x_int (x_var 4)) (x_op (fun _ => op_add) o_int (x_var 8) (x_var 3))) (x_var 2))))))) (fun hz => ?_) (fun hz => ?_)
              · have hm := condT hz hm
                cases hm
                exact go_ret x_bl (fun v H h => h)
              · have hm := condF hz hm
                refine go_join ?_
                obtain ⟨r_663, h_664, hm⟩ := Option.bind_eq_some_iff.mp hm
                cases hm
                exact go_ret (x_call (z := (parts_621, r_505, codes_511, inputs_496, outputs_492)) (ok__law_right T) (by decide) T.g__law_right T.k__law_right T.b__law_right (xa_cons (x_var 15) (xa_cons (x_var 5) (xa_cons (x_var 6) (xa_cons (x_var 2) (xa_cons (x_var 3) xa_nil))))) rfl (by repeat' (first | exact trivial | refine ⟨no_val, ?_⟩ | refine ⟨no_borL, ?_⟩ | refine ⟨no_bor, ?_⟩)) h_664) (fun v H h => h)
end
end K68

/-! Pl1 -/
namespace Ty
open PySem PySem.Spec L2
theorem letO_eq {α β : Type} (a : α) (f : α → Option β) : letO a f = f a := rfl
theorem rangeL_len (n : Int) : (rangeL 0 n).length = n.toNat := by simp [rangeL]
theorem rangeL_nat (n : Nat) : rangeL 0 (n : Int) = (List.range n).map fun (k : Nat) => (k : Int) := by simp [rangeL]
theorem mem_rangeL {x lo hi : Int} (h : x ∈ rangeL lo hi) : lo ≤ x ∧ x < hi := by
  unfold rangeL at h
  obtain ⟨k, hk, rfl⟩ := List.mem_map.mp h
  have := List.mem_range.mp hk
  omega
theorem fmO_all {α β : Type} {f : α → Option (Option β)} {g : α → β} : ∀ {xs : List α}, (∀ x ∈ xs, f x = some (some (g x))) → fmO xs f = some (xs.map g)
  | [], _ => rfl
  | x :: xs, h => by
    unfold fmO
    rw [h x List.mem_cons_self, Option.bind_some, fmO_all fun y hy => h y (List.mem_cons_of_mem _ hy)]; rfl
theorem mem_of_atI {α : Type} {xs : List α} {i : Int} {v : α} (h : atI xs i = some v) : v ∈ xs := by
  unfold atI at h
  obtain ⟨j, _, h⟩ := Option.bind_eq_some_iff.mp h
  exact List.mem_of_getElem? h
theorem line_le {n : Nat} (h : n ≤ 16777216) : n ≤ sizeLine := by rw [sizeLine_eq]; exact h
theorem line_lt {n : Nat} (h : n < 16777216) : n < sizeLine := by rw [sizeLine_eq]; exact h
/-! ### tables -/
section
variable {κ β : Type} [DecidableEq κ]
theorem dget_nil (k : κ) : dget ([] : List (κ × β)) k = none := rfl
theorem dget_cons (a : κ × β) (r : List (κ × β)) (k : κ) : dget (a :: r) k = if a.1 = k then some a.2 else dget r k := by
  by_cases h : a.1 = k <;> simp [dget, List.find?_cons, h]
theorem dget_none_any {kvs : List (κ × β)} {k : κ} (h : dget kvs k = none) : (kvs.any fun kv => decide (kv.1 = k)) = false := by
  induction kvs with
  | nil => rfl
  | cons a r ih =>
    rw [dget_cons] at h
    by_cases e : a.1 = k
    · simp [e] at h
    · rw [if_neg e] at h
      simp only [List.any_cons, e, decide_false, Bool.false_or]; exact ih h
theorem dput_new {kvs : List (κ × β)} {k : κ} {v : β} (h : dget kvs k = none) : dput kvs k v = kvs ++ [(k, v)] := by
  unfold dput
  rw [dget_none_any h]; rfl
theorem dget_snoc {kvs : List (κ × β)} {k q : κ} {v : β} (h : dget kvs k = none) : dget (kvs ++ [(k, v)]) q = if q = k then some v else dget kvs q := by
  induction kvs with
  | nil => rw [List.nil_append, dget_cons]; by_cases e : k = q <;> simp [e, dget_nil, eq_comm]
  | cons a r ih =>
    rw [dget_cons] at h
    by_cases e : a.1 = k
    · simp [e] at h
    · rw [if_neg e] at h
      rw [List.cons_append, dget_cons, dget_cons, ih h]
      by_cases e2 : a.1 = q
      · have : ¬ q = k := fun z => e (by rw [e2, z])
        simp [e2, this]
      · simp [e2]
end
/-! ### how many different items -/
theorem nodup_le {α : Type} [DecidableEq α] : ∀ {l l' : List α}, l.Nodup → (∀ x ∈ l, x ∈ l') → l.length ≤ l'.length
  | [], _, _, _ => Nat.zero_le _
  | a :: l, l', nd, h => by
    have nd' := List.nodup_cons.mp nd
    have ha := h a List.mem_cons_self
    have h2 : ∀ x ∈ l, x ∈ l'.erase a := fun x hx => (List.mem_erase_of_ne (fun e => nd'.1 (by rw [← e]; exact hx))).mpr (h x (List.mem_cons_of_mem _ hx))
    have := nodup_le nd'.2 h2
    rw [List.length_erase_of_mem ha] at this
    have hp : 0 < l'.length := List.length_pos_of_mem ha
    simp only [List.length_cons]; omega
def pairsL (n m : Nat) : List (Int × Int) := (List.range n).flatMap fun (a : Nat) => (List.range m).map fun (b : Nat) => ((a : Int), (b : Int))
end Ty

/-! Pl2 -/
namespace Ty
open PySem PySem.Spec L2
/-! ### running mirrors forward -/
theorem gI {α : Type} {c : Prop} [Decidable c] {x z : Option α} (h : c) (k : x = z) : guardO c x = z := (if_pos h).trans k
theorem bI {α β : Type} {o : Option α} {a : α} {f : α → Option β} {z : Option β} (h : o = some a) (k : f a = z) : o.bind f = z := by rw [h]; exact k
theorem lI {α β : Type} {a : α} {f : α → Option β} {z : Option β} (k : f a = z) : letO a f = z := k
theorem cT {α : Type} {c : Bool} {a b z : α} (h : c = true) (k : a = z) : (bif c then a else b) = z := by rw [h]; exact k
theorem cF {α : Type} {c : Bool} {a b z : α} (h : c = false) (k : b = z) : (bif c then a else b) = z := by rw [h]; exact k
theorem exI_ok {α β : Type} {o : Option (Rx α)} {ke : Exn → Option β} {kk : α → Option β} {a : α} {z : Option β} (h : o = some (.ok a)) (k : kk a = z) : exK o ke kk = z := by rw [h]; exact k
theorem exI_ex {α β : Type} {o : Option (Rx α)} {ke : Exn → Option β} {kk : α → Option β} {e : Exn} {z : Option β} (h : o = some (.ex e)) (k : ke e = z) : exK o ke kk = z := by rw [h]; exact k
theorem dT {p : Prop} [Decidable p] (h : p) : decide p = true := decide_eq_true h
theorem dF {p : Prop} [Decidable p] (h : ¬ p) : decide p = false := decide_eq_false h
/-! ### loops by places -/
theorem rangeL_len2 (a b : Int) : (rangeL a b).length = (b - a).toNat := by simp [rangeL]
theorem rangeL_at {a b : Int} {j : Nat} {x : Int} (h : (rangeL a b)[j]? = some x) : x = a + j ∧ (j : Int) < b - a := by
  unfold rangeL at h
  rw [List.getElem?_map] at h
  obtain ⟨m, h1, h2⟩ := Option.map_eq_some_iff.mp h
  obtain ⟨h3, h4⟩ := List.getElem?_eq_some_iff.mp h1
  simp at h3 h4
  subst h4
  exact ⟨h2.symm, by omega⟩
/-! ### lists -/
theorem rep_flat {α : Type} (n : Nat) (x : α) : (List.replicate n [x]).flatten = List.replicate n x := by
  induction n with
  | zero => rfl
  | succ n ih => rw [List.replicate_succ, List.flatten_cons, ih]; rfl
theorem ixN_of {n : Nat} {i : Int} (h0 : 0 ≤ i) (h1 : i < n) : ixN n i = some i.toNat := by unfold ixN; rw [if_pos h0, if_pos h1]
theorem setI_of {α : Type} {xs : List α} {i : Int} {u : α} (h0 : 0 ≤ i) (h1 : i < xs.length) : setI xs i u = some (xs.set i.toNat u) := by unfold setI; rw [ixN_of h0 h1]; rfl
theorem atI_pos {α : Type} {xs : List α} {i : Int} (h0 : 0 ≤ i) : atI xs i = xs[i.toNat]? := by
  unfold atI
  by_cases h : i < xs.length
  · rw [ixN_of h0 h]; rfl
  · unfold ixN
    rw [if_pos h0, if_neg h, List.getElem?_eq_none (by omega)]; rfl
theorem atI_ex {α : Type} {xs : List α} {i : Int} (h0 : 0 ≤ i) (h1 : i < xs.length) : ∃ v, atI xs i = some v := by
  rw [atI_pos h0]
  exact ⟨_, List.getElem?_eq_getElem (by omega)⟩
theorem atI_set {α : Type} {xs : List α} {i j : Int} {u : α} (h0 : 0 ≤ i) (h1 : i < xs.length) (hj : 0 ≤ j) : atI (xs.set i.toNat u) j = if j = i then some u else atI xs j := by
  rw [atI_pos hj, atI_pos hj]
  by_cases h : j = i
  · subst h
    rw [if_pos rfl, List.getElem?_set_self (by omega)]
  · rw [if_neg h, List.getElem?_set_ne (by omega)]
/-! ### tables -/
section
variable {κ β : Type} [DecidableEq κ]
theorem dget_map (kvs : List (κ × β)) (k q : κ) (v : β) : dget (kvs.map fun kv => if kv.1 = k then (kv.1, v) else kv) q = if q = k then (dget kvs k).map (fun _ => v) else dget kvs q := by
  induction kvs with
  | nil => by_cases e : q = k <;> simp [e, dget_nil]
  | cons a r ih =>
    rw [List.map_cons, dget_cons, ih, dget_cons, dget_cons]
    by_cases e1 : a.1 = k
    · rw [if_pos e1]
      by_cases e : q = k
      · subst e
        rw [if_pos e1, if_pos rfl, if_pos e1]; rfl
      · have hne : ¬ a.1 = q := fun z => e (by rw [← z]; exact e1)
        simp only [if_neg e, if_neg hne]
    · rw [if_neg e1]
      by_cases e : q = k
      · subst e
        rw [if_neg e1, if_pos rfl, if_pos rfl, if_neg e1]
      · rw [if_neg e, if_neg e]
theorem dget_put (kvs : List (κ × β)) (k q : κ) (v : β) : dget (dput kvs k v) q = if q = k then some v else dget kvs q := by
  cases h : dget kvs k with
  | none => rw [dput_new h, dget_snoc h]
  | some u =>
    have hany : (kvs.any fun kv => decide (kv.1 = k)) = true := by
      cases hb : (kvs.any fun kv => decide (kv.1 = k)) with
      | true => rfl
      | false =>
        exfalso
        have : dget kvs k = none := by
          clear h
          induction kvs with
          | nil => rfl
          | cons a r ih =>
            simp only [List.any_cons, Bool.or_eq_false_iff] at hb
            rw [dget_cons, if_neg (of_decide_eq_false hb.1)]
            exact ih hb.2
        rw [this] at h; cases h
    unfold dput
    rw [if_pos hany]
    rw [dget_map, h]
    by_cases e : q = k
    · rw [if_pos e, if_pos e]; rfl
    · rw [if_neg e, if_neg e]
theorem dput_len (kvs : List (κ × β)) (k : κ) (v : β) : (dput kvs k v).length ≤ kvs.length + 1 := by
  unfold dput
  split <;> simp
end
end Ty

/-! Pl3 -/
namespace Ty
open PySem PySem.Spec L2
/-! ### mirrors: they end, with what -/
def Tot {α : Type} (o : Option α) (Q : α → Prop) : Prop := ∃ v, o = some v ∧ Q v
section
variable {α β S ρ : Type} {Q : β → Prop} {R : α → Prop} {x y : Option β} {z : Option β}
theorem tG {c : Prop} [Decidable c] (h : c) (k : Tot x Q) : Tot (guardO c x) Q := by unfold guardO; rw [if_pos h]; exact k
theorem tB {o : Option α} {f : α → Option β} (h : Tot o R) (k : ∀ a, R a → Tot (f a) Q) : Tot (o.bind f) Q := by
  obtain ⟨a, e, r⟩ := h
  rw [e]; exact k a r
theorem tE {o : Option α} {f : α → Option β} {a : α} (h : o = some a) (k : Tot (f a) Q) : Tot (o.bind f) Q := by rw [h]; exact k
theorem tL {a : α} {f : α → Option β} (k : Tot (f a) Q) : Tot (letO a f) Q := k
theorem tC {c : Bool} (h1 : c = true → Tot x Q) (h2 : c = false → Tot y Q) : Tot (bif c then x else y) Q := by cases c with
  | true => exact h1 rfl
  | false => exact h2 rfl
theorem tD {p : Prop} [Decidable p] (h1 : p → Tot x Q) (h2 : ¬ p → Tot y Q) : Tot (bif decide p then x else y) Q := tC (fun h => h1 (of_decide_eq_true h)) (fun h => h2 (of_decide_eq_false h))
theorem tR {v : β} (h : Q v) : Tot (some v) Q := ⟨v, rfl, h⟩
theorem Tot.imp {Q' : β → Prop} (h : Tot x Q) (k : ∀ v, Q v → Q' v) : Tot x Q' := let ⟨v, e, q⟩ := h; ⟨v, e, k v q⟩
theorem Tot.eq {v : β} (h : Tot x fun r => r = v) : x = some v := let ⟨_, e, q⟩ := h; by rw [e, q]
theorem Tot.of {v : β} (h : x = some v) (k : Q v) : Tot x Q := ⟨v, h, k⟩
theorem tX {γ : Type} {o : Option (Rx γ)} {ke : Exn → Option β} {kk : γ → Option β} (h : Tot o fun r => match r with | .ok a => Tot (kk a) Q | .ex e => Tot (ke e) Q) : Tot (exK o ke kk) Q := by
  obtain ⟨r, e, q⟩ := h
  unfold exK
  rw [e]
  cases r with
  | ok a => exact q
  | ex e => exact q
/-- where a loop's turn leads -/
def LQ (P : S → Prop) (kn : S → Option β) (kr : ρ → Option β) (Q : β → Prop) : Fl ρ S → Prop
  | .next s => P s
  | .brk s => Tot (kn s) Q
  | .ret r => Tot (kr r) Q
variable {kn : S → Option β} {kr : ρ → Option β}
theorem tForX_aux {f : α → S → Option (Fl ρ S)} (P : Nat → S → Prop) : ∀ (xs : List α) (n : Nat) (s0 : S), P n s0 → (∀ j x s, xs[j]? = some x → P (n + j) s → Tot (f x s) (LQ (P (n + j + 1)) kn kr Q)) → (∀ s, P (n + xs.length) s → Tot (kn s) Q) → Tot (flK (forF xs s0 f) kn kr) Q
  | [], n, s0, h, _, k => k s0 h
  | x :: xs, n, s0, h, hs, k => by
    obtain ⟨fl, h1, h2⟩ := hs 0 x s0 rfl h
    unfold forF
    rw [h1, Option.bind_some]
    cases fl with
    | next s =>
      refine tForX_aux P xs (n + 1) s h2 (fun j y s e hp => ?_) (fun s hp => k s ?_)
      · have := hs (j + 1) y s (by simpa using e) (by rw [show n + (j + 1) = n + 1 + j by omega]; exact hp)
        rw [show n + (j + 1) + 1 = n + 1 + j + 1 by omega] at this
        exact this
      · rw [List.length_cons, show n + (xs.length + 1) = n + 1 + xs.length by omega]; exact hp
    | brk s => exact h2
    | ret r => exact h2
/-- for x in xs: by places -/
theorem tForX {f : α → S → Option (Fl ρ S)} (P : Nat → S → Prop) {xs : List α} {s0 : S} (h : P 0 s0) (hs : ∀ j x s, xs[j]? = some x → P j s → Tot (f x s) (LQ (P (j + 1)) kn kr Q)) (k : ∀ s, P xs.length s → Tot (kn s) Q) : Tot (flK (forF xs s0 f) kn kr) Q :=
  tForX_aux P xs 0 s0 h (fun j x s e hp => by rw [Nat.zero_add] at hp ⊢; exact hs j x s e hp) (fun s hp => by rw [Nat.zero_add] at hp; exact k s hp)
theorem tForR {f : Int → S → Option (Fl ρ S)} {a b : Int} (P : Int → S → Prop) {s0 : S} (hab : a ≤ b) (h : P a s0) (hs : ∀ x s, a ≤ x → x < b → P x s → Tot (f x s) (LQ (P (x + 1)) kn kr Q)) (k : ∀ s, P b s → Tot (kn s) Q) : Tot (flK (forF (rangeL a b) s0 f) kn kr) Q := by
  refine tForX (fun j s => P (a + j) s) (by simpa using h) (fun j x s e hp => ?_) (fun s hp => ?_)
  · obtain ⟨rfl, h3⟩ := rangeL_at e
    have := hs (a + j) s (by omega) (by omega) hp
    rw [show a + (j : Int) + 1 = a + ((j + 1 : Nat) : Int) by omega] at this
    exact this
  · rw [rangeL_len2, show a + (((b - a).toNat : Nat) : Int) = b by omega] at hp
    exact k s hp
theorem tFm {γ : Type} {f : α → Option (Option γ)} {g : α → γ} {k : List γ → Option β} {xs : List α} (h : ∀ x ∈ xs, f x = some (some (g x))) (hk : Tot (k (xs.map g)) Q) : Tot ((fmO xs f).bind k) Q := tE (fmO_all h) hk
theorem tAt {γ : Type} {xs : List γ} {i : Int} {k : γ → Option β} (h0 : 0 ≤ i) (h1 : i < xs.length) (hk : ∀ v, atI xs i = some v → Tot (k v) Q) : Tot ((atI xs i).bind k) Q := by
  obtain ⟨v, e⟩ := atI_ex h0 h1
  exact tE e (hk v e)
theorem tSet {γ : Type} {xs : List γ} {i : Int} {u : γ} {k : List γ → Option β} (h0 : 0 ≤ i) (h1 : i < xs.length) (hk : Tot (k (xs.set i.toNat u)) Q) : Tot ((setI xs i u).bind k) Q := tE (setI_of h0 h1) hk
end
theorem tLe {α β : Type} {Q : β → Prop} {a : α} {f : α → Option β} (k : ∀ x, x = a → Tot (f x) Q) : Tot (letO a f) Q := k a rfl
/-- a list that is filled from its start -/
structure Fill {V : Type} (N : Int) (F : Int → V) (z : V) (x : Int) (c : List V) : Prop where
  len : (c.length : Int) = N
  done : ∀ y, 0 ≤ y → y < x → atI c y = some (F y)
  rest : ∀ y, x ≤ y → y < N → atI c y = some z
theorem Fill.set {V : Type} {N x : Int} {F : Int → V} {z v : V} {c : List V} (h : Fill N F z x c) (h0 : 0 ≤ x) (h1 : x < N) (hv : v = F x) : Fill N F z (x + 1) (c.set x.toNat v) := by
  have hl := h.len
  refine ⟨by rw [List.length_set]; exact hl, fun y a b => ?_, fun y a b => ?_⟩
  · rw [atI_set h0 (by omega) a]
    by_cases e : y = x
    · rw [if_pos e, e, hv]
    · rw [if_neg e]; exact h.done y a (by omega)
  · rw [atI_set h0 (by omega) (by omega), if_neg (by omega)]
    exact h.rest y (by omega) b
theorem Fill.skip {V : Type} {N x : Int} {F : Int → V} {z : V} {c : List V} (h : Fill N F z x c) (h1 : x < N) (hv : F x = z) : Fill N F z (x + 1) c := by
  refine ⟨h.len, fun y a b => ?_, fun y a b => h.rest y (by omega) b⟩
  by_cases e : y = x
  · rw [e, hv]; exact h.rest x (Int.le_refl _) h1
  · exact h.done y a (by omega)
end Ty

/-! Pl4 -/
namespace Ty
open PySem PySem.Spec L2
/-! ### bits of whole numbers -/
theorem bAnd_nat (a b : Nat) : Builtin.bitAnd (a : Int) (b : Int) = ((a &&& b : Nat) : Int) := by
  unfold Builtin.bitAnd
  simp
theorem bXor_nat (a b : Nat) : Builtin.bitXor (a : Int) (b : Int) = ((a ^^^ b : Nat) : Int) := by
  rw [Bits.bitXor_pp (by omega) (by omega)]; simp
/-- a bit as a number -/
def bi (b : Bool) : Int := if b then 1 else 0
theorem bi_nat (b : Bool) : bi b = ((b.toNat : Nat) : Int) := by cases b <;> rfl
theorem bi_and (a b : Bool) : Builtin.bitAnd (bi a) (bi b) = bi (a && b) := by rw [bi_nat, bi_nat, bAnd_nat]; cases a <;> cases b <;> rfl
theorem bi_xor (a b : Bool) : Builtin.bitXor (bi a) (bi b) = bi (a ^^ b) := by rw [bi_nat, bi_nat, bXor_nat]; cases a <;> cases b <;> rfl
theorem bi_range (b : Bool) : 0 ≤ bi b ∧ bi b ≤ 1 := by cases b <;> decide
/-- the mark of a literal -/
def odd (x : Int) : Bool := decide (x % 2 = 1)
theorem mod2_bi (x : Int) : x % 2 = bi (odd x) := by
  unfold odd bi
  by_cases h : x % 2 = 1
  · simp [h]
  · have : x % 2 = 0 := by omega
    simp [this]
/-- the table of f over n places -/
def tbl : Nat → (Nat → Bool) → Nat
  | 0, _ => 0
  | n + 1, f => tbl n f + (f n).toNat * 2 ^ n
theorem tbl_lt (n : Nat) (f : Nat → Bool) : tbl n f < 2 ^ n := by
  induction n with
  | zero => exact Nat.one_pos
  | succ n ih =>
    unfold tbl
    have : (f n).toNat ≤ 1 := by cases f n <;> decide
    have h2 : (f n).toNat * 2 ^ n ≤ 1 * 2 ^ n := Nat.mul_le_mul_right _ this
    rw [Nat.pow_succ]; omega
theorem tbl_bit (n : Nat) (f : Nat → Bool) (i : Nat) : (tbl n f).testBit i = (decide (i < n) && f i) := by
  induction n with
  | zero => simp [tbl]
  | succ n ih =>
    unfold tbl
    have hl := tbl_lt n f
    cases h : f n with
    | false =>
      show Nat.testBit (tbl n f + 0 * 2 ^ n) i = _
      rw [Nat.zero_mul, Nat.add_zero, ih]
      by_cases e : i = n
      · subst e; simp [h]
      · have : (i < n) ↔ (i < n + 1) := by omega
        simp [this]
    | true =>
      show Nat.testBit (tbl n f + 1 * 2 ^ n) i = _
      rw [Nat.one_mul, Nat.add_comm]
      by_cases e : i = n
      · subst e
        rw [Nat.testBit_two_pow_add_eq, ih]; simp [h]
      · by_cases e2 : i < n
        · rw [Nat.testBit_two_pow_add_gt e2, ih]
          have : i < n + 1 := by omega
          simp [this, e2]
        · have h3 : 2 ^ n + tbl n f < 2 ^ i := by
            have : 2 ^ (n + 1) ≤ 2 ^ i := Nat.pow_le_pow_right (by decide) (by omega)
            rw [Nat.pow_succ] at this; omega
          rw [Nat.testBit_lt_two_pow h3]
          have : ¬ i < n + 1 := by omega
          simp [this]
theorem tbl_of {n t : Nat} {f : Nat → Bool} (h : ∀ i, t.testBit i = (decide (i < n) && f i)) : t = tbl n f := Nat.eq_of_testBit_eq fun i => by rw [h, tbl_bit]
/-! ### a net: what is worked out by and -/
def Wf (ands : List (Int × Int)) (fa : Int) : Prop := 1 ≤ fa ∧ ∀ (k : Nat) p, ands[k]? = some p → (0 ≤ p.1 ∧ p.1 < 2 * (fa + k)) ∧ (0 ≤ p.2 ∧ p.2 < 2 * (fa + k))
theorem Wf.at {ands : List (Int × Int)} {fa x : Int} {p : Int × Int} (w : Wf ands fa) (h1 : fa ≤ x) (h : atI ands (x - fa) = some p) : (0 ≤ p.1 ∧ 0 ≤ p.1 / 2 ∧ p.1 / 2 < x) ∧ (0 ≤ p.2 ∧ 0 ≤ p.2 / 2 ∧ p.2 / 2 < x) := by
  rw [atI_pos (by omega)] at h
  have := w.2 _ _ h
  have e : ((x - fa).toNat : Int) = x - fa := by omega
  rw [e] at this
  omega
section
variable {V : Type} (ands : List (Int × Int)) (fa : Int) (base : Int → Option V) (comb : Int × Int → V → V → V) (d : V)
def solN : Nat → Int → V
  | 0, _ => d
  | k + 1, y => match base y with
    | some v => v
    | none => match atI ands (y - fa) with
      | none => d
      | some p => comb p (solN k (p.1 / 2)) (solN k (p.2 / 2))
def sol (y : Int) : V := solN ands fa base comb d (y.toNat + 1) y
end
end Ty

/-! Pl5 -/
/-! names and circuits; the first of a list that fails -/
namespace Ty
open PySem PySem.Spec L2
/-! ### texts by sign -/
theorem len_tl' (x : Str) : x.length = x.cps.toList.length := by unfold Str.length; simp
theorem tl_cat (a b : Str) : (a ++ b).cps.toList = a.cps.toList ++ b.cps.toList := TL.tl_append a b
theorem tl_numI {n : Int} (h : 0 ≤ n) : (Str.ofString (toString n)).cps.toList = TL.numL n.toNat := by
  have := TL.tl_num n.toNat
  rw [Int.toNat_of_nonneg h] at this
  exact this
def sgn (c : Nat) : Prop := (97 ≤ c ∧ c ≤ 122) ∨ (48 ≤ c ∧ c ≤ 57) ∨ c = 95
theorem mem_low {c : Nat} : c ∈ ("abcdefghijklmnopqrstuvwxyz" : Str).cps.toList ↔ (97 ≤ c ∧ c ≤ 122) := by
  have e : ("abcdefghijklmnopqrstuvwxyz" : Str).cps.toList = [97, 98, 99, 100, 101, 102, 103, 104, 105, 106, 107, 108, 109, 110, 111, 112, 113, 114, 115, 116, 117, 118, 119, 120, 121, 122] := by decide +kernel
  rw [e]
  simp only [List.mem_cons, List.not_mem_nil, or_false]
  omega
theorem mem_sgn {c : Nat} : c ∈ ("abcdefghijklmnopqrstuvwxyz0123456789_" : Str).cps.toList ↔ sgn c := by
  have e : ("abcdefghijklmnopqrstuvwxyz0123456789_" : Str).cps.toList = [97, 98, 99, 100, 101, 102, 103, 104, 105, 106, 107, 108, 109, 110, 111, 112, 113, 114, 115, 116, 117, 118, 119, 120, 121, 122, 48, 49, 50, 51, 52, 53, 54, 55, 56, 57, 95] := by decide +kernel
  rw [e]
  simp only [List.mem_cons, List.not_mem_nil, or_false]
  unfold sgn
  omega
/-- a name -/
structure Nm (s : Str) : Prop where
  l1 : 1 ≤ s.cps.toList.length
  l2 : s.cps.toList.length ≤ 12
  hd : ∀ c, s.cps.toList[0]? = some c → 97 ≤ c ∧ c ≤ 122
  al : ∀ c ∈ s.cps.toList, sgn c
/-- the names of one family, by their number -/
def NameC (k : Nat) (s : Str) : Prop := (∃ j, j < 4 ∧ s.cps.toList = 114 :: TL.numL (4 * k + j)) ∨ (∃ c t, (97 ≤ c ∧ c ≤ 122) ∧ s.cps.toList = c :: (TL.numL k ++ 95 :: t) ∧ t.length ≤ 5 ∧ ∀ x ∈ t, (97 ≤ x ∧ x ≤ 122) ∨ (48 ≤ x ∧ x ≤ 57))
theorem num_sgn {n c : Nat} (h : c ∈ TL.numL n) : sgn c := .inr (.inl (TL.numL_digits n c h))
theorem NameC.nm {k : Nat} {s : Str} (h : NameC k s) (hk : k < 1000) : Nm s := by
  rcases h with ⟨j, hj, e⟩ | ⟨c, t, hc, e, ht, hx⟩
  · have hl := TL.numL_len (n := 4 * k + j) (k := 4) (by decide) (by omega)
    refine ⟨?_, ?_, ?_, ?_⟩ <;> rw [e]
    · simp
    · simp; omega
    · intro c h; simp at h; omega
    · intro c h
      rcases List.mem_cons.mp h with h | h
      · exact .inl (by omega)
      · exact num_sgn h
  · have hl := TL.numL_len (n := k) (k := 3) (by decide) (by omega)
    refine ⟨?_, ?_, ?_, ?_⟩ <;> rw [e]
    · simp
    · simp; omega
    · intro c h; simp at h; omega
    · intro x h
      rcases List.mem_cons.mp h with h | h
      · exact .inl (by omega)
      · rcases List.mem_append.mp h with h | h
        · exact num_sgn h
        · rcases List.mem_cons.mp h with h | h
          · exact .inr (.inr h)
          · rcases hx x h with z | z
            · exact .inl z
            · exact .inr (.inl z)
theorem cut95 : ∀ {a b c d : List Nat}, 95 ∉ a → 95 ∉ c → a ++ 95 :: b = c ++ 95 :: d → a = c
  | [], _, [], _, _, _, _ => rfl
  | [], b, y :: c, d, _, h, e => by
    simp at e
    exact absurd (by rw [e.1]; simp) h
  | x :: a, b, [], d, h, _, e => by
    simp at e
    exact absurd (by rw [e.1]; simp) h
  | x :: a, b, y :: c, d, h1, h2, e => by
    simp at e
    rw [e.1, cut95 (fun z => h1 (List.mem_cons_of_mem _ z)) (fun z => h2 (List.mem_cons_of_mem _ z)) e.2]
theorem NameC.inj {k k' : Nat} {s : Str} (h : NameC k s) (h' : NameC k' s) : k = k' := by
  rcases h with ⟨j, hj, e⟩ | ⟨c, t, hc, e, _⟩ <;> rcases h' with ⟨j', hj', e'⟩ | ⟨c', t', hc', e', _⟩ <;> rw [e] at e'
  · injection e' with _ z
    have := TL.numL_inj z
    omega
  · injection e' with _ z
    have : 95 ∈ TL.numL (4 * k + j) := by rw [z]; simp
    exact absurd this (TL.numL_free (by omega))
  · injection e' with _ z
    have : 95 ∈ TL.numL (4 * k' + j') := by rw [← z]; simp
    exact absurd this (TL.numL_free (by omega))
  · injection e' with _ z
    exact TL.numL_inj (cut95 (TL.numL_free (by omega)) (TL.numL_free (by omega)) z)
/-! ### circuits -/
structure CircOk (ins : List Str) (lts : List (Str × Int × Int)) (ands : List (Int × Int)) (outs : List (Str × Int)) : Prop where
  i1 : ins.length ≤ 16
  l1 : lts.length ≤ 40
  a1 : ands.length ≤ 2000
  o1 : outs.length ≤ 32
  iN : ∀ s ∈ ins, Nm s
  lN : ∀ p ∈ lts, Nm p.1
  oN : ∀ p ∈ outs, Nm p.1
  nd : (ins ++ lts.map (·.1)).Nodup
  on : (outs.map (·.1)).Nodup
  lv : ∀ p ∈ lts, (0 ≤ p.2.1 ∧ p.2.1 ≤ 1) ∧ 0 ≤ p.2.2 ∧ p.2.2 < 2 * (1 + ins.length + lts.length + ands.length : Int)
  wf : Wf ands (1 + ins.length + lts.length : Int)
  ov : ∀ p ∈ outs, 0 ≤ p.2 ∧ p.2 < 2 * (1 + ins.length + lts.length + ands.length : Int)
theorem enum_at {α : Type} {xs : List α} {j : Nat} {y : Int × α} (h : (xs.zipIdx.map fun x => ((x.2 : Int), x.1))[j]? = some y) : ∃ x, xs[j]? = some x ∧ y = ((j : Int), x) := by
  rw [List.getElem?_map] at h
  obtain ⟨z, h1, h2⟩ := Option.map_eq_some_iff.mp h
  rw [List.getElem?_zipIdx] at h1
  obtain ⟨x, h3, h4⟩ := Option.map_eq_some_iff.mp h1
  refine ⟨x, h3, ?_⟩
  rw [← h2, ← h4]
  simp
theorem enum_len {α : Type} (xs : List α) : (xs.zipIdx.map fun x => ((x.2 : Int), x.1)).length = xs.length := by simp
/-! ### the first that is so -/
theorem Wf.set {ands : List (Int × Int)} {fa : Int} (w : Wf ands fa) {n : Nat} {u : Int × Int} (h : (0 ≤ u.1 ∧ u.1 < 2) ∧ (0 ≤ u.2 ∧ u.2 < 2)) : Wf (ands.set n u) fa := by
  refine ⟨w.1, fun k p hp => ?_⟩
  have h1 := w.1
  rw [List.getElem?_set] at hp
  split at hp
  · split at hp
    · cases hp; omega
    · cases hp
  · exact w.2 k p hp
theorem cutL_pre {α : Type} {xs : List α} {n : Int} (h0 : 0 ≤ n) (h1 : n ≤ xs.length) : cutL xs none (some n) = xs.take n.toNat := by
  unfold cutL
  have e0 : HT.sIx xs.length 0 none = 0 := rfl
  have e1 : HT.sIx xs.length xs.length (some n) = n.toNat := by
    show (if n < 0 then (n + (xs.length : Int)).toNat else min n.toNat xs.length) = _
    rw [if_neg (by omega)]
    omega
  rw [e0, e1, List.drop_zero, Nat.sub_zero]
end Ty
namespace Ty
open PySem PySem.Spec L2
theorem fmX {α β : Type} {f : α → Option (Option β)} : ∀ {xs : List α} {R : Nat → β → Prop}, (∀ j x, xs[j]? = some x → ∃ v, f x = some (some v) ∧ R j v) → ∃ ys, fmO xs f = some ys ∧ ys.length = xs.length ∧ ∀ j v, ys[j]? = some v → R j v
  | [], R, _ => ⟨[], rfl, rfl, fun j v h => by simp at h⟩
  | x :: xs, R, h => by
    obtain ⟨v, h1, h2⟩ := h 0 x rfl
    obtain ⟨ys, h3, h4, h5⟩ := fmX (xs := xs) (R := fun j v => R (j + 1) v) fun j y hy => h (j + 1) y (by simpa using hy)
    refine ⟨v :: ys, ?_, by simp [h4], fun j u hu => ?_⟩
    · unfold fmO
      rw [h1, Option.bind_some, h3]
      rfl
    · cases j with
      | zero => simp at hu; rw [← hu]; exact h2
      | succ j => exact h5 j u (by simpa using hu)
theorem tFmX {α γ β : Type} {Q : β → Prop} {f : α → Option (Option γ)} {xs : List α} {k : List γ → Option β} (R : Nat → γ → Prop) (h : ∀ j x, xs[j]? = some x → ∃ v, f x = some (some v) ∧ R j v) (hk : ∀ ys, ys.length = xs.length → (∀ j v, ys[j]? = some v → R j v) → Tot (k ys) Q) : Tot ((fmO xs f).bind k) Q := by
  obtain ⟨ys, e, h1, h2⟩ := fmX h
  exact tE e (hk ys h1 h2)
theorem nodup_by {α : Type} {R : Nat → α → Prop} {ys : List α} (h : ∀ j v, ys[j]? = some v → R j v) (hi : ∀ j k v, R j v → R k v → j = k) : ys.Nodup := by
  rw [List.Nodup, List.pairwise_iff_getElem]
  intro i j h1 h2 h3 e
  have a := h i _ (List.getElem?_eq_getElem h1)
  have b := h j _ (List.getElem?_eq_getElem h2)
  rw [e] at a
  have := hi _ _ _ a b
  omega
theorem snoc_at {α : Type} {xs : List α} {u p : α} {m : Nat} (h : (xs ++ [u])[m]? = some p) : (m < xs.length ∧ xs[m]? = some p) ∨ (m = xs.length ∧ p = u) := by
  by_cases hm : m < xs.length
  · rw [List.getElem?_append_left hm] at h; exact .inl ⟨hm, h⟩
  · rw [List.getElem?_append_right (by omega)] at h
    have := (List.getElem?_eq_some_iff.mp h).1
    simp at this
    have e : m - xs.length = 0 := by omega
    rw [e] at h
    simp at h
    exact .inr ⟨by omega, h.symm⟩
end Ty
namespace Ty
end Ty
namespace Ty
end Ty

/-! Pl6 -/
/-! another family of names; cuts -/
namespace Ty
open PySem PySem.Spec L2
/-! ### names -/
def aln (x : Nat) : Prop := (97 ≤ x ∧ x ≤ 122) ∨ (48 ≤ x ∧ x ≤ 57)
def NameB (k : Nat) (s : Str) : Prop := ∃ c a b, (97 ≤ c ∧ c ≤ 122) ∧ s.cps.toList = c :: (a ++ 95 :: (48 + k) :: b) ∧ a.length + b.length ≤ 7 ∧ (∀ x ∈ a, aln x) ∧ ∀ x ∈ b, aln x
theorem aln_sgn {x : Nat} (h : aln x) : sgn x := by
  rcases h with h | h
  · exact .inl h
  · exact .inr (.inl h)
theorem NameB.nm {k : Nat} {s : Str} (h : NameB k s) (hk : k < 10) : Nm s := by
  obtain ⟨c, a, b, hc, e, hl, ha, hb⟩ := h
  refine ⟨?_, ?_, ?_, ?_⟩ <;> rw [e]
  · simp
  · simp; omega
  · intro c h; simp at h; omega
  · intro x h
    rcases List.mem_cons.mp h with h | h
    · exact .inl (by omega)
    · rcases List.mem_append.mp h with h | h
      · exact aln_sgn (ha x h)
      · rcases List.mem_cons.mp h with h | h
        · exact .inr (.inr h)
        · rcases List.mem_cons.mp h with h | h
          · exact .inr (.inl (by omega))
          · exact aln_sgn (hb x h)
theorem no95 {a : List Nat} (h : ∀ x ∈ a, aln x) : 95 ∉ a := fun hm => by
  rcases h 95 hm with z | z <;> omega
theorem cut95' : ∀ {a b c d : List Nat}, 95 ∉ a → 95 ∉ c → a ++ 95 :: b = c ++ 95 :: d → b = d := fun {a b c d} h1 h2 e => by
  have := cut95 h1 h2 e
  subst this
  simpa using e
theorem NameB.inj {k k' : Nat} {s : Str} (h : NameB k s) (h' : NameB k' s) : k = k' := by
  obtain ⟨c, a, b, hc, e, hl, ha, hb⟩ := h
  obtain ⟨c', a', b', hc', e', hl', ha', hb'⟩ := h'
  rw [e] at e'
  injection e' with _ z
  have := cut95' (no95 ha) (no95 ha') z
  injection this with z _
  omega
theorem NameB.has {k : Nat} {s : Str} (h : NameB k s) : 95 ∈ s.cps.toList := by
  obtain ⟨c, a, b, hc, e, _⟩ := h
  rw [e]; simp
theorem cutL_all {α : Type} {xs : List α} {n : Int} (h0 : 0 ≤ n) : cutL xs none (some n) = xs.take n.toNat := by
  by_cases h : n ≤ xs.length
  · exact cutL_pre h0 h
  · unfold cutL
    have : HT.sIx xs.length xs.length (some n) = xs.length := by
      show (if n < 0 then (n + (xs.length : Int)).toNat else min n.toNat xs.length) = _
      rw [if_neg (by omega)]
      omega
    rw [this]
    show List.take (xs.length - 0) (List.drop 0 xs) = _
    rw [List.drop_zero, List.take_of_length_le (by omega), List.take_of_length_le (by omega)]
/-- a text without strange signs -/
theorem ok_of {s : Str} (h : ∀ c ∈ s.cps.toList, c < 1114112) : PyData.strOk s = true := by
  unfold PyData.strOk
  rw [← Array.all_toList, List.all_eq_true]
  intro c hc
  exact decide_eq_true (h c hc)
theorem Nm.ok {s : Str} (h : Nm s) : PyData.strOk s = true := ok_of fun c hc => by
  rcases h.al c hc with z | z | z <;> omega
end Ty

/-! Pl7 -/
/-! names of a word and a number -/
namespace Ty
open PySem PySem.Spec L2
def NameP (pre : List Nat) (k : Nat) (s : Str) : Prop := s.cps.toList = pre ++ TL.numL k
theorem NameP.inj {pre : List Nat} {k k' : Nat} {s : Str} (h : NameP pre k s) (h' : NameP pre k' s) : k = k' := by
  unfold NameP at h h'
  rw [h] at h'
  exact TL.numL_inj (List.append_cancel_left h')
theorem NameP.nm {pre : List Nat} {k : Nat} {s : Str} (h : NameP pre k s) (hk : k < 100) (hp : 1 ≤ pre.length ∧ pre.length ≤ 10) (hd : ∀ c, pre[0]? = some c → 97 ≤ c ∧ c ≤ 122) (hs : ∀ c ∈ pre, sgn c) : Nm s := by
  have hl := TL.numL_len (n := k) (k := 2) (by decide) (by omega)
  unfold NameP at h
  refine ⟨?_, ?_, fun c hc => ?_, fun c hc => ?_⟩
  · rw [h, List.length_append]; omega
  · rw [h, List.length_append]; omega
  · rw [h, List.getElem?_append_left (by omega)] at hc
    exact hd c hc
  · rw [h] at hc
    rcases List.mem_append.mp hc with hc | hc
    · exact hs c hc
    · exact num_sgn hc
theorem cat_num {p : Str} {pre : List Nat} (hp : p.cps.toList = pre) {n : Int} {k : Nat} (hn : n = k) : NameP pre k (p ++ Str.ofString (toString n)) := by
  unfold NameP
  rw [tl_cat, hp, tl_numI (by omega), show n.toNat = k by omega]
theorem cat_len {p : Str} {n : Int} (h0 : 0 ≤ n) (h1 : n < 100) (hp : p.length ≤ 1000) : p.length + (Str.ofString (toString n)).length ≤ 16777216 := by
  have hl := TL.numL_len (n := n.toNat) (k := 2) (by decide) (by omega)
  rw [len_tl' (Str.ofString _), tl_numI h0]
  omega
theorem NameP.nm3 {pre : List Nat} {k : Nat} {s : Str} (h : NameP pre k s) (hk : k < 1000) (hp : 1 ≤ pre.length ∧ pre.length ≤ 9) (hd : ∀ c, pre[0]? = some c → 97 ≤ c ∧ c ≤ 122) (hs : ∀ c ∈ pre, sgn c) : Nm s := by
  have hl := TL.numL_len (n := k) (k := 3) (by decide) (by omega)
  unfold NameP at h
  refine ⟨?_, ?_, fun c hc => ?_, fun c hc => ?_⟩
  · rw [h, List.length_append]; omega
  · rw [h, List.length_append]; omega
  · rw [h, List.getElem?_append_left (by omega)] at hc
    exact hd c hc
  · rw [h] at hc
    rcases List.mem_append.mp hc with hc | hc
    · exact hs c hc
    · exact num_sgn hc
/-- a letter and ten times something and a figure -/
def NameA (c : Nat) (k : Nat) (s : Str) : Prop := ∃ m, m < 60 ∧ NameP [c] (10 * m + k) s
theorem NameA.inj {c k k' : Nat} {s : Str} (h : NameA c k s) (h' : NameA c k' s) (hk : k < 10) (hk' : k' < 10) : k = k' := by
  obtain ⟨m, _, h⟩ := h
  obtain ⟨m', _, h'⟩ := h'
  have := h.inj h'
  omega
theorem NameA.nm {c k : Nat} {s : Str} (h : NameA c k s) (hk : k < 10) (hc : 97 ≤ c ∧ c ≤ 122) : Nm s := by
  obtain ⟨m, hm, h⟩ := h
  exact h.nm3 (by omega) ⟨Nat.le_refl _, by simp⟩ (fun d hd => by simp at hd; omega) fun d hd => by rw [List.mem_singleton.mp hd]; exact .inl hc
theorem NameA.ne {c c' k k' : Nat} {s : Str} (h : NameA c k s) (h' : NameA c' k' s) : c = c' := by
  obtain ⟨m, _, h⟩ := h
  obtain ⟨m', _, h'⟩ := h'
  unfold NameP at h h'
  rw [h] at h'
  simp at h'
  exact h'.1
/-- names by their place, less than ten -/
theorem nodup_A {c : Nat} {ys : List Str} (hl : ys.length ≤ 10) (h : ∀ (j : Nat) v, ys[j]? = some v → NameA c j v) : ys.Nodup := by
  refine nodup_by (R := fun j v => NameA c j v ∧ j < 10) (fun j v hv => ⟨h j v hv, ?_⟩) fun j k v a b => a.1.inj b.1 a.2 b.2
  have := (List.getElem?_eq_some_iff.mp hv).1
  omega
end Ty

/-! Pl8 -/
/-! states that no course tells apart: by levels -/
namespace Ty
abbrev MvT := List (List (Int × Int))
def rowAt (M : MvT) (s : Nat) : List (Int × Int) := (M[s]?).getD []
def outsAt (M : MvT) (s : Nat) : List Int := (rowAt M s).map (·.2)
def nxAt (M : MvT) (s r : Nat) : Nat := (((rowAt M s)[r]?).getD (0, 0)).1.toNat
structure MOk (M : MvT) (R : Nat) : Prop where
  n : 1 ≤ M.length
  len : ∀ e ∈ M, e.length = R
  rng : ∀ e ∈ M, ∀ v ∈ e, 0 ≤ v.1 ∧ v.1 < (M.length : Int)
theorem rowAt_mem {M : MvT} {s : Nat} (h : s < M.length) : rowAt M s ∈ M ∧ M[s]? = some (rowAt M s) := by
  unfold rowAt
  rw [List.getElem?_eq_getElem h]
  exact ⟨List.getElem_mem h, rfl⟩
theorem MOk.row {M : MvT} {R s r : Nat} (h : MOk M R) (hs : s < M.length) (hr : r < R) : ∃ v, (rowAt M s)[r]? = some v ∧ (0 ≤ v.1 ∧ v.1 < (M.length : Int)) ∧ v.1 = (nxAt M s r : Int) := by
  obtain ⟨h1, _⟩ := rowAt_mem hs
  have hl := h.len _ h1
  have e : (rowAt M s)[r]? = some (rowAt M s)[r] := List.getElem?_eq_getElem (by omega)
  have := h.rng _ h1 _ (List.getElem_mem (l := rowAt M s) (n := r) (by omega))
  refine ⟨_, e, this, ?_⟩
  unfold nxAt
  rw [e]
  simp only [Option.getD_some]
  omega
theorem MOk.nx {M : MvT} {R s r : Nat} (h : MOk M R) (hs : s < M.length) (hr : r < R) : nxAt M s r < M.length := by
  obtain ⟨v, _, h2, h3⟩ := h.row hs hr
  omega
/-- not told apart within k more rows -/
def EqK (M : MvT) (R : Nat) : Nat → Nat → Nat → Prop
  | 0, s, t => outsAt M s = outsAt M t
  | k + 1, s, t => EqK M R k s t ∧ ∀ r, r < R → EqK M R k (nxAt M s r) (nxAt M t r)
section
variable {M : MvT} {R : Nat}
theorem EqK.refl : ∀ (k s : Nat), EqK M R k s s
  | 0, _ => rfl
  | k + 1, s => ⟨EqK.refl k s, fun r _ => EqK.refl k _⟩
theorem EqK.symm : ∀ {k s t : Nat}, EqK M R k s t → EqK M R k t s
  | 0, _, _, h => Eq.symm h
  | k + 1, _, _, h => ⟨EqK.symm h.1, fun r hr => EqK.symm (h.2 r hr)⟩
theorem EqK.trans : ∀ {k s t u : Nat}, EqK M R k s t → EqK M R k t u → EqK M R k s u
  | 0, _, _, _, h, g => Eq.trans h g
  | k + 1, _, _, _, h, g => ⟨EqK.trans h.1 g.1, fun r hr => EqK.trans (h.2 r hr) (g.2 r hr)⟩
theorem EqK.le {k s t : Nat} : ∀ {j : Nat}, EqK M R (k + j) s t → EqK M R k s t
  | 0, h => h
  | j + 1, h => EqK.le (j := j) h.1
theorem EqK.low {k s t : Nat} (h : EqK M R k s t) : outsAt M s = outsAt M t := by
  have : EqK M R (0 + k) s t := by rw [Nat.zero_add]; exact h
  exact EqK.le this
def Alk (M : MvT) (R : Nat) (s t : Nat) : Prop := ∀ k, EqK M R k s t
theorem Alk.nx {s t r : Nat} (h : Alk M R s t) (hr : r < R) : Alk M R (nxAt M s r) (nxAt M t r) := fun k => (h (k + 1)).2 r hr
theorem Alk.refl (s : Nat) : Alk M R s s := fun k => EqK.refl k s
theorem Alk.symm {s t : Nat} (h : Alk M R s t) : Alk M R t s := fun k => (h k).symm
theorem Alk.trans {s t u : Nat} (h : Alk M R s t) (g : Alk M R t u) : Alk M R s u := fun k => (h k).trans (g k)
/-- the partition of level k is the last -/
def Still (M : MvT) (R k : Nat) : Prop := ∀ s t, s < M.length → t < M.length → EqK M R k s t → EqK M R (k + 1) s t
theorem Still.up (w : MOk M R) {k : Nat} (h : Still M R k) : ∀ (j : Nat) {s t : Nat}, s < M.length → t < M.length → EqK M R k s t → EqK M R (k + j) s t
  | 0, _, _, _, _, e => e
  | j + 1, s, t, hs, ht, e => ⟨h.up w j hs ht e, fun r hr => h.up w j (w.nx hs hr) (w.nx ht hr) ((h s t hs ht e).2 r hr)⟩
/-! ### how many classes -/
open Classical in
noncomputable def newB (E : Nat → Nat → Prop) (s : Nat) : Bool := decide (∀ t, t < s → ¬ E t s)
open Classical in
noncomputable def cnt (E : Nat → Nat → Prop) (n : Nat) : Nat := (List.range n).countP (newB E)
/-- the smallest state alike, of each -/
def FirstOf (M : MvT) (R : Nat) (f : List Int) : Prop := f.length = M.length ∧ ∀ s, s < M.length → ∃ t : Nat, f[s]? = some (t : Int) ∧ t ≤ s ∧ Alk M R t s ∧ ∀ u, u < t → ¬ Alk M R u s
theorem FirstOf.eq {f g : List Int} (h : FirstOf M R f) (h' : FirstOf M R g) : f = g := by
  refine List.ext_getElem? fun s => ?_
  by_cases hs : s < M.length
  · obtain ⟨t, e1, t1, t2, t3⟩ := h.2 s hs
    obtain ⟨u, e2, u1, u2, u3⟩ := h'.2 s hs
    rw [e1, e2]
    have : t = u := by
      rcases Nat.lt_trichotomy t u with q | q | q
      · exact absurd t2 (u3 t q)
      · exact q
      · exact absurd u2 (t3 u q)
    rw [this]
  · rw [List.getElem?_eq_none (by rw [h.1]; omega), List.getElem?_eq_none (by rw [h'.1]; omega)]
end
end Ty

/-! Pl9 -/
/-! data that is short when shown -/
namespace Ty
open PySem PySem.Spec L2
structure Sml (w k : Nat) (d : PyData) : Prop where
  ok : d.canLay0 = true
  sh : d.leavesShort 30 = true
  sw : d.showable = true
  we : d.weight ≤ w
  de : d.depth ≤ k
theorem Sml.mono {w w' k k' : Nat} {d : PyData} (h : Sml w k d) (h1 : w ≤ w') (h2 : k ≤ k') : Sml w' k' d := ⟨h.ok, h.sh, h.sw, Nat.le_trans h.we h1, Nat.le_trans h.de h2⟩
theorem Sml.int {i : Int} (h : i.natAbs < 2 ^ 70) : Sml 71 0 (.int i) := by
  have hl : i.natAbs.log2 < 70 := by
    by_cases h0 : i.natAbs = 0
    · rw [h0]; decide
    · exact (Nat.log2_lt h0).mpr h
  refine ⟨by rw [PyData.canLay0], ?_, ?_, ?_, by rw [PyData.depth]; exact Nat.le_refl _⟩
  · have e := int_text_length_le10 (a := i) (k := 22) (by decide) (Nat.lt_of_lt_of_le h (by decide))
    rw [PyData.leavesShort, decide_eq_true_eq]
    show (Str.ofString (toString i)).length ≤ 30
    rw [ofString_length]
    omega
  · rw [PyData.showable, decide_eq_true_eq]; omega
  · rw [PyData.weight]
    split
    · omega
    · omega
theorem Sml.bool (b : Bool) : Sml 0 0 (.bool b) := ⟨by rw [PyData.canLay0], by rw [PyData.leavesShort], by rw [PyData.showable], by rw [PyData.weight]; exact Nat.le_refl _, by rw [PyData.depth]; exact Nat.le_refl _⟩
theorem Sml.str {s : Str} {n : Nat} (h : PyData.strOk s = true) (hl : s.length ≤ n) : Sml n 0 (.str s) := by
  refine ⟨by rw [PyData.canLay0]; exact h, ?_, by rw [PyData.showable], by rw [PyData.weight]; exact hl, by rw [PyData.depth]; exact Nat.le_refl _⟩
  have h0 : s.cps.all (· < 0x110000) = true := by simpa only [PyData.strOk] using h
  simp only [PyData.leavesShort, List.all_eq_true, decide_eq_true_eq]
  intro c hcm
  have h2 := (Array.all_eq_true_iff_forall_mem.mp h0) c (Array.mem_toList_iff.mp hcm)
  have h3 : c < 0x110000 := by simpa using h2
  have e : (16 : Nat) ^ 8 = 4294967296 := by decide
  omega
structure SmlA (w k n : Nat) (ds : List PyData) : Prop where
  ok : PyData.canLayAll0 ds = true
  sh : PyData.leavesShortAll 30 ds = true
  sw : PyData.showableAll ds = true
  we : PyData.weightAll ds ≤ ds.length * (w + 1)
  de : PyData.depthAll ds ≤ k
theorem SmlA.of {w k : Nat} : ∀ {ds : List PyData}, (∀ d ∈ ds, Sml w k d) → SmlA w k 0 ds
  | [], _ => ⟨by rw [PyData.canLayAll0], by rw [PyData.leavesShortAll], by rw [PyData.showableAll], by rw [PyData.weightAll]; omega, by rw [PyData.depthAll]; omega⟩
  | d :: ds, h => by
    have h1 := h d List.mem_cons_self
    have h2 := SmlA.of fun x hx => h x (List.mem_cons_of_mem _ hx)
    refine ⟨by rw [PyData.canLayAll0, h1.ok, h2.ok]; rfl, by rw [PyData.leavesShortAll, h1.sh, h2.sh]; rfl, by rw [PyData.showableAll, h1.sw, h2.sw]; rfl, ?_, ?_⟩
    · rw [PyData.weightAll, List.length_cons, Nat.succ_mul]
      have := h1.we
      have := h2.we
      omega
    · rw [PyData.depthAll]
      exact Nat.max_le.mpr ⟨h1.de, h2.de⟩
theorem Sml.list {w k n : Nat} {ds : List PyData} (h : ∀ d ∈ ds, Sml w k d) (hl : ds.length ≤ n) : Sml (n * (w + 1)) (k + 1) (.list ds) := by
  have a := SmlA.of h
  refine ⟨by rw [PyData.canLay0]; exact a.ok, by rw [PyData.leavesShort]; exact a.sh, by rw [PyData.showable]; exact a.sw, ?_, by rw [PyData.depth]; exact Nat.succ_le_succ a.de⟩
  rw [PyData.weight]
  exact Nat.le_trans a.we (Nat.mul_le_mul_right _ hl)
theorem Sml.tuple {w k n : Nat} {ds : List PyData} (h : ∀ d ∈ ds, Sml w k d) (hl : ds.length ≤ n) : Sml (n * (w + 1)) (k + 1) (.tuple ds) := by
  have a := SmlA.of h
  refine ⟨by rw [PyData.canLay0]; exact a.ok, by rw [PyData.leavesShort]; exact a.sh, by rw [PyData.showable]; exact a.sw, ?_, by rw [PyData.depth]; exact Nat.succ_le_succ a.de⟩
  rw [PyData.weight]
  exact Nat.le_trans a.we (Nat.mul_le_mul_right _ hl)
theorem Sml.t2 {w k : Nat} {a b : PyData} (h1 : Sml w k a) (h2 : Sml w k b) : Sml (2 * (w + 1)) (k + 1) (.tuple [a, b]) :=
  Sml.tuple (fun d hd => by
    rcases List.mem_cons.mp hd with rfl | hd
    · exact h1
    · rw [List.mem_singleton.mp hd]; exact h2) (Nat.le_refl _)
theorem Sml.t3 {w k : Nat} {a b c : PyData} (h1 : Sml w k a) (h2 : Sml w k b) (h3 : Sml w k c) : Sml (3 * (w + 1)) (k + 1) (.tuple [a, b, c]) :=
  Sml.tuple (fun d hd => by
    rcases List.mem_cons.mp hd with rfl | hd
    · exact h1
    · rcases List.mem_cons.mp hd with rfl | hd
      · exact h2
      · rw [List.mem_singleton.mp hd]; exact h3) (Nat.le_refl _)
theorem Sml.shaped {w k : Nat} {d : PyData} (h : Sml w k d) (hk : k ≤ 64) : SeqAt.shaped d = true := by
  unfold SeqAt.shaped
  rw [h.ok]
  have := h.de
  simp only [Bool.true_and, decide_eq_true_eq]
  omega
theorem Sml.eqv {w k : Nat} {d : PyData} (h : Sml w k d) : PyData.eqv d d = true := SeqAt.eqv_refl d h.ok
theorem Sml.repr {w k : Nat} {d : PyData} (h : Sml w k d) (hr : pdIsR d = true) (hw : w ≤ 400000) (hk : k ≤ 40) : ReprOk d := by
  refine ⟨⟨hr, h.sw⟩, PyData.hasDict_of_canLay d h.ok, Nat.le_trans h.de hk, ?_⟩
  have h1 := PyData.shown_le 30 (by decide) d h.sh
  have h2 := h.we
  rw [sizeLine_eq]
  omega
end Ty

/-! Pl10 -/
namespace Sv
open PySem PySem.Spec L2 Ty
/-! ### literals -/
def ng (l : Int) : Int := if l % 2 = 0 then l + 1 else l - 1
theorem xorN (m : Nat) : m ^^^ 1 = if m % 2 = 0 then m + 1 else m - 1 := by
  apply Nat.eq_of_testBit_eq
  intro i
  rw [Nat.testBit_xor]
  cases i with
  | zero =>
    rw [Nat.testBit_zero, Nat.testBit_zero, Nat.testBit_zero]
    split
    · rename_i h; have : (m + 1) % 2 = 1 := by omega
      simp [h, this]
    · rename_i h; have h1 : m % 2 = 1 := by omega
      have : (m - 1) % 2 = 0 := by omega
      simp [h1, this]
  | succ i =>
    rw [Nat.testBit_succ, Nat.testBit_succ, Nat.testBit_succ]
    have : (if m % 2 = 0 then m + 1 else m - 1) / 2 = m / 2 := by split <;> omega
    rw [this]; simp
theorem xor1 {l : Int} (h : 0 ≤ l) : Builtin.bitXor l 1 = ng l := by
  obtain ⟨m, rfl⟩ := Int.eq_ofNat_of_zero_le h
  have := bXor_nat m 1
  rw [show ((1 : Nat) : Int) = 1 from rfl] at this
  rw [this, xorN]
  unfold ng
  split
  · rw [if_pos (by omega)]; omega
  · rw [if_neg (by omega)]; omega
theorem ng_div (l : Int) : ng l / 2 = l / 2 := by unfold ng; split <;> omega
theorem ng_mod (l : Int) : ng l % 2 = 1 - l % 2 := by unfold ng; split <;> omega
theorem ng_pos {l : Int} (h : 0 ≤ l) : 0 ≤ ng l := by unfold ng; split <;> omega
theorem ng_lt {l : Int} {n : Nat} (h : l < 2 * n) : ng l < 2 * n := by unfold ng; split <;> omega
theorem eq_or {l m : Int} (h : l / 2 = m / 2) : l = m ∨ l = ng m := by unfold ng; split <;> omega
/-- the literal holds under a -/
def sat (a : Int → Bool) (l : Int) : Prop := a (l / 2) = decide (l % 2 = 0)
instance (a : Int → Bool) (l : Int) : Decidable (sat a l) := by unfold sat; infer_instance
def satC (a : Int → Bool) (c : List Int) : Prop := ∃ l ∈ c, sat a l
def satF (a : Int → Bool) (cs : List (List Int)) : Prop := ∀ c ∈ cs, satC a c
/-- a literal within n variables -/
def Lt (n : Nat) (l : Int) : Prop := 0 ≤ l ∧ l < 2 * n
theorem Lt.ng {n : Nat} {l : Int} (h : Lt n l) : Lt n (ng l) := ⟨ng_pos h.1, ng_lt h.2⟩
theorem Lt.v0 {n : Nat} {l : Int} (h : Lt n l) : 0 ≤ l / 2 := by have := h.1; omega
theorem Lt.v1 {n : Nat} {l : Int} (h : Lt n l) : l / 2 < n := by have := h.2; omega
/-! ### the trail -/
structure Tr (n : Nat) (vals tr : List Int) : Prop where
  len : vals.length = n
  rng : ∀ l ∈ tr, Lt n l
  nod : (tr.map (· / 2)).Nodup
  on : ∀ l ∈ tr, atI vals (l / 2) = some (1 - l % 2)
  off : ∀ v : Int, 0 ≤ v → v < n → (∀ l ∈ tr, l / 2 ≠ v) → atI vals v = some (-1)
/-- a literal's value on a trail -/
def vl (tr : List Int) (l : Int) : Int := if l ∈ tr then 1 else if ng l ∈ tr then 0 else -1
theorem nodup_snoc {α : Type} {xs : List α} {x : α} : (xs ++ [x]).Nodup ↔ xs.Nodup ∧ x ∉ xs := by
  rw [List.nodup_append]
  constructor
  · rintro ⟨h1, _, h3⟩
    exact ⟨h1, fun h => h3 x h x (by simp) rfl⟩
  · rintro ⟨h1, h2⟩
    refine ⟨h1, by simp, ?_⟩
    intro a ha b hb e
    rw [List.mem_singleton] at hb
    subst hb; subst e; exact h2 ha
theorem Tr.opn {n : Nat} {vals tr : List Int} (T : Tr n vals tr) {l : Int} : (l ∉ tr ∧ ng l ∉ tr) ↔ ∀ m ∈ tr, m / 2 ≠ l / 2 := by
  constructor
  · rintro ⟨h1, h2⟩ m hm e
    rcases eq_or e with rfl | rfl
    · exact h1 hm
    · exact h2 hm
  · intro h
    exact ⟨fun hl => h l hl rfl, fun hl => h _ hl (ng_div l)⟩
theorem Tr.snoc {n : Nat} {vals tr : List Int} (T : Tr n vals tr) {l : Int} (hl : Lt n l) (ho : l ∉ tr ∧ ng l ∉ tr) : Tr n (vals.set (l / 2).toNat (1 - l % 2)) (tr ++ [l]) := by
  have hv := T.opn.mp ho
  have h0 := hl.v0
  have h1 := hl.v1
  have hlen := T.len
  refine ⟨by simp [T.len], fun m hm => ?_, ?_, fun m hm => ?_, fun v hv0 hv1 hn => ?_⟩
  · rcases List.mem_append.mp hm with h | h
    · exact T.rng m h
    · rw [List.mem_singleton.mp h]; exact hl
  · rw [List.map_append]
    show (tr.map (· / 2) ++ [l / 2]).Nodup
    rw [nodup_snoc]
    refine ⟨T.nod, fun h => ?_⟩
    obtain ⟨m, hm, e⟩ := List.mem_map.mp h
    exact hv m hm e
  · rcases List.mem_append.mp hm with h | h
    · have hr := T.rng m h
      rw [atI_set h0 (by omega) hr.v0, if_neg (hv m h)]
      exact T.on m h
    · rw [List.mem_singleton.mp h, atI_set h0 (by omega) h0, if_pos rfl]
  · rw [atI_set h0 (by omega) hv0, if_neg (fun e => hn l (by simp) e.symm)]
    exact T.off v hv0 hv1 fun m hm => hn m (by simp [hm])
theorem Tr.pop {n : Nat} {vals tr : List Int} {l : Int} (T : Tr n vals (tr ++ [l])) : Tr n (vals.set (l / 2).toNat (-1)) tr := by
  have hl : Lt n l := T.rng l (by simp)
  have h0 := hl.v0
  have h1 := hl.v1
  have hlen := T.len
  have nd := T.nod
  rw [List.map_append] at nd
  have nd2 := (nodup_snoc (x := l / 2)).mp nd
  have ne : ∀ m ∈ tr, m / 2 ≠ l / 2 := fun m hm e => nd2.2 (List.mem_map.mpr ⟨m, hm, e⟩)
  refine ⟨by simp [T.len], fun m hm => T.rng m (by simp [hm]), nd2.1, fun m hm => ?_, fun v hv0 hv1 hn => ?_⟩
  · rw [atI_set h0 (by omega) (T.rng m (by simp [hm])).v0, if_neg (ne m hm)]
    exact T.on m (by simp [hm])
  · rw [atI_set h0 (by omega) hv0]
    split
    · rfl
    · rename_i hne
      refine T.off v hv0 hv1 fun m hm => ?_
      rcases List.mem_append.mp hm with h | h
      · exact hn m h
      · rw [List.mem_singleton.mp h]; exact fun e => hne e.symm
theorem Tr.count {n : Nat} {vals tr : List Int} (T : Tr n vals tr) : tr.length ≤ n := by
  have := nodup_le (l' := rangeL 0 (n : Int)) T.nod fun v hv => by
    obtain ⟨x, hx, rfl⟩ := List.mem_map.mp hv
    have h3 := (T.rng x hx).v0
    have h4 := (T.rng x hx).v1
    unfold rangeL
    exact List.mem_map.mpr ⟨(x / 2).toNat, List.mem_range.mpr (by omega), by omega⟩
  rw [rangeL_len, List.length_map] at this
  simpa using this
end Sv

/-! K68N -/
namespace K68
open PySem PySem.Spec L2 Ty
theorem is_name_ok {s : Str} (h : Nm s) : m_is_name s = some true := by
  have l1 := h.l1
  have l2 := h.l2
  refine Tot.eq ?_
  unfold m_is_name
  rw [len_tl']
  refine tG (line_le (by omega)) (tB (R := fun b => b = false) ?_ ?_)
  · refine tC (fun hz => ?_) (fun _ => tG (line_le (by omega)) ?_)
    · exfalso
      simp only [Bool.not_eq_true', Bool.and_eq_false_iff, decide_eq_false_iff_not] at hz
      omega
    · refine tAt (by omega) (by omega) fun c hc => tR ?_
      rw [atI_pos (by omega)] at hc
      have := mem_low.mpr (h.hd c hc)
      rw [decide_eq_true this]; rfl
  · rintro b rfl
    refine tForX (fun _ _ => True) trivial (fun j c _ hc _ => ?_) (fun _ _ => tR rfl)
    have := mem_sgn.mpr (h.al c (List.mem_of_getElem? hc))
    refine tC (fun hz => ?_) (fun _ => tR trivial)
    rw [decide_eq_true this] at hz
    cases hz
theorem leaves_ok {ins : List Str} {lts : List (Str × Int × Int)} {ands : List (Int × Int)} {outs : List (Str × Int)} {nc : Int} (h : CircOk ins lts ands outs) (hnc : nc = 1 + ins.length + lts.length + ands.length) : m_fault_of_leaves ins lts nc = some none := by
  subst hnc
  have i1 := h.i1
  have l1 := h.l1
  have nd := List.nodup_append.mp h.nd
  refine Tot.eq ?_
  unfold m_fault_of_leaves
  refine tForX (fun j (nm : List (Str × Bool)) => nm.length ≤ j ∧ ∀ q, (dget nm q).isSome = true → q ∈ ins.take j) ⟨Nat.le_refl _, fun q hq => nomatch hq⟩ (fun j x nm hx hj => ?_) (fun nm hnm => ?_)
  · obtain ⟨s, hs, rfl⟩ := enum_at hx
    have hlt := (List.getElem?_eq_some_iff.mp hs).1
    have hN := h.iN s (List.mem_of_getElem? hs)
    refine tB (R := fun b => b = false) (tD (fun hz => ?_) (fun _ => tE (is_name_ok hN) (tR ?_))) ?_
    · exfalso
      have hz : (j : Int) = 16 := hz
      omega
    · show (!true || (dget nm s).isSome) = false
      cases hd : (dget nm s).isSome with
      | false => rfl
      | true =>
        exfalso
        have hm := hj.2 s hd
        obtain ⟨m, hm1, hm2⟩ := List.getElem_of_mem hm
        rw [List.length_take] at hm1
        rw [List.getElem_take] at hm2
        have e := (List.getElem?_eq_some_iff.mp hs).2
        have := (List.getElem_inj nd.1).mp (hm2.trans e.symm)
        omega
    · rintro b rfl
      refine tG (line_lt (by omega)) (tR ⟨?_, fun q hq => ?_⟩)
      · have := dput_len nm s true
        show (dput nm s true).length ≤ j + 1
        omega
      · rw [dget_put] at hq
        rw [List.take_succ, hs]
        by_cases e : q = s
        · subst e; simp
        · rw [if_neg e] at hq
          exact List.mem_append_left _ (hj.2 q hq)
  · rw [enum_len] at hnm
    refine tForX (fun j (nm : List (Str × Bool)) => nm.length ≤ ins.length + j ∧ ∀ q, (dget nm q).isSome = true → q ∈ ins ++ (lts.map (·.1)).take j) ⟨hnm.1, fun q hq => ?_⟩ (fun j x nm hx hj => ?_) (fun nm _ => tR rfl)
    · have := hnm.2 q hq
      rw [List.take_length] at this
      simp [this]
    · obtain ⟨p, hp, rfl⟩ := enum_at hx
      have hlt := (List.getElem?_eq_some_iff.mp hp).1
      have hmem := List.mem_of_getElem? hp
      have hN := h.lN p hmem
      have hv := h.lv p hmem
      have hp1 : (lts.map (·.1))[j]? = some p.1 := by rw [List.getElem?_map, hp]; rfl
      refine tB (R := fun b => b = false) (tD (fun hz => ?_) (fun _ => tE (is_name_ok hN) (tR ?_))) ?_
      · exfalso
        have hz : (j : Int) = 40 := hz
        omega
      · show (!true || (dget nm p.1).isSome) = false
        cases hd : (dget nm p.1).isSome with
        | false => rfl
        | true =>
          exfalso
          rcases List.mem_append.mp (hj.2 p.1 hd) with hm | hm
          · exact nd.2.2 _ hm p.1 (List.mem_of_getElem? hp1) rfl
          · obtain ⟨m, hm1, hm2⟩ := List.getElem_of_mem hm
            rw [List.length_take] at hm1
            rw [List.getElem_take] at hm2
            have e := (List.getElem?_eq_some_iff.mp hp1).2
            have := (List.getElem_inj nd.2.1).mp (hm2.trans e.symm)
            omega
      · rintro b rfl
        refine tC (fun hz => nomatch hz) (fun _ => tC (fun hz => ?_) (fun _ => tG (line_lt (by omega)) (tR ⟨?_, fun q hq => ?_⟩)))
        · exfalso
          simp only [Bool.or_eq_true, Bool.not_eq_true', Bool.and_eq_false_iff, decide_eq_false_iff_not] at hz
          try dsimp only at hz
          omega
        · have := dput_len nm p.1 true
          show (dput nm p.1 true).length ≤ _
          omega
        · rw [dget_put] at hq
          rw [List.take_succ, hp1, ← List.append_assoc]
          by_cases e : q = p.1
          · subst e; simp
          · rw [if_neg e] at hq
            exact List.mem_append_left _ (hj.2 q hq)
theorem ands_ok {ins : List Str} {lts : List (Str × Int × Int)} {ands : List (Int × Int)} {outs : List (Str × Int)} {fa : Int} (h : CircOk ins lts ands outs) (hf : fa = 1 + ins.length + lts.length) : m_fault_of_ands fa ands = some none := by
  subst hf
  have a1 := h.a1
  refine Tot.eq ?_
  unfold m_fault_of_ands
  refine tForX (fun _ _ => True) trivial (fun j x _ hx _ => ?_) (fun _ _ => tR rfl)
  obtain ⟨p, hp, rfl⟩ := enum_at hx
  have hlt := (List.getElem?_eq_some_iff.mp hp).1
  have hw := h.wf.2 j p hp
  refine tL (tC (fun hz => ?_) (fun _ => tR trivial))
  exfalso
  simp only [Bool.or_eq_true, Bool.not_eq_true', Bool.and_eq_false_iff, decide_eq_false_iff_not, decide_eq_true_eq] at hz
  try dsimp only at hz
  omega
theorem outs_ok {ins : List Str} {lts : List (Str × Int × Int)} {ands : List (Int × Int)} {outs : List (Str × Int)} {nc : Int} (h : CircOk ins lts ands outs) (hnc : nc = 1 + ins.length + lts.length + ands.length) : m_fault_of_outputs outs nc = some none := by
  subst hnc
  have o1 := h.o1
  refine Tot.eq ?_
  unfold m_fault_of_outputs
  refine tForX (fun j (nm : List (Str × Bool)) => nm.length ≤ j ∧ ∀ q, (dget nm q).isSome = true → q ∈ (outs.map (·.1)).take j) ⟨Nat.le_refl _, fun q hq => nomatch hq⟩ (fun j x nm hx hj => ?_) (fun nm _ => tR rfl)
  obtain ⟨p, hp, rfl⟩ := enum_at hx
  have hlt := (List.getElem?_eq_some_iff.mp hp).1
  have hmem := List.mem_of_getElem? hp
  have hN := h.oN p hmem
  have hv := h.ov p hmem
  have hp1 : (outs.map (·.1))[j]? = some p.1 := by rw [List.getElem?_map, hp]; rfl
  refine tB (R := fun b => b = false) (tD (fun hz => ?_) (fun _ => tE (is_name_ok hN) (tR ?_))) ?_
  · exfalso
    have hz : (j : Int) = 32 := hz
    omega
  · show (!true || (dget nm p.1).isSome) = false
    cases hd : (dget nm p.1).isSome with
    | false => rfl
    | true =>
      exfalso
      have hm := hj.2 p.1 hd
      obtain ⟨m, hm1, hm2⟩ := List.getElem_of_mem hm
      rw [List.length_take] at hm1
      rw [List.getElem_take] at hm2
      have e := (List.getElem?_eq_some_iff.mp hp1).2
      have := (List.getElem_inj h.on).mp (hm2.trans e.symm)
      omega
  · rintro b rfl
    refine tC (fun hz => nomatch hz) (fun _ => tC (fun hz => ?_) (fun _ => tG (line_lt (by omega)) (tR ⟨?_, fun q hq => ?_⟩)))
    · exfalso
      simp only [Bool.not_eq_true', Bool.and_eq_false_iff, decide_eq_false_iff_not] at hz
      try dsimp only at hz
      omega
    · have := dput_len nm p.1 true
      show (dput nm p.1 true).length ≤ _
      omega
    · rw [dget_put] at hq
      rw [List.take_succ, hp1]
      by_cases e : q = p.1
      · subst e; simp
      · rw [if_neg e] at hq
        exact List.mem_append_left _ (hj.2 q hq)
theorem circ_ok {ins : List Str} {lts : List (Str × Int × Int)} {ands : List (Int × Int)} {outs : List (Str × Int)} (h : CircOk ins lts ands outs) : m_Circuit_init ins lts ands outs = some (.ok (⟨ins, lts, ands, outs⟩, ())) := by
  unfold m_Circuit_init
  rw [letO_eq, letO_eq, leaves_ok h rfl, ands_ok h rfl, outs_ok h rfl]
  rfl
end K68

/-! K68P -/
namespace K68
open PySem PySem.Spec L2 Ty
abbrev PT := List Str × List (Str × Int × Int) × List (Int × Int) × List (Str × Int)
/-! ### values, row by row -/
def lv (vs : List Bool) (l : Int) : Bool := (vs[(l / 2).toNat]?).getD false ^^ odd l
def valsB : List Bool → List (Int × Int) → List Bool
  | vs, [] => vs
  | vs, p :: ps => valsB (vs ++ [lv vs p.1 && lv vs p.2]) ps
theorem valsB_len : ∀ (ands : List (Int × Int)) (vs : List Bool), (valsB vs ands).length = vs.length + ands.length
  | [], vs => rfl
  | p :: ps, vs => by unfold valsB; rw [valsB_len ps]; simp; omega
theorem bit_ok {vs : List Bool} {l : Int} (h0 : 0 ≤ l) (h1 : l / 2 < vs.length) : m__law_bit (vs.map Ty.bi) l = some (Ty.bi (lv vs l)) := by
  have hx : (l / 2).toNat < vs.length := by omega
  have e : atI (vs.map Ty.bi) (l / 2) = some (Ty.bi vs[(l / 2).toNat]) := by
    rw [atI_pos (by omega), List.getElem?_map, List.getElem?_eq_getElem hx]; rfl
  unfold m__law_bit
  refine bI e ?_
  rw [mod2_bi, bi_xor]
  unfold lv
  rw [List.getElem?_eq_getElem hx]
  rfl
abbrev baseB (row s : List Bool) : List Bool := [false] ++ row ++ s
theorem values_ok {P : PT} {row s : List Bool} (hw : Wf P.2.2.1 (1 + row.length + s.length : Int)) (h1 : row.length ≤ 1000) (h2 : s.length ≤ 1000) (h3 : P.2.2.1.length ≤ 10000) : m__law_values P (s.map Ty.bi) (row.map Ty.bi) = some ((valsB (baseB row s) P.2.2.1).map Ty.bi) := by
  have hl : (baseB row s).length = 1 + row.length + s.length := by simp; omega
  have e0 : ([(0 : Int)] ++ row.map Ty.bi) ++ s.map Ty.bi = (baseB row s).map Ty.bi := by simp [baseB]; rfl
  refine Tot.eq ?_
  unfold m__law_values
  rw [e0]
  refine tG (line_le (by rw [List.length_map]; show 1 + row.length ≤ _; omega)) (tG (line_le (by rw [List.length_append, List.length_map, List.length_map]; show 1 + row.length + _ ≤ _; omega)) (tForX (fun j (t : List Int) => ∃ v : List Bool, t = v.map Ty.bi ∧ v.length = 1 + row.length + s.length + j ∧ valsB v (P.2.2.1.drop j) = valsB (baseB row s) P.2.2.1) ⟨_, rfl, by omega, rfl⟩ (fun j p t hp ht => ?_) (fun t ht => tR ?_)))
  · obtain ⟨v, rfl, v1, v2⟩ := ht
    obtain ⟨hj, ep⟩ := List.getElem?_eq_some_iff.mp hp
    have w := hw.2 j p hp
    refine tE (bit_ok (by omega) (by omega)) (tE (bit_ok (by omega) (by omega)) (tG (line_lt (by rw [List.length_map]; omega)) (tR ⟨v ++ [lv v p.1 && lv v p.2], ?_, ?_, ?_⟩)))
    · rw [bi_and]; simp
    · rw [List.length_append]
      show v.length + 1 = _
      omega
    · rw [← v2, List.drop_eq_getElem_cons hj, ep]
      rfl
  · obtain ⟨v, rfl, v1, v2⟩ := ht
    rw [← v2, List.drop_length]
    rfl
/-- the answers and the next state -/
def outB (P : PT) (row s : List Bool) : List Bool := P.2.2.2.map fun p => lv (valsB (baseB row s) P.2.2.1) p.2
def latB (P : PT) (row s : List Bool) : List Bool := P.2.1.map fun p => lv (valsB (baseB row s) P.2.2.1) p.2.2
theorem step_ok {P : PT} (h : CircOk P.1 P.2.1 P.2.2.1 P.2.2.2) {row s : List Bool} (h1 : row.length = P.1.length) (h2 : s.length = P.2.1.length) : m__law_step P (s.map Ty.bi) (row.map Ty.bi) = some ((outB P row s).map Ty.bi, (latB P row s).map Ty.bi) := by
  have i1 := h.i1
  have l1 := h.l1
  have a1 := h.a1
  have o1 := h.o1
  have hl : (valsB (baseB row s) P.2.2.1).length = 1 + P.1.length + P.2.1.length + P.2.2.1.length := by rw [valsB_len]; simp; omega
  refine Tot.eq ?_
  unfold m__law_step
  refine tE (values_ok (by rw [h1, h2]; exact h.wf) (by omega) (by omega) (by omega)) ?_
  refine tG (line_le (by omega)) (tFm (g := fun p => Ty.bi (lv (valsB (baseB row s) P.2.2.1) p.2)) (fun p hp => ?_) (tG (line_le (by omega)) (tFm (g := fun p => Ty.bi (lv (valsB (baseB row s) P.2.2.1) p.2.2)) (fun p hp => ?_) (tR ?_))))
  · have := h.ov p hp
    exact bI (bit_ok this.1 (by omega)) rfl
  · have := (h.lv p hp).2
    exact bI (bit_ok this.1 (by omega)) rfl
  · unfold outB latB
    rw [List.map_map, List.map_map]
    rfl
def rowB (n r : Nat) : List Bool := (List.range n).map fun k => r.testBit (n - 1 - k)
theorem bit_div (r k : Nat) : (r : Int) / 2 ^ k % 2 = Ty.bi (r.testBit k) := by
  rw [Nat.testBit_eq_decide_div_mod_eq]
  have e : ((r : Int) / 2 ^ k % 2) = ((r / 2 ^ k % 2 : Nat) : Int) := by
    rw [Int.natCast_emod, Int.natCast_ediv, Int.natCast_pow]; rfl
  rw [e]
  have := Nat.mod_lt (r / 2 ^ k) (show 0 < 2 by decide)
  rcases (show r / 2 ^ k % 2 = 0 ∨ r / 2 ^ k % 2 = 1 by omega) with h | h
  · rw [h]; rfl
  · rw [h]; rfl
theorem row_ok {n r : Nat} (hn : n ≤ 100) : m__law_row (n : Int) (r : Int) = some ((rowB n r).map Ty.bi) := by
  refine Tot.eq ?_
  unfold m__law_row
  refine tG ⟨by omega, by omega⟩ (tG (line_le (by rw [rangeL_len]; omega)) (tFm (g := fun k : Int => Ty.bi (r.testBit (n - 1 - k.toNat))) (fun k hk => ?_) (tR ?_)))
  · have hk := mem_rangeL hk
    refine gI (by omega) ?_
    rw [show ((n : Int) - 1 - k).toNat = n - 1 - k.toNat by omega, bit_div]
  · rw [rangeL_nat, List.map_map]
    unfold rowB
    rw [List.map_map]
    refine List.map_congr_left fun k _ => ?_
    show Ty.bi (r.testBit (n - 1 - ((k : Int)).toNat)) = Ty.bi (r.testBit (n - 1 - k))
    rw [Int.toNat_natCast]
end K68

/-! K68Q -/
namespace K68
open PySem PySem.Spec L2 Ty Sv
/-! ### values of a net that grows -/
theorem valsB_app : ∀ (ps e : List (Int × Int)) (vs : List Bool), valsB vs (ps ++ e) = valsB (valsB vs ps) e
  | [], e, vs => rfl
  | p :: ps, e, vs => by
    show valsB (vs ++ [_]) (ps ++ e) = _
    rw [valsB_app ps e]; rfl
theorem valsB_pre : ∀ (e : List (Int × Int)) (vs : List Bool) (j : Nat), j < vs.length → (valsB vs e)[j]? = vs[j]?
  | [], vs, j, h => rfl
  | p :: ps, vs, j, h => by
    show (valsB (vs ++ [_]) ps)[j]? = _
    rw [valsB_pre ps _ j (by simp; omega), List.getElem?_append_left h]
theorem lv_pre {vs : List Bool} {e : List (Int × Int)} {l : Int} (h0 : 0 ≤ l) (h : l < 2 * (vs.length : Int)) : lv (valsB vs e) l = lv vs l := by
  unfold lv
  rw [valsB_pre e vs _ (by omega)]
theorem lv_ext {base : List Bool} {ps e : List (Int × Int)} {l : Int} (h0 : 0 ≤ l) (h : l < 2 * (base.length + ps.length : Int)) : lv (valsB base (ps ++ e)) l = lv (valsB base ps) l := by
  rw [valsB_app]
  exact lv_pre h0 (by rw [valsB_len]; omega)
theorem lv_node {base : List Bool} {ps : List (Int × Int)} {j : Nat} {p : Int × Int} (w : Wf ps (base.length : Int)) (h : ps[j]? = some p) : lv (valsB base ps) (2 * (base.length + j : Int)) = (lv (valsB base ps) p.1 && lv (valsB base ps) p.2) := by
  obtain ⟨hj, ep⟩ := List.getElem?_eq_some_iff.mp h
  have hw := w.2 j p h
  have e : ps = ps.take j ++ p :: ps.drop (j + 1) := by
    rw [← ep, List.getElem_cons_drop]; exact (List.take_append_drop j ps).symm
  have hl : (valsB base (ps.take j)).length = base.length + j := by rw [valsB_len, List.length_take]; omega
  have e1 : valsB base ps = valsB (valsB base (ps.take j) ++ [lv (valsB base (ps.take j)) p.1 && lv (valsB base (ps.take j)) p.2]) (ps.drop (j + 1)) := by
    conv => lhs; rw [e]
    rw [valsB_app]; rfl
  have a : ∀ l, 0 ≤ l → l < 2 * (base.length + j : Int) → lv (valsB base ps) l = lv (valsB base (ps.take j)) l := fun l h0 h1 => by
    rw [e1, lv_pre h0 (by rw [List.length_append, hl]; simp; omega)]
    unfold lv
    rw [List.getElem?_append_left (by omega)]
  rw [a p.1 (by omega) (by omega), a p.2 (by omega) (by omega), e1, lv_pre (by omega) (by rw [List.length_append, hl]; simp; omega)]
  unfold lv odd
  rw [show (2 * (base.length + j : Int) / 2).toNat = base.length + j by omega, List.getElem?_append_right (by omega), hl, Nat.sub_self]
  have : ¬ 2 * (base.length + j : Int) % 2 = 1 := by omega
  simp [this]
theorem odd_ng {l : Int} : odd (ng l) = !odd l := by
  unfold odd
  have := ng_mod l
  by_cases h : l % 2 = 1
  · rw [dT h, dF (by omega)]; rfl
  · rw [dF h, dT (by omega)]; rfl
theorem lv_ng {vs : List Bool} {l : Int} : lv vs (ng l) = !lv vs l := by
  unfold lv
  rw [ng_div, odd_ng]
  cases (vs[(l / 2).toNat]?).getD false <;> cases odd l <;> rfl
/-! ### the builder -/
structure BI (n : Nat) (b : S_Builder) : Prop where
  lc : b.leaf_count = n
  wf : Wf b.pairs ((n : Int) + 1)
  nd : ∀ k v, dget b._nodes k = some v → ∃ j : Nat, v = (n : Int) + 1 + j ∧ b.pairs[j]? = some k
  nl : b._nodes.length ≤ b.pairs.length
  ll : b._levels.length = n + 1 + b.pairs.length
def Lt2 (n : Nat) (b : S_Builder) (x : Int) : Prop := 0 ≤ x ∧ x < 2 * ((n : Int) + 1 + b.pairs.length)
def Ext (b b' : S_Builder) (m : Nat) : Prop := ∃ e, b'.pairs = b.pairs ++ e ∧ e.length ≤ m
theorem Ext.refl (b : S_Builder) : Ext b b 0 := ⟨[], by simp, Nat.le_refl _⟩
theorem Ext.trans {b c d : S_Builder} {m k : Nat} (h : Ext b c m) (g : Ext c d k) : Ext b d (m + k) := by
  obtain ⟨e, h1, h2⟩ := h
  obtain ⟨f, g1, g2⟩ := g
  exact ⟨e ++ f, by rw [g1, h1, List.append_assoc], by rw [List.length_append]; omega⟩
theorem Ext.mono {b c : S_Builder} {m k : Nat} (h : Ext b c m) (hk : m ≤ k) : Ext b c k := let ⟨e, h1, h2⟩ := h; ⟨e, h1, by omega⟩
theorem Ext.len {b c : S_Builder} {m : Nat} (h : Ext b c m) : b.pairs.length ≤ c.pairs.length ∧ c.pairs.length ≤ b.pairs.length + m := by
  obtain ⟨e, h1, h2⟩ := h
  rw [h1, List.length_append]; omega
theorem Lt2.ext {n : Nat} {b c : S_Builder} {m : Nat} {x : Int} (h : Lt2 n b x) (e : Ext b c m) : Lt2 n c x := ⟨h.1, by have := h.2; have := e.len; omega⟩
theorem Lt2.ng {n : Nat} {b : S_Builder} {x : Int} (h : Lt2 n b x) : Lt2 n b (ng x) := by
  have := h.1
  have := h.2
  refine ⟨ng_pos h.1, ?_⟩
  unfold Sv.ng; split <;> omega
/-- leaves with values -/
def Bs1 (n : Nat) (base : List Bool) : Prop := base.length = n + 1 ∧ base[0]? = some false
def va (base : List Bool) (b : S_Builder) (x : Int) : Bool := lv (valsB base b.pairs) x
theorem va_ext {n : Nat} {base : List Bool} {b c : S_Builder} {m : Nat} {x : Int} (hb : Bs1 n base) (h : Lt2 n b x) (e : Ext b c m) : va base c x = va base b x := by
  obtain ⟨e, h1, _⟩ := e
  unfold va
  rw [h1]
  exact lv_ext h.1 (by have := h.2; rw [hb.1]; omega)
theorem va_ng {base : List Bool} {b : S_Builder} {x : Int} : va base b (ng x) = !va base b x := lv_ng
theorem va_0 {n : Nat} {base : List Bool} (hb : Bs1 n base) (b : S_Builder) : va base b 0 = false := by
  unfold va
  rw [lv_pre (Int.le_refl _) (by have := hb.1; omega)]
  unfold lv
  rw [show ((0 : Int) / 2).toNat = 0 from rfl, hb.2]; rfl
theorem va_1 {n : Nat} {base : List Bool} (hb : Bs1 n base) (b : S_Builder) : va base b 1 = true := by
  have : (1 : Int) = ng 0 := rfl
  rw [this, va_ng, va_0 hb]; rfl
theorem sml {k : Nat} (h : k ≤ 1000000) : k ≤ sizeLine := line_le (by omega)
theorem both_ok {n : Nat} {b : S_Builder} {x y : Int} (h : BI n b) (hx : Lt2 n b x) (hy : Lt2 n b y) (hn : n ≤ 1000) (hs : b.pairs.length ≤ 100000) : Tot (m_Builder_both b x y) fun r => BI n r.1 ∧ Ext b r.1 1 ∧ Lt2 n r.1 r.2 ∧ ∀ base, Bs1 n base → va base r.1 r.2 = (va base b x && va base b y) := by
  unfold m_Builder_both
  have wf := h.wf
  refine tLe fun lo elo => tLe fun hi ehi => ?_
  have hc : (lo = x ∧ hi = y) ∨ (lo = y ∧ hi = x) := by
    rw [elo, ehi]
    by_cases c : y < x
    · rw [if_pos c, if_neg (by omega)]; exact .inr ⟨rfl, rfl⟩
    · rw [if_neg c]
      by_cases c2 : y > x
      · rw [if_pos c2]; exact .inl ⟨rfl, rfl⟩
      · rw [if_neg c2]; exact .inl ⟨rfl, by omega⟩
  have hlo : Lt2 n b lo := by rcases hc with ⟨e, _⟩ | ⟨e, _⟩ <;> rw [e] <;> assumption
  have hhi : Lt2 n b hi := by rcases hc with ⟨_, e⟩ | ⟨_, e⟩ <;> rw [e] <;> assumption
  have hv : ∀ base, (va base b x && va base b y) = (va base b lo && va base b hi) := fun base => by
    rcases hc with ⟨e1, e2⟩ | ⟨e1, e2⟩ <;> rw [e1, e2]
    exact Bool.and_comm _ _
  have hb1 : (⟨b.leaf_count, b.pairs, b._nodes, b._levels⟩ : S_Builder) = b := rfl
  have h0 : Lt2 n b 0 := ⟨Int.le_refl _, by omega⟩
  refine tC (fun hz => tR ⟨h, (Ext.refl b).mono (by decide), h0, fun base hb => ?_⟩) (fun hz => tC (fun hz2 => tR ⟨h, (Ext.refl b).mono (by decide), hhi, fun base hb => ?_⟩) (fun hz2 => ?_))
  · rw [hv]
    show va base b 0 = _
    rw [va_0 hb]
    rcases Bool.or_eq_true_iff.mp hz with z | z
    · rw [of_decide_eq_true z, va_0 hb]; rfl
    · have := of_decide_eq_true z
      rw [xor1 hlo.1] at this
      rw [this, va_ng]
      cases va base b lo <;> rfl
  · rw [hv]
    show va base b hi = _
    rcases Bool.or_eq_true_iff.mp hz2 with z | z
    · rw [of_decide_eq_true z, va_1 hb]; rfl
    · rw [of_decide_eq_true z]
      cases va base b hi <;> rfl
  · refine tB (R := fun b' => BI n b' ∧ Ext b b' 1 ∧ ∃ j : Nat, dget b'._nodes (lo, hi) = some ((n : Int) + 1 + j) ∧ b'.pairs[j]? = some (lo, hi)) (tC (fun hd => ?_) (fun hd => tR ⟨h, (Ext.refl b).mono (by decide), ?_⟩)) ?_
    · have hd : dget b._nodes (lo, hi) = none := by
        cases hq : dget b._nodes (lo, hi) with
        | none => rfl
        | some v => rw [hq] at hd; cases hd
      have hll := h.ll
      have lev : ∀ z, Lt2 n b z → ∃ v, m_Builder_level_of (⟨b.leaf_count, b.pairs ++ [(lo, hi)], b._nodes, b._levels⟩ : S_Builder) z = some v := fun z hz => by
        have h1 := hz.1
        have h2 := hz.2
        obtain ⟨v, hv⟩ := atI_ex (xs := b._levels) (i := z / 2) (by omega) (by omega)
        exact ⟨v, by unfold m_Builder_level_of; exact bI hv rfl⟩
      obtain ⟨v1, e1⟩ := lev lo hlo
      obtain ⟨v2, e2⟩ := lev hi hhi
      refine tG (line_lt (by omega)) (tE e1 (tE e2 (tG (line_lt (by omega)) (tG (line_lt (by have := h.nl; omega)) (tR ⟨⟨h.lc, ?_, ?_, ?_, ?_⟩, ⟨[(lo, hi)], rfl, Nat.le_refl _⟩, b.pairs.length, ?_, ?_⟩)))))
      · refine ⟨wf.1, fun k p hp => ?_⟩
        have hp : (b.pairs ++ [(lo, hi)])[k]? = some p := hp
        rcases snoc_at hp with ⟨_, hp⟩ | ⟨hk, rfl⟩
        · exact wf.2 k p hp
        · have := hlo.1
          have := hlo.2
          have := hhi.1
          have := hhi.2
          dsimp only
          omega
      · intro k v hk
        have hk : dget (dput b._nodes (lo, hi) (b.leaf_count + ((b.pairs ++ [(lo, hi)]).length : Int))) k = some v := hk
        rw [dget_put] at hk
        by_cases e : k = (lo, hi)
        · rw [if_pos e] at hk
          refine ⟨b.pairs.length, ?_, ?_⟩
          · rw [← Option.some.inj hk, h.lc, List.length_append]
            show (n : Int) + ((b.pairs.length + 1 : Nat) : Int) = _
            omega
          · show (b.pairs ++ [(lo, hi)])[b.pairs.length]? = _
            rw [e]; simp
        · rw [if_neg e] at hk
          obtain ⟨j, e1, e2⟩ := h.nd k v hk
          refine ⟨j, e1, ?_⟩
          show (b.pairs ++ [(lo, hi)])[j]? = _
          rw [List.getElem?_append_left (List.getElem?_eq_some_iff.mp e2).1]; exact e2
      · have := dput_len b._nodes (lo, hi) (b.leaf_count + ((b.pairs ++ [(lo, hi)]).length : Int))
        have h2 := h.nl
        have h3 : (b.pairs ++ [(lo, hi)]).length = b.pairs.length + 1 := by rw [List.length_append]; rfl
        show (dput b._nodes (lo, hi) (b.leaf_count + ((b.pairs ++ [(lo, hi)]).length : Int))).length ≤ (b.pairs ++ [(lo, hi)]).length
        omega
      · show (b._levels ++ [_]).length = n + 1 + (b.pairs ++ [(lo, hi)]).length
        rw [List.length_append, List.length_append, hll]
        rfl
      · show dget (dput b._nodes (lo, hi) _) (lo, hi) = _
        rw [dget_put, if_pos rfl, h.lc, List.length_append]
        show some ((n : Int) + ((b.pairs.length + 1 : Nat) : Int)) = _
        congr 1
        omega
      · show (b.pairs ++ [(lo, hi)])[b.pairs.length]? = _
        simp
    · cases hq : dget b._nodes (lo, hi) with
      | none => rw [hq] at hd; cases hd
      | some v =>
        obtain ⟨j, e1, e2⟩ := h.nd _ v hq
        exact ⟨j, by first | (rw [← e1]; done) | (rw [← e1]; exact hq), e2⟩
    · rintro b' ⟨hb', he, j, hd, hp⟩
      refine tE hd (tR ⟨hb', he, ⟨by omega, ?_⟩, fun base hb => ?_⟩)
      · have := (List.getElem?_eq_some_iff.mp hp).1
        show 2 * ((n : Int) + 1 + j) < 2 * ((n : Int) + 1 + b'.pairs.length)
        omega
      · rw [hv]
        show va base b' (2 * ((n : Int) + 1 + j)) = _
        have hbl : (base.length : Int) = (n : Int) + 1 := by have := hb.1; omega
        have hw : Wf b'.pairs (base.length : Int) := by rw [hbl]; exact hb'.wf
        have := lv_node hw hp
        rw [hbl] at this
        unfold va
        rw [this]
        have a1 := va_ext hb hlo he
        have a2 := va_ext hb hhi he
        unfold va at a1 a2
        rw [a1, a2]
theorem either_ok {n : Nat} {b : S_Builder} {x y : Int} (h : BI n b) (hx : Lt2 n b x) (hy : Lt2 n b y) (hn : n ≤ 1000) (hs : b.pairs.length ≤ 100000) : Tot (m_Builder_either b x y) fun r => BI n r.1 ∧ Ext b r.1 1 ∧ Lt2 n r.1 r.2 ∧ ∀ base, Bs1 n base → va base r.1 r.2 = (va base b x || va base b y) := by
  unfold m_Builder_either
  rw [xor1 hx.1, xor1 hy.1]
  refine tB (both_ok h hx.ng hy.ng hn hs) ?_
  rintro ⟨b', r⟩ ⟨h1, h2, h3, h4⟩
  rw [xor1 h3.1]
  refine tR ⟨h1, h2, h3.ng, fun base hb => ?_⟩
  show va base b' (ng r) = _
  have := h4 base hb
  dsimp only at this
  rw [va_ng, this, va_ng, va_ng]
  cases va base b x <;> cases va base b y <;> rfl
theorem choose_ok {n : Nat} {b : S_Builder} {t x y : Int} (h : BI n b) (ht : Lt2 n b t) (hx : Lt2 n b x) (hy : Lt2 n b y) (hn : n ≤ 1000) (hs : b.pairs.length ≤ 99000) : Tot (m_Builder_choose b t x y) fun r => BI n r.1 ∧ Ext b r.1 3 ∧ Lt2 n r.1 r.2 ∧ ∀ base, Bs1 n base → va base r.1 r.2 = if va base b t = true then va base b x else va base b y := by
  unfold m_Builder_choose
  refine tB (both_ok (b := b) h ht hx hn (by omega)) ?_
  rintro ⟨b1, r1⟩ ⟨h1, e1, l1, v1⟩
  have := e1.len
  rw [xor1 ht.1]
  dsimp only at h1 e1 l1 v1 this ⊢
  refine tB (both_ok (b := b1) h1 (ht.ext e1).ng (hy.ext e1) hn (by omega)) ?_
  rintro ⟨b2, r2⟩ ⟨h2, e2, l2, v2⟩
  have := e2.len
  dsimp only at h2 e2 l2 v2 this ⊢
  refine tB (either_ok (b := b2) h2 (l1.ext e2) l2 hn (by omega)) ?_
  rintro ⟨b3, r3⟩ ⟨h3, e3, l3, v3⟩
  dsimp only at h3 e3 l3 v3 ⊢
  refine tR ⟨h3, ((e1.trans e2).trans e3).mono (by decide), l3, fun base hb => ?_⟩
  show va base b3 r3 = _
  rw [v3 base hb, va_ext hb l1 e2, v1 base hb, v2 base hb, va_ng, va_ext hb ht e1, va_ext hb hy e1]
  cases va base b t <;> cases va base b x <;> cases va base b y <;> rfl
end K68

/-! K68R -/
namespace K68
open PySem PySem.Spec L2 Ty Sv
/-! ### tables of rows -/
def tI (c : Nat) (f : Nat → Bool) : Int := ((tbl (2 ^ c) f : Nat) : Int)
theorem tbl_zero {n : Nat} {f : Nat → Bool} (h : tbl n f = 0) {i : Nat} (hi : i < n) : f i = false := by
  have := tbl_bit n f i
  rw [h, Nat.zero_testBit, dT hi, Bool.true_and] at this
  exact this.symm
theorem tbl_full {n : Nat} {f : Nat → Bool} (h : tbl n f = 2 ^ n - 1) {i : Nat} (hi : i < n) : f i = true := by
  have := tbl_bit n f i
  rw [h, Nat.testBit_two_pow_sub_one, dT hi, Bool.true_and] at this
  exact this.symm
theorem mask_nat (n : Nat) : ((1 : Int) * 2 ^ n - 1) = ((2 ^ n - 1 : Nat) : Int) := by
  have : 1 ≤ 2 ^ n := Nat.one_le_two_pow
  rw [Int.one_mul, Int.natCast_sub this]; simp
theorem mask_ok {n : Nat} (h : n ≤ 1000) : m_mask_of ((n : Nat) : Int) = some ((2 ^ n - 1 : Nat) : Int) := by
  unfold m_mask_of
  refine gI ⟨by omega, by omega⟩ ?_
  rw [Int.toNat_natCast, mask_nat]
theorem low_eq {n : Nat} {f : Nat → Bool} : tbl (n + n) f &&& (2 ^ n - 1) = tbl n f := tbl_of fun i => by
  rw [Nat.testBit_and, tbl_bit, Nat.testBit_two_pow_sub_one]
  by_cases h : i < n
  · rw [dT h, dT (by omega)]; simp
  · rw [dF h]; simp
theorem high_eq {n : Nat} {f : Nat → Bool} : tbl (n + n) f / 2 ^ n = tbl n fun i => f (n + i) := tbl_of fun i => by
  rw [Nat.testBit_div_two_pow, tbl_bit, Nat.add_comm i n]
  by_cases h : i < n
  · rw [dT h, dT (by omega)]
  · rw [dF h, dF (by omega)]
    first | done | rfl
theorem tbl_ext_of {n : Nat} {f g : Nat → Bool} (h : tbl n f = tbl n g) {i : Nat} (hi : i < n) : f i = g i := by
  have a := tbl_bit n f i
  have b := tbl_bit n g i
  rw [h, b, dT hi] at a
  simpa using a.symm
/-- the leaves under a row, in a state -/
def Row (inp w : Nat) (base : List Bool) (R : Nat) (code : Nat → Bool) : Prop := Bs1 (inp + w) base ∧ (∀ j, j < inp → base[1 + j]? = some (R.testBit (inp - 1 - j))) ∧ ∀ j, j < w → base[1 + inp + j]? = some (code j)
structure DI (inp w : Nat) (D : S_Decoder) : Prop where
  ic : D.input_count = inp
  bi : BI (inp + w) D.builder
/-- what stays: the codes; the builder grows -/
def Grow (D D' : S_Decoder) (m : Nat) : Prop := D'.codes = D.codes ∧ Ext D.builder D'.builder m
theorem va_leaf {n : Nat} {base : List Bool} {b : S_Builder} {j : Nat} {v : Bool} (hb : Bs1 n base) (hj : j ≤ n) (h : base[j]? = some v) : va base b (2 * (j : Int)) = v := by
  unfold va
  rw [lv_pre (by omega) (by have := hb.1; omega)]
  unfold lv
  rw [show (2 * (j : Int) / 2).toNat = j by omega, h]
  unfold odd
  rw [dF (by omega)]
  cases v <;> rfl
/-- the ands that a table of so many inputs may want -/
def mR : Nat → Nat
  | 0 => 0
  | c + 1 => mR c + mR c + 3
theorem mR_eq (c : Nat) : mR c + 3 = 3 * 2 ^ c := by
  induction c with
  | zero => rfl
  | succ c ih => unfold mR; rw [Nat.pow_succ]; omega
theorem pw_dbl (c : Nat) : 2 ^ (c + 1) = 2 ^ c + 2 ^ c := by rw [Nat.pow_succ]; omega
theorem mod_hi {R c : Nat} (h : R.testBit c = true) : R % 2 ^ (c + 1) = 2 ^ c + R % 2 ^ c := by
  have h1 : R.testBit c = decide (R / 2 ^ c % 2 = 1) := Nat.testBit_eq_decide_div_mod_eq
  rw [h] at h1
  have h2 := of_decide_eq_true h1.symm
  rw [Nat.pow_succ, Nat.mod_mul, h2, Nat.mul_one, Nat.add_comm]
theorem mod_lo {R c : Nat} (h : R.testBit c = false) : R % 2 ^ (c + 1) = R % 2 ^ c := by
  have h1 : R.testBit c = decide (R / 2 ^ c % 2 = 1) := Nat.testBit_eq_decide_div_mod_eq
  rw [h] at h1
  have h2 := of_decide_eq_false h1.symm
  have := Nat.mod_lt (R / 2 ^ c) (show 0 < 2 by decide)
  rw [Nat.pow_succ, Nat.mod_mul, show R / 2 ^ c % 2 = 0 by omega, Nat.mul_zero, Nat.add_zero]
theorem under_rows_ok {inp w : Nat} (hi : inp ≤ 6) (hw : w ≤ 100) : ∀ (fu c : Nat) {D : S_Decoder} {f : Nat → Bool}, c < fu → c ≤ inp → DI inp w D → D.builder.pairs.length + mR c ≤ 90000 →
    Tot (mr_Decoder_under_rows fu D (tI c f) ((inp - c : Nat) : Int)) fun r => DI inp w r.1 ∧ Grow D r.1 (mR c) ∧ Lt2 (inp + w) r.1.builder r.2 ∧ ∀ base R code, Row inp w base R code → va base r.1.builder r.2 = f (R % 2 ^ c)
  | 0, c, D, f, hf, _, _, _ => absurd hf (Nat.not_lt_zero _)
  | fu + 1, c, D, f, hf, hc, hD, hs => by
    rw [mr_Decoder_under_rows]
    have hic := hD.ic
    have hp1 : 1 ≤ 2 ^ c := Nat.one_le_two_pow
    have hpc : (2 : Nat) ^ c ≤ 2 ^ 6 := Nat.pow_le_pow_right (by decide) (by omega)
    have hDD : (⟨D.input_count, D.codes, D.builder⟩ : S_Decoder) = D := rfl
    have mk : (1 : Int) * 2 ^ (((c : Nat) : Int)).toNat = ((2 ^ c : Nat) : Int) := by rw [Int.toNat_natCast, Int.one_mul]; simp
    refine tLe fun cnt ecnt => ?_
    have ecnt : cnt = ((c : Nat) : Int) := by rw [ecnt, hic]; omega
    subst ecnt
    have modlt : ∀ R : Nat, R % 2 ^ c < 2 ^ c := fun R => Nat.mod_lt _ (by omega)
    refine tD (fun hz => tR ⟨hD, ⟨rfl, (Ext.refl _).mono (Nat.zero_le _)⟩, ⟨Int.le_refl _, by dsimp only; omega⟩, fun base R code hR => ?_⟩) (fun hz => tG ⟨by omega, by omega⟩ ?_)
    · show va base D.builder 0 = _
      rw [va_0 hR.1]
      have : tbl (2 ^ c) f = 0 := by have h : ((tbl (2 ^ c) f : Nat) : Int) = 0 := hz; omega
      exact (tbl_zero this (modlt R)).symm
    · rw [mk]
      refine tE (mask_ok (by omega)) (tD (fun hz2 => tR ⟨hD, ⟨rfl, (Ext.refl _).mono (Nat.zero_le _)⟩, ⟨by dsimp only; omega, by dsimp only; omega⟩, fun base R code hR => ?_⟩) (fun hz2 => ?_))
      · show va base D.builder 1 = _
        rw [va_1 hR.1]
        have : tbl (2 ^ c) f = 2 ^ 2 ^ c - 1 := by have h : ((tbl (2 ^ c) f : Nat) : Int) = ((2 ^ 2 ^ c - 1 : Nat) : Int) := hz2; omega
        exact (tbl_full this (modlt R)).symm
      · cases c with
        | zero =>
          exfalso
          have h1 := tbl_lt (2 ^ 0) f
          have a : ¬ ((tbl (2 ^ 0) f : Nat) : Int) = 0 := hz
          have b : ¬ ((tbl (2 ^ 0) f : Nat) : Int) = ((2 ^ 2 ^ 0 - 1 : Nat) : Int) := hz2
          have e2 : (2 : Nat) ^ 2 ^ 0 = 2 := by decide
          rw [e2] at h1 b
          omega
        | succ c =>
          have hp0 : 1 ≤ 2 ^ c := Nat.one_le_two_pow
          have hd := pw_dbl c
          have hmR : mR (c + 1) = mR c + mR c + 3 := rfl
          have half : (1 : Int) * 2 ^ ((((c + 1 : Nat) : Int) - 1)).toNat = ((2 ^ c : Nat) : Int) := by
            rw [show ((((c + 1 : Nat) : Int) - 1)).toNat = c by omega, Int.one_mul]; simp
          refine tG ⟨by omega, by omega⟩ (tLe fun hh ehh => ?_)
          rw [half] at ehh
          subst ehh
          refine tE (mask_ok (by omega)) (tG (by omega) (tLe fun lo elo => tLe fun hi2 ehi => ?_))
          have elo : lo = tI c f := by
            rw [elo]
            unfold tI
            rw [hd, bAnd_nat, low_eq]
          have ehi : hi2 = tI c (fun i => f (2 ^ c + i)) := by
            rw [ehi]
            unfold tI
            rw [hd, Int.toNat_natCast, ← high_eq]
            simp
          subst elo
          subst ehi
          have epl : (((inp - (c + 1) : Nat) : Int) + 1) = ((inp - c : Nat) : Int) := by omega
          rw [epl]
          refine tD (fun hq => ?_) (fun hq => ?_)
          · refine tB (under_rows_ok hi hw fu c (D := D) (f := f) (by omega) (by omega) hD (by omega)) ?_
            rintro ⟨D', r⟩ ⟨h1, h2, h3, h4⟩
            refine tR ⟨h1, ⟨h2.1, h2.2.mono (by omega)⟩, h3, fun base R code hR => ?_⟩
            have := h4 base R code hR
            refine this.trans ?_
            have he : tbl (2 ^ c) f = tbl (2 ^ c) fun i => f (2 ^ c + i) := by
              have h : ((tbl (2 ^ c) f : Nat) : Int) = ((tbl (2 ^ c) (fun i => f (2 ^ c + i)) : Nat) : Int) := hq
              omega
            have hm := Nat.mod_lt R (show 0 < 2 ^ c by omega)
            cases hb : R.testBit c with
            | true => rw [mod_hi hb, tbl_ext_of he hm]
            | false => rw [mod_lo hb]
          · refine tB (under_rows_ok hi hw fu c (D := D) (f := fun i => f (2 ^ c + i)) (by omega) (by omega) hD (by omega)) ?_
            rintro ⟨D1, r1⟩ ⟨h1, g1, l1, v1⟩
            have ln1 := g1.2.len
            dsimp only at h1 g1 l1 v1 ln1 ⊢
            refine tB (under_rows_ok hi hw fu c (f := f) (D := D1) (by omega) (by omega) h1 (by omega)) ?_
            rintro ⟨D2, r2⟩ ⟨h2, g2, l2, v2⟩
            have ln2 := g2.2.len
            dsimp only at h2 g2 l2 v2 ln2 ⊢
            have et : (2 : Int) * (1 + ((inp - (c + 1) : Nat) : Int)) = 2 * ((1 + (inp - (c + 1)) : Nat) : Int) := by omega
            rw [et]
            refine tB (choose_ok h2.bi (t := 2 * ((1 + (inp - (c + 1)) : Nat) : Int)) ⟨by omega, by omega⟩ (l1.ext g2.2) l2 (by omega) (by omega)) ?_
            rintro ⟨b3, r3⟩ ⟨h3, e3, l3, v3⟩
            refine tR ⟨⟨h2.ic, h3⟩, ⟨g2.1.trans g1.1, ((g1.2.trans g2.2).trans e3).mono (by omega)⟩, l3, fun base R code hR => ?_⟩
            refine (v3 base hR.1).trans ?_
            have hleaf : va base D2.builder (2 * ((1 + (inp - (c + 1)) : Nat) : Int)) = R.testBit c := by
              refine va_leaf hR.1 (by omega) ?_
              rw [hR.2.1 (inp - (c + 1)) (by omega)]
              congr 2
              omega
            rw [hleaf, va_ext hR.1 l1 g2.2, v1 base R code hR, v2 base R code hR]
            cases hb : R.testBit c with
            | true => rw [mod_hi hb]; rfl
            | false => rw [mod_lo hb]; rfl
end K68

/-! K68S -/
namespace K68
open PySem PySem.Spec L2 Ty Sv
theorem fmO_fmM {α β γ : Type} {f : β → Option (Option γ)} {h : α → β} {p : α → Bool} {g : α → γ} : ∀ {xs : List α}, (∀ x ∈ xs, f (h x) = if p x = true then some (some (g x)) else some none) → fmO (xs.map h) f = some ((xs.filter p).map g)
  | [], _ => rfl
  | x :: xs, hh => by
    rw [List.map_cons]
    unfold fmO
    rw [hh x List.mem_cons_self, fmO_fmM fun y hy => hh y (List.mem_cons_of_mem _ hy), List.filter_cons]
    cases p x <;> rfl
abbrev ci (s : Nat) : Int := (s : Int)
def codeL (w : Nat) (c : Nat → Bool) : List Int := (List.range w).map fun j => bi (c j)
theorem codeL_at {w : Nat} {c : Nat → Bool} {j : Nat} (h : j < w) : (codeL w c)[j]? = some (bi (c j)) := by
  unfold codeL
  rw [List.getElem?_map, List.getElem?_range h]; rfl
theorem codeL_len (w : Nat) (c : Nat → Bool) : (codeL w c).length = w := by unfold codeL; simp
/-- codes of n states, w bits each, all different -/
structure Cd (n w : Nat) (C : List (List Int)) (cb : Nat → Nat → Bool) : Prop where
  len : C.length = n
  at_ : ∀ s, s < n → C[s]? = some (codeL w (cb s))
  ne : ∀ s t, s < n → t < n → (∀ j, j < w → cb s j = cb t j) → s = t
def mC (P k : Nat) : Nat := 3 * (k * P) - 3
theorem filter_split {α : Type} {p q : α → Bool} : ∀ {xs : List α}, (∀ x ∈ xs, q x = !p x) → (xs.filter p).length + (xs.filter q).length = xs.length
  | [], _ => rfl
  | x :: xs, h => by
    have ih := filter_split (p := p) (q := q) (xs := xs) fun y hy => h y (List.mem_cons_of_mem _ hy)
    have h1 := h x List.mem_cons_self
    rw [List.filter_cons, List.filter_cons, h1]
    cases p x <;> simp <;> omega
theorem bi_eq0 (b : Bool) : decide (bi b = (0 : Int)) = !b := by cases b <;> rfl
theorem bi_eq1 (b : Bool) : decide (bi b = (1 : Int)) = b := by cases b <;> rfl
theorem under_codes_ok {inp w n : Nat} {C : List (List Int)} {cb : Nat → Nat → Bool} {T : List Int} {f : Nat → Nat → Bool} (hi : inp ≤ 4) (hw : w ≤ 100) (hC : Cd n w C cb) (hn : n ≤ 1000) (hT : ∀ s, s < n → T[s]? = some (tI inp (f s))) : ∀ (fu p : Nat) {D : S_Decoder} {Sn : List Nat}, w - p < fu → p ≤ w → Sn ≠ [] → Sn.length ≤ n → (∀ s ∈ Sn, s < n) →
    (∀ s ∈ Sn, ∀ t ∈ Sn, ∀ j, j < p → cb s j = cb t j) → DI inp w D → D.codes = C → D.builder.pairs.length + mC (2 ^ inp) Sn.length ≤ 90000 →
    Tot (mr_Decoder_under_codes fu D T (Sn.map ci) (p : Int)) fun r => DI inp w r.1 ∧ Grow D r.1 (mC (2 ^ inp) Sn.length) ∧ Lt2 (inp + w) r.1.builder r.2 ∧ ∀ s ∈ Sn, ∀ base R, R < 2 ^ inp → Row inp w base R (cb s) → va base r.1.builder r.2 = f s R
  | 0, p, D, Sn, hf, _, _, _, _, _, _, _, _ => absurd hf (Nat.not_lt_zero _)
  | fu + 1, p, D, Sn, hf, hp, hne, hlen, hlt, hag, hD, hDc, hs => by
    have hic := hD.ic
    have hDD : (⟨D.input_count, D.codes, D.builder⟩ : S_Decoder) = D := rfl
    obtain ⟨s0, Sr, hS⟩ := List.exists_cons_of_ne_nil hne
    have hs0 : s0 ∈ Sn := by rw [hS]; exact List.mem_cons_self
    have hs0n := hlt s0 hs0
    have h0 : atI (Sn.map ci) (0 : Int) = some (ci s0) := by rw [hS, atI_pos (by decide)]; rfl
    have tat : ∀ s, s < n → atI T (ci s) = some (tI inp (f s)) := fun s hs => Ty.atI_nat (hT s hs)
    have hl1 : 1 ≤ Sn.length := by rw [hS]; simp
    have hpp : 1 ≤ 2 ^ inp := Nat.one_le_two_pow
    have hmul : 2 ^ inp ≤ Sn.length * 2 ^ inp := Nat.le_mul_of_pos_left _ hl1
    have hmR := mR_eq inp
    have hle : mR inp ≤ mC (2 ^ inp) Sn.length := by unfold mC; omega
    have hln : (Sn.map ci).length ≤ 1000 := by rw [List.length_map]; omega
    have hdiff : fmO (Sn.map ci) (fun state_228 => ((atI T state_228).bind fun v_229 => (atI (Sn.map ci) (0 : Int)).bind fun v_231 => (atI T v_231).bind fun v_233 => bif (!decide (v_229 = v_233)) then (some (some state_228)) else some none)) = some ((Sn.filter fun s => !decide (tI inp (f s) = tI inp (f s0))).map ci) :=
      fmO_fmM fun s hs => bI (tat s (hlt s hs)) (bI h0 (bI (tat s0 hs0n) (by cases decide (tI inp (f s) = tI inp (f s0)) <;> rfl)))
    rw [mr_Decoder_under_codes]
    refine tG (sml (by omega)) (tE hdiff ?_)
    by_cases hu : (Sn.filter fun s => !decide (tI inp (f s) = tI inp (f s0))) = []
    · rw [hu]
      refine tC (fun _ => tE h0 (tE (tat s0 hs0n) ?_)) (fun hz => absurd hz (by decide))
      unfold m_Decoder_under_rows
      have hur := under_rows_ok (inp := inp) (w := w) (by omega) hw 5 inp (D := D) (f := f s0) (by omega) (Nat.le_refl _) hD (by omega)
      rw [Nat.sub_self] at hur
      refine tB hur ?_
      rintro ⟨D', r⟩ ⟨h1, h2, h3, h4⟩
      refine tR ⟨h1, ⟨h2.1, h2.2.mono hle⟩, h3, fun s hs base R hR hrow => ?_⟩
      refine (h4 base R _ hrow).trans ?_
      rw [Nat.mod_eq_of_lt hR]
      have hz := List.filter_eq_nil_iff.mp hu s hs
      have he : tI inp (f s) = tI inp (f s0) := by simpa using hz
      have he2 : tbl (2 ^ inp) (f s) = tbl (2 ^ inp) (f s0) := by unfold tI at he; omega
      exact (tbl_ext_of he2 hR).symm
    · have hmap : (Sn.filter fun s => !decide (tI inp (f s) = tI inp (f s0))).map ci ≠ [] := fun z => hu (List.map_eq_nil_iff.mp z)
      refine tC (fun hz => absurd (of_decide_eq_true hz) hmap) (fun _ => ?_)
      have hpw : p < w := by
        by_cases h : p < w
        · exact h
        · exfalso
          refine hu (List.filter_eq_nil_iff.mpr fun s hs => ?_)
          have : s = s0 := hC.ne s s0 (hlt s hs) hs0n fun j hj => hag s hs s0 hs0 j (by omega)
          rw [this, dT rfl]; decide
      have cat : ∀ s, s < n → atI D.codes (ci s) = some (codeL w (cb s)) := fun s hs => by rw [hDc]; exact Ty.atI_nat (hC.at_ s hs)
      have bat : ∀ s, atI (codeL w (cb s)) (p : Int) = some (bi (cb s p)) := fun s => Ty.atI_nat (codeL_at hpw)
      have hlow : fmO (Sn.map ci) (fun state_244 => ((atI D.codes state_244).bind fun v_245 => (atI v_245 (p : Int)).bind fun v_247 => bif decide (v_247 = (0 : Int)) then (some (some state_244)) else some none)) = some ((Sn.filter fun s => !cb s p).map ci) :=
        fmO_fmM fun s hs => bI (cat s (hlt s hs)) (bI (bat s) (by rw [bi_eq0]; cases cb s p <;> rfl))
      have hhigh : fmO (Sn.map ci) (fun state_252 => ((atI D.codes state_252).bind fun v_253 => (atI v_253 (p : Int)).bind fun v_255 => bif decide (v_255 = (1 : Int)) then (some (some state_252)) else some none)) = some ((Sn.filter fun s => cb s p).map ci) :=
        fmO_fmM fun s hs => bI (cat s (hlt s hs)) (bI (bat s) (by rw [bi_eq1]; cases cb s p <;> rfl))
      have hsp : (Sn.filter fun s => cb s p).length + (Sn.filter fun s => !cb s p).length = Sn.length := filter_split fun s _ => rfl
      refine tG (sml (by omega)) (tE hlow (tG (sml (by omega)) (tE hhigh ?_)))
      have ep1 : ((p : Int) + 1) = ((p + 1 : Nat) : Int) := by omega
      rw [ep1]
      refine tC (fun hz => ?_) (fun hz => ?_)
      · have hag' : ∀ s ∈ Sn, ∀ t ∈ Sn, ∀ j, j < p + 1 → cb s j = cb t j := fun s hs t ht j hj => by
          by_cases h : j < p
          · exact hag s hs t ht j h
          · have ej : j = p := by omega
            subst ej
            rcases Bool.or_eq_true_iff.mp hz with z | z
            · have z := List.map_eq_nil_iff.mp (of_decide_eq_true z)
              have a := List.filter_eq_nil_iff.mp z s hs
              have b := List.filter_eq_nil_iff.mp z t ht
              simp at a b
              rw [a, b]
            · have z := List.map_eq_nil_iff.mp (of_decide_eq_true z)
              have a := List.filter_eq_nil_iff.mp z s hs
              have b := List.filter_eq_nil_iff.mp z t ht
              simp at a b
              rw [a, b]
        refine tB (under_codes_ok hi hw hC hn hT fu (p + 1) (D := D) (Sn := Sn) (by omega) (by omega) hne hlen hlt hag' hD hDc hs) ?_
        rintro ⟨D', r⟩ ⟨h1, h2, h3, h4⟩
        exact tR ⟨h1, h2, h3, h4⟩
      · rw [Bool.or_eq_false_iff] at hz
        have hz1 : (Sn.filter fun s => !cb s p) ≠ [] := fun z => by
          have := of_decide_eq_false hz.1
          exact this (by rw [z]; rfl)
        have hz2 : (Sn.filter fun s => cb s p) ≠ [] := fun z => by
          have := of_decide_eq_false hz.2
          exact this (by rw [z]; rfl)
        have k1 : 1 ≤ (Sn.filter fun s => cb s p).length := List.length_pos_iff.mpr hz2
        have k0 : 1 ≤ (Sn.filter fun s => !cb s p).length := List.length_pos_iff.mpr hz1
        have hsum : (Sn.filter fun s => cb s p).length * 2 ^ inp + (Sn.filter fun s => !cb s p).length * 2 ^ inp = Sn.length * 2 ^ inp := by rw [← Nat.add_mul, hsp]
        have q1 : 2 ^ inp ≤ (Sn.filter fun s => cb s p).length * 2 ^ inp := Nat.le_mul_of_pos_left _ k1
        have q0 : 2 ^ inp ≤ (Sn.filter fun s => !cb s p).length * 2 ^ inp := Nat.le_mul_of_pos_left _ k0
        have hmc : mC (2 ^ inp) (Sn.filter fun s => cb s p).length + mC (2 ^ inp) (Sn.filter fun s => !cb s p).length + 3 = mC (2 ^ inp) Sn.length := by unfold mC; omega
        have hag1 : ∀ s ∈ (Sn.filter fun s => cb s p), ∀ t ∈ (Sn.filter fun s => cb s p), ∀ j, j < p + 1 → cb s j = cb t j := fun s hs t ht j hj => by
          have a := List.mem_filter.mp hs
          have b := List.mem_filter.mp ht
          by_cases h : j < p
          · exact hag s a.1 t b.1 j h
          · rw [show j = p by omega, a.2, b.2]
        have hag0 : ∀ s ∈ (Sn.filter fun s => !cb s p), ∀ t ∈ (Sn.filter fun s => !cb s p), ∀ j, j < p + 1 → cb s j = cb t j := fun s hs t ht j hj => by
          have a := List.mem_filter.mp hs
          have b := List.mem_filter.mp ht
          by_cases h : j < p
          · exact hag s a.1 t b.1 j h
          · have a2 := a.2
            have b2 := b.2
            simp at a2 b2
            rw [show j = p by omega, a2, b2]
        refine tB (under_codes_ok hi hw hC hn hT fu (p + 1) (D := D) (Sn := Sn.filter fun s => cb s p) (by omega) (by omega) hz2 (by omega) (fun s hs => hlt s (List.mem_filter.mp hs).1) hag1 hD hDc (by omega)) ?_
        rintro ⟨D1, r1⟩ ⟨h1, g1, l1, v1⟩
        have ln1 := g1.2.len
        dsimp only at h1 g1 l1 v1 ln1 ⊢
        refine tLe fun tst etst => ?_
        have etst : tst = 2 * ((1 + inp + p : Nat) : Int) := by rw [etst, h1.ic]; omega
        subst etst
        refine tB (under_codes_ok hi hw hC hn hT fu (p + 1) (D := D1) (Sn := Sn.filter fun s => !cb s p) (by omega) (by omega) hz1 (by omega) (fun s hs => hlt s (List.mem_filter.mp hs).1) hag0 h1 (g1.1.trans hDc) (by omega)) ?_
        rintro ⟨D2, r2⟩ ⟨h2, g2, l2, v2⟩
        have ln2 := g2.2.len
        dsimp only at h2 g2 l2 v2 ln2 ⊢
        refine tB (choose_ok h2.bi (t := 2 * ((1 + inp + p : Nat) : Int)) ⟨by omega, by omega⟩ (l1.ext g2.2) l2 (by omega) (by omega)) ?_
        rintro ⟨b3, r3⟩ ⟨h3, e3, l3, v3⟩
        refine tR ⟨⟨h2.ic, h3⟩, ⟨g2.1.trans g1.1, ((g1.2.trans g2.2).trans e3).mono (by omega)⟩, l3, fun s hs base R hR hrow => ?_⟩
        refine (v3 base hrow.1).trans ?_
        have hleaf : va base D2.builder (2 * ((1 + inp + p : Nat) : Int)) = cb s p := va_leaf hrow.1 (by omega) (hrow.2.2 p hpw)
        rw [hleaf, va_ext hrow.1 l1 g2.2]
        cases hb : cb s p with
        | true => exact v1 s (List.mem_filter.mpr ⟨hs, hb⟩) base R hR hrow
        | false => exact v2 s (List.mem_filter.mpr ⟨hs, by rw [hb]; rfl⟩) base R hR hrow
end K68

/-! K68T -/
namespace K68
open PySem PySem.Spec L2 Ty Sv
/-! ### literals of tables -/
def bitsL (N : Nat) (g : Nat → Bool) : List Int := (List.range N).map fun r => bi (g r)
def tabOf (e : List Int) : Int := ((e.zipIdx.map fun x => ((x.2 : Int), x.1)).map fun p : Int × Int => p.2 * 2 ^ (p.1).toNat).sum
theorem tab_bits (g : Nat → Bool) : ∀ N, tabOf (bitsL N g) = ((tbl N g : Nat) : Int)
  | 0 => rfl
  | N + 1 => by
    have ih := tab_bits g N
    have e : bitsL (N + 1) g = bitsL N g ++ [bi (g N)] := by unfold bitsL; rw [List.range_succ, List.map_append]; rfl
    have hl : (bitsL N g).length = N := by unfold bitsL; simp
    unfold tabOf at ih ⊢
    rw [e, List.zipIdx_append, List.map_append, List.map_append, List.sum_append, ih]
    have et : tbl (N + 1) g = tbl N g + (g N).toNat * 2 ^ N := rfl
    rw [hl, et]
    simp [bi_nat]
structure Bts (n N : Nat) (bits : List (List Int)) (f : Nat → Nat → Bool) : Prop where
  len : bits.length = n
  at_ : ∀ s, s < n → bits[s]? = some (bitsL N (f s))
theorem literal_ok {inp w n : Nat} {C : List (List Int)} {cb : Nat → Nat → Bool} {bits : List (List Int)} {f : Nat → Nat → Bool} {D : S_Decoder} (hi : inp ≤ 4) (hw : w ≤ 18) (hC : Cd n w C cb) (hn : 1 ≤ n ∧ n ≤ 1000) (hB : Bts n (2 ^ inp) bits f) (hD : DI inp w D) (hDc : D.codes = C) (hs : D.builder.pairs.length + mC (2 ^ inp) n ≤ 90000) :
    Tot (m_Decoder_literal_of D bits) fun r => DI inp w r.1 ∧ Grow D r.1 (mC (2 ^ inp) n) ∧ Lt2 (inp + w) r.1.builder r.2 ∧ ∀ s, s < n → ∀ base R, R < 2 ^ inp → Row inp w base R (cb s) → va base r.1.builder r.2 = f s R := by
  have hp : 2 ^ inp ≤ 2 ^ 4 := Nat.pow_le_pow_right (by decide) hi
  have hbl := hB.len
  unfold m_Decoder_literal_of
  refine tForX (fun j (s : List Int) => s.length = j ∧ ∀ m, m < j → s[m]? = some (tI inp (f m))) ⟨rfl, fun m hm => absurd hm (Nat.not_lt_zero _)⟩ (fun j e s he hj => ?_) (fun s hs2 => ?_)
  · have hjn : j < n := by rw [← hbl]; exact (List.getElem?_eq_some_iff.mp he).1
    rw [hB.at_ j hjn] at he
    cases he
    have hl : (bitsL (2 ^ inp) (f j)).length = 2 ^ inp := by unfold bitsL; simp
    refine tG (sml (by rw [enum_len]; omega)) (tFm (g := fun p : Int × Int => p.2 * 2 ^ (p.1).toNat) (fun p hp2 => ?_) (tG (line_lt (by omega)) (tR ⟨?_, fun m hm => ?_⟩)))
    · obtain ⟨i, hi2⟩ := List.getElem?_of_mem hp2
      obtain ⟨x, hx, rfl⟩ := enum_at hi2
      have hil : i < 2 ^ inp := by rw [← hl]; exact (List.getElem?_eq_some_iff.mp hx).1
      unfold bitsL at hx
      rw [List.getElem?_map, List.getElem?_range hil] at hx
      have hx : x = bi (f j i) := (Option.some.inj hx).symm
      have hb := bi_range (f j i)
      exact gI ⟨by dsimp only; omega, by dsimp only; omega, Nat.lt_of_le_of_lt (show x.natAbs ≤ 1 by rw [hx]; omega) (by decide)⟩ rfl
    · rw [List.length_append, hj.1]; rfl
    · show (s ++ [tabOf (bitsL (2 ^ inp) (f j))])[m]? = _
      by_cases h : m < j
      · rw [List.getElem?_append_left (by omega)]; exact hj.2 m h
      · have em : m = j := by omega
        subst em
        rw [List.getElem?_append_right (by omega), hj.1, Nat.sub_self, tab_bits]
        rfl
  · rw [hbl] at hs2
    have erg : rangeL 0 ((s.length : Nat) : Int) = (List.range n).map ci := by rw [rangeL_nat, hs2.1]
    rw [erg]
    have hrl : (List.range n).length = n := List.length_range
    refine tG ⟨by decide, by decide, by omega, by omega, by omega⟩ ?_
    unfold m_Decoder_under_codes
    have huc := under_codes_ok (inp := inp) (w := w) (n := n) (f := f) (T := s) hi (by omega) hC (by omega) hs2.2 20 0 (D := D) (Sn := List.range n) (by omega) (by omega) (fun z => by have := congrArg List.length z; rw [hrl] at this; simp at this; omega) (by omega) (fun s hs => List.mem_range.mp hs) (fun s _ t _ j hj => absurd hj (Nat.not_lt_zero _)) hD hDc (by rw [hrl]; exact hs)
    rw [hrl] at huc
    refine tB huc ?_
    rintro ⟨D', r⟩ ⟨h1, h2, h3, h4⟩
    exact tR ⟨h1, h2, h3, fun s hs base R hR hrow => h4 s (List.mem_range.mpr hs) base R hR hrow⟩
/-! ### machines -/
def rw_ (M : List (List (Int × Int))) (s : Nat) : List (Int × Int) := (M[s]?).getD []
def nx (M : List (List (Int × Int))) (s r : Nat) : Nat := (((rw_ M s)[r]?).getD (0, 0)).1.toNat
def an (M : List (List (Int × Int))) (s r : Nat) : Nat := (((rw_ M s)[r]?).getD (0, 0)).2.toNat
structure MvOk (M : List (List (Int × Int))) (n N o : Nat) : Prop where
  len : M.length = n
  at_ : ∀ s, s < n → M[s]? = some (rw_ M s) ∧ (rw_ M s).length = N
  ent : ∀ s r, s < n → r < N → (rw_ M s)[r]? = some ((nx M s r : Int), (an M s r : Int)) ∧ nx M s r < n ∧ an M s r < 2 ^ o
theorem row_map {M : List (List (Int × Int))} {n N o : Nat} (h : MvOk M n N o) {s : Nat} (hs : s < n) {g : Int × Int → Int} {f : Nat → Bool} (hg : ∀ r, r < N → g ((nx M s r : Int), (an M s r : Int)) = bi (f r)) : (rw_ M s).map g = bitsL N f := by
  refine List.ext_getElem? fun r => ?_
  unfold bitsL
  rw [List.getElem?_map, List.getElem?_map]
  by_cases hr : r < N
  · rw [(h.ent s r hs hr).1, List.getElem?_range hr]
    exact congrArg some (hg r hr)
  · rw [List.getElem?_eq_none (by rw [(h.at_ s hs).2]; omega), List.getElem?_eq_none (by simp; omega)]; rfl
theorem all_map {M : List (List (Int × Int))} {n N o : Nat} (h : MvOk M n N o) {G : List (Int × Int) → List Int} {f : Nat → Nat → Bool} (hG : ∀ s, s < n → G (rw_ M s) = bitsL N (f s)) : Bts n N (M.map G) f := by
  refine ⟨by rw [List.length_map]; exact h.len, fun s hs => ?_⟩
  rw [List.getElem?_map, (h.at_ s hs).1]
  exact congrArg some (hG s hs)
theorem mem_row {M : List (List (Int × Int))} {n N o : Nat} (h : MvOk M n N o) {e : List (Int × Int)} (he : e ∈ M) : ∃ s, s < n ∧ e = rw_ M s := by
  obtain ⟨s, hs⟩ := List.getElem?_of_mem he
  have hsn : s < n := by rw [← h.len]; exact (List.getElem?_eq_some_iff.mp hs).1
  rw [(h.at_ s hsn).1] at hs
  exact ⟨s, hsn, (Option.some.inj hs).symm⟩
theorem mem_ent {M : List (List (Int × Int))} {n N o : Nat} (h : MvOk M n N o) {s : Nat} (hs : s < n) {q : Int × Int} (hq : q ∈ rw_ M s) : ∃ r, r < N ∧ q = ((nx M s r : Int), (an M s r : Int)) := by
  obtain ⟨r, hr⟩ := List.getElem?_of_mem hq
  have hrn : r < N := by rw [← (h.at_ s hs).2]; exact (List.getElem?_eq_some_iff.mp hr).1
  rw [(h.ent s r hs hrn).1] at hr
  exact ⟨r, hrn, (Option.some.inj hr).symm⟩
/-! ### what coded builds -/
/-- literals found so far: the one at place m is f m in each state, under each row -/
def Lits {α : Type} (inp w n : Nat) (cb : Nat → Nat → Bool) (b : S_Builder) (xs : List α) (lit : α → Int) (f : Nat → Nat → Nat → Bool) : Prop := ∀ m x, xs[m]? = some x → Lt2 (inp + w) b (lit x) ∧ ∀ s, s < n → ∀ base R, R < 2 ^ inp → Row inp w base R (cb s) → va base b (lit x) = f m s R
theorem Lits.grow {α : Type} {inp w n : Nat} {cb : Nat → Nat → Bool} {b c : S_Builder} {xs : List α} {lit : α → Int} {f : Nat → Nat → Nat → Bool} {k : Nat} (h : Lits inp w n cb b xs lit f) (e : Ext b c k) : Lits inp w n cb c xs lit f := fun m x hx => by
  obtain ⟨h1, h2⟩ := h m x hx
  exact ⟨h1.ext e, fun s hs base R hR hrow => (va_ext hrow.1 h1 e).trans (h2 s hs base R hR hrow)⟩
theorem Lits.snoc {α : Type} {inp w n : Nat} {cb : Nat → Nat → Bool} {b : S_Builder} {xs : List α} {lit : α → Int} {f : Nat → Nat → Nat → Bool} {y : α} (h : Lits inp w n cb b xs lit f) (h1 : Lt2 (inp + w) b (lit y)) (h2 : ∀ s, s < n → ∀ base R, R < 2 ^ inp → Row inp w base R (cb s) → va base b (lit y) = f xs.length s R) : Lits inp w n cb b (xs ++ [y]) lit f := fun m x hx => by
  rcases snoc_at hx with ⟨_, hx⟩ | ⟨hm, rfl⟩
  · exact h m x hx
  · rw [hm]; exact ⟨h1, h2⟩
structure Nms (I L O : List Str) : Prop where
  iN : ∀ s ∈ I, Nm s
  lN : ∀ s ∈ L, Nm s
  oN : ∀ s ∈ O, Nm s
  nd : (I ++ L).Nodup
  on : O.Nodup
/-- the circuit told -/
structure Told (inp w o n : Nat) (M : List (List (Int × Int))) (cb : Nat → Nat → Bool) (I L O : List Str) (c : S_Circuit) : Prop where
  ok : CircOk c.inputs c.latches c.ands c.outputs
  i : c.inputs = I
  l : c.latches.map (·.1) = L
  l0 : c.latches.map (·.2.1) = codeL w (cb 0)
  o_ : c.outputs.map (·.1) = O
  a : c.ands.length ≤ (w + o) * mC (2 ^ inp) n
  b : ∃ bb : S_Builder, bb.pairs = c.ands ∧ Lits inp w n cb bb c.latches (·.2.2) (fun m s R => cb (nx M s R) m) ∧ Lits inp w n cb bb c.outputs (·.2) (fun m s R => (an M s R).testBit (o - 1 - m))
theorem bit_and1 (a k : Nat) : Builtin.bitAnd ((a : Int) / 2 ^ k) 1 = bi (a.testBit k) := by
  rw [PyProof.Rows.bitAnd_m1, bit_div]
theorem coded_ok {inp w o n : Nat} {S : S_Machine} {C : List (List Int)} {cb : Nat → Nat → Bool} {I L O : List Str} (hi : inp ≤ 4) (hw : w ≤ 18) (ho : o ≤ 32) (hn : 1 ≤ n ∧ n ≤ 1000) (hC : Cd n w C cb) (hM : MvOk S.moves n (2 ^ inp) o) (hic : S.input_count = inp) (hoc : S.output_count = o) (hcheck : m_check_codes S C = some (.ok ())) (hI : I.length = inp) (hL : L.length = w) (hO : O.length = o) (hm : (w + o) * mC (2 ^ inp) n ≤ 2000) (hor : Nms I L O ∨ ∃ s t, I = s :: t ∧ m_is_name s = some false) :
    Tot (m_coded S C I L O) fun r => (Nms I L O → ∃ c, r = .ok c ∧ Told inp w o n S.moves cb I L O c) ∧ ((∃ s t, I = s :: t ∧ m_is_name s = some false) → r = .ex ("InvalidCircuit", [.s "inputs", .i 0])) := by
  have hp : 2 ^ inp ≤ 2 ^ 4 := Nat.pow_le_pow_right (by decide) hi
  have hCl := hC.len
  have hMl := hM.len
  unfold m_coded
  refine tX (Tot.of hcheck ?_)
  dsimp only
  have hdec : Tot (m_Decoder_init S.input_count C) fun r => DI inp w r.1 ∧ r.1.codes = C ∧ r.1.builder.pairs = [] := by
    unfold m_Decoder_init
    refine tG (sml (by omega)) (tFm (g := id) (fun x hx => rfl) (tE (a := codeL w (cb 0)) (by rw [atI_pos (by decide)]; exact hC.at_ 0 (by omega)) ?_))
    rw [codeL_len, hic]
    unfold m_Builder_init
    refine tE (a := (_, ())) (gI ⟨by omega, by omega, line_le (by show 1 * _ ≤ _; omega)⟩ rfl) (tR ⟨⟨rfl, ?_⟩, ?_, rfl⟩)
    · refine ⟨by dsimp only; omega, ⟨by omega, fun k p hp => by simp at hp⟩, fun k v hk => (by cases hk), Nat.le_refl _, ?_⟩
      dsimp only
      rw [rep_flat, List.length_replicate]
      show _ = inp + w + 1 + 0
      omega
    · exact List.map_id _
  refine tB hdec ?_
  rintro ⟨D0, u0⟩ ⟨d1, d2, d3⟩
  dsimp only at d1 d2 d3 ⊢
  refine tForX (fun j (s : S_Decoder × List (Str × Int × Int)) => DI inp w s.1 ∧ s.1.codes = C ∧ s.1.builder.pairs.length ≤ j * mC (2 ^ inp) n ∧ s.2.length = j ∧ (∀ m x, s.2[m]? = some x → L[m]? = some x.1 ∧ m < w ∧ x.2.1 = bi (cb 0 m)) ∧ Lits inp w n cb s.1.builder s.2 (·.2.2) (fun m s R => cb (nx S.moves s R) m)) ⟨d1, d2, by rw [d3]; exact Nat.zero_le _, rfl, fun m x hx => by simp at hx, fun m x hx => by simp at hx⟩ ?_ ?_
  · rintro j x ⟨D, fd⟩ hx ⟨h1, h2, h3, h4, h5, h6⟩
    obtain ⟨nmj, hnm, rfl⟩ := enum_at hx
    have hjw : j < w := by rw [← hL]; exact (List.getElem?_eq_some_iff.mp hnm).1
    dsimp only at h1 h2 h3 h4 h5 h6 ⊢
    have hmul : j * mC (2 ^ inp) n + mC (2 ^ inp) n ≤ (w + o) * mC (2 ^ inp) n := by
      rw [← Nat.succ_mul]
      exact Nat.mul_le_mul_right _ (by omega)
    have hcode : ∀ t, t < n → atI C (t : Int) = some (codeL w (cb t)) := fun t ht => Ty.atI_nat (hC.at_ t ht)
    have hbit : ∀ t, atI (codeL w (cb t)) (j : Int) = some (bi (cb t j)) := fun t => Ty.atI_nat (codeL_at hjw)
    let g : Int × Int → Int := fun q => bi (cb q.1.toNat j)
    refine tG (sml (by omega)) (tFm (g := fun e : List (Int × Int) => e.map g) (fun e he => ?_) ?_)
    · obtain ⟨s, hs, rfl⟩ := mem_row hM he
      refine gI (sml (by rw [(hM.at_ s hs).2]; omega)) (bI (fmO_all (g := g) fun q hq => ?_) rfl)
      obtain ⟨r, hr, rfl⟩ := mem_ent hM hs hq
      have := (hM.ent s r hs hr).2.1
      exact bI (hcode _ this) (bI (hbit _) rfl)
    · have hB : Bts n (2 ^ inp) (S.moves.map fun e => e.map g) (fun s R => cb (nx S.moves s R) j) := all_map hM fun s hs => row_map hM hs fun r hr => by show bi (cb ((nx S.moves s r : Int)).toNat j) = _; rw [Int.toNat_natCast]
      refine tE (a := codeL w (cb 0)) (by rw [atI_pos (by decide)]; exact hC.at_ 0 (by omega)) (tE (hbit 0) (tB (literal_ok hi hw hC hn hB h1 h2 (by omega)) ?_))
      rintro ⟨D', r⟩ ⟨g1, g2, g3, g4⟩
      dsimp only at g1 g2 g3 g4 ⊢
      have gl := g2.2.len
      refine tG (line_lt (by omega)) (tR ⟨g1, g2.1.trans h2, ?_, ?_, fun m x hx => ?_, ?_⟩)
      · rw [Nat.succ_mul]; show D'.builder.pairs.length ≤ _; omega
      · show (fd ++ [_]).length = _; rw [List.length_append, h4]; rfl
      · rcases snoc_at hx with ⟨_, hx⟩ | ⟨hm2, rfl⟩
        · exact h5 m x hx
        · rw [hm2, h4]; exact ⟨hnm, hjw, rfl⟩
      · exact (h6.grow g2.2).snoc g3 (by rw [h4]; exact g4)
  · rintro ⟨D1, fd⟩ ⟨h1, h2, h3, h4, h5, h6⟩
    rw [enum_len, hL] at h3 h4
    dsimp only at h1 h2 h3 h4 h5 h6 ⊢
    refine tForX (fun j (s : S_Decoder × List (Str × Int)) => DI inp w s.1 ∧ s.1.codes = C ∧ s.1.builder.pairs.length ≤ (w + j) * mC (2 ^ inp) n ∧ s.2.length = j ∧ (∀ m x, s.2[m]? = some x → O[m]? = some x.1 ∧ m < o) ∧ Lits inp w n cb s.1.builder s.2 (·.2) (fun m s R => (an S.moves s R).testBit (o - 1 - m)) ∧ Lits inp w n cb s.1.builder fd (·.2.2) (fun m s R => cb (nx S.moves s R) m)) ⟨h1, h2, h3, rfl, fun m x hx => by simp at hx, fun m x hx => by simp at hx, h6⟩ ?_ ?_
    · rintro j x ⟨D, ed⟩ hx ⟨k1, k2, k3, k4, k5, k6, k7⟩
      obtain ⟨nmj, hnm, rfl⟩ := enum_at hx
      have hjo : j < o := by rw [← hO]; exact (List.getElem?_eq_some_iff.mp hnm).1
      dsimp only at k1 k2 k3 k4 k5 k6 k7 ⊢
      have hmul : (w + j) * mC (2 ^ inp) n + mC (2 ^ inp) n ≤ (w + o) * mC (2 ^ inp) n := by
        rw [← Nat.succ_mul]
        exact Nat.mul_le_mul_right _ (by omega)
      let g : Int × Int → Int := fun q => bi (q.2.toNat.testBit (o - 1 - j))
      refine tLe fun dg edg => tG (sml (by omega)) (tFm (g := fun e : List (Int × Int) => e.map g) (fun e he => ?_) ?_)
      · obtain ⟨s, hs, rfl⟩ := mem_row hM he
        refine gI (sml (by rw [(hM.at_ s hs).2]; omega)) (bI (fmO_all (g := g) fun q hq => ?_) rfl)
        obtain ⟨r, hr, rfl⟩ := mem_ent hM hs hq
        refine gI (by omega) ?_
        show some (some (Builtin.bitAnd ((an S.moves s r : Int) / 2 ^ dg.toNat) 1)) = some (some (bi (((an S.moves s r : Int)).toNat.testBit (o - 1 - j))))
        rw [bit_and1, Int.toNat_natCast, show dg.toNat = o - 1 - j by omega]
      · have hB : Bts n (2 ^ inp) (S.moves.map fun e => e.map g) (fun s R => (an S.moves s R).testBit (o - 1 - j)) := all_map hM fun s hs => row_map hM hs fun r hr => by show bi (((an S.moves s r : Int)).toNat.testBit (o - 1 - j)) = _; rw [Int.toNat_natCast]
        refine tB (literal_ok hi hw hC hn hB k1 k2 (by omega)) ?_
        rintro ⟨D', r⟩ ⟨g1, g2, g3, g4⟩
        dsimp only at g1 g2 g3 g4 ⊢
        have gl := g2.2.len
        refine tG (line_lt (by omega)) (tR ⟨g1, g2.1.trans k2, ?_, ?_, fun m x hx => ?_, ?_, k7.grow g2.2⟩)
        · rw [← Nat.add_assoc, Nat.succ_mul]; show D'.builder.pairs.length ≤ _; omega
        · show (ed ++ [_]).length = _; rw [List.length_append, k4]; rfl
        · rcases snoc_at hx with ⟨_, hx⟩ | ⟨hm2, rfl⟩
          · exact k5 m x hx
          · rw [hm2, k4]; exact ⟨hnm, hjo⟩
        · exact (k6.grow g2.2).snoc g3 (by rw [k4]; exact g4)
    · rintro ⟨D2, ed⟩ ⟨k1, k2, k3, k4, k5, k6, k7⟩
      rw [enum_len, hO] at k3 k4
      dsimp only at k1 k2 k3 k4 k5 k6 k7 ⊢
      by_cases hN : Nms I L O
      · have el : fd.map (·.1) = L := by
          refine List.ext_getElem? fun m => ?_
          rw [List.getElem?_map]
          cases hx : fd[m]? with
          | none => have := List.getElem?_eq_none_iff.mp hx; rw [List.getElem?_eq_none (by omega)]; rfl
          | some x => exact (h5 m x hx).1.symm
        have eo : ed.map (·.1) = O := by
          refine List.ext_getElem? fun m => ?_
          rw [List.getElem?_map]
          cases hx : ed[m]? with
          | none => have := List.getElem?_eq_none_iff.mp hx; rw [List.getElem?_eq_none (by omega)]; rfl
          | some x => exact (k5 m x hx).1.symm
        have hok : CircOk I fd D2.builder.pairs ed := by
          refine ⟨by omega, by omega, by omega, by omega, hN.iN, fun p hp => hN.lN _ (by rw [← el]; exact List.mem_map.mpr ⟨p, hp, rfl⟩), fun p hp => hN.oN _ (by rw [← eo]; exact List.mem_map.mpr ⟨p, hp, rfl⟩), by rw [el]; exact hN.nd, by rw [eo]; exact hN.on, fun p hp => ?_, ?_, fun p hp => ?_⟩
          · obtain ⟨m, hm2⟩ := List.getElem?_of_mem hp
            have a := (h5 m p hm2).2.2
            have b := (k7 m p hm2).1
            have c := bi_range (cb 0 m)
            have b1 := b.1
            have b2 := b.2
            dsimp only at b1 b2
            refine ⟨by rw [a]; exact c, b1, by omega⟩
          · have := k1.bi.wf
            rw [show (1 + (I.length : Int) + (fd.length : Int)) = ((inp + w : Nat) : Int) + 1 by omega]
            exact this
          · obtain ⟨m, hm2⟩ := List.getElem?_of_mem hp
            have b := (k6 m p hm2).1
            have b1 := b.1
            have b2 := b.2
            dsimp only at b1 b2
            exact ⟨b1, by omega⟩
        refine tX (Tot.of (circ_ok hok) ?_)
        dsimp only
        refine tR ⟨fun _ => ⟨_, rfl, hok, rfl, el, ?_, eo, k3, D2.builder, rfl, k7, k6⟩, fun ⟨s, t, e, hb⟩ => ?_⟩
        · refine List.ext_getElem? fun m => ?_
          rw [List.getElem?_map]
          cases hx : fd[m]? with
          | none => have := List.getElem?_eq_none_iff.mp hx; rw [List.getElem?_eq_none (by rw [codeL_len]; omega)]; rfl
          | some x =>
            obtain ⟨_, hm2, hv⟩ := h5 m x hx
            rw [codeL_at hm2, ← hv]; rfl
        · have := is_name_ok (hN.iN s (by rw [e]; exact List.mem_cons_self))
          rw [this] at hb; cases hb
      · obtain ⟨s, t, e, hb⟩ := hor.resolve_left hN
        have hinit : m_Circuit_init I fd D2.builder.pairs ed = some (.ex ("InvalidCircuit", [.s "inputs", .i 0])) := by
          unfold m_Circuit_init
          refine lI (lI (bI (a := some (("inputs" : Str), (0 : Int))) ?_ ?_))
          · unfold m_fault_of_leaves
            rw [e]
            unfold flK forF
            rw [List.zipIdx_cons, List.map_cons]
            unfold forF
            dsimp only
            rw [hb]
            rfl
          · exact bI rfl (bI rfl (cT rfl (bI rfl (bI rfl (gI (by decide +kernel) (gI (by decide +kernel) rfl))))))
        refine tX (Tot.of hinit ?_)
        exact tR ⟨fun z => absurd z hN, fun _ => rfl⟩
end K68

/-! K68F -/
namespace K68
open PySem PySem.Spec L2 Ty
def fst1 (p : Nat → Bool) (n : Nat) : Option Nat := (List.range n).find? p
theorem fst1_some {p : Nat → Bool} {n j : Nat} (h : j < n) (hp : p j = true) (hb : ∀ i, i < j → p i = false) : fst1 p n = some j := by
  unfold fst1
  rw [List.find?_range_eq_some]
  exact ⟨hp, List.mem_range.mpr h, fun i hi => by rw [hb i hi]; rfl⟩
theorem fst1_none {p : Nat → Bool} {n : Nat} : fst1 p n = none ↔ ∀ i, i < n → p i = false := by
  unfold fst1
  rw [List.find?_range_eq_none]
  exact ⟨fun h i hi => by have := h i hi; simpa using this, fun h i hi => by rw [h i hi]; rfl⟩
theorem fst1_lt {p : Nat → Bool} {n j : Nat} (h : fst1 p n = some j) : j < n ∧ p j = true := by
  unfold fst1 at h
  rw [List.find?_range_eq_some] at h
  exact ⟨List.mem_range.mp h.2.1, h.1⟩
theorem forFst_aux {α S ρ : Type} {f : α → S → Option (Fl ρ S)} (p : Nat → Bool) (g : Nat → ρ) (Inv : Nat → S → Prop) : ∀ (xs : List α) (n : Nat) (s0 : S), Inv n s0 → (∀ i, i < n → p i = false) →
    (∀ j x s, xs[j]? = some x → (∀ i, i < n + j → p i = false) → Inv (n + j) s → (p (n + j) = true → f x s = some (.ret (g (n + j)))) ∧ (p (n + j) = false → ∃ s', f x s = some (.next s') ∧ Inv (n + j + 1) s')) →
    (∃ j, j < xs.length ∧ p (n + j) = true ∧ (∀ i, i < n + j → p i = false) ∧ forF xs s0 f = some (.ret (g (n + j)))) ∨ ((∀ i, i < n + xs.length → p i = false) ∧ ∃ s', forF xs s0 f = some (.next s') ∧ Inv (n + xs.length) s')
  | [], n, s0, h, hb, _ => .inr ⟨hb, s0, rfl, h⟩
  | x :: xs, n, s0, h, hb, hs => by
    obtain ⟨h1, h2⟩ := hs 0 x s0 rfl hb h
    rw [Nat.add_zero] at h1 h2
    unfold forF
    cases hp : p n with
    | true =>
      refine .inl ⟨0, by simp, by rw [Nat.add_zero]; exact hp, hb, ?_⟩
      rw [h1 hp]; rfl
    | false =>
      obtain ⟨s1, e1, i1⟩ := h2 hp
      rw [e1]
      have hb1 : ∀ i, i < n + 1 → p i = false := fun i hi => by
        by_cases e : i = n
        · rw [e]; exact hp
        · exact hb i (by omega)
      rcases forFst_aux p g Inv xs (n + 1) s1 i1 hb1 fun j y s e hpp hi => by
        have := hs (j + 1) y s (by simpa using e) (by rw [show n + (j + 1) = n + 1 + j by omega]; exact hpp) (by rw [show n + (j + 1) = n + 1 + j by omega]; exact hi)
        rw [show n + (j + 1) = n + 1 + j by omega] at this
        exact this with ⟨j, a, b, c, d⟩ | ⟨a, b⟩
      · refine .inl ⟨j + 1, by rw [List.length_cons]; omega, by rw [show n + (j + 1) = n + 1 + j by omega]; exact b, by rw [show n + (j + 1) = n + 1 + j by omega]; exact c, ?_⟩
        rw [show n + (j + 1) = n + 1 + j by omega]
        exact d
      · rw [List.length_cons, show n + (xs.length + 1) = n + 1 + xs.length by omega]
        exact .inr ⟨a, b⟩
theorem flKF {α S ρ β : Type} {f : α → S → Option (Fl ρ S)} {xs : List α} {s0 : S} {kn : S → Option β} {kr : ρ → Option β} {Z : Option β} (p : Nat → Bool) (g : Nat → ρ) (Inv : Nat → S → Prop) (h : Inv 0 s0)
    (hs : ∀ j x s, xs[j]? = some x → (∀ i, i < j → p i = false) → Inv j s → (p j = true → f x s = some (.ret (g j))) ∧ (p j = false → ∃ s', f x s = some (.next s') ∧ Inv (j + 1) s'))
    (hr : ∀ j, fst1 p xs.length = some j → kr (g j) = Z) (hn : ∀ s', fst1 p xs.length = none → Inv xs.length s' → kn s' = Z) : flK (forF xs s0 f) kn kr = Z := by
  rcases forFst_aux (f := f) p g Inv xs 0 s0 h (fun i hi => absurd hi (Nat.not_lt_zero _)) (fun j x s e hp hi => by rw [Nat.zero_add] at hp hi ⊢; exact hs j x s e hp hi) with ⟨j, a, b, c, d⟩ | ⟨a, s', b, c⟩
  · rw [Nat.zero_add] at b c d
    rw [d]
    exact hr j (fst1_some a b c)
  · rw [Nat.zero_add] at a c
    rw [b]
    exact hn s' (fst1_none.mpr a) c
end K68

/-! K68V -/
namespace K68
open PySem PySem.Spec L2 Ty Sv
/-! ### codes that are no good -/
theorem fmO_fm {α β : Type} {f : α → Option (Option β)} {p : α → Bool} {g : α → β} {xs : List α} (h : ∀ x ∈ xs, f x = if p x = true then some (some (g x)) else some none) : fmO xs f = some ((xs.filter p).map g) := by
  have := fmO_fmM (f := f) (h := id) (p := p) (g := g) (xs := xs) h
  rw [List.map_id] at this
  exact this
def cAt (C : List (List Int)) (s : Nat) : List Int := (C[s]?).getD []
def okBit (b : Int) : Bool := decide (b = 0) || decide (b = 1)
def badC (n : Nat) (C : List (List Int)) (s : Nat) : Bool := (decide (n ≤ s) || decide (C.length ≤ s)) || ((!decide ((cAt C s).length = (cAt C 0).length)) || (decide (cAt C s ∈ C.take s) || !(cAt C s).all okBit))
def mx (n : Nat) (C : List (List Int)) : Nat := max n C.length
theorem bits_ne {c : List Int} {q : Int → Bool} (hq : ∀ x ∈ c, q x = !okBit x) : (!decide ((c.filter q).map id = ([] : List Int))) = !(c.all okBit) := by
  refine congrArg (fun b => !b) ?_
  rw [Bool.eq_iff_iff, decide_eq_true_eq, List.map_id, List.filter_eq_nil_iff, List.all_eq_true]
  exact ⟨fun hh x hx => by have := hh x hx; rw [hq x hx] at this; simpa using this, fun hh x hx => by rw [hq x hx, hh x hx]; simp⟩
theorem check_eq {S : S_Machine} {C : List (List Int)} {n : Nat} (hn : S.moves.length = n) (h1 : n ≤ 1000) (h2 : C.length ≤ 1000) (h3 : ∀ c ∈ C, c.length ≤ 1000) : m_check_codes S C = some (match fst1 (badC n C) (mx n C) with | some s => .ex ("InvalidCodes", [.i (s : Int)]) | none => .ok ()) := by
  have emx : (if (C.length : Int) > (S.moves.length : Int) then (C.length : Int) else (S.moves.length : Int)) = ((mx n C : Nat) : Int) := by
    unfold mx; rw [hn]; split <;> omega
  have emn : (if (C.length : Int) < (S.moves.length : Int) then (C.length : Int) else (S.moves.length : Int)) = ((min n C.length : Nat) : Int) := by
    rw [hn]; split <;> omega
  have hmx : mx n C ≤ 1000 := by unfold mx; omega
  unfold m_check_codes
  rw [emx]
  refine gI ⟨by omega, by omega⟩ ?_
  refine flKF (badC n C) (fun s => Rx.ex ("InvalidCodes", [.i (s : Int)])) (fun j (kn : List (List Int × Bool)) => kn.length ≤ j ∧ ∀ q, (dget kn q).isSome = true ↔ q ∈ C.take j) ⟨Nat.le_refl _, fun q => by simp [dget_nil]⟩ (fun j x kn hx hb hj => ?_) (fun j hj => ?_) (fun kn hf _ => ?_)
  · obtain ⟨rfl, hjl⟩ := rangeL_at hx
    rw [Int.zero_add]
    have hjm : j < mx n C := by omega
    have hx_ok : (XF.i (j : Int)).ok := Nat.lt_of_le_of_lt (show ((j : Int)).natAbs ≤ 1000 by omega) (by decide)
    rw [emn]
    by_cases hs : n ≤ j ∨ C.length ≤ j
    · have hbt : badC n C j = true := by
        unfold badC
        rcases hs with h | h
        · rw [dT h]; rfl
        · rw [dT h]; simp
      refine ⟨fun _ => cT (dT (by omega)) (gI hx_ok rfl), fun z => ?_⟩
      rw [hbt] at z; cases z
    · have hjC : j < C.length := by omega
      have h0C : 0 < C.length := by omega
      have ec : C[j]? = some (cAt C j) := by unfold cAt; rw [List.getElem?_eq_getElem hjC]; rfl
      have e0 : atI C (0 : Int) = some (cAt C 0) := by rw [atI_pos (by decide)]; unfold cAt; show C[0]? = _; rw [List.getElem?_eq_getElem h0C]; rfl
      have hcl := h3 _ (List.mem_of_getElem? ec)
      have hbe : badC n C j = ((!decide ((cAt C j).length = (cAt C 0).length)) || (decide (cAt C j ∈ C.take j) || !(cAt C j).all okBit)) := by
        unfold badC
        rw [dF (show ¬ n ≤ j by omega), dF (show ¬ C.length ≤ j by omega)]; rfl
      have hkn : (dget kn (cAt C j)).isSome = decide (cAt C j ∈ C.take j) := by
        rw [Bool.eq_iff_iff, decide_eq_true_eq]; exact hj.2 _
      have hfm : fmO (cAt C j) (fun bit_106 => (bif ((!decide (bit_106 = (0 : Int))) && (!decide (bit_106 = (1 : Int)))) then (some (some bit_106)) else some none)) = some (((cAt C j).filter fun x => (!decide (x = (0 : Int))) && (!decide (x = (1 : Int)))).map id) := fmO_fm fun x _ => by cases ((!decide (x = (0 : Int))) && (!decide (x = (1 : Int)))) <;> rfl
      have hbn := bits_ne (c := cAt C j) (q := fun x => (!decide (x = (0 : Int))) && (!decide (x = (1 : Int)))) fun x _ => by unfold okBit; cases decide (x = 0) <;> cases decide (x = 1) <;> rfl
      have hbv : ∀ {Z : Option (Fl (Rx Unit) (List (List Int × Bool)))} {K : Bool → Option (Fl (Rx Unit) (List (List Int × Bool)))}, K (badC n C j) = Z → ((bif (!decide (((cAt C j).length : Int) = ((cAt C 0).length : Int))) then some true else ((bif (dget kn (cAt C j)).isSome then some true else (guardO ((cAt C j).length ≤ sizeLine) ((fmO (cAt C j) fun bit_106 => (bif ((!decide (bit_106 = (0 : Int))) && (!decide (bit_106 = (1 : Int)))) then (some (some bit_106)) else some none)).bind fun ys_104 => some (!decide (ys_104 = ([] : List (Int))))))).bind fun b_108 => some b_108)).bind fun b_110 => K b_110) = Z := fun {Z K} hk => by
        refine bI (a := badC n C j) ?_ hk
        rw [hbe]
        by_cases hl : (cAt C j).length = (cAt C 0).length
        · rw [dT hl, Bool.not_true, Bool.false_or, dT (show ((cAt C j).length : Int) = ((cAt C 0).length : Int) by omega), hkn]
          refine cF rfl (bI (a := (decide (cAt C j ∈ C.take j) || !(cAt C j).all okBit)) ?_ rfl)
          cases hm : decide (cAt C j ∈ C.take j) with
          | true => rfl
          | false => exact cF rfl (gI (sml (by omega)) (bI hfm (congrArg some hbn)))
        · rw [dF hl, dF (show ¬ ((cAt C j).length : Int) = ((cAt C 0).length : Int) by omega)]; rfl
      refine ⟨fun hz => ?_, fun hz => ?_⟩
      · refine cF (dF (by omega)) (bI (Ty.atI_nat ec) (bI e0 (hbv ?_)))
        rw [hz]
        exact cT rfl (gI hx_ok rfl)
      · refine ⟨_, cF (dF (by omega)) (bI (Ty.atI_nat ec) (bI e0 (hbv (Z := some (.next (dput kn (cAt C j) true))) ?_))), ?_, fun q => ?_⟩
        · rw [hz]
          exact cF rfl (gI (line_lt (by have := hj.1; omega)) rfl)
        · have := dput_len kn (cAt C j) true
          have := hj.1
          omega
        · rw [dget_put, List.take_succ, ec]
          by_cases e : q = cAt C j
          · subst e; simp
          · rw [if_neg e, hj.2 q]; simp [e]
  · rw [rangeL_len, Int.toNat_natCast] at hj
    rw [hj]
  · rw [rangeL_len, Int.toNat_natCast] at hf
    rw [hf]
theorem fault_eq {C : List (List Int)} {n : Nat} (h1 : n ≤ 1000) (h2 : C.length ≤ 1000) (h3 : ∀ c ∈ C, c.length ≤ 1000) : m__law_fault (n : Int) C = some (match fst1 (badC n C) (mx n C) with | some s => (s : Int) | none => -1) := by
  have emx : (if (C.length : Int) > (n : Int) then (C.length : Int) else (n : Int)) = ((mx n C : Nat) : Int) := by
    unfold mx; split <;> omega
  have hmx : mx n C ≤ 1000 := by unfold mx; omega
  unfold m__law_fault
  rw [emx]
  refine gI ⟨by omega, by omega⟩ ?_
  refine flKF (badC n C) (fun s => (s : Int)) (fun j (_ : Unit) => True) trivial (fun j x kn hx hb hj => ?_) (fun j hj => ?_) (fun kn hf _ => ?_)
  · obtain ⟨rfl, hjl⟩ := rangeL_at hx
    rw [Int.zero_add]
    have hjm : j < mx n C := by omega
    by_cases hs : n ≤ j ∨ C.length ≤ j
    · have hbt : badC n C j = true := by
        unfold badC
        rcases hs with h | h
        · rw [dT h]; rfl
        · rw [dT h]; simp
      refine ⟨fun _ => cT ?_ rfl, fun z => ?_⟩
      · rcases hs with h | h
        · rw [dT (show (n : Int) ≤ (j : Int) by omega)]; rfl
        · rw [dT (show (C.length : Int) ≤ (j : Int) by omega)]; simp
      · rw [hbt] at z; cases z
    · have hjC : j < C.length := by omega
      have h0C : 0 < C.length := by omega
      have ec : C[j]? = some (cAt C j) := by unfold cAt; rw [List.getElem?_eq_getElem hjC]; rfl
      have e0 : atI C (0 : Int) = some (cAt C 0) := by rw [atI_pos (by decide)]; unfold cAt; show C[0]? = _; rw [List.getElem?_eq_getElem h0C]; rfl
      have hcl := h3 _ (List.mem_of_getElem? ec)
      have hhead : (decide ((n : Int) ≤ (j : Int)) || decide ((C.length : Int) ≤ (j : Int))) = false := by
        rw [dF (show ¬ (n : Int) ≤ (j : Int) by omega), dF (show ¬ (C.length : Int) ≤ (j : Int) by omega)]; rfl
      have hbe : badC n C j = ((!decide ((cAt C j).length = (cAt C 0).length)) || (decide (cAt C j ∈ C.take j) || !(cAt C j).all okBit)) := by
        unfold badC
        rw [dF (show ¬ n ≤ j by omega), dF (show ¬ C.length ≤ j by omega)]; rfl
      have hfm : fmO (cAt C j) (fun bit_356 => (bif (!decide (bit_356 ∈ [(0 : Int), (1 : Int)])) then (some (some bit_356)) else some none)) = some (((cAt C j).filter fun x => !decide (x ∈ [(0 : Int), (1 : Int)])).map id) := fmO_fm fun x _ => by cases (!decide (x ∈ [(0 : Int), (1 : Int)])) <;> rfl
      have hbn := bits_ne (c := cAt C j) (q := fun x => !decide (x ∈ [(0 : Int), (1 : Int)])) fun x _ => by
        refine congrArg (fun b => !b) ?_
        unfold okBit
        rw [Bool.eq_iff_iff]
        simp
      have hmem : memD (cAt C j) (cutL C none (some (j : Int))) = decide (cAt C j ∈ C.take j) := by
        rw [cutL_all (by omega), Int.toNat_natCast]
        unfold memD
        rw [Bool.eq_iff_iff]
        simp
      have hbv : ∀ {Z : Option (Fl Int Unit)} {K : Bool → Option (Fl Int Unit)}, K ((!decide ((cAt C j).length = (cAt C 0).length)) || !(cAt C j).all okBit) = Z → ((bif (!decide (((cAt C j).length : Int) = ((cAt C 0).length : Int))) then some true else ((atI C (j : Int)).bind fun v_352 => guardO ((v_352).length ≤ sizeLine) ((fmO v_352 fun bit_356 => (bif (!decide (bit_356 ∈ [(0 : Int), (1 : Int)])) then (some (some bit_356)) else some none)).bind fun ys_354 => some (!decide (ys_354 = ([] : List (Int))))))).bind fun b_358 => K b_358) = Z := fun {Z K} hk => by
        refine bI (a := ((!decide ((cAt C j).length = (cAt C 0).length)) || !(cAt C j).all okBit)) ?_ hk
        by_cases hl : (cAt C j).length = (cAt C 0).length
        · rw [dT hl, Bool.not_true, Bool.false_or, dT (show ((cAt C j).length : Int) = ((cAt C 0).length : Int) by omega)]
          exact cF rfl (bI (Ty.atI_nat ec) (gI (sml (by omega)) (bI hfm (congrArg some hbn))))
        · rw [dF hl, dF (show ¬ ((cAt C j).length : Int) = ((cAt C 0).length : Int) by omega)]; rfl
      rw [hbe]
      cases hA : ((!decide ((cAt C j).length = (cAt C 0).length)) || !(cAt C j).all okBit) with
      | true =>
        have hall : ((!decide ((cAt C j).length = (cAt C 0).length)) || (decide (cAt C j ∈ C.take j) || !(cAt C j).all okBit)) = true := by
          rcases Bool.or_eq_true_iff.mp hA with z | z <;> rw [z] <;> simp
        refine ⟨fun _ => cF hhead (bI (Ty.atI_nat ec) (bI e0 (hbv ?_))), fun z => ?_⟩
        · rw [hA]; rfl
        · rw [hall] at z; cases z
      | false =>
        obtain ⟨z1, z2⟩ := Bool.or_eq_false_iff.mp hA
        rw [z1, z2, Bool.false_or, Bool.or_false]
        refine ⟨fun hz => cF hhead (bI (Ty.atI_nat ec) (bI e0 (hbv ?_))), fun hz => ⟨(), cF hhead (bI (Ty.atI_nat ec) (bI e0 (hbv ?_))), trivial⟩⟩
        · rw [hA]
          exact cF rfl (bI (Ty.atI_nat ec) (cT (by rw [hmem]; exact hz) rfl))
        · rw [hA]
          exact cF rfl (bI (Ty.atI_nat ec) (cF (by rw [hmem]; exact hz) rfl))
  · rw [rangeL_len, Int.toNat_natCast] at hj
    rw [hj]
  · rw [rangeL_len, Int.toNat_natCast] at hf
    rw [hf]
/-- codes without fault -/
theorem codes_good {C : List (List Int)} {n : Nat} (hn : 1 ≤ n) (hf : fst1 (badC n C) (mx n C) = none) : ∃ w cb, Cd n w C cb ∧ (cAt C 0).length = w := by
  have hf := fst1_none.mp hf
  have hlen : C.length = n := by
    unfold mx at hf
    by_cases h : C.length < n
    · exfalso
      have := hf C.length (by omega)
      unfold badC at this
      rw [dT (Nat.le_refl C.length)] at this
      simp at this
    · by_cases h2 : n < C.length
      · exfalso
        have := hf n (by omega)
        unfold badC at this
        rw [dT (Nat.le_refl n)] at this
        simp at this
      · omega
  have hall : ∀ s, s < n → C[s]? = some (cAt C s) ∧ (cAt C s).length = (cAt C 0).length ∧ cAt C s ∉ C.take s ∧ ∀ b ∈ cAt C s, b = 0 ∨ b = 1 := fun s hs => by
    have hb := hf s (by unfold mx; omega)
    unfold badC at hb
    simp only [Bool.or_eq_false_iff, Bool.not_eq_false', decide_eq_true_eq, decide_eq_false_iff_not, List.all_eq_true] at hb
    refine ⟨by unfold cAt; rw [List.getElem?_eq_getElem (by omega)]; rfl, hb.2.1, hb.2.2.1, fun b hbm => ?_⟩
    have := hb.2.2.2 b hbm
    unfold okBit at this
    simpa using this
  have hcode : ∀ s, s < n → cAt C s = codeL (cAt C 0).length (fun j => decide ((cAt C s)[j]? = some 1)) := fun s hs => by
    obtain ⟨_, h2, _, h4⟩ := hall s hs
    refine List.ext_getElem? fun j => ?_
    by_cases hj : j < (cAt C 0).length
    · rw [codeL_at hj]
      have e : (cAt C s)[j]? = some ((cAt C s)[j]'(by omega)) := List.getElem?_eq_getElem (by omega)
      have hb := h4 _ (List.getElem_mem (l := cAt C s) (n := j) (by omega))
      rw [e]
      rcases hb with hb | hb
      · rw [hb]; rfl
      · rw [hb]; rfl
    · rw [List.getElem?_eq_none (by omega), List.getElem?_eq_none (by rw [codeL_len]; omega)]
  refine ⟨(cAt C 0).length, fun s j => decide ((cAt C s)[j]? = some 1), ⟨hlen, fun s hs => by rw [(hall s hs).1]; exact congrArg some (hcode s hs), fun s t hs ht hj => ?_⟩, rfl⟩
  have hst : cAt C s = cAt C t := by
    rw [hcode s hs, hcode t ht]
    unfold codeL
    exact List.map_congr_left fun j hjm => congrArg Ty.bi (hj j (List.mem_range.mp hjm))
  have key : ∀ a b, a < b → b < n → cAt C a ≠ cAt C b := fun a b hab hb e => by
    refine (hall b hb).2.2.1 ?_
    rw [← e]
    refine List.mem_of_getElem? (i := a) ?_
    rw [List.getElem?_take, if_pos hab]
    exact (hall a (by omega)).1
  by_cases h : s < t
  · exact absurd hst (key s t h ht)
  · by_cases h2 : t < s
    · exact absurd hst.symm (key t s h2 hs)
    · omega
end K68

/-! K68X -/
namespace K68
open PySem PySem.Spec L2 Ty Sv
/-! ### what is drawn -/
theorem cell_ok (sc : List Int) {k : Int} (h : 0 ≤ k) : ∃ v, m__law_cell sc k = some v := by
  obtain ⟨v, e, _⟩ : Tot (m__law_cell sc k) fun _ => True := by
    unfold m__law_cell
    refine tB (R := fun b => b = true → k < (sc.length : Int)) (tD (fun hk => tAt h hk fun v _ => tR fun _ => hk) (fun _ => tR fun z => nomatch z)) fun b hb => tC (fun hz => tAt h (hb hz) fun v _ => tR trivial) (fun _ => tL (tB (R := fun _ => True) (tD (fun h => tG h (tAt (Int.emod_nonneg _ (by omega)) (Int.emod_lt_of_pos _ h) fun v _ => tL (tR trivial))) (fun _ => tR trivial)) fun c _ => tL (tR trivial)))
  exact ⟨v, e⟩
theorem pw (k : Nat) : (1 : Int) * 2 ^ ((k : Int)).toNat = ((2 ^ k : Nat) : Int) := by rw [Int.toNat_natCast, Int.one_mul]; simp
theorem moves_ok {sc : List Int} {i o n : Nat} (hi : i ≤ 6) (ho : o ≤ 6) (hn : 1 ≤ n ∧ n ≤ 100) : Tot (m__law_moves sc 4 (i : Int) (o : Int) (n : Int)) fun M => MvOk M n (2 ^ i) o := by
  have hp : 2 ^ i ≤ 2 ^ 6 := Nat.pow_le_pow_right (by decide) hi
  have hp1 : 1 ≤ 2 ^ i := Nat.one_le_two_pow
  have hq : 1 ≤ 2 ^ o := Nat.one_le_two_pow
  have hq2 : 2 ^ o ≤ 2 ^ 6 := Nat.pow_le_pow_right (by decide) ho
  refine Tot.imp (Q := fun (M : List (List (Int × Int))) => M.length = n ∧ ∀ (s : Nat) (e : List (Int × Int)), M[s]? = some e → e.length = 2 ^ i ∧ ∀ v ∈ e, (0 ≤ v.1 ∧ v.1 < (n : Int)) ∧ 0 ≤ v.2 ∧ v.2 < ((2 ^ o : Nat) : Int)) ?_ ?_
  · unfold m__law_moves
    rw [pw, pw]
    refine tG ⟨by omega, by omega⟩ (tForR (fun k (M : List (List (Int × Int))) => (M.length : Int) = k ∧ ∀ (s : Nat) (e : List (Int × Int)), M[s]? = some e → e.length = 2 ^ i ∧ ∀ v ∈ e, (0 ≤ v.1 ∧ v.1 < (n : Int)) ∧ 0 ≤ v.2 ∧ v.2 < ((2 ^ o : Nat) : Int)) (by omega) ⟨rfl, fun s e h => by simp at h⟩ ?_ ?_)
    · rintro k M hk1 hk2 ⟨h1, h2⟩
      refine tG ⟨by omega, by omega⟩ (tG ⟨by omega, by omega⟩ (tForR (fun r (e : List (Int × Int)) => (e.length : Int) = r ∧ ∀ v ∈ e, (0 ≤ v.1 ∧ v.1 < (n : Int)) ∧ 0 ≤ v.2 ∧ v.2 < ((2 ^ o : Nat) : Int)) (by omega) ⟨rfl, fun v h => nomatch h⟩ ?_ ?_))
      · rintro r e hr1 hr2 ⟨e1, e2⟩
        obtain ⟨c, hc⟩ := cell_ok sc (k := 4 + k) (by omega)
        refine tE hc (tG ⟨by omega, by omega⟩ (tLe fun cell _ => tG (by omega) (tG ⟨by omega, by omega⟩ (tG (by omega) (tG (line_lt (by omega)) (tR ⟨?_, fun v hv => ?_⟩))))))
        · rw [List.length_append]; show ((e.length + 1 : Nat) : Int) = r + 1; omega
        · rcases List.mem_append.mp hv with hv | hv
          · exact e2 v hv
          · rw [List.mem_singleton.mp hv]
            exact ⟨⟨Int.emod_nonneg _ (by omega), Int.emod_lt_of_pos _ (by omega)⟩, Int.emod_nonneg _ (by omega), Int.emod_lt_of_pos _ (by omega)⟩
      · rintro e ⟨e1, e2⟩
        refine tG (line_lt (by omega)) (tR ⟨?_, fun s e' hs => ?_⟩)
        · rw [List.length_append]; show ((M.length + 1 : Nat) : Int) = k + 1; omega
        · rcases snoc_at hs with ⟨_, hs⟩ | ⟨_, rfl⟩
          · exact h2 s e' hs
          · exact ⟨by omega, e2⟩
    · rintro M ⟨h1, h2⟩
      exact tR ⟨by omega, h2⟩
  · rintro M ⟨h1, h2⟩
    have hrow : ∀ s, s < n → M[s]? = some (rw_ M s) := fun s hs => by unfold rw_; rw [List.getElem?_eq_getElem (by omega)]; rfl
    refine ⟨h1, fun s hs => ⟨hrow s hs, (h2 s _ (hrow s hs)).1⟩, fun s r hs hr => ?_⟩
    obtain ⟨a, b⟩ := h2 s _ (hrow s hs)
    have e : (rw_ M s)[r]? = some ((rw_ M s)[r]'(by omega)) := List.getElem?_eq_getElem (by omega)
    have hb := b _ (List.getElem_mem (l := rw_ M s) (n := r) (by omega))
    have e1 : ((nx M s r : Nat) : Int) = ((rw_ M s)[r]'(by omega)).1 := by unfold nx; rw [e]; simp; omega
    have e2 : ((an M s r : Nat) : Int) = ((rw_ M s)[r]'(by omega)).2 := by unfold an; rw [e]; simp; omega
    refine ⟨?_, by omega, by omega⟩
    rw [e1, e2, e]
theorem machine_ok {M : List (List (Int × Int))} {i o n : Nat} (hi : i ≤ 6) (ho : o ≤ 32) (hn : 1 ≤ n ∧ n ≤ 100) (h : MvOk M n (2 ^ i) o) : m_Machine_init (i : Int) (o : Int) M = some (.ok (⟨(i : Int), (o : Int), M⟩, ())) := by
  have hp : 2 ^ i ≤ 2 ^ 6 := Nat.pow_le_pow_right (by decide) hi
  have hl := h.len
  refine Tot.eq ?_
  unfold m_Machine_init
  refine tC (fun hz => ?_) (fun _ => tD (fun hz => absurd hz (by omega)) (fun _ => tG ⟨by omega, by omega⟩ ?_))
  · exfalso
    simp only [Bool.or_eq_true, Bool.not_eq_true', Bool.and_eq_false_iff, decide_eq_false_iff_not] at hz
    omega
  · rw [pw]
    refine tL (tForX (fun _ _ => True) trivial (fun j x _ hx _ => ?_) (fun _ _ => tG (sml (by omega)) (tFm (g := id) (fun e _ => rfl) (tR (by rw [List.map_id])))))
    obtain ⟨e, he, rfl⟩ := enum_at hx
    have hjn : j < n := by rw [← hl]; exact (List.getElem?_eq_some_iff.mp he).1
    have hee : e = rw_ M j := by rw [(h.at_ j hjn).1] at he; exact (Option.some.inj he).symm
    have hel : e.length = 2 ^ i := by rw [hee]; exact (h.at_ j hjn).2
    dsimp only
    have ema : (if (e.length : Int) > ((2 ^ i : Nat) : Int) then (e.length : Int) else ((2 ^ i : Nat) : Int)) = ((2 ^ i : Nat) : Int) := by rw [hel]; split <;> rfl
    have emi : (if (e.length : Int) < ((2 ^ i : Nat) : Int) then (e.length : Int) else ((2 ^ i : Nat) : Int)) = ((2 ^ i : Nat) : Int) := by rw [hel]; split <;> rfl
    refine tD (fun hz => absurd hz (by omega)) (fun _ => ?_)
    rw [ema, emi]
    refine tG ⟨by omega, by omega⟩ (tForX (fun _ _ => True) trivial (fun r y _ hy _ => ?_) (fun _ _ => tR trivial))
    obtain ⟨rfl, hr⟩ := rangeL_at hy
    have hrn : r < 2 ^ i := by omega
    have hent := h.ent j r hjn hrn
    rw [← hee] at hent
    rw [Int.zero_add]
    refine tB (R := fun b => b = false) (tD (fun hz => absurd hz (by omega)) (fun _ => tE (Ty.atI_nat hent.1) (tE (a := true) ?_ (tR rfl)))) ?_
    · unfold m_is_move
      refine bI (a := true) (cT ?_ (bI (a := true) (cT (dT (by dsimp only; omega)) (gI ⟨by omega, by omega⟩ (congrArg some (dT ?_)))) rfl)) rfl
      · rw [dT (show (0 : Int) ≤ ((nx M j r : Nat) : Int) by omega), dT (show ((nx M j r : Nat) : Int) < (M.length : Int) by omega)]; rfl
      · rw [pw]; dsimp only; omega
    · rintro b rfl
      exact tC (fun z => nomatch z) (fun _ => tR trivial)
/-- how many bits there must be -/
def wS (n : Nat) : Int := ((rangeL 0 (12 : Int)).map fun k => if decide (((1 : Int) * 2 ^ (k).toNat) < (n : Int)) then (1 : Int) else 0).sum
theorem wS_le : ∀ n : Fin 41, (0 ≤ wS n.val ∧ wS n.val ≤ 6) ∧ (n.val ≤ 24 → wS n.val ≤ 5) ∧ (n.val ≤ 8 → wS n.val ≤ 3) ∧ (n.val ≤ 2 → wS n.val ≤ 1) := by decide +kernel
/-- codes, most of them of w signs -/
structure Cw (w k L : Nat) (C : List (List Int)) : Prop where
  len : C.length ≤ L
  ew : ∀ c ∈ C, c.length ≤ w + k
  cnt : C.countP (fun c => !decide (c.length = w)) ≤ k
theorem codes_ok {cell : Int} {n : Nat} (hn : 1 ≤ n ∧ n ≤ 40) : ∃ w : Nat, (w : Int) ≤ wS n + 3 ∧ Tot (m__law_codes cell (n : Int)) (Cw w 0 40) := by
  obtain ⟨⟨w0, w1⟩, _⟩ := wS_le ⟨n, by omega⟩
  dsimp only at w0 w1
  have hm0 := Int.emod_nonneg cell (b := 4) (by decide)
  have hm1 := Int.emod_lt_of_pos cell (b := 4) (by decide)
  refine ⟨(wS n + cell % 4).toNat, by omega, ?_⟩
  unfold m__law_codes
  refine tG ⟨by decide, by decide⟩ (tG (line_le (by rw [rangeL_len]; decide)) (tFm (g := fun k => if decide (((1 : Int) * 2 ^ (k).toNat) < (n : Int)) then (1 : Int) else 0) (fun k hk => by have := mem_rangeL hk; exact gI ⟨by omega, by omega⟩ rfl) (tLe fun w ew => tLe fun st _ => tG ⟨by omega, by omega⟩ (tG (sml (by rw [rangeL_len]; omega)) ?_))))
  have ew : w = ((wS n + cell % 4).toNat : Int) := by
    have : w = wS n + cell % 4 := ew
    omega
  have hwn : (wS n + cell % 4).toNat ≤ 9 := by omega
  generalize (wS n + cell % 4).toNat = wn at *
  subst ew
  rw [pw]
  have hp : 1 ≤ 2 ^ wn := Nat.one_le_two_pow
  have hp2 : 2 ^ wn ≤ 2 ^ 9 := Nat.pow_le_pow_right (by decide) hwn
  refine tB (R := fun ys : List (List Int) => ys.length = n ∧ ∀ c ∈ ys, c.length = wn) ?_ ?_
  · have : ∃ ys, fmO (rangeL 0 (n : Int)) (fun s_60 => (guardO ((-(2 ^ 64) < st ∧ st < 2 ^ 64) ∨ (-(2 ^ 64) < s_60 ∧ s_60 < 2 ^ 64)) (guardO (0 ≤ (wn : Int) ∧ (wn : Int) ≤ 1000000) (guardO (0 < (((2 ^ wn : Nat)) : Int)) ((m__law_row (wn : Int) (((st * s_60) + (cell / (64 : Int))) % (((2 ^ wn : Nat)) : Int))).bind fun r_64 => some (some r_64)))))) = some ys ∧ ys.length = (rangeL 0 (n : Int)).length ∧ ∀ (j : Nat) v, ys[j]? = some v → (fun (_ : Nat) (c : List Int) => c.length = wn) j v := by
      refine fmX fun j x hx => ?_
      obtain ⟨rfl, hj⟩ := rangeL_at hx
      have hz : (0 : Int) ≤ (st * (0 + (j : Int)) + cell / 64) % ((2 ^ wn : Nat) : Int) := Int.emod_nonneg _ (by omega)
      obtain ⟨rv, erv⟩ := Int.eq_ofNat_of_zero_le hz
      refine ⟨(rowB wn rv).map Ty.bi, gI (.inr ⟨Int.lt_of_lt_of_le (show -(2 ^ 64 : Int) < 0 by decide) (by omega), Int.lt_of_le_of_lt (show (0 : Int) + (j : Int) ≤ 100 by omega) (by decide)⟩) (gI ⟨by omega, by omega⟩ (gI (by omega) ?_)), by unfold rowB; simp⟩
      rw [erv]
      exact bI (row_ok (by omega)) rfl
    obtain ⟨ys, e, h1, h2⟩ := this
    rw [rangeL_len] at h1
    refine ⟨ys, e, by omega, fun c hc => ?_⟩
    obtain ⟨j, hj⟩ := List.getElem?_of_mem hc
    exact h2 j c hj
  · rintro ys ⟨h1, h2⟩
    refine tR ⟨by omega, fun c hc => by rw [h2 c hc]; omega, ?_⟩
    rw [List.countP_eq_zero.mpr fun c hc => by rw [h2 c hc, dT rfl]; decide]
    exact Nat.le_refl _
theorem countP_set {α : Type} {p : α → Bool} : ∀ (xs : List α) (i : Nat) (u : α), (xs.set i u).countP p ≤ xs.countP p + 1
  | [], _, _ => by simp
  | x :: xs, 0, u => by
    simp only [List.set_cons_zero, List.countP_cons]
    cases p u <;> cases p x <;> simp <;> omega
  | x :: xs, i + 1, u => by
    have := countP_set (p := p) xs i u
    simp only [List.set_cons_succ, List.countP_cons]
    omega
theorem countP_erase {α : Type} {p : α → Bool} (xs : List α) (i : Nat) : (xs.eraseIdx i).countP p ≤ xs.countP p := (List.eraseIdx_sublist xs i).countP_le
theorem Cw.set {w k L : Nat} {C : List (List Int)} {i : Nat} {u : List Int} (h : Cw w k L C) (hu : u.length ≤ w + k + 1) : Cw w (k + 1) L (C.set i u) := by
  refine ⟨by rw [List.length_set]; exact h.len, fun c hc => ?_, Nat.le_trans (countP_set _ _ _) (by have := h.cnt; omega)⟩
  rcases List.mem_or_eq_of_mem_set hc with hc | rfl
  · have := h.ew c hc; omega
  · omega
theorem Cw.up {w k L : Nat} {C : List (List Int)} (h : Cw w k L C) : Cw w (k + 1) L C := ⟨h.len, fun c hc => by have := h.ew c hc; omega, by have := h.cnt; omega⟩
theorem spoilt_ok {cell : Int} {w k L : Nat} {C : List (List Int)} (h : Cw w k L C) (hw : w + k ≤ 100) (hL : L ≤ 100) : Tot (m__law_spoilt cell C) (Cw w (k + 1) (L + 1)) := by
  have hlen := h.len
  have up1 : ∀ {D : List (List Int)}, Cw w (k + 1) L D → Cw w (k + 1) (L + 1) D := fun h => ⟨by have := h.len; omega, h.ew, h.cnt⟩
  unfold m__law_spoilt
  refine tLe fun kind ek => tLe fun c2 _ => tG (sml (by omega)) (tFm (g := id) (fun c _ => rfl) ?_)
  rw [List.map_id]
  refine tC (fun hz => ?_) (fun hz => ?_)
  · refine tB (R := fun v : Int => 0 ≤ v ∧ v ≤ w + k + 1) (tC (fun hc => ?_) (fun _ => tR (by omega))) fun v hv => tG ⟨by omega, by omega⟩ (tG (sml (by rw [rangeL_len]; omega)) (tFm (g := fun kk : Int => (c2 / 2 ^ kk.toNat) % (2 : Int)) (fun kk hk => gI (mem_rangeL hk).1 rfl) (tG (sml (by show _ + 1 ≤ _; omega)) (tR ?_))))
    · have hne : 0 < C.length := List.length_pos_iff.mpr (fun z => by rw [z] at hc; cases hc)
      refine tAt (by decide) (by omega) fun c hcm => tR ?_
      have := h.ew c (mem_of_atI hcm)
      omega
    · refine ⟨by rw [List.length_append]; show C.length + 1 ≤ _; omega, fun c hc => ?_, ?_⟩
      · rcases List.mem_append.mp hc with hc | hc
        · have := h.ew c hc; omega
        · rw [List.mem_singleton.mp hc, List.length_map, rangeL_len]; omega
      · rw [List.countP_append]
        have := h.cnt
        have : ([(rangeL 0 v).map fun kk : Int => (c2 / 2 ^ kk.toNat) % (2 : Int)]).countP (fun c => !decide (c.length = w)) ≤ 1 := List.countP_le_length
        omega
  · obtain ⟨z1, z2⟩ := Bool.or_eq_false_iff.mp hz
    have hne : 0 < C.length := List.length_pos_iff.mpr (of_decide_eq_false z1)
    refine tG (by omega) (tLe fun pl epl => tLe fun c3 _ => ?_)
    have p0 : 0 ≤ pl := by rw [epl]; exact Int.emod_nonneg _ (by omega)
    have p1 : pl < C.length := by rw [epl]; exact Int.emod_lt_of_pos _ (by omega)
    clear epl
    have hix : ∀ {D : List (List Int)}, D.length = C.length → ixN D.length pl = some pl.toNat := fun e => by rw [e]; exact ixN_of p0 p1
    have key : ∀ {D : List (List Int)} {u : List Int}, D = C → u.length ≤ w + k + 1 → Cw w (k + 1) L (D.set pl.toNat u) := fun e hu => by rw [e]; exact h.set hu
    -- one of the kinds
    by_cases k1 : kind = 1
    · refine tE (a := C.eraseIdx pl.toNat) (cT (dT k1) (bI (hix rfl) (gI (Nat.lt_of_le_of_lt (show C.length ≤ 100 by omega) (by decide)) rfl))) ?_
      refine tE (cF (dF (by omega)) rfl) (tE (a := false) (cF (dF (by omega)) rfl) (tE (cF rfl rfl) (tE (a := false) (cF (dF (by omega)) rfl) (tE (cF rfl rfl) (tE (cF (dF (by omega)) rfl) (tR ?_))))))
      refine ⟨?_, fun c hc => ?_, ?_⟩
      · have := (List.eraseIdx_sublist C pl.toNat).length_le; omega
      · have := h.ew c ((List.eraseIdx_sublist C pl.toNat).mem hc); omega
      · have := countP_erase (p := fun c => !decide (c.length = w)) C pl.toNat
        have := h.cnt
        omega
    · refine tE (a := C) (cF (dF k1) rfl) ?_
      obtain ⟨u, hu⟩ := atI_ex p0 p1
      have hul := h.ew u (mem_of_atI hu)
      have hug : C[pl.toNat]? = some u := by rw [← atI_pos p0]; exact hu
      by_cases k2 : kind = 2
      · refine tE (a := C.set pl.toNat (u ++ [c3 % 2])) (cT (dT k2) (bI hu (gI (sml (by show _ + 1 ≤ _; omega)) (bI (hix rfl) rfl)))) ?_
        refine tE (a := false) (cF (dF (by omega)) rfl) (tE (cF rfl rfl) (tE (a := false) (cF (dF (by omega)) rfl) (tE (cF rfl rfl) (tE (cF (dF (by omega)) rfl) (tR (up1 (key rfl ?_)))))))
        rw [List.length_append]; show u.length + 1 ≤ _; omega
      · refine tE (a := C) (cF (dF k2) rfl) ?_
        by_cases k3 : kind = 3
        · refine tE (a := decide ((0 : Int) < (u.length : Int))) (cT (dT k3) (bI hu rfl)) ?_
          refine tB (R := Cw w (k + 1) L) (tC (fun hq => ?_) (fun _ => tR h.up)) fun D hD => ?_
          · have hq := of_decide_eq_true hq
            have hne2 : u ≠ [] := fun z => by rw [z] at hq; simp at hq
            obtain ⟨lv, hlv⟩ : ∃ v, u.getLast? = some v := by
              cases hgl : u.getLast? with
              | none => exact absurd (List.getLast?_eq_none_iff.mp hgl) hne2
              | some v => exact ⟨v, rfl⟩
            refine tE (hix rfl) (tE hug (tE hlv (tR (key rfl ?_))))
            rw [List.length_dropLast]; omega
          · exact tE (a := false) (cF (dF (by omega)) rfl) (tE (cF rfl rfl) (tE (cF (dF (by omega)) rfl) (tR (up1 hD))))
        · refine tE (a := false) (cF (dF k3) rfl) (tE (cF rfl rfl) ?_)
          by_cases k4 : kind = 4
          · refine tE (a := decide ((0 : Int) < (u.length : Int))) (cT (dT k4) (bI hu rfl)) ?_
            refine tB (R := Cw w (k + 1) L) (tC (fun hq => ?_) (fun _ => tR h.up)) fun D hD => ?_
            · have hq := of_decide_eq_true hq
              refine tAt (by omega) (by show _ < (3 : Int); omega) fun y _ => tE hu (tG (by omega) (tE (hix rfl) (tE hug (tSet (Int.emod_nonneg _ (by omega)) (Int.emod_lt_of_pos _ (by omega)) (tR (key rfl ?_))))))
              rw [List.length_set]; omega
            · exact tE (cF (dF (by omega)) rfl) (tR (up1 hD))
          · refine tE (a := false) (cF (dF k4) rfl) (tE (cF rfl rfl) (tB (R := Cw w (k + 1) L) (tD (fun hq => tG (by omega) (tAt (Int.emod_nonneg _ (by omega)) (Int.emod_lt_of_pos _ (by omega)) fun y hy => tE (hix rfl) (tR (key rfl ?_)))) (fun _ => tR h.up)) fun D hD => tR (up1 hD)))
            have := h.ew y (mem_of_atI hy); omega
end K68

/-! K68Y -/
namespace K68
open PySem PySem.Spec L2 Ty Sv
def codeB (w : Nat) (c : Nat → Bool) : List Bool := (List.range w).map c
theorem codeL_B (w : Nat) (c : Nat → Bool) : codeL w c = (codeB w c).map Ty.bi := by unfold codeL codeB; rw [List.map_map]; rfl
theorem row_base {i w : Nat} {R : Nat} {c : Nat → Bool} : Row i w (baseB (rowB i R) (codeB w c)) R c := by
  have h1 : (rowB i R).length = i := by unfold rowB; simp
  have h2 : (codeB w c).length = w := by unfold codeB; simp
  refine ⟨⟨by simp [baseB, h1, h2], rfl⟩, fun j hj => ?_, fun j hj => ?_⟩
  · show ([false] ++ rowB i R ++ codeB w c)[1 + j]? = _
    rw [List.getElem?_append_left (by simp [h1]; omega), List.getElem?_append_right (by simp)]
    unfold rowB
    rw [show 1 + j - [false].length = j by simp, List.getElem?_map, List.getElem?_range hj]; rfl
  · show ([false] ++ rowB i R ++ codeB w c)[1 + i + j]? = _
    rw [List.getElem?_append_right (by simp [h1]; omega)]
    unfold codeB
    rw [show 1 + i + j - ([false] ++ rowB i R).length = j by simp [h1]; omega, List.getElem?_map, List.getElem?_range hj]; rfl
theorem right_ok {i w o n : Nat} {M : List (List (Int × Int))} {C : List (List Int)} {cb : Nat → Nat → Bool} {I L O : List Str} {c : S_Circuit} (hi : i ≤ 4) (hw : w ≤ 18) (ho : o ≤ 32) (hn : 1 ≤ n ∧ n ≤ 1000) (hC : Cd n w C cb) (hM : MvOk M n (2 ^ i) o) (hI : I.length = i) (hL : L.length = w) (hO : O.length = o) (h : Told i w o n M cb I L O c) : m__law_right (c.inputs, c.latches, c.ands, c.outputs) M C (i : Int) (o : Int) = some true := by
  have hp : 2 ^ i ≤ 2 ^ 4 := Nat.pow_le_pow_right (by decide) hi
  have hp1 : 1 ≤ 2 ^ i := Nat.one_le_two_pow
  have hMl := hM.len
  have hil : c.inputs.length = i := by rw [h.i]; exact hI
  have hll : c.latches.length = w := by rw [← hL, ← h.l, List.length_map]
  have hol : c.outputs.length = o := by rw [← hO, ← h.o_, List.length_map]
  obtain ⟨bb, hb, h1, h2⟩ := h.b
  refine Tot.eq ?_
  unfold m__law_right
  rw [pw]
  refine tG ⟨by omega, by omega⟩ (tForX (fun _ _ => True) trivial (fun s x _ hx _ => ?_) (fun _ _ => tR rfl))
  obtain ⟨rfl, hs⟩ := rangeL_at hx
  have hsn : s < n := by omega
  refine tG ⟨by omega, by omega⟩ (tG ⟨by omega, by omega⟩ (tForX (fun _ _ => True) trivial (fun R y _ hy _ => ?_) (fun _ _ => tR trivial)))
  obtain ⟨rfl, hR⟩ := rangeL_at hy
  have hRn : R < 2 ^ i := by omega
  rw [Int.zero_add, Int.zero_add]
  obtain ⟨e1, e2, e3⟩ := hM.ent s R hsn hRn
  refine tE (Ty.atI_nat (hM.at_ s hsn).1) (tE (Ty.atI_nat e1) ?_)
  refine tE (row_ok (by omega)) ?_
  refine tE (Ty.atI_nat (hC.at_ _ e2)) (tLe fun due hdue => ?_)
  refine tE (Ty.atI_nat (hC.at_ s hsn)) ?_
  refine tE (row_ok (by omega)) ?_
  have hrl : (rowB i R).length = i := by unfold rowB; simp
  have hcl : (codeB w (cb s)).length = w := by unfold codeB; simp
  rw [codeL_B w (cb s)]
  refine tE (step_ok (P := (c.inputs, c.latches, c.ands, c.outputs)) h.ok (row := rowB i R) (s := codeB w (cb s)) (by rw [hrl]; exact hil.symm) (by rw [hcl]; exact hll.symm)) ?_
  have hrow := row_base (i := i) (w := w) (R := R) (c := cb s)
  have eo : outB (c.inputs, c.latches, c.ands, c.outputs) (rowB i R) (codeB w (cb s)) = rowB o (an M s R) := by
    unfold outB rowB
    refine List.ext_getElem? fun m => ?_
    rw [List.getElem?_map, List.getElem?_map]
    cases hm : c.outputs[m]? with
    | none =>
      have := List.getElem?_eq_none_iff.mp hm
      rw [List.getElem?_eq_none (by simp; omega)]; rfl
    | some x =>
      have hmo : m < o := by rw [← hol]; exact (List.getElem?_eq_some_iff.mp hm).1
      rw [List.getElem?_range hmo]
      have := (h2 m x hm).2 s hsn _ R hRn hrow
      unfold va at this
      rw [hb] at this
      exact congrArg some this
  have el : latB (c.inputs, c.latches, c.ands, c.outputs) (rowB i R) (codeB w (cb s)) = codeB w (cb (nx M s R)) := by
    unfold latB
    refine List.ext_getElem? fun m => ?_
    rw [List.getElem?_map]
    cases hm : c.latches[m]? with
    | none =>
      have := List.getElem?_eq_none_iff.mp hm
      unfold codeB
      rw [List.getElem?_eq_none (by simp; omega)]; rfl
    | some x =>
      have hmo : m < w := by rw [← hll]; exact (List.getElem?_eq_some_iff.mp hm).1
      unfold codeB
      rw [List.getElem?_map, List.getElem?_range hmo]
      have := (h1 m x hm).2 s hsn _ R hRn hrow
      unfold va at this
      rw [hb] at this
      exact congrArg some this
  rw [eo, el, hdue, ← codeL_B]
  exact tC (fun z => by rw [dT rfl] at z; cases z) (fun _ => tR trivial)
theorem sml3 {t : Str} {k : Int} {b : Bool} (ht : PyData.strOk t = true ∧ t.length ≤ 10) (hk : k.natAbs < 2 ^ 70) : Sml 100000 5 (PyData.tuple [DE.str.enc t, DE.int.enc k, DE.bl.enc b]) := by
  refine (Sml.t3 (w := 100) (k := 0) ((Sml.str ht.1 (n := 10) ht.2).mono (by decide) (Nat.le_refl _)) ((Sml.int hk).mono (by decide) (Nat.le_refl _)) ((Sml.bool b).mono (by decide) (Nat.le_refl _))).mono (by decide) (by decide)
theorem sml4 {t u : Str} {k : Int} (ht : PyData.strOk t = true ∧ t.length ≤ 10) (hu : PyData.strOk u = true ∧ u.length ≤ 10) (hk : k.natAbs < 2 ^ 70) : Sml 100000 5 (PyData.tuple [DE.str.enc t, DE.str.enc u, DE.int.enc k]) := by
  refine (Sml.t3 (w := 100) (k := 0) ((Sml.str ht.1 (n := 10) ht.2).mono (by decide) (Nat.le_refl _)) ((Sml.str hu.1 (n := 10) hu.2).mono (by decide) (Nat.le_refl _)) ((Sml.int hk).mono (by decide) (Nat.le_refl _))).mono (by decide) (by decide)
theorem all_ok {xs : List Str} (h : ∀ s ∈ xs, Nm s) : ∀ q ∈ xs, PyData.strOk q = true := fun q hq => (h q hq).ok
theorem end_ok {i o n wd : Nat} {S : S_Machine} {M : List (List (Int × Int))} {C : List (List Int)} {I L O : List Str} {NL : List (List Str)} {bad : Bool} (hS : S = ⟨(i : Int), (o : Int), M⟩) (hNL : NL = [I, L, O]) (hi : i ≤ 3) (ho : o ≤ 4) (hn : 1 ≤ n ∧ n ≤ 40) (hM : MvOk M n (2 ^ i) o) (hCl : C.length ≤ 100) (hce : ∀ c ∈ C, c.length ≤ 18) (hwd : wd = (cAt C 0).length) (hI : I.length = i) (hL : L.length = wd) (hO : O.length = o)
    (hbnd : fst1 (badC n C) (mx n C) = none → (wd + o) * mC (2 ^ i) n ≤ 2000) (hg : bad = false → Nms I L O) (hb : bad = true → ∃ s t, I = s :: t ∧ m_is_name s = some false) : Tot (
  guardO ((C).length ≤ sizeLine) <|
  (fmO C fun code_579 => (some (some code_579))).bind fun ys_577 =>
  guardO ((NL).length ≤ sizeLine) <|
  (fmO NL fun part_591 => (some (some part_591))).bind fun ys_589 =>
  (m__law_told S ys_577 ys_589).bind fun r_593 =>
  bif ((!decide (ys_577 = C)) || (!decide (S.moves = M))) then (
  some false)
  else (
  (m__law_fault (n : Int) C).bind fun r_595 =>
  bif decide ((0 : Int) ≤ r_595) then (
  (Sum.getRight? r_593).bind fun u_597 =>
  guardO (SeqAt.shaped u_597 = true) <|
  guardO (SeqAt.shaped (PyData.tuple [DE.str.enc ("codes" : Str), DE.int.enc r_595, DE.bl.enc true]) = true) <|
  some (PyData.eqv u_597 (PyData.tuple [DE.str.enc ("codes" : Str), DE.int.enc r_595, DE.bl.enc true])))
  else (
  bif bad then (
  (Sum.getRight? r_593).bind fun u_601 =>
  guardO (SeqAt.shaped u_601 = true) <|
  guardO (SeqAt.shaped (PyData.tuple [DE.str.enc ("names" : Str), DE.str.enc ("inputs" : Str), DE.int.enc (0 : Int)]) = true) <|
  some (PyData.eqv u_601 (PyData.tuple [DE.str.enc ("names" : Str), DE.str.enc ("inputs" : Str), DE.int.enc (0 : Int)])))
  else (
  (hdS r_593).bind fun t_605 =>
  (bif (!decide (t_605 = ("circuit" : Str))) then some true else ((Sum.getLeft? r_593).bind fun u_609 => some (!true))).bind fun b_611 =>
  bif b_611 then (
  some false)
  else (
  (Sum.getLeft? r_593).bind fun u_613 =>
  (Sum.getLeft? r_593).bind fun u_615 =>
  (Sum.getLeft? r_593).bind fun u_617 =>
  (Sum.getLeft? r_593).bind fun u_619 =>
  letO (u_613.2.inputs, u_615.2.latches, u_617.2.ands, u_619.2.outputs) fun parts_621 =>
  (atI NL (0 : Int)).bind fun v_623 =>
  guardO ((∀ q_627 ∈ parts_621.1, PyData.strOk q_627 = true)) <|
  guardO ((∀ q_628 ∈ v_623, PyData.strOk q_628 = true)) <|
  (bif (!decide (parts_621.1 = v_623)) then some true else (guardO ((parts_621.2.1).length ≤ sizeLine) ((fmO parts_621.2.1 fun latch_631 => (some (some latch_631.1))).bind fun ys_629 => (atI NL (1 : Int)).bind fun v_633 => guardO ((∀ q_637 ∈ ys_629, PyData.strOk q_637 = true)) (guardO ((∀ q_638 ∈ v_633, PyData.strOk q_638 = true)) ((bif (!decide (ys_629 = v_633)) then some true else (guardO ((parts_621.2.2.2).length ≤ sizeLine) ((fmO parts_621.2.2.2 fun pair_641 => (some (some pair_641.1))).bind fun ys_639 => (atI NL (2 : Int)).bind fun v_643 => guardO ((∀ q_647 ∈ ys_639, PyData.strOk q_647 = true)) (guardO ((∀ q_648 ∈ v_643, PyData.strOk q_648 = true)) (some (!decide (ys_639 = v_643))))))).bind fun b_649 => some b_649))))).bind fun b_651 =>
  bif b_651 then (
  some false)
  else (
  guardO ((parts_621.2.1).length ≤ sizeLine) <|
  (fmO parts_621.2.1 fun latch_655 => (some (some latch_655.2.1))).bind fun ys_653 =>
  (atI C (0 : Int)).bind fun v_657 =>
  (bif (!decide (ys_653 = v_657)) then some true else (guardO ((-(2 ^ 64) < ((3 : Int) * (n : Int)) ∧ ((3 : Int) * (n : Int)) < 2 ^ 64) ∨ (-(2 ^ 64) < ((wd : Int) + (o : Int)) ∧ ((wd : Int) + (o : Int)) < 2 ^ 64)) (guardO (0 ≤ (i : Int) ∧ (i : Int) ≤ 1000000 ∧ ((((3 : Int) * (n : Int)) * ((wd : Int) + (o : Int)))).natAbs < 2 ^ 64) (some (decide (((((3 : Int) * (n : Int)) * ((wd : Int) + (o : Int))) * 2 ^ ((i : Int)).toNat) < ((parts_621.2.2.1).length : Int))))))).bind fun b_661 =>
  bif b_661 then (
  some false)
  else (
  (m__law_right parts_621 M C (i : Int) (o : Int)).bind fun r_663 =>
  some r_663))))))) fun b => b = true := by
  have hp : 2 ^ i ≤ 2 ^ 3 := Nat.pow_le_pow_right (by decide) hi
  have hp1 : 1 ≤ 2 ^ i := Nat.one_le_two_pow
  have hMl := hM.len
  have hSm : S.moves = M := by rw [hS]
  have hchk := check_eq (S := S) (C := C) (n := n) (by rw [hSm]; exact hMl) (by omega) (by omega) (fun c hc => by have := hce c hc; omega)
  have hfl := fault_eq (C := C) (n := n) (by omega) (by omega) (fun c hc => by have := hce c hc; omega)
  have hN0 : atI NL (0 : Int) = some I := by rw [hNL]; rfl
  have hN1 : atI NL (1 : Int) = some L := by rw [hNL]; rfl
  have hN2 : atI NL (2 : Int) = some O := by rw [hNL]; rfl
  have hNl : NL.length = 3 := by rw [hNL]; rfl
  refine tG (sml (by omega)) (tFm (g := id) (fun c _ => rfl) ?_)
  rw [List.map_id]
  refine tG (sml (by omega)) (tFm (g := id) (fun c _ => rfl) ?_)
  rw [List.map_id]
  have hsame : ((!decide (C = C)) || (!decide (S.moves = M))) = false := by rw [dT rfl, dT hSm]; rfl
  cases hf : fst1 (badC n C) (mx n C) with
  | some s =>
    rw [hf] at hchk hfl
    have hsl := (fst1_lt hf).1
    have hmx : mx n C ≤ 100 := by unfold mx; omega
    have hcoded : m_coded S C I L O = some (.ex ("InvalidCodes", [.i (s : Int)])) := by
      unfold m_coded
      exact exI_ex hchk rfl
    have htold : m__law_told S C NL = some (.inr (PyData.tuple [DE.str.enc ("codes" : Str), DE.int.enc (s : Int), DE.bl.enc true])) := by
      unfold m__law_told
      exact bI hN0 (bI hN1 (bI hN2 (exI_ex hcoded (cT (dT rfl) (bI rfl rfl)))))
    have hs := sml3 (t := "codes") (k := (s : Int)) (b := true) (by decide +kernel) (Nat.lt_of_le_of_lt (show ((s : Int)).natAbs ≤ 100 by omega) (by decide))
    exact tE htold (tC (fun z => by rw [hsame] at z; cases z) (fun _ => tE hfl (tC (fun _ => tE rfl (tG (hs.shaped (by decide)) (tG (hs.shaped (by decide)) (tR hs.eqv)))) (fun z => absurd (of_decide_eq_false z) (fun h => h (Int.natCast_nonneg s))))))
  | none =>
    rw [hf] at hchk hfl
    obtain ⟨w, cb, hC, hw⟩ := codes_good hn.1 hf
    have hww : wd = w := by rw [hwd, hw]
    have hw18 : w ≤ 18 := by
      have h0 := hC.at_ 0 (by omega)
      have := hce _ (List.mem_of_getElem? h0)
      rw [codeL_len] at this
      exact this
    have hcd := coded_ok (inp := i) (w := w) (o := o) (n := n) (S := S) (C := C) (cb := cb) (I := I) (L := L) (O := O) (by omega) hw18 (by omega) ⟨hn.1, by omega⟩ hC (by rw [hSm]; exact hM) (by rw [hS]) (by rw [hS]) hchk hI (by rw [hL, hww]) hO (by have := hbnd hf; rw [hww] at this; exact this) (by
      cases hbb : bad with
      | true => exact .inr (hb hbb)
      | false => exact .inl (hg hbb))
    obtain ⟨r, er, q1, q2⟩ := hcd
    cases hbb : bad with
    | true =>
      have er2 := q2 (hb hbb)
      rw [er2] at er
      have htold : m__law_told S C NL = some (.inr (PyData.tuple [DE.str.enc ("names" : Str), DE.str.enc ("inputs" : Str), DE.int.enc (0 : Int)])) := by
        unfold m__law_told
        exact bI hN0 (bI hN1 (bI hN2 (exI_ex er (cF (dF (show ¬ ("InvalidCircuit" : String) = "InvalidCodes" by decide)) (cT (dT rfl) (bI rfl (bI rfl rfl)))))))
      have hs := sml4 (t := "names") (u := "inputs") (k := 0) (by decide +kernel) (by decide +kernel) (by decide)
      exact tE htold (tC (fun z => by rw [hsame] at z; cases z) (fun _ => tE hfl (tC (fun z => absurd (of_decide_eq_true z) (by decide)) (fun _ => tC (fun _ => tE rfl (tG (hs.shaped (by decide)) (tG (hs.shaped (by decide)) (tR hs.eqv)))) (fun z => nomatch z)))))
    | false =>
      obtain ⟨c, er2, hT⟩ := q1 (hg hbb)
      rw [er2] at er
      have hNm := hg hbb
      rw [hSm] at hT
      have htold : m__law_told S C NL = some (.inl (("circuit" : Str), c)) := by
        unfold m__law_told
        exact bI hN0 (bI hN1 (bI hN2 (exI_ok er rfl)))
      have hLw : L.length = w := by rw [hL, hww]
      have hil : c.inputs.length = i := by rw [hT.i]; exact hI
      have hll : c.latches.length = w := by rw [← hLw, ← hT.l, List.length_map]
      have hol : c.outputs.length = o := by rw [← hO, ← hT.o_, List.length_map]
      have hright := right_ok (C := C) (by omega) hw18 (by omega) ⟨hn.1, by omega⟩ hC hM hI hLw hO hT
      have h00 : atI C (0 : Int) = some (codeL w (cb 0)) := by rw [atI_pos (by decide)]; exact hC.at_ 0 (by omega)
      refine tE htold (tC (fun z => by rw [hsame] at z; cases z) (fun _ => tE hfl (tC (fun z => absurd (of_decide_eq_true z) (by decide)) (fun _ => tC (fun z => nomatch z) (fun _ => tE (a := ("circuit" : Str)) rfl (tE (a := false) (cF (by rw [dT rfl]; rfl) (bI rfl rfl)) (tC (fun z => nomatch z) (fun _ => tE rfl (tE rfl (tE rfl (tE rfl (tLe fun parts hparts => ?_))))))))))))
      subst hparts
      dsimp only
      refine tE hN0 (tG (by rw [hT.i]; exact all_ok hNm.iN) (tG (all_ok hNm.iN) (tE (a := false) ?_ (tC (fun z => nomatch z) (fun _ => ?_)))))
      · refine cF (by rw [hT.i, dT rfl]; rfl) (gI (sml (by omega)) (bI (fmO_all (g := fun x : Str × Int × Int => x.1) fun x _ => rfl) (bI hN1 ?_)))
        rw [hT.l]
        refine gI (all_ok hNm.lN) (gI (all_ok hNm.lN) (bI (a := false) (cF (by rw [dT rfl]; rfl) (gI (sml (by omega)) (bI (fmO_all (g := fun x : Str × Int => x.1) fun x _ => rfl) (bI hN2 ?_)))) rfl))
        rw [hT.o_]
        exact gI (all_ok hNm.oN) (gI (all_ok hNm.oN) (by rw [dT rfl]; rfl))
      · refine tG (sml (by omega)) (tFm (g := fun x : Str × Int × Int => x.2.1) (fun x _ => rfl) (tE h00 (tE (a := false) ?_ (tC (fun z => nomatch z) (fun _ => tE hright (tR rfl))))))
        rw [hT.l0]
        have hx : ((3 : Int) * (n : Int)) * ((wd : Int) + (o : Int)) = ((3 * n * (wd + o) : Nat) : Int) := by simp
        have hnb : 3 * n * (wd + o) ≤ 3 * 40 * 22 := Nat.mul_le_mul (by omega) (by omega)
        refine cF (by rw [dT rfl]; rfl) (gI (.inl ⟨Int.lt_of_lt_of_le (show -(2 ^ 64 : Int) < 0 by decide) (by omega), Int.lt_of_le_of_lt (show (3 : Int) * (n : Int) ≤ 1000 by omega) (by decide)⟩) (gI ⟨by omega, by omega, ?_⟩ (congrArg some (dF ?_))))
        · rw [hx]
          exact Nat.lt_of_le_of_lt (show (((3 * n * (wd + o) : Nat) : Int)).natAbs ≤ 10000 by omega) (by decide)
        · rw [hx, Int.toNat_natCast]
          have ha := hT.a
          rw [← hww] at ha
          have h3 : (wd + o) * mC (2 ^ i) n ≤ (wd + o) * (3 * (n * 2 ^ i)) := Nat.mul_le_mul_left _ (Nat.sub_le _ _)
          have h4 : (wd + o) * (3 * (n * 2 ^ i)) = 3 * n * (wd + o) * 2 ^ i := by
            rw [Nat.mul_comm, ← Nat.mul_assoc, Nat.mul_assoc (3 * n), Nat.mul_comm (2 ^ i), ← Nat.mul_assoc]
          have h5 : ((3 * n * (wd + o) : Nat) : Int) * 2 ^ i = ((3 * n * (wd + o) * 2 ^ i : Nat) : Int) := by simp
          rw [h5]
          omega
end K68

/-! K68U -/
namespace K68
open PySem PySem.Spec L2 Ty Sv
theorem wd_bound {C : List (List Int)} {i o n w wd : Nat} (h : Cw w 2 42 C) (hw : (w : Int) ≤ wS n + 3) (hio : (i ≤ 3 ∧ n ≤ 8) ∨ (i = 0 ∧ n ≤ 40) ∨ (i = 1 ∧ n ≤ 24)) (hn : 1 ≤ n) (ho : o ≤ 4) (hwd : wd = (cAt C 0).length) (hf : fst1 (badC n C) (mx n C) = none) : (wd + o) * mC (2 ^ i) n ≤ 2000 := by
  obtain ⟨w', cb, hC, hw'⟩ := codes_good hn hf
  have hall : ∀ c ∈ C, c.length = wd := by
    intro c hc
    obtain ⟨j, hj⟩ := List.getElem?_of_mem hc
    have hjl := (List.getElem?_eq_some_iff.mp hj).1
    rw [hC.at_ j (by rw [← hC.len]; exact hjl)] at hj
    rw [← Option.some.inj hj, codeL_len, hwd, hw']
  have hnn : n ≤ 40 := by omega
  obtain ⟨⟨w0, w6⟩, w5, w3, w1⟩ := wS_le ⟨n, by omega⟩
  dsimp only at w0 w6 w5 w3 w1
  have hp : 2 ^ i ≤ 2 ^ 3 := Nat.pow_le_pow_right (by decide) (by omega)
  have fin : ∀ (a b : Nat), wd + o ≤ a → 3 * (n * 2 ^ i) - 3 ≤ b → a * b ≤ 2000 → (wd + o) * mC (2 ^ i) n ≤ 2000 := fun a b h1 h2 h3 => Nat.le_trans (Nat.mul_le_mul h1 h2) h3
  by_cases h3 : n ≤ 2
  · have hc0 : C[0]? = some (codeL w' (cb 0)) := hC.at_ 0 (by omega)
    have h1 := h.ew _ (List.mem_of_getElem? hc0)
    rw [codeL_len] at h1
    have := w1 h3
    have hm : n * 2 ^ i ≤ 2 * 2 ^ 3 := Nat.mul_le_mul h3 hp
    exact fin 10 45 (by omega) (by omega) (by decide)
  · have hww : wd = w := by
      refine Decidable.byContradiction fun hne => ?_
      have hcp : C.countP (fun c => !decide (c.length = w)) = C.length := by
        rw [List.countP_eq_length]
        intro c hc
        rw [hall c hc, dF hne]; rfl
      have := h.cnt
      have := hC.len
      omega
    rcases hio with ⟨a, b⟩ | ⟨rfl, b⟩ | ⟨rfl, b⟩
    · have := w3 b
      have hm : n * 2 ^ i ≤ 8 * 2 ^ 3 := Nat.mul_le_mul b hp
      exact fin 10 189 (by omega) (by omega) (by decide)
    · exact fin 13 117 (by omega) (by omega) (by decide)
    · have := w5 b
      exact fin 12 141 (by omega) (by omega) (by decide)
theorem letter_at {a : Int} (h0 : 0 ≤ a) (h1 : a < 26) : ∃ c, atI (("abcdefghijklmnopqrstuvwxyz" : Str)).cps.toList a = some c ∧ 97 ≤ c ∧ c ≤ 122 := by
  obtain ⟨k, rfl⟩ := Int.eq_ofNat_of_zero_le h0
  have hk : k < 26 := by omega
  clear h0 h1
  have : ∀ k : Fin 26, atI (("abcdefghijklmnopqrstuvwxyz" : Str)).cps.toList ((k.val : Nat) : Int) = some (97 + k.val) := by decide +kernel
  exact ⟨97 + k, this ⟨k, hk⟩, by omega, by omega⟩
theorem bad_at {a : Int} (h0 : 0 ≤ a) (h1 : a < 4) : ∃ s, atI ([("" : Str), ("A" : Str), ("1a" : Str), ("abcdefghijklm" : Str)]) a = some s ∧ m_is_name s = some false := by
  obtain ⟨k, rfl⟩ := Int.eq_ofNat_of_zero_le h0
  have hk : k < 4 := by omega
  clear h0 h1
  match k, hk with
  | 0, _ => exact ⟨_, rfl, by decide +kernel⟩
  | 1, _ => exact ⟨_, rfl, by decide +kernel⟩
  | 2, _ => exact ⟨_, rfl, by decide +kernel⟩
  | 3, _ => exact ⟨_, rfl, by decide +kernel⟩
theorem nms_ok {I L O : List Str} {c : Nat} (hc : 97 ≤ c ∧ c ≤ 122) (hIl : I.length ≤ 3) (hLl : L.length ≤ 90) (hOl : O.length ≤ 4) (hI : ∀ (j : Nat) v, I[j]? = some v → NameP [105, c] j v) (hL : ∀ (j : Nat) v, L[j]? = some v → NameP [c, 113] j v) (hO : ∀ (j : Nat) v, O[j]? = some v → NameA 111 j v) : Nms I L O := by
  refine ⟨fun s hs => ?_, fun s hs => ?_, fun s hs => ?_, ?_, nodup_A (by omega) hO⟩
  · obtain ⟨j, hj⟩ := List.getElem?_of_mem hs
    have := (List.getElem?_eq_some_iff.mp hj).1
    refine (hI j s hj).nm (by omega) ⟨by simp, by simp⟩ (fun d hd => by simp at hd; omega) fun d hd => ?_
    simp at hd
    rcases hd with rfl | rfl
    · exact .inl (by omega)
    · exact .inl hc
  · obtain ⟨j, hj⟩ := List.getElem?_of_mem hs
    have := (List.getElem?_eq_some_iff.mp hj).1
    refine (hL j s hj).nm (by omega) ⟨by simp, by simp⟩ (fun d hd => by simp at hd; omega) fun d hd => ?_
    simp at hd
    rcases hd with rfl | rfl
    · exact .inl hc
    · exact .inl (by omega)
  · obtain ⟨j, hj⟩ := List.getElem?_of_mem hs
    have := (List.getElem?_eq_some_iff.mp hj).1
    exact (hO j s hj).nm (by omega) (by omega)
  · refine List.nodup_append.mpr ⟨nodup_by hI fun j k v a b => a.inj b, nodup_by hL fun j k v a b => a.inj b, fun a ha b hb e => ?_⟩
    subst e
    obtain ⟨j, hj⟩ := List.getElem?_of_mem ha
    obtain ⟨k, hk⟩ := List.getElem?_of_mem hb
    have h1 := hI j a hj
    have h2 := hL k a hk
    unfold NameP at h1 h2
    rw [h1] at h2
    simp at h2
    omega
theorem law_ok (script : List Int) : m_law script = some true := by
  refine Tot.eq ?_
  unfold m_law
  obtain ⟨base, hbase⟩ := cell_ok script (k := 0) (by decide)
  obtain ⟨c1, hc1⟩ := cell_ok script (k := 1) (by decide)
  obtain ⟨c2, hc2⟩ := cell_ok script (k := 2) (by decide)
  obtain ⟨c3, hc3⟩ := cell_ok script (k := 3) (by decide)
  refine tE hbase (tLe fun i0 hi0 => tLe fun oo hoo => tLe fun n0 hn0 => ?_)
  have hi0a : 0 ≤ i0 := by rw [hi0]; exact Int.emod_nonneg _ (by decide)
  have hi0b : i0 < 4 := by rw [hi0]; exact Int.emod_lt_of_pos _ (by decide)
  have hooa : 0 ≤ oo := by rw [hoo]; exact Int.emod_nonneg _ (by decide)
  have hoob : oo < 5 := by rw [hoo]; exact Int.emod_lt_of_pos _ (by decide)
  have hn0a : 1 ≤ n0 ∧ n0 ≤ 8 := by
    have := Int.emod_nonneg (base / 20) (b := 8) (by decide)
    have := Int.emod_lt_of_pos (base / 20) (b := 8) (by decide)
    omega
  clear hi0 hoo hn0
  obtain ⟨o, rfl⟩ := Int.eq_ofNat_of_zero_le hooa
  have ho : o ≤ 4 := by omega
  refine tB (R := fun x : Int × Int => ∃ i n : Nat, x = ((i : Int), (n : Int)) ∧ 1 ≤ n ∧ ((i ≤ 3 ∧ n ≤ 8) ∨ (i = 0 ∧ n ≤ 40) ∨ (i = 1 ∧ n ≤ 24))) (tC (fun _ => ?_) (fun _ => ?_)) ?_
  · refine tLe fun i1 hi1 => tG (by omega) (tLe fun n1 hn1 => tR ⟨i1.toNat, n1.toNat, ?_, ?_⟩)
    · have a1 := Int.emod_nonneg (base / 80056) (b := 21 - 16 * i1) (by omega)
      exact Prod.ext (by show i1 = _; omega) (by show n1 = _; omega)
    · have a1 := Int.emod_nonneg (base / 80056) (b := 21 - 16 * i1) (by omega)
      have a2 := Int.emod_lt_of_pos (base / 80056) (b := 21 - 16 * i1) (by omega)
      have : i1 = 0 ∨ i1 = 1 := by omega
      rcases this with h | h <;> omega
  · exact tR ⟨i0.toNat, n0.toNat, Prod.ext (by show i0 = _; omega) (by show n0 = _; omega), by omega, by omega⟩
  · rintro _ ⟨i, n, rfl, hn1, hio⟩
    dsimp only
    have hi : i ≤ 3 := by omega
    have hn : 1 ≤ n ∧ n ≤ 40 := by omega
    refine tB (R := fun M => MvOk M n (2 ^ i) o) (moves_ok (by omega) (by omega) (by omega)) fun M hM => tE hc1 ?_
    obtain ⟨w, hw, hcodes⟩ := codes_ok (cell := c1) hn
    have hw9 : w ≤ 9 := by
      obtain ⟨⟨_, w6⟩, _⟩ := wS_le ⟨n, by omega⟩
      dsimp only at w6
      omega
    refine tB (R := Cw w 0 40) hcodes fun C0 hC0 => ?_
    refine tB (R := Cw w 2 42) (tC (fun _ => tE hc2 (tB (R := Cw w 1 41) (spoilt_ok hC0 (by omega) (by omega)) fun C1 hC1 => tB (R := Cw w 2 42) (tC (fun _ => tE hc3 (tB (R := Cw w 2 42) (spoilt_ok hC1 (by omega) (by omega)) fun C2 hC2 => tR hC2)) (fun _ => tR ⟨by have := hC1.len; omega, hC1.up.ew, hC1.up.cnt⟩)) fun C2 hC2 => tR hC2)) (fun _ => tR ⟨by have := hC0.len; omega, hC0.up.up.ew, hC0.up.up.cnt⟩)) fun C hC => ?_
    have hMm := machine_ok (i := i) (o := o) (by omega) (by omega) ⟨hn.1, by omega⟩ hM
    refine tX ⟨_, hMm, ?_⟩
    dsimp only
    have hCl := hC.len
    refine tE (a := (((cAt C 0).length : Nat) : Int)) ?_ ?_
    · cases C with
      | nil => rfl
      | cons c t => exact cT (by rw [dF (List.cons_ne_nil c t)]; rfl) (bI (a := c) (by rw [atI_pos (by decide)]; rfl) rfl)
    generalize hwd : (cAt C 0).length = wd
    have hwd12 : wd ≤ 12 := by
      rw [← hwd]
      cases C with
      | nil => exact Nat.zero_le _
      | cons c t => have := hC.ew c (List.mem_cons_self ..); show c.length ≤ _; omega
    obtain ⟨c, hcl, hc⟩ := letter_at (a := (base / 960) % 26) (Int.emod_nonneg _ (by decide)) (Int.emod_lt_of_pos _ (by decide))
    refine tG (sml (by decide +kernel)) (tE hcl (tLe fun lt hlt => ?_))
    have hltl : lt.cps.toList = [c] := by rw [hlt]
    have hltn : lt.length = 1 := by rw [len_tl', hltl]; rfl
    refine tG ⟨by omega, by omega⟩ (tG (sml (by rw [rangeL_len]; omega)) (tFmX (R := fun j v => NameP [105, c] j v) (fun j x hx => ?_) fun I hIl hI => ?_))
    · obtain ⟨rfl, hj⟩ := rangeL_at hx
      have hil : (("i" : Str) ++ lt).length ≤ 1000 := by rw [len_tl', tl_cat, hltl]; show 2 ≤ 1000; decide
      exact ⟨_, gI (sml (by rw [hltn]; decide)) (gI (Nat.lt_of_lt_of_le (show ((0 : Int) + (j : Int)).natAbs < 100 by omega) (by decide)) (gI (line_le (cat_len (by omega) (by omega) hil)) rfl)), cat_num (by rw [tl_cat, hltl]; rfl) (by omega)⟩
    refine tG ⟨by omega, by omega⟩ (tG (sml (by rw [rangeL_len]; omega)) (tFmX (R := fun j v => NameP [c, 113] j v) (fun j x hx => ?_) fun L hLl hL => ?_))
    · obtain ⟨rfl, hj⟩ := rangeL_at hx
      have hil : (lt ++ ("q" : Str)).length ≤ 1000 := by rw [len_tl', tl_cat, hltl]; show 2 ≤ 1000; decide
      exact ⟨_, gI (sml (by rw [hltn]; decide)) (gI (Nat.lt_of_lt_of_le (show ((0 : Int) + (j : Int)).natAbs < 100 by omega) (by decide)) (gI (line_le (cat_len (by omega) (by omega) hil)) rfl)), cat_num (by rw [tl_cat, hltl]; rfl) (by omega)⟩
    have hm0 := Int.emod_nonneg (base / 24960) (b := 50) (by decide)
    have hm1 := Int.emod_lt_of_pos (base / 24960) (b := 50) (by decide)
    generalize (base / 24960) % 50 = mm at *
    refine tG ⟨by omega, by omega⟩ (tG (sml (by rw [rangeL_len]; omega)) (tFmX (R := fun j v => NameA 111 j v) (fun j x hx => ?_) fun O hOl hO => ?_))
    · obtain ⟨rfl, hj⟩ := rangeL_at hx
      have hz : (0 : Int) ≤ 10 * mm + (0 + (j : Int)) ∧ 10 * mm + (0 + (j : Int)) < 1000 := by omega
      refine ⟨_, gI (Nat.lt_of_lt_of_le (show (10 * mm + (0 + (j : Int))).natAbs < 1000 by omega) (by decide)) (gI ?_ rfl), mm.toNat, by omega, cat_num (pre := [111]) rfl (by omega)⟩
      have hl := TL.numL_len (n := (10 * mm + (0 + (j : Int))).toNat) (k := 3) (by decide) (by omega)
      refine sml ?_
      rw [len_tl' (Str.ofString (toString _)), tl_numI hz.1]
      exact Nat.le_trans (Nat.add_le_add_left hl _) (by decide)
    rw [rangeL_len] at hIl hLl hOl
    have hIl : I.length = i := by omega
    have hLl : L.length = wd := by omega
    have hOl : O.length = o := by omega
    refine tG (line_lt (by show 2 < 16777216; decide)) (tLe fun bad hbad => ?_)
    have hNm := nms_ok hc (by omega) (by omega) (by omega) hI hL hO
    have fin : ∀ I', I'.length = i → (bad = false → Nms I' L O) → (bad = true → ∃ s t, I' = s :: t ∧ m_is_name s = some false) → _ := fun I' h1 h2 h3 => end_ok (i := i) (o := o) (n := n) (wd := wd) (S := ⟨(i : Int), (o : Int), M⟩) (M := M) (C := C) (I := I') (L := L) (O := O) (NL := [I', L, O]) (bad := bad) rfl rfl hi ho hn hM (by omega) (fun c hc => by have := hC.ew c hc; omega) hwd.symm h1 hLl hOl (wd_bound hC hw hio hn.1 ho hwd.symm) h2 h3
    cases hbb : bad with
    | false =>
      refine tE (a := [I, L, O]) rfl ?_
      rw [hbb] at fin
      exact fin I hIl (fun _ => hNm) (fun z => nomatch z)
    | true =>
      rw [hbb] at hbad fin
      have hpos : (0 : Int) < (i : Int) := of_decide_eq_true (Bool.and_eq_true_iff.mp hbad.symm).2
      obtain ⟨s, hs, hsn⟩ := bad_at (a := (base / 31) % 4) (Int.emod_nonneg _ (by decide)) (Int.emod_lt_of_pos _ (by decide))
      cases I with
      | nil => simp at hIl; omega
      | cons x t =>
        refine tE (a := [s :: t, L, O]) (cT rfl (bI hs (bI (a := 0) rfl (bI (a := x :: t) rfl (bI (a := s :: t) ?_ rfl))))) ?_
        · rw [setI_of (by decide) (by rw [List.length_cons]; omega)]; rfl
        · exact fin (s :: t) (by rw [← hIl]; rfl) (fun z => nomatch z) (fun _ => ⟨s, t, rfl, hsn⟩)
end K68

/-! K68Z -/
namespace K68
open PySem PySem.Spec L2 Ty
def spLaw (K : PySem.W.Frag) : Sp := fun vs H Q _ => ∃ (a : Addr) (ns : List Int), vs = [.ref a] ∧ SqL K H a (ns.map V.int) ∧ ns.length ≤ 63 ∧ ∀ H2, Q (.bl true) H2
section
variable {P : Program} {w : World} {K : PySem.W.Frag} {mg : Str → Option Value} {base : Heap}
theorem ok_top (T : Txt P K mg) : FnOk P w K mg base CX0 35 T.f_law T.d_law ["script"] (spLaw K) := (ok_law T).imp fun vs H Q E ⟨a, ns, ev, hS, hl, hq⟩ => by
  subst ev
  refine ⟨ns, true, H, law_ok ns, fun _ _ h => h, ?_, fun v F2 H2 fp W2 p2 => ?_⟩
  · exact Slots.cons (fp := []) ⟨rfl, _, rfl, a, rfl, hS⟩ .nil
  · rw [(val_P p2).2]; exact hq H2
end
theorem all_mk {l : PySem.W.OpenLaw} {w : World} {K : PySem.W.Frag} {h : Heap} {mg : Str → Option Value} {fa : Addr} (X : K.In h) (G : h.Ns mainGlobals mg) (hfa : mg "law" = some (.ref fa))
    {f1 : Addr}
    {od1 an1 : Option Addr}
    {sl1 : Array (Option Value)}
    {oc1 kV1 dc1 pm1 cd1 ct1 : Value}
    {f2 : Addr}
    {od2 an2 : Option Addr}
    {sl2 : Array (Option Value)}
    {oc2 kV2 dc2 pm2 cd2 ct2 : Value}
    {f3 : Addr}
    {od3 an3 : Option Addr}
    {sl3 : Array (Option Value)}
    {oc3 kV3 dc3 pm3 cd3 ct3 : Value}
    {f4 : Addr}
    {od4 an4 : Option Addr}
    {sl4 : Array (Option Value)}
    {oc4 kV4 dc4 pm4 cd4 ct4 : Value}
    {f5 : Addr}
    {od5 an5 : Option Addr}
    {sl5 : Array (Option Value)}
    {oc5 kV5 dc5 pm5 cd5 ct5 : Value}
    {f6 : Addr}
    {od6 an6 : Option Addr}
    {sl6 : Array (Option Value)}
    {oc6 kV6 dc6 pm6 cd6 ct6 : Value}
    {f7 : Addr}
    {od7 an7 : Option Addr}
    {sl7 : Array (Option Value)}
    {oc7 kV7 dc7 pm7 cd7 ct7 : Value}
    {f8 : Addr}
    {od8 an8 : Option Addr}
    {sl8 : Array (Option Value)}
    {oc8 kV8 dc8 pm8 cd8 ct8 : Value}
    {f9 : Addr}
    {od9 an9 : Option Addr}
    {sl9 : Array (Option Value)}
    {oc9 kV9 dc9 pm9 cd9 ct9 : Value}
    {f10 : Addr}
    {od10 an10 : Option Addr}
    {sl10 : Array (Option Value)}
    {oc10 kV10 dc10 pm10 cd10 ct10 : Value}
    {f11 : Addr}
    {od11 an11 : Option Addr}
    {sl11 : Array (Option Value)}
    {oc11 kV11 dc11 pm11 cd11 ct11 : Value}
    {f12 : Addr}
    {od12 an12 : Option Addr}
    {sl12 : Array (Option Value)}
    {oc12 kV12 dc12 pm12 cd12 ct12 : Value}
    {f13 : Addr}
    {od13 an13 : Option Addr}
    {sl13 : Array (Option Value)}
    {oc13 kV13 dc13 pm13 cd13 ct13 : Value}
    {f14 : Addr}
    {od14 an14 : Option Addr}
    {sl14 : Array (Option Value)}
    {oc14 kV14 dc14 pm14 cd14 ct14 : Value}
    {f15 : Addr}
    {od15 an15 : Option Addr}
    {sl15 : Array (Option Value)}
    {oc15 kV15 dc15 pm15 cd15 ct15 : Value}
    {f16 : Addr}
    {od16 an16 : Option Addr}
    {sl16 : Array (Option Value)}
    {oc16 kV16 dc16 pm16 cd16 ct16 : Value}
    {f17 : Addr}
    {od17 an17 : Option Addr}
    {sl17 : Array (Option Value)}
    {oc17 kV17 dc17 pm17 cd17 ct17 : Value}
    {f18 : Addr}
    {od18 an18 : Option Addr}
    {sl18 : Array (Option Value)}
    {oc18 kV18 dc18 pm18 cd18 ct18 : Value}
    {f19 : Addr}
    {od19 an19 : Option Addr}
    {sl19 : Array (Option Value)}
    {oc19 kV19 dc19 pm19 cd19 ct19 : Value}
    {f20 : Addr}
    {od20 an20 : Option Addr}
    {sl20 : Array (Option Value)}
    {oc20 kV20 dc20 pm20 cd20 ct20 : Value}
    {f21 : Addr}
    {od21 an21 : Option Addr}
    {sl21 : Array (Option Value)}
    {oc21 kV21 dc21 pm21 cd21 ct21 : Value}
    {f22 : Addr}
    {od22 an22 : Option Addr}
    {sl22 : Array (Option Value)}
    {oc22 kV22 dc22 pm22 cd22 ct22 : Value}
    {f23 : Addr}
    {od23 an23 : Option Addr}
    {sl23 : Array (Option Value)}
    {oc23 kV23 dc23 pm23 cd23 ct23 : Value}
    {f24 : Addr}
    {od24 an24 : Option Addr}
    {sl24 : Array (Option Value)}
    {oc24 kV24 dc24 pm24 cd24 ct24 : Value}
    {f25 : Addr}
    {od25 an25 : Option Addr}
    {sl25 : Array (Option Value)}
    {oc25 kV25 dc25 pm25 cd25 ct25 : Value}
    {f26 : Addr}
    {od26 an26 : Option Addr}
    {sl26 : Array (Option Value)}
    {oc26 kV26 dc26 pm26 cd26 ct26 : Value}
    {f27 : Addr}
    {od27 an27 : Option Addr}
    {sl27 : Array (Option Value)}
    {oc27 kV27 dc27 pm27 cd27 ct27 : Value}
    {f28 : Addr}
    {od28 an28 : Option Addr}
    {sl28 : Array (Option Value)}
    {oc28 kV28 dc28 pm28 cd28 ct28 : Value}
    {f29 : Addr}
    {od29 an29 : Option Addr}
    {sl29 : Array (Option Value)}
    {oc29 kV29 dc29 pm29 cd29 ct29 : Value}
    {f30 : Addr}
    {od30 an30 : Option Addr}
    {sl30 : Array (Option Value)}
    {oc30 kV30 dc30 pm30 cd30 ct30 : Value}
    {f31 : Addr}
    {od31 an31 : Option Addr}
    {sl31 : Array (Option Value)}
    {oc31 kV31 dc31 pm31 cd31 ct31 : Value}
    {CCircuit : Addr}
    {CBuilder : Addr}
    {CMachine : Addr}
    {CDecoder : Addr}
    {CEvergateError : Addr}
    {CInvalidCircuit : Addr}
    {CInvalidCodes : Addr}
    {CInvalidCount : Addr}
    {CInvalidMachine : Addr}
    {feInvalidCircuit : Addr}
    {bsInvalidCircuit bmInvalidCircuit subInvalidCircuit : List Value}
    {nmInvalidCircuit qnInvalidCircuit : Str}
    {NNInvalidCircuit : Addr}
    {snInvalidCircuit : List Str}
    {abInvalidCircuit : Bool}
    {colInvalidCircuit : Option Bool}
    {ddInvalidCircuit : Option Addr}
    {k0InvalidCircuit k1InvalidCircuit k2InvalidCircuit k3InvalidCircuit k5InvalidCircuit : Option Value}
    {ocInvalidCircuit kVInvalidCircuit docInvalidCircuit pmInvalidCircuit ctInvalidCircuit oc2InvalidCircuit oc3InvalidCircuit : Value}
    {odInvalidCircuit anInvalidCircuit od2InvalidCircuit od3InvalidCircuit : Option Addr}
    {cdaInvalidCircuit ccInvalidCircuit : Addr}
    {oslInvalidCircuit sl2InvalidCircuit sl3InvalidCircuit : Array (Option Value)}
    {vs2InvalidCircuit : Array Value}
    {fileInvalidCircuit : Str}
    {tfInvalidCircuit : Tok}
    {feInvalidCodes : Addr}
    {bsInvalidCodes bmInvalidCodes subInvalidCodes : List Value}
    {nmInvalidCodes qnInvalidCodes : Str}
    {NNInvalidCodes : Addr}
    {snInvalidCodes : List Str}
    {abInvalidCodes : Bool}
    {colInvalidCodes : Option Bool}
    {ddInvalidCodes : Option Addr}
    {k0InvalidCodes k1InvalidCodes k2InvalidCodes k3InvalidCodes k5InvalidCodes : Option Value}
    {ocInvalidCodes kVInvalidCodes docInvalidCodes pmInvalidCodes ctInvalidCodes oc2InvalidCodes oc3InvalidCodes : Value}
    {odInvalidCodes anInvalidCodes od2InvalidCodes od3InvalidCodes : Option Addr}
    {cdaInvalidCodes ccInvalidCodes : Addr}
    {oslInvalidCodes sl2InvalidCodes sl3InvalidCodes : Array (Option Value)}
    {vs2InvalidCodes : Array Value}
    {fileInvalidCodes : Str}
    {tfInvalidCodes : Tok}
    {feInvalidMachine : Addr}
    {bsInvalidMachine bmInvalidMachine subInvalidMachine : List Value}
    {nmInvalidMachine qnInvalidMachine : Str}
    {NNInvalidMachine : Addr}
    {snInvalidMachine : List Str}
    {abInvalidMachine : Bool}
    {colInvalidMachine : Option Bool}
    {ddInvalidMachine : Option Addr}
    {k0InvalidMachine k1InvalidMachine k2InvalidMachine k3InvalidMachine k5InvalidMachine : Option Value}
    {ocInvalidMachine kVInvalidMachine docInvalidMachine pmInvalidMachine ctInvalidMachine oc2InvalidMachine oc3InvalidMachine : Value}
    {odInvalidMachine anInvalidMachine od2InvalidMachine od3InvalidMachine : Option Addr}
    {cdaInvalidMachine ccInvalidMachine : Addr}
    {oslInvalidMachine sl2InvalidMachine sl3InvalidMachine : Array (Option Value)}
    {vs2InvalidMachine : Array Value}
    {fileInvalidMachine : Str}
    {tfInvalidMachine : Tok}
    {tFIRST_SIGNS : Tok}
    {tMOST_ANDS : Tok}
    {tMOST_INPUTS_circuit : Tok}
    {tMOST_INPUTS_machine : Tok}
    {tMOST_LATCHES : Tok}
    {tMOST_OUTPUTS_circuit : Tok}
    {tMOST_OUTPUTS_machine : Tok}
    {tMOST_SIGNS : Tok}
    {tMOST_STATES : Tok}
    {tSIGNS : Tok}
    (aCCircuit : PySem.W.nsIn K mainGlobals "Circuit" = some (some (.ref CCircuit)))
    (aCBuilder : PySem.W.nsIn K mainGlobals "Builder" = some (some (.ref CBuilder)))
    (aCMachine : PySem.W.nsIn K mainGlobals "Machine" = some (some (.ref CMachine)))
    (aCDecoder : PySem.W.nsIn K mainGlobals "Decoder" = some (some (.ref CDecoder)))
    (aCEvergateError : PySem.W.nsIn K mainGlobals "EvergateError" = some (some (.ref CEvergateError)))
    (aCInvalidCircuit : PySem.W.nsIn K mainGlobals "InvalidCircuit" = some (some (.ref CInvalidCircuit)))
    (aCInvalidCodes : PySem.W.nsIn K mainGlobals "InvalidCodes" = some (some (.ref CInvalidCodes)))
    (aCInvalidCount : PySem.W.nsIn K mainGlobals "InvalidCount" = some (some (.ref CInvalidCount)))
    (aCInvalidMachine : PySem.W.nsIn K mainGlobals "InvalidMachine" = some (some (.ref CInvalidMachine)))
    (a1 : PySem.W.nsIn K mainGlobals "_law_cell" = some (some (.ref f1)))
    (l1 : K.lookup f1 = some ⟨oc1, od1, .func (PySem.W.fnOf "_law_cell" "_law_cell" (defArgs s__law_cell) (defBody s__law_cell) (defScope s__law_cell) .none kV1 dc1 pm1 an1 cd1 ct1), sl1⟩)
    (c1 : PySem.W.codeIn K cd1 "_law_cell" = true)
    (k1 : PySem.W.keepIn K (.ref f1) = true)
    (a2 : PySem.W.nsIn K mainGlobals "_law_moves" = some (some (.ref f2)))
    (l2 : K.lookup f2 = some ⟨oc2, od2, .func (PySem.W.fnOf "_law_moves" "_law_moves" (defArgs s__law_moves) (defBody s__law_moves) (defScope s__law_moves) .none kV2 dc2 pm2 an2 cd2 ct2), sl2⟩)
    (c2 : PySem.W.codeIn K cd2 "_law_moves" = true)
    (k2 : PySem.W.keepIn K (.ref f2) = true)
    (a3 : PySem.W.nsIn K mainGlobals "_law_row" = some (some (.ref f3)))
    (l3 : K.lookup f3 = some ⟨oc3, od3, .func (PySem.W.fnOf "_law_row" "_law_row" (defArgs s__law_row) (defBody s__law_row) (defScope s__law_row) .none kV3 dc3 pm3 an3 cd3 ct3), sl3⟩)
    (c3 : PySem.W.codeIn K cd3 "_law_row" = true)
    (k3 : PySem.W.keepIn K (.ref f3) = true)
    (a4 : PySem.W.nsIn K mainGlobals "_law_codes" = some (some (.ref f4)))
    (l4 : K.lookup f4 = some ⟨oc4, od4, .func (PySem.W.fnOf "_law_codes" "_law_codes" (defArgs s__law_codes) (defBody s__law_codes) (defScope s__law_codes) .none kV4 dc4 pm4 an4 cd4 ct4), sl4⟩)
    (c4 : PySem.W.codeIn K cd4 "_law_codes" = true)
    (k4 : PySem.W.keepIn K (.ref f4) = true)
    (a5 : PySem.W.nsIn K mainGlobals "is_move" = some (some (.ref f5)))
    (l5 : K.lookup f5 = some ⟨oc5, od5, .func (PySem.W.fnOf "is_move" "is_move" (defArgs s_is_move) (defBody s_is_move) (defScope s_is_move) .none kV5 dc5 pm5 an5 cd5 ct5), sl5⟩)
    (c5 : PySem.W.codeIn K cd5 "is_move" = true)
    (k5 : PySem.W.keepIn K (.ref f5) = true)
    (a6 : PySem.W.findIn K (.ref CMachine) "__init__" = some (some (.ref f6)))
    (l6 : K.lookup f6 = some ⟨oc6, od6, .func (PySem.W.fnOf "__init__" "Machine.__init__" (defArgs s_Machine_init) (defBody s_Machine_init) (defScope s_Machine_init) .none kV6 dc6 pm6 an6 cd6 ct6), sl6⟩)
    (c6 : PySem.W.codeIn K cd6 "Machine.__init__" = true)
    (k6 : PySem.W.keepIn K (.ref f6) = true)
    (i6 : PySem.W.isFn K (.ref f6) = true)
    (a7 : PySem.W.nsIn K mainGlobals "check_codes" = some (some (.ref f7)))
    (l7 : K.lookup f7 = some ⟨oc7, od7, .func (PySem.W.fnOf "check_codes" "check_codes" (defArgs s_check_codes) (defBody s_check_codes) (defScope s_check_codes) .none kV7 dc7 pm7 an7 cd7 ct7), sl7⟩)
    (c7 : PySem.W.codeIn K cd7 "check_codes" = true)
    (k7 : PySem.W.keepIn K (.ref f7) = true)
    (a8 : PySem.W.findIn K (.ref CBuilder) "__init__" = some (some (.ref f8)))
    (l8 : K.lookup f8 = some ⟨oc8, od8, .func (PySem.W.fnOf "__init__" "Builder.__init__" (defArgs s_Builder_init) (defBody s_Builder_init) (defScope s_Builder_init) .none kV8 dc8 pm8 an8 cd8 ct8), sl8⟩)
    (c8 : PySem.W.codeIn K cd8 "Builder.__init__" = true)
    (k8 : PySem.W.keepIn K (.ref f8) = true)
    (i8 : PySem.W.isFn K (.ref f8) = true)
    (a9 : PySem.W.findIn K (.ref CDecoder) "__init__" = some (some (.ref f9)))
    (l9 : K.lookup f9 = some ⟨oc9, od9, .func (PySem.W.fnOf "__init__" "Decoder.__init__" (defArgs s_Decoder_init) (defBody s_Decoder_init) (defScope s_Decoder_init) .none kV9 dc9 pm9 an9 cd9 ct9), sl9⟩)
    (c9 : PySem.W.codeIn K cd9 "Decoder.__init__" = true)
    (k9 : PySem.W.keepIn K (.ref f9) = true)
    (i9 : PySem.W.isFn K (.ref f9) = true)
    (a10 : PySem.W.nsIn K mainGlobals "is_name" = some (some (.ref f10)))
    (l10 : K.lookup f10 = some ⟨oc10, od10, .func (PySem.W.fnOf "is_name" "is_name" (defArgs s_is_name) (defBody s_is_name) (defScope s_is_name) .none kV10 dc10 pm10 an10 cd10 ct10), sl10⟩)
    (c10 : PySem.W.codeIn K cd10 "is_name" = true)
    (k10 : PySem.W.keepIn K (.ref f10) = true)
    (a11 : PySem.W.nsIn K mainGlobals "fault_of_leaves" = some (some (.ref f11)))
    (l11 : K.lookup f11 = some ⟨oc11, od11, .func (PySem.W.fnOf "fault_of_leaves" "fault_of_leaves" (defArgs s_fault_of_leaves) (defBody s_fault_of_leaves) (defScope s_fault_of_leaves) .none kV11 dc11 pm11 an11 cd11 ct11), sl11⟩)
    (c11 : PySem.W.codeIn K cd11 "fault_of_leaves" = true)
    (k11 : PySem.W.keepIn K (.ref f11) = true)
    (a12 : PySem.W.nsIn K mainGlobals "fault_of_ands" = some (some (.ref f12)))
    (l12 : K.lookup f12 = some ⟨oc12, od12, .func (PySem.W.fnOf "fault_of_ands" "fault_of_ands" (defArgs s_fault_of_ands) (defBody s_fault_of_ands) (defScope s_fault_of_ands) .none kV12 dc12 pm12 an12 cd12 ct12), sl12⟩)
    (c12 : PySem.W.codeIn K cd12 "fault_of_ands" = true)
    (k12 : PySem.W.keepIn K (.ref f12) = true)
    (a13 : PySem.W.nsIn K mainGlobals "fault_of_outputs" = some (some (.ref f13)))
    (l13 : K.lookup f13 = some ⟨oc13, od13, .func (PySem.W.fnOf "fault_of_outputs" "fault_of_outputs" (defArgs s_fault_of_outputs) (defBody s_fault_of_outputs) (defScope s_fault_of_outputs) .none kV13 dc13 pm13 an13 cd13 ct13), sl13⟩)
    (c13 : PySem.W.codeIn K cd13 "fault_of_outputs" = true)
    (k13 : PySem.W.keepIn K (.ref f13) = true)
    (a14 : PySem.W.findIn K (.ref CCircuit) "__init__" = some (some (.ref f14)))
    (l14 : K.lookup f14 = some ⟨oc14, od14, .func (PySem.W.fnOf "__init__" "Circuit.__init__" (defArgs s_Circuit_init) (defBody s_Circuit_init) (defScope s_Circuit_init) .none kV14 dc14 pm14 an14 cd14 ct14), sl14⟩)
    (c14 : PySem.W.codeIn K cd14 "Circuit.__init__" = true)
    (k14 : PySem.W.keepIn K (.ref f14) = true)
    (i14 : PySem.W.isFn K (.ref f14) = true)
    (a15 : PySem.W.findIn K (.ref CBuilder) "level_of" = some (some (.ref f15)))
    (l15 : K.lookup f15 = some ⟨oc15, od15, .func (PySem.W.fnOf "level_of" "Builder.level_of" (defArgs s_Builder_level_of) (defBody s_Builder_level_of) (defScope s_Builder_level_of) .none kV15 dc15 pm15 an15 cd15 ct15), sl15⟩)
    (c15 : PySem.W.codeIn K cd15 "Builder.level_of" = true)
    (k15 : PySem.W.keepIn K (.ref f15) = true)
    (i15 : PySem.W.isFn K (.ref f15) = true)
    (a16 : PySem.W.findIn K (.ref CBuilder) "both" = some (some (.ref f16)))
    (l16 : K.lookup f16 = some ⟨oc16, od16, .func (PySem.W.fnOf "both" "Builder.both" (defArgs s_Builder_both) (defBody s_Builder_both) (defScope s_Builder_both) .none kV16 dc16 pm16 an16 cd16 ct16), sl16⟩)
    (c16 : PySem.W.codeIn K cd16 "Builder.both" = true)
    (k16 : PySem.W.keepIn K (.ref f16) = true)
    (i16 : PySem.W.isFn K (.ref f16) = true)
    (a17 : PySem.W.findIn K (.ref CBuilder) "either" = some (some (.ref f17)))
    (l17 : K.lookup f17 = some ⟨oc17, od17, .func (PySem.W.fnOf "either" "Builder.either" (defArgs s_Builder_either) (defBody s_Builder_either) (defScope s_Builder_either) .none kV17 dc17 pm17 an17 cd17 ct17), sl17⟩)
    (c17 : PySem.W.codeIn K cd17 "Builder.either" = true)
    (k17 : PySem.W.keepIn K (.ref f17) = true)
    (i17 : PySem.W.isFn K (.ref f17) = true)
    (a18 : PySem.W.findIn K (.ref CBuilder) "choose" = some (some (.ref f18)))
    (l18 : K.lookup f18 = some ⟨oc18, od18, .func (PySem.W.fnOf "choose" "Builder.choose" (defArgs s_Builder_choose) (defBody s_Builder_choose) (defScope s_Builder_choose) .none kV18 dc18 pm18 an18 cd18 ct18), sl18⟩)
    (c18 : PySem.W.codeIn K cd18 "Builder.choose" = true)
    (k18 : PySem.W.keepIn K (.ref f18) = true)
    (i18 : PySem.W.isFn K (.ref f18) = true)
    (a19 : PySem.W.nsIn K mainGlobals "mask_of" = some (some (.ref f19)))
    (l19 : K.lookup f19 = some ⟨oc19, od19, .func (PySem.W.fnOf "mask_of" "mask_of" (defArgs s_mask_of) (defBody s_mask_of) (defScope s_mask_of) .none kV19 dc19 pm19 an19 cd19 ct19), sl19⟩)
    (c19 : PySem.W.codeIn K cd19 "mask_of" = true)
    (k19 : PySem.W.keepIn K (.ref f19) = true)
    (a20 : PySem.W.findIn K (.ref CDecoder) "under_rows" = some (some (.ref f20)))
    (l20 : K.lookup f20 = some ⟨oc20, od20, .func (PySem.W.fnOf "under_rows" "Decoder.under_rows" (defArgs s_Decoder_under_rows) (defBody s_Decoder_under_rows) (defScope s_Decoder_under_rows) .none kV20 dc20 pm20 an20 cd20 ct20), sl20⟩)
    (c20 : PySem.W.codeIn K cd20 "Decoder.under_rows" = true)
    (k20 : PySem.W.keepIn K (.ref f20) = true)
    (i20 : PySem.W.isFn K (.ref f20) = true)
    (a21 : PySem.W.findIn K (.ref CDecoder) "under_codes" = some (some (.ref f21)))
    (l21 : K.lookup f21 = some ⟨oc21, od21, .func (PySem.W.fnOf "under_codes" "Decoder.under_codes" (defArgs s_Decoder_under_codes) (defBody s_Decoder_under_codes) (defScope s_Decoder_under_codes) .none kV21 dc21 pm21 an21 cd21 ct21), sl21⟩)
    (c21 : PySem.W.codeIn K cd21 "Decoder.under_codes" = true)
    (k21 : PySem.W.keepIn K (.ref f21) = true)
    (i21 : PySem.W.isFn K (.ref f21) = true)
    (a22 : PySem.W.findIn K (.ref CDecoder) "literal_of" = some (some (.ref f22)))
    (l22 : K.lookup f22 = some ⟨oc22, od22, .func (PySem.W.fnOf "literal_of" "Decoder.literal_of" (defArgs s_Decoder_literal_of) (defBody s_Decoder_literal_of) (defScope s_Decoder_literal_of) .none kV22 dc22 pm22 an22 cd22 ct22), sl22⟩)
    (c22 : PySem.W.codeIn K cd22 "Decoder.literal_of" = true)
    (k22 : PySem.W.keepIn K (.ref f22) = true)
    (i22 : PySem.W.isFn K (.ref f22) = true)
    (a23 : PySem.W.nsIn K mainGlobals "coded" = some (some (.ref f23)))
    (l23 : K.lookup f23 = some ⟨oc23, od23, .func (PySem.W.fnOf "coded" "coded" (defArgs s_coded) (defBody s_coded) (defScope s_coded) .none kV23 dc23 pm23 an23 cd23 ct23), sl23⟩)
    (c23 : PySem.W.codeIn K cd23 "coded" = true)
    (k23 : PySem.W.keepIn K (.ref f23) = true)
    (a24 : PySem.W.nsIn K mainGlobals "_law_told" = some (some (.ref f24)))
    (l24 : K.lookup f24 = some ⟨oc24, od24, .func (PySem.W.fnOf "_law_told" "_law_told" (defArgs s__law_told) (defBody s__law_told) (defScope s__law_told) .none kV24 dc24 pm24 an24 cd24 ct24), sl24⟩)
    (c24 : PySem.W.codeIn K cd24 "_law_told" = true)
    (k24 : PySem.W.keepIn K (.ref f24) = true)
    (a25 : PySem.W.nsIn K mainGlobals "_law_fault" = some (some (.ref f25)))
    (l25 : K.lookup f25 = some ⟨oc25, od25, .func (PySem.W.fnOf "_law_fault" "_law_fault" (defArgs s__law_fault) (defBody s__law_fault) (defScope s__law_fault) .none kV25 dc25 pm25 an25 cd25 ct25), sl25⟩)
    (c25 : PySem.W.codeIn K cd25 "_law_fault" = true)
    (k25 : PySem.W.keepIn K (.ref f25) = true)
    (a26 : PySem.W.nsIn K mainGlobals "_law_bit" = some (some (.ref f26)))
    (l26 : K.lookup f26 = some ⟨oc26, od26, .func (PySem.W.fnOf "_law_bit" "_law_bit" (defArgs s__law_bit) (defBody s__law_bit) (defScope s__law_bit) .none kV26 dc26 pm26 an26 cd26 ct26), sl26⟩)
    (c26 : PySem.W.codeIn K cd26 "_law_bit" = true)
    (k26 : PySem.W.keepIn K (.ref f26) = true)
    (a27 : PySem.W.nsIn K mainGlobals "_law_values" = some (some (.ref f27)))
    (l27 : K.lookup f27 = some ⟨oc27, od27, .func (PySem.W.fnOf "_law_values" "_law_values" (defArgs s__law_values) (defBody s__law_values) (defScope s__law_values) .none kV27 dc27 pm27 an27 cd27 ct27), sl27⟩)
    (c27 : PySem.W.codeIn K cd27 "_law_values" = true)
    (k27 : PySem.W.keepIn K (.ref f27) = true)
    (a28 : PySem.W.nsIn K mainGlobals "_law_step" = some (some (.ref f28)))
    (l28 : K.lookup f28 = some ⟨oc28, od28, .func (PySem.W.fnOf "_law_step" "_law_step" (defArgs s__law_step) (defBody s__law_step) (defScope s__law_step) .none kV28 dc28 pm28 an28 cd28 ct28), sl28⟩)
    (c28 : PySem.W.codeIn K cd28 "_law_step" = true)
    (k28 : PySem.W.keepIn K (.ref f28) = true)
    (a29 : PySem.W.nsIn K mainGlobals "_law_right" = some (some (.ref f29)))
    (l29 : K.lookup f29 = some ⟨oc29, od29, .func (PySem.W.fnOf "_law_right" "_law_right" (defArgs s__law_right) (defBody s__law_right) (defScope s__law_right) .none kV29 dc29 pm29 an29 cd29 ct29), sl29⟩)
    (c29 : PySem.W.codeIn K cd29 "_law_right" = true)
    (k29 : PySem.W.keepIn K (.ref f29) = true)
    (a30 : PySem.W.nsIn K mainGlobals "_law_spoilt" = some (some (.ref f30)))
    (l30 : K.lookup f30 = some ⟨oc30, od30, .func (PySem.W.fnOf "_law_spoilt" "_law_spoilt" (defArgs s__law_spoilt) (defBody s__law_spoilt) (defScope s__law_spoilt) .none kV30 dc30 pm30 an30 cd30 ct30), sl30⟩)
    (c30 : PySem.W.codeIn K cd30 "_law_spoilt" = true)
    (k30 : PySem.W.keepIn K (.ref f30) = true)
    (a31 : PySem.W.nsIn K mainGlobals "law" = some (some (.ref f31)))
    (l31 : K.lookup f31 = some ⟨oc31, od31, .func (PySem.W.fnOf "law" "law" (defArgs s_law) (defBody s_law) (defScope s_law) .none kV31 dc31 pm31 an31 cd31 ct31), sl31⟩)
    (c31 : PySem.W.codeIn K cd31 "law" = true)
    (k31 : PySem.W.keepIn K (.ref f31) = true)
    (pgCircuit : PySem.W.plainGet K CCircuit Str.empty = true)
    (hdCircuit : PySem.W.hasDictIn K CCircuit = true)
    (poCircuit : PySem.W.plainOver K CCircuit = true)
    (saCircuit : PySem.W.findIn K (.ref CCircuit) "__setattr__" = some (some (.builtin "object.__setattr__")))
    (mkCircuit : PySem.W.makesIn K CCircuit = true)
    (kcCircuit : PySem.W.keepIn K (.ref CCircuit) = true)
    (nCircuit_inputs : PySem.W.findIn K (.ref CCircuit) "inputs" = some none)
    (nCircuit_latches : PySem.W.findIn K (.ref CCircuit) "latches" = some none)
    (nCircuit_ands : PySem.W.findIn K (.ref CCircuit) "ands" = some none)
    (nCircuit_outputs : PySem.W.findIn K (.ref CCircuit) "outputs" = some none)
    (qhaCircuit : PySem.W.findIn K (.ref CCircuit) "__class__" = some (some (.builtin "object.__class__")))
    (qhnCircuit : PySem.W.specialIn K (.builtin "object.__class__") "__get__" = some (some (.builtin "getset_descriptor.__get__")))
    (qhtCircuit : PySem.W.takesIn K (.builtin "object.__class__") = some true)
    (qhmCircuit : PySem.W.mroIn K CCircuit (.type "object") = some true)
    (pgBuilder : PySem.W.plainGet K CBuilder Str.empty = true)
    (hdBuilder : PySem.W.hasDictIn K CBuilder = true)
    (poBuilder : PySem.W.plainOver K CBuilder = true)
    (saBuilder : PySem.W.findIn K (.ref CBuilder) "__setattr__" = some (some (.builtin "object.__setattr__")))
    (mkBuilder : PySem.W.makesIn K CBuilder = true)
    (kcBuilder : PySem.W.keepIn K (.ref CBuilder) = true)
    (nBuilder_leaf_count : PySem.W.findIn K (.ref CBuilder) "leaf_count" = some none)
    (nBuilder_pairs : PySem.W.findIn K (.ref CBuilder) "pairs" = some none)
    (nBuilder__nodes : PySem.W.findIn K (.ref CBuilder) "_nodes" = some none)
    (nBuilder__levels : PySem.W.findIn K (.ref CBuilder) "_levels" = some none)
    (pgMachine : PySem.W.plainGet K CMachine Str.empty = true)
    (hdMachine : PySem.W.hasDictIn K CMachine = true)
    (poMachine : PySem.W.plainOver K CMachine = true)
    (saMachine : PySem.W.findIn K (.ref CMachine) "__setattr__" = some (some (.builtin "object.__setattr__")))
    (mkMachine : PySem.W.makesIn K CMachine = true)
    (kcMachine : PySem.W.keepIn K (.ref CMachine) = true)
    (nMachine_input_count : PySem.W.findIn K (.ref CMachine) "input_count" = some none)
    (nMachine_output_count : PySem.W.findIn K (.ref CMachine) "output_count" = some none)
    (nMachine_moves : PySem.W.findIn K (.ref CMachine) "moves" = some none)
    (pgDecoder : PySem.W.plainGet K CDecoder Str.empty = true)
    (hdDecoder : PySem.W.hasDictIn K CDecoder = true)
    (poDecoder : PySem.W.plainOver K CDecoder = true)
    (saDecoder : PySem.W.findIn K (.ref CDecoder) "__setattr__" = some (some (.builtin "object.__setattr__")))
    (mkDecoder : PySem.W.makesIn K CDecoder = true)
    (kcDecoder : PySem.W.keepIn K (.ref CDecoder) = true)
    (nDecoder_input_count : PySem.W.findIn K (.ref CDecoder) "input_count" = some none)
    (nDecoder_codes : PySem.W.findIn K (.ref CDecoder) "codes" = some none)
    (nDecoder_builder : PySem.W.findIn K (.ref CDecoder) "builder" = some none)
    (z_super : PySem.W.nsIn K mainGlobals "super" = some none)
    (zan : PySem.W.nsIn K cStatics "thirdparty.any" = some none)
    (yht : (l.prog.main.scope.names.lookup ("super" : Str)).isSome = false)
    (eKInvalidCircuit : K.lookup CInvalidCircuit = some (excClassObj nmInvalidCircuit qnInvalidCircuit CInvalidCircuit NNInvalidCircuit bsInvalidCircuit bmInvalidCircuit true snInvalidCircuit subInvalidCircuit abInvalidCircuit colInvalidCircuit ddInvalidCircuit k0InvalidCircuit k1InvalidCircuit k2InvalidCircuit k3InvalidCircuit k5InvalidCircuit "ValueError.__new__"))
    (eVInvalidCircuit : PySem.HandSPX.refsVE bmInvalidCircuit = true)
    (eSInvalidCircuit : PySem.W.findIn K (.ref CInvalidCircuit) "__setattr__" = some (some (.builtin "object.__setattr__")))
    (eXInvalidCircuit : PySem.W.subIn K (.ref CInvalidCircuit) (.type "BaseException") = some true)
    (eTInvalidCircuit : PySem.W.typeIn K (.ref CInvalidCircuit) = some (.type "type"))
    (ePInvalidCircuit : PySem.W.keepIn K (.ref CInvalidCircuit) = true)
    (eIInvalidCircuit : PySem.W.findIn K (.ref CInvalidCircuit) "__init__" = some (some (.ref feInvalidCircuit)))
    (eFInvalidCircuit : PySem.W.typeIn K (.ref feInvalidCircuit) = some (.type "function"))
    (eLInvalidCircuit : K.lookup feInvalidCircuit = some ⟨ocInvalidCircuit, odInvalidCircuit, .func (PySem.W.fnX "__init__" "InvalidCircuit.__init__" (defArgs s_InvalidCircuit_init) (defBody s_InvalidCircuit_init) (defScope s_InvalidCircuit_init) [("__class__", ccInvalidCircuit)] .none kVInvalidCircuit docInvalidCircuit pmInvalidCircuit anInvalidCircuit (.ref cdaInvalidCircuit) ctInvalidCircuit), oslInvalidCircuit⟩)
    (eCInvalidCircuit : PySem.W.codeIn K (.ref cdaInvalidCircuit) "InvalidCircuit.__init__" = true)
    (eDInvalidCircuit : K.lookup cdaInvalidCircuit = some ⟨oc2InvalidCircuit, od2InvalidCircuit, .fields vs2InvalidCircuit, sl2InvalidCircuit⟩)
    (eEInvalidCircuit : vs2InvalidCircuit[2]? = some (.str fileInvalidCircuit tfInvalidCircuit))
    (eGInvalidCircuit : ((l.prog.main.file : Str) == fileInvalidCircuit) = true)
    (eHInvalidCircuit : K.lookup ccInvalidCircuit = some ⟨oc3InvalidCircuit, od3InvalidCircuit, .cell (some (.ref CInvalidCircuit)), sl3InvalidCircuit⟩)
    (eMInvalidCircuit : PySem.W.ks_superIn K CInvalidCircuit CInvalidCircuit "__init__" = some (some (.builtin "ValueError.__init__")))
    (eNInvalidCircuit : PySem.W.subIn K (.ref CInvalidCircuit) (.type "ValueError") = some true)
    (eOInvalidCircuit : PySem.W.mroIn K CInvalidCircuit (.ref CInvalidCircuit) = some true)
    (eAInvalidCircuit_part : PySem.W.findIn K (.ref CInvalidCircuit) "part" = some none)
    (eAInvalidCircuit_index : PySem.W.findIn K (.ref CInvalidCircuit) "index" = some none)
    (ehgInvalidCircuit : PySem.W.findIn K (.ref CInvalidCircuit) "__getattribute__" = some (some (.builtin "BaseException.__getattribute__")))
    (ehkInvalidCircuit : PySem.W.findIn K (.ref CInvalidCircuit) "__getattr__" = some none)
    (ehsInvalidCircuit : PySem.W.subIn K (.ref CInvalidCircuit) (.type "BaseException") = some true)
    (ehdInvalidCircuit : PySem.W.hasDictIn K CInvalidCircuit = true)
    (ehaInvalidCircuit : PySem.W.findIn K (.ref CInvalidCircuit) "__class__" = some (some (.builtin "object.__class__")))
    (ehnInvalidCircuit : PySem.W.specialIn K (.builtin "object.__class__") "__get__" = some (some (.builtin "getset_descriptor.__get__")))
    (ehtInvalidCircuit : PySem.W.takesIn K (.builtin "object.__class__") = some true)
    (ehmInvalidCircuit : PySem.W.mroIn K CInvalidCircuit (.type "object") = some true)
    (eKInvalidCodes : K.lookup CInvalidCodes = some (excClassObj nmInvalidCodes qnInvalidCodes CInvalidCodes NNInvalidCodes bsInvalidCodes bmInvalidCodes true snInvalidCodes subInvalidCodes abInvalidCodes colInvalidCodes ddInvalidCodes k0InvalidCodes k1InvalidCodes k2InvalidCodes k3InvalidCodes k5InvalidCodes "ValueError.__new__"))
    (eVInvalidCodes : PySem.HandSPX.refsVE bmInvalidCodes = true)
    (eSInvalidCodes : PySem.W.findIn K (.ref CInvalidCodes) "__setattr__" = some (some (.builtin "object.__setattr__")))
    (eXInvalidCodes : PySem.W.subIn K (.ref CInvalidCodes) (.type "BaseException") = some true)
    (eTInvalidCodes : PySem.W.typeIn K (.ref CInvalidCodes) = some (.type "type"))
    (ePInvalidCodes : PySem.W.keepIn K (.ref CInvalidCodes) = true)
    (eIInvalidCodes : PySem.W.findIn K (.ref CInvalidCodes) "__init__" = some (some (.ref feInvalidCodes)))
    (eFInvalidCodes : PySem.W.typeIn K (.ref feInvalidCodes) = some (.type "function"))
    (eLInvalidCodes : K.lookup feInvalidCodes = some ⟨ocInvalidCodes, odInvalidCodes, .func (PySem.W.fnX "__init__" "InvalidCodes.__init__" (defArgs s_InvalidCodes_init) (defBody s_InvalidCodes_init) (defScope s_InvalidCodes_init) [("__class__", ccInvalidCodes)] .none kVInvalidCodes docInvalidCodes pmInvalidCodes anInvalidCodes (.ref cdaInvalidCodes) ctInvalidCodes), oslInvalidCodes⟩)
    (eCInvalidCodes : PySem.W.codeIn K (.ref cdaInvalidCodes) "InvalidCodes.__init__" = true)
    (eDInvalidCodes : K.lookup cdaInvalidCodes = some ⟨oc2InvalidCodes, od2InvalidCodes, .fields vs2InvalidCodes, sl2InvalidCodes⟩)
    (eEInvalidCodes : vs2InvalidCodes[2]? = some (.str fileInvalidCodes tfInvalidCodes))
    (eGInvalidCodes : ((l.prog.main.file : Str) == fileInvalidCodes) = true)
    (eHInvalidCodes : K.lookup ccInvalidCodes = some ⟨oc3InvalidCodes, od3InvalidCodes, .cell (some (.ref CInvalidCodes)), sl3InvalidCodes⟩)
    (eMInvalidCodes : PySem.W.ks_superIn K CInvalidCodes CInvalidCodes "__init__" = some (some (.builtin "ValueError.__init__")))
    (eNInvalidCodes : PySem.W.subIn K (.ref CInvalidCodes) (.type "ValueError") = some true)
    (eOInvalidCodes : PySem.W.mroIn K CInvalidCodes (.ref CInvalidCodes) = some true)
    (eAInvalidCodes_state : PySem.W.findIn K (.ref CInvalidCodes) "state" = some none)
    (ehgInvalidCodes : PySem.W.findIn K (.ref CInvalidCodes) "__getattribute__" = some (some (.builtin "BaseException.__getattribute__")))
    (ehkInvalidCodes : PySem.W.findIn K (.ref CInvalidCodes) "__getattr__" = some none)
    (ehsInvalidCodes : PySem.W.subIn K (.ref CInvalidCodes) (.type "BaseException") = some true)
    (ehdInvalidCodes : PySem.W.hasDictIn K CInvalidCodes = true)
    (ehaInvalidCodes : PySem.W.findIn K (.ref CInvalidCodes) "__class__" = some (some (.builtin "object.__class__")))
    (ehnInvalidCodes : PySem.W.specialIn K (.builtin "object.__class__") "__get__" = some (some (.builtin "getset_descriptor.__get__")))
    (ehtInvalidCodes : PySem.W.takesIn K (.builtin "object.__class__") = some true)
    (ehmInvalidCodes : PySem.W.mroIn K CInvalidCodes (.type "object") = some true)
    (xqInvalidCount : PySem.W.excIn K CInvalidCount [.type "ValueError", .type "Exception", .type "BaseException", .type "object"] "ValueError.__new__" = true)
    (xkInvalidCount : PySem.W.keepIn K (.ref CInvalidCount) = true)
    (xsInvalidCount : PySem.W.subIn K (.ref CInvalidCount) (.type "BaseException") = some true)
    (xtInvalidCount : PySem.W.typeIn K (.ref CInvalidCount) = some (.type "type"))
    (eKInvalidMachine : K.lookup CInvalidMachine = some (excClassObj nmInvalidMachine qnInvalidMachine CInvalidMachine NNInvalidMachine bsInvalidMachine bmInvalidMachine true snInvalidMachine subInvalidMachine abInvalidMachine colInvalidMachine ddInvalidMachine k0InvalidMachine k1InvalidMachine k2InvalidMachine k3InvalidMachine k5InvalidMachine "ValueError.__new__"))
    (eVInvalidMachine : PySem.HandSPX.refsVE bmInvalidMachine = true)
    (eSInvalidMachine : PySem.W.findIn K (.ref CInvalidMachine) "__setattr__" = some (some (.builtin "object.__setattr__")))
    (eXInvalidMachine : PySem.W.subIn K (.ref CInvalidMachine) (.type "BaseException") = some true)
    (eTInvalidMachine : PySem.W.typeIn K (.ref CInvalidMachine) = some (.type "type"))
    (ePInvalidMachine : PySem.W.keepIn K (.ref CInvalidMachine) = true)
    (eIInvalidMachine : PySem.W.findIn K (.ref CInvalidMachine) "__init__" = some (some (.ref feInvalidMachine)))
    (eFInvalidMachine : PySem.W.typeIn K (.ref feInvalidMachine) = some (.type "function"))
    (eLInvalidMachine : K.lookup feInvalidMachine = some ⟨ocInvalidMachine, odInvalidMachine, .func (PySem.W.fnX "__init__" "InvalidMachine.__init__" (defArgs s_InvalidMachine_init) (defBody s_InvalidMachine_init) (defScope s_InvalidMachine_init) [("__class__", ccInvalidMachine)] .none kVInvalidMachine docInvalidMachine pmInvalidMachine anInvalidMachine (.ref cdaInvalidMachine) ctInvalidMachine), oslInvalidMachine⟩)
    (eCInvalidMachine : PySem.W.codeIn K (.ref cdaInvalidMachine) "InvalidMachine.__init__" = true)
    (eDInvalidMachine : K.lookup cdaInvalidMachine = some ⟨oc2InvalidMachine, od2InvalidMachine, .fields vs2InvalidMachine, sl2InvalidMachine⟩)
    (eEInvalidMachine : vs2InvalidMachine[2]? = some (.str fileInvalidMachine tfInvalidMachine))
    (eGInvalidMachine : ((l.prog.main.file : Str) == fileInvalidMachine) = true)
    (eHInvalidMachine : K.lookup ccInvalidMachine = some ⟨oc3InvalidMachine, od3InvalidMachine, .cell (some (.ref CInvalidMachine)), sl3InvalidMachine⟩)
    (eMInvalidMachine : PySem.W.ks_superIn K CInvalidMachine CInvalidMachine "__init__" = some (some (.builtin "ValueError.__init__")))
    (eNInvalidMachine : PySem.W.subIn K (.ref CInvalidMachine) (.type "ValueError") = some true)
    (eOInvalidMachine : PySem.W.mroIn K CInvalidMachine (.ref CInvalidMachine) = some true)
    (eAInvalidMachine_state : PySem.W.findIn K (.ref CInvalidMachine) "state" = some none)
    (eAInvalidMachine_row : PySem.W.findIn K (.ref CInvalidMachine) "row" = some none)
    (ybInvalidCircuit_InvalidCircuit : PySem.W.subIn K (.ref CInvalidCircuit) (.type "BaseException") = some true)
    (yiInvalidCircuit_InvalidCircuit : PySem.W.isClsIn K CInvalidCircuit = true)
    (ytInvalidCircuit_InvalidCircuit : PySem.W.typeIn K (.ref CInvalidCircuit) = some (.type "type"))
    (ysInvalidCircuit_InvalidCircuit : PySem.W.subIn K (.ref CInvalidCircuit) (.ref CInvalidCircuit) = some true)
    (ybInvalidCircuit_InvalidCodes : PySem.W.subIn K (.ref CInvalidCodes) (.type "BaseException") = some true)
    (yiInvalidCircuit_InvalidCodes : PySem.W.isClsIn K CInvalidCodes = true)
    (ytInvalidCircuit_InvalidCodes : PySem.W.typeIn K (.ref CInvalidCodes) = some (.type "type"))
    (ysInvalidCircuit_InvalidCodes : PySem.W.subIn K (.ref CInvalidCircuit) (.ref CInvalidCodes) = some false)
    (ybInvalidCodes_InvalidCodes : PySem.W.subIn K (.ref CInvalidCodes) (.type "BaseException") = some true)
    (yiInvalidCodes_InvalidCodes : PySem.W.isClsIn K CInvalidCodes = true)
    (ytInvalidCodes_InvalidCodes : PySem.W.typeIn K (.ref CInvalidCodes) = some (.type "type"))
    (ysInvalidCodes_InvalidCodes : PySem.W.subIn K (.ref CInvalidCodes) (.ref CInvalidCodes) = some true)
    (znInvalidCodes_EvergateError : (Value.ref CInvalidCodes == Value.ref CEvergateError) = false)
    (ziInvalidCodes_EvergateError : PySem.W.isClsIn K CEvergateError = true)
    (ztInvalidCodes_EvergateError : PySem.W.typeIn K (.ref CEvergateError) = some (.type "type"))
    (zsInvalidCodes_EvergateError : PySem.W.subIn K (.ref CInvalidCodes) (.ref CEvergateError) = some true)
    (z_enumerate : PySem.W.nsIn K mainGlobals "enumerate" = some none)
    (z_int : PySem.W.nsIn K mainGlobals "int" = some none)
    (z_isinstance : PySem.W.nsIn K mainGlobals "isinstance" = some none)
    (z_len : PySem.W.nsIn K mainGlobals "len" = some none)
    (z_list : PySem.W.nsIn K mainGlobals "list" = some none)
    (z_max : PySem.W.nsIn K mainGlobals "max" = some none)
    (z_min : PySem.W.nsIn K mainGlobals "min" = some none)
    (z_range : PySem.W.nsIn K mainGlobals "range" = some none)
    (z_str : PySem.W.nsIn K mainGlobals "str" = some none)
    (z_sum : PySem.W.nsIn K mainGlobals "sum" = some none)
    (z_tuple : PySem.W.nsIn K mainGlobals "tuple" = some none)
    (z_FIRST_SIGNS : PySem.W.nsIn K mainGlobals "FIRST_SIGNS" = some (some (.str "abcdefghijklmnopqrstuvwxyz" tFIRST_SIGNS)))
    (z_MOST_ANDS : PySem.W.nsIn K mainGlobals "MOST_ANDS" = some (some (.int 2000 tMOST_ANDS)))
    (z_MOST_INPUTS_circuit : PySem.W.nsIn K mainGlobals "MOST_INPUTS_circuit" = some (some (.int 16 tMOST_INPUTS_circuit)))
    (z_MOST_INPUTS_machine : PySem.W.nsIn K mainGlobals "MOST_INPUTS_machine" = some (some (.int 6 tMOST_INPUTS_machine)))
    (z_MOST_LATCHES : PySem.W.nsIn K mainGlobals "MOST_LATCHES" = some (some (.int 40 tMOST_LATCHES)))
    (z_MOST_OUTPUTS_circuit : PySem.W.nsIn K mainGlobals "MOST_OUTPUTS_circuit" = some (some (.int 32 tMOST_OUTPUTS_circuit)))
    (z_MOST_OUTPUTS_machine : PySem.W.nsIn K mainGlobals "MOST_OUTPUTS_machine" = some (some (.int 32 tMOST_OUTPUTS_machine)))
    (z_MOST_SIGNS : PySem.W.nsIn K mainGlobals "MOST_SIGNS" = some (some (.int 12 tMOST_SIGNS)))
    (z_MOST_STATES : PySem.W.nsIn K mainGlobals "MOST_STATES" = some (some (.int 1000 tMOST_STATES)))
    (z_SIGNS : PySem.W.nsIn K mainGlobals "SIGNS" = some (some (.str "abcdefghijklmnopqrstuvwxyz0123456789_" tSIGNS)))
    : ∃ fd : FuncData, (∀ (s : Shared) (v : Value), BindsTo s fd ⟨[v], []⟩ [("script", v)]) ∧ ∀ base : Heap, K.In base → base.Ns mainGlobals mg → FnOk l.prog w K mg base CX0 35 fa fd ["script"] (spLaw K) := by
  have e := hfa.symm.trans (PySem.W.mg_of X G a31)
  cases e
  refine ⟨PySem.W.fnOf "law" "law" (defArgs s_law) (defBody s_law) (defScope s_law) .none kV31 dc31 pm31 an31 cd31 ct31, fun s v => .of_eq rfl, fun base _ _ => ?_⟩
  have T : { T : Txt l.prog K mg // T.f_law = fa ∧ T.d_law = PySem.W.fnOf "law" "law" (defArgs s_law) (defBody s_law) (defScope s_law) .none kV31 dc31 pm31 an31 cd31 ct31 } := ⟨{
    f__law_cell := f1
    d__law_cell := _
    F__law_cell := fun_mk (st := s__law_cell) l1 c1 k1
    b__law_cell := (fun_mk (st := s__law_cell) l1 c1 k1).binds (ps := ["script", "k"]) fun _ _ _ _ _ _ us hl => match us, hl with | [_, _], _ => rfl
    g__law_cell := PySem.W.mg_of X G a1
    k__law_cell := k1
    f__law_moves := f2
    d__law_moves := _
    F__law_moves := fun_mk (st := s__law_moves) l2 c2 k2
    b__law_moves := (fun_mk (st := s__law_moves) l2 c2 k2).binds (ps := ["script", "at", "inputs", "outputs", "states"]) fun _ _ _ _ _ _ us hl => match us, hl with | [_, _, _, _, _], _ => rfl
    g__law_moves := PySem.W.mg_of X G a2
    k__law_moves := k2
    f__law_row := f3
    d__law_row := _
    F__law_row := fun_mk (st := s__law_row) l3 c3 k3
    b__law_row := (fun_mk (st := s__law_row) l3 c3 k3).binds (ps := ["count", "number"]) fun _ _ _ _ _ _ us hl => match us, hl with | [_, _], _ => rfl
    g__law_row := PySem.W.mg_of X G a3
    k__law_row := k3
    f__law_codes := f4
    d__law_codes := _
    F__law_codes := fun_mk (st := s__law_codes) l4 c4 k4
    b__law_codes := (fun_mk (st := s__law_codes) l4 c4 k4).binds (ps := ["cell", "states"]) fun _ _ _ _ _ _ us hl => match us, hl with | [_, _], _ => rfl
    g__law_codes := PySem.W.mg_of X G a4
    k__law_codes := k4
    f_is_move := f5
    d_is_move := _
    F_is_move := fun_mk (st := s_is_move) l5 c5 k5
    b_is_move := (fun_mk (st := s_is_move) l5 c5 k5).binds (ps := ["move", "state_count", "output_count"]) fun _ _ _ _ _ _ us hl => match us, hl with | [_, _, _], _ => rfl
    g_is_move := PySem.W.mg_of X G a5
    k_is_move := k5
    f_Machine_init := f6
    d_Machine_init := _
    F_Machine_init := fun_mk (st := s_Machine_init) l6 c6 k6
    b_Machine_init := (fun_mk (st := s_Machine_init) l6 c6 k6).binds (ps := ["self", "input_count", "output_count", "moves"]) fun _ _ _ _ _ _ us hl => match us, hl with | [_, _, _, _], _ => rfl
    f_check_codes := f7
    d_check_codes := _
    F_check_codes := fun_mk (st := s_check_codes) l7 c7 k7
    b_check_codes := (fun_mk (st := s_check_codes) l7 c7 k7).binds (ps := ["machine", "codes"]) fun _ _ _ _ _ _ us hl => match us, hl with | [_, _], _ => rfl
    g_check_codes := PySem.W.mg_of X G a7
    k_check_codes := k7
    f_Builder_init := f8
    d_Builder_init := _
    F_Builder_init := fun_mk (st := s_Builder_init) l8 c8 k8
    b_Builder_init := (fun_mk (st := s_Builder_init) l8 c8 k8).binds (ps := ["self", "leaf_count"]) fun _ _ _ _ _ _ us hl => match us, hl with | [_, _], _ => rfl
    f_Decoder_init := f9
    d_Decoder_init := _
    F_Decoder_init := fun_mk (st := s_Decoder_init) l9 c9 k9
    b_Decoder_init := (fun_mk (st := s_Decoder_init) l9 c9 k9).binds (ps := ["self", "input_count", "codes"]) fun _ _ _ _ _ _ us hl => match us, hl with | [_, _, _], _ => rfl
    f_is_name := f10
    d_is_name := _
    F_is_name := fun_mk (st := s_is_name) l10 c10 k10
    b_is_name := (fun_mk (st := s_is_name) l10 c10 k10).binds (ps := ["text"]) fun _ _ _ _ _ _ us hl => match us, hl with | [_], _ => rfl
    g_is_name := PySem.W.mg_of X G a10
    k_is_name := k10
    f_fault_of_leaves := f11
    d_fault_of_leaves := _
    F_fault_of_leaves := fun_mk (st := s_fault_of_leaves) l11 c11 k11
    b_fault_of_leaves := (fun_mk (st := s_fault_of_leaves) l11 c11 k11).binds (ps := ["inputs", "latches", "node_count"]) fun _ _ _ _ _ _ us hl => match us, hl with | [_, _, _], _ => rfl
    g_fault_of_leaves := PySem.W.mg_of X G a11
    k_fault_of_leaves := k11
    f_fault_of_ands := f12
    d_fault_of_ands := _
    F_fault_of_ands := fun_mk (st := s_fault_of_ands) l12 c12 k12
    b_fault_of_ands := (fun_mk (st := s_fault_of_ands) l12 c12 k12).binds (ps := ["first_and", "ands"]) fun _ _ _ _ _ _ us hl => match us, hl with | [_, _], _ => rfl
    g_fault_of_ands := PySem.W.mg_of X G a12
    k_fault_of_ands := k12
    f_fault_of_outputs := f13
    d_fault_of_outputs := _
    F_fault_of_outputs := fun_mk (st := s_fault_of_outputs) l13 c13 k13
    b_fault_of_outputs := (fun_mk (st := s_fault_of_outputs) l13 c13 k13).binds (ps := ["outputs", "node_count"]) fun _ _ _ _ _ _ us hl => match us, hl with | [_, _], _ => rfl
    g_fault_of_outputs := PySem.W.mg_of X G a13
    k_fault_of_outputs := k13
    f_Circuit_init := f14
    d_Circuit_init := _
    F_Circuit_init := fun_mk (st := s_Circuit_init) l14 c14 k14
    b_Circuit_init := (fun_mk (st := s_Circuit_init) l14 c14 k14).binds (ps := ["self", "inputs", "latches", "ands", "outputs"]) fun _ _ _ _ _ _ us hl => match us, hl with | [_, _, _, _, _], _ => rfl
    f_Builder_level_of := f15
    d_Builder_level_of := _
    F_Builder_level_of := fun_mk (st := s_Builder_level_of) l15 c15 k15
    b_Builder_level_of := (fun_mk (st := s_Builder_level_of) l15 c15 k15).binds (ps := ["self", "literal"]) fun _ _ _ _ _ _ us hl => match us, hl with | [_, _], _ => rfl
    f_Builder_both := f16
    d_Builder_both := _
    F_Builder_both := fun_mk (st := s_Builder_both) l16 c16 k16
    b_Builder_both := (fun_mk (st := s_Builder_both) l16 c16 k16).binds (ps := ["self", "left", "right"]) fun _ _ _ _ _ _ us hl => match us, hl with | [_, _, _], _ => rfl
    f_Builder_either := f17
    d_Builder_either := _
    F_Builder_either := fun_mk (st := s_Builder_either) l17 c17 k17
    b_Builder_either := (fun_mk (st := s_Builder_either) l17 c17 k17).binds (ps := ["self", "left", "right"]) fun _ _ _ _ _ _ us hl => match us, hl with | [_, _, _], _ => rfl
    f_Builder_choose := f18
    d_Builder_choose := _
    F_Builder_choose := fun_mk (st := s_Builder_choose) l18 c18 k18
    b_Builder_choose := (fun_mk (st := s_Builder_choose) l18 c18 k18).binds (ps := ["self", "test", "yes", "no"]) fun _ _ _ _ _ _ us hl => match us, hl with | [_, _, _, _], _ => rfl
    f_mask_of := f19
    d_mask_of := _
    F_mask_of := fun_mk (st := s_mask_of) l19 c19 k19
    b_mask_of := (fun_mk (st := s_mask_of) l19 c19 k19).binds (ps := ["case_count"]) fun _ _ _ _ _ _ us hl => match us, hl with | [_], _ => rfl
    g_mask_of := PySem.W.mg_of X G a19
    k_mask_of := k19
    f_Decoder_under_rows := f20
    d_Decoder_under_rows := _
    F_Decoder_under_rows := fun_mk (st := s_Decoder_under_rows) l20 c20 k20
    b_Decoder_under_rows := (fun_mk (st := s_Decoder_under_rows) l20 c20 k20).binds (ps := ["self", "table", "place"]) fun _ _ _ _ _ _ us hl => match us, hl with | [_, _, _], _ => rfl
    f_Decoder_under_codes := f21
    d_Decoder_under_codes := _
    F_Decoder_under_codes := fun_mk (st := s_Decoder_under_codes) l21 c21 k21
    b_Decoder_under_codes := (fun_mk (st := s_Decoder_under_codes) l21 c21 k21).binds (ps := ["self", "tables", "states", "place"]) fun _ _ _ _ _ _ us hl => match us, hl with | [_, _, _, _], _ => rfl
    f_Decoder_literal_of := f22
    d_Decoder_literal_of := _
    F_Decoder_literal_of := fun_mk (st := s_Decoder_literal_of) l22 c22 k22
    b_Decoder_literal_of := (fun_mk (st := s_Decoder_literal_of) l22 c22 k22).binds (ps := ["self", "bits"]) fun _ _ _ _ _ _ us hl => match us, hl with | [_, _], _ => rfl
    f_coded := f23
    d_coded := _
    F_coded := fun_mk (st := s_coded) l23 c23 k23
    b_coded := (fun_mk (st := s_coded) l23 c23 k23).binds (ps := ["machine", "codes", "inputs", "latches", "outputs"]) fun _ _ _ _ _ _ us hl => match us, hl with | [_, _, _, _, _], _ => rfl
    g_coded := PySem.W.mg_of X G a23
    k_coded := k23
    f__law_told := f24
    d__law_told := _
    F__law_told := fun_mk (st := s__law_told) l24 c24 k24
    b__law_told := (fun_mk (st := s__law_told) l24 c24 k24).binds (ps := ["machine", "codes", "names"]) fun _ _ _ _ _ _ us hl => match us, hl with | [_, _, _], _ => rfl
    g__law_told := PySem.W.mg_of X G a24
    k__law_told := k24
    f__law_fault := f25
    d__law_fault := _
    F__law_fault := fun_mk (st := s__law_fault) l25 c25 k25
    b__law_fault := (fun_mk (st := s__law_fault) l25 c25 k25).binds (ps := ["states", "codes"]) fun _ _ _ _ _ _ us hl => match us, hl with | [_, _], _ => rfl
    g__law_fault := PySem.W.mg_of X G a25
    k__law_fault := k25
    f__law_bit := f26
    d__law_bit := _
    F__law_bit := fun_mk (st := s__law_bit) l26 c26 k26
    b__law_bit := (fun_mk (st := s__law_bit) l26 c26 k26).binds (ps := ["values", "literal"]) fun _ _ _ _ _ _ us hl => match us, hl with | [_, _], _ => rfl
    g__law_bit := PySem.W.mg_of X G a26
    k__law_bit := k26
    f__law_values := f27
    d__law_values := _
    F__law_values := fun_mk (st := s__law_values) l27 c27 k27
    b__law_values := (fun_mk (st := s__law_values) l27 c27 k27).binds (ps := ["parts", "state", "row"]) fun _ _ _ _ _ _ us hl => match us, hl with | [_, _, _], _ => rfl
    g__law_values := PySem.W.mg_of X G a27
    k__law_values := k27
    f__law_step := f28
    d__law_step := _
    F__law_step := fun_mk (st := s__law_step) l28 c28 k28
    b__law_step := (fun_mk (st := s__law_step) l28 c28 k28).binds (ps := ["parts", "state", "row"]) fun _ _ _ _ _ _ us hl => match us, hl with | [_, _, _], _ => rfl
    g__law_step := PySem.W.mg_of X G a28
    k__law_step := k28
    f__law_right := f29
    d__law_right := _
    F__law_right := fun_mk (st := s__law_right) l29 c29 k29
    b__law_right := (fun_mk (st := s__law_right) l29 c29 k29).binds (ps := ["parts", "moves", "codes", "inputs", "outputs"]) fun _ _ _ _ _ _ us hl => match us, hl with | [_, _, _, _, _], _ => rfl
    g__law_right := PySem.W.mg_of X G a29
    k__law_right := k29
    f__law_spoilt := f30
    d__law_spoilt := _
    F__law_spoilt := fun_mk (st := s__law_spoilt) l30 c30 k30
    b__law_spoilt := (fun_mk (st := s__law_spoilt) l30 c30 k30).binds (ps := ["cell", "codes"]) fun _ _ _ _ _ _ us hl => match us, hl with | [_, _], _ => rfl
    g__law_spoilt := PySem.W.mg_of X G a30
    k__law_spoilt := k30
    f_law := fa
    d_law := _
    F_law := fun_mk (st := s_law) l31 c31 k31
    b_law := (fun_mk (st := s_law) l31 c31 k31).binds (ps := ["script"]) fun _ _ _ _ _ _ us hl => match us, hl with | [_], _ => rfl
    g_law := PySem.W.mg_of X G a31
    k_law := k31
    C_Circuit := CCircuit
    cl_Circuit := ⟨pgCircuit, hdCircuit, poCircuit, saCircuit⟩
    g_Circuit := PySem.W.mg_of X G aCCircuit
    at_Circuit_inputs := ⟨⟨pgCircuit, hdCircuit, poCircuit, saCircuit⟩, nCircuit_inputs⟩
    at_Circuit_latches := ⟨⟨pgCircuit, hdCircuit, poCircuit, saCircuit⟩, nCircuit_latches⟩
    at_Circuit_ands := ⟨⟨pgCircuit, hdCircuit, poCircuit, saCircuit⟩, nCircuit_ands⟩
    at_Circuit_outputs := ⟨⟨pgCircuit, hdCircuit, poCircuit, saCircuit⟩, nCircuit_outputs⟩
    ic_Circuit := ⟨⟨pgCircuit, hdCircuit, poCircuit, saCircuit⟩, qhaCircuit, qhnCircuit, qhtCircuit, qhmCircuit⟩
    mk_Circuit := ⟨mkCircuit, a14, i14, kcCircuit⟩
    C_Builder := CBuilder
    cl_Builder := ⟨pgBuilder, hdBuilder, poBuilder, saBuilder⟩
    g_Builder := PySem.W.mg_of X G aCBuilder
    at_Builder_leaf_count := ⟨⟨pgBuilder, hdBuilder, poBuilder, saBuilder⟩, nBuilder_leaf_count⟩
    at_Builder_pairs := ⟨⟨pgBuilder, hdBuilder, poBuilder, saBuilder⟩, nBuilder_pairs⟩
    at_Builder__nodes := ⟨⟨pgBuilder, hdBuilder, poBuilder, saBuilder⟩, nBuilder__nodes⟩
    at_Builder__levels := ⟨⟨pgBuilder, hdBuilder, poBuilder, saBuilder⟩, nBuilder__levels⟩
    mk_Builder := ⟨mkBuilder, a8, i8, kcBuilder⟩
    me_Builder_level_of := ⟨a15, i15, k15⟩
    me_Builder_both := ⟨a16, i16, k16⟩
    me_Builder_either := ⟨a17, i17, k17⟩
    me_Builder_choose := ⟨a18, i18, k18⟩
    C_Machine := CMachine
    cl_Machine := ⟨pgMachine, hdMachine, poMachine, saMachine⟩
    g_Machine := PySem.W.mg_of X G aCMachine
    at_Machine_input_count := ⟨⟨pgMachine, hdMachine, poMachine, saMachine⟩, nMachine_input_count⟩
    at_Machine_output_count := ⟨⟨pgMachine, hdMachine, poMachine, saMachine⟩, nMachine_output_count⟩
    at_Machine_moves := ⟨⟨pgMachine, hdMachine, poMachine, saMachine⟩, nMachine_moves⟩
    mk_Machine := ⟨mkMachine, a6, i6, kcMachine⟩
    C_Decoder := CDecoder
    cl_Decoder := ⟨pgDecoder, hdDecoder, poDecoder, saDecoder⟩
    g_Decoder := PySem.W.mg_of X G aCDecoder
    at_Decoder_input_count := ⟨⟨pgDecoder, hdDecoder, poDecoder, saDecoder⟩, nDecoder_input_count⟩
    at_Decoder_codes := ⟨⟨pgDecoder, hdDecoder, poDecoder, saDecoder⟩, nDecoder_codes⟩
    at_Decoder_builder := ⟨⟨pgDecoder, hdDecoder, poDecoder, saDecoder⟩, nDecoder_builder⟩
    mk_Decoder := ⟨mkDecoder, a9, i9, kcDecoder⟩
    me_Decoder_under_rows := ⟨a20, i20, k20⟩
    me_Decoder_under_codes := ⟨a21, i21, k21⟩
    me_Decoder_literal_of := ⟨a22, i22, k22⟩
    C_EvergateError := CEvergateError
    g_EvergateError := PySem.W.mg_of X G aCEvergateError
    C_InvalidCircuit := CInvalidCircuit
    g_InvalidCircuit := PySem.W.mg_of X G aCInvalidCircuit
    C_InvalidCodes := CInvalidCodes
    g_InvalidCodes := PySem.W.mg_of X G aCInvalidCodes
    C_InvalidCount := CInvalidCount
    g_InvalidCount := PySem.W.mg_of X G aCInvalidCount
    C_InvalidMachine := CInvalidMachine
    g_InvalidMachine := PySem.W.mg_of X G aCInvalidMachine
    f_InvalidCircuit_init := feInvalidCircuit
    d_InvalidCircuit_init := _
    FS_InvalidCircuit := ⟨⟨_, _, _, _, _, _, _, _, _, _, _, _, _, _, _, _, _, _, _, rfl, eLInvalidCircuit, eCInvalidCircuit, eDInvalidCircuit, eEInvalidCircuit, eGInvalidCircuit, eHInvalidCircuit⟩⟩
    b_InvalidCircuit_init := .all fun us hl => match us, hl with | [_, _, _], _ => rfl
    xo_InvalidCircuit := ⟨⟨_, _, _, _, _, _, _, _, _, _, _, _, _, _, _, eKInvalidCircuit, eVInvalidCircuit⟩, eSInvalidCircuit, eXInvalidCircuit, eTInvalidCircuit, ePInvalidCircuit⟩
    xu_InvalidCircuit := ⟨PySem.W.mg_none_of X G z_super, zan, eMInvalidCircuit, eNInvalidCircuit, eOInvalidCircuit, yht⟩
    xic_InvalidCircuit := eIInvalidCircuit
    xti_InvalidCircuit := eFInvalidCircuit
    xn_InvalidCircuit_part := eAInvalidCircuit_part
    xn_InvalidCircuit_index := eAInvalidCircuit_index
    xe_InvalidCircuit := ⟨ehgInvalidCircuit, ehkInvalidCircuit, ehsInvalidCircuit, ehdInvalidCircuit, ehaInvalidCircuit, ehnInvalidCircuit, ehtInvalidCircuit, ehmInvalidCircuit⟩
    f_InvalidCodes_init := feInvalidCodes
    d_InvalidCodes_init := _
    FS_InvalidCodes := ⟨⟨_, _, _, _, _, _, _, _, _, _, _, _, _, _, _, _, _, _, _, rfl, eLInvalidCodes, eCInvalidCodes, eDInvalidCodes, eEInvalidCodes, eGInvalidCodes, eHInvalidCodes⟩⟩
    b_InvalidCodes_init := .all fun us hl => match us, hl with | [_, _], _ => rfl
    xo_InvalidCodes := ⟨⟨_, _, _, _, _, _, _, _, _, _, _, _, _, _, _, eKInvalidCodes, eVInvalidCodes⟩, eSInvalidCodes, eXInvalidCodes, eTInvalidCodes, ePInvalidCodes⟩
    xu_InvalidCodes := ⟨PySem.W.mg_none_of X G z_super, zan, eMInvalidCodes, eNInvalidCodes, eOInvalidCodes, yht⟩
    xic_InvalidCodes := eIInvalidCodes
    xti_InvalidCodes := eFInvalidCodes
    xn_InvalidCodes_state := eAInvalidCodes_state
    xe_InvalidCodes := ⟨ehgInvalidCodes, ehkInvalidCodes, ehsInvalidCodes, ehdInvalidCodes, ehaInvalidCodes, ehnInvalidCodes, ehtInvalidCodes, ehmInvalidCodes⟩
    xq_InvalidCount := xqInvalidCount
    xk_InvalidCount := xkInvalidCount
    xs_InvalidCount := xsInvalidCount
    xt_InvalidCount := xtInvalidCount
    f_InvalidMachine_init := feInvalidMachine
    d_InvalidMachine_init := _
    FS_InvalidMachine := ⟨⟨_, _, _, _, _, _, _, _, _, _, _, _, _, _, _, _, _, _, _, rfl, eLInvalidMachine, eCInvalidMachine, eDInvalidMachine, eEInvalidMachine, eGInvalidMachine, eHInvalidMachine⟩⟩
    b_InvalidMachine_init := .all fun us hl => match us, hl with | [_, _, _], _ => rfl
    xo_InvalidMachine := ⟨⟨_, _, _, _, _, _, _, _, _, _, _, _, _, _, _, eKInvalidMachine, eVInvalidMachine⟩, eSInvalidMachine, eXInvalidMachine, eTInvalidMachine, ePInvalidMachine⟩
    xu_InvalidMachine := ⟨PySem.W.mg_none_of X G z_super, zan, eMInvalidMachine, eNInvalidMachine, eOInvalidMachine, yht⟩
    xic_InvalidMachine := eIInvalidMachine
    xti_InvalidMachine := eFInvalidMachine
    xn_InvalidMachine_state := eAInvalidMachine_state
    xn_InvalidMachine_row := eAInvalidMachine_row
    xp_InvalidCircuit_InvalidCircuit := exm_mk ybInvalidCircuit_InvalidCircuit yiInvalidCircuit_InvalidCircuit ytInvalidCircuit_InvalidCircuit ysInvalidCircuit_InvalidCircuit
    xp_InvalidCircuit_InvalidCodes := exm_mk ybInvalidCircuit_InvalidCodes yiInvalidCircuit_InvalidCodes ytInvalidCircuit_InvalidCodes ysInvalidCircuit_InvalidCodes
    xp_InvalidCodes_InvalidCodes := exm_mk ybInvalidCodes_InvalidCodes yiInvalidCodes_InvalidCodes ytInvalidCodes_InvalidCodes ysInvalidCodes_InvalidCodes
    xi_InvalidCodes_EvergateError := kit_mk znInvalidCodes_EvergateError ziInvalidCodes_EvergateError ztInvalidCodes_EvergateError zsInvalidCodes_EvergateError
    g_enumerate := PySem.W.mg_none_of X G z_enumerate
    g_int := PySem.W.mg_none_of X G z_int
    g_isinstance := PySem.W.mg_none_of X G z_isinstance
    g_len := PySem.W.mg_none_of X G z_len
    g_list := PySem.W.mg_none_of X G z_list
    g_max := PySem.W.mg_none_of X G z_max
    g_min := PySem.W.mg_none_of X G z_min
    g_range := PySem.W.mg_none_of X G z_range
    g_str := PySem.W.mg_none_of X G z_str
    g_sum := PySem.W.mg_none_of X G z_sum
    g_tuple := PySem.W.mg_none_of X G z_tuple
    t_FIRST_SIGNS := tFIRST_SIGNS
    g_FIRST_SIGNS := PySem.W.mg_of X G z_FIRST_SIGNS
    t_MOST_ANDS := tMOST_ANDS
    g_MOST_ANDS := PySem.W.mg_of X G z_MOST_ANDS
    t_MOST_INPUTS_circuit := tMOST_INPUTS_circuit
    g_MOST_INPUTS_circuit := PySem.W.mg_of X G z_MOST_INPUTS_circuit
    t_MOST_INPUTS_machine := tMOST_INPUTS_machine
    g_MOST_INPUTS_machine := PySem.W.mg_of X G z_MOST_INPUTS_machine
    t_MOST_LATCHES := tMOST_LATCHES
    g_MOST_LATCHES := PySem.W.mg_of X G z_MOST_LATCHES
    t_MOST_OUTPUTS_circuit := tMOST_OUTPUTS_circuit
    g_MOST_OUTPUTS_circuit := PySem.W.mg_of X G z_MOST_OUTPUTS_circuit
    t_MOST_OUTPUTS_machine := tMOST_OUTPUTS_machine
    g_MOST_OUTPUTS_machine := PySem.W.mg_of X G z_MOST_OUTPUTS_machine
    t_MOST_SIGNS := tMOST_SIGNS
    g_MOST_SIGNS := PySem.W.mg_of X G z_MOST_SIGNS
    t_MOST_STATES := tMOST_STATES
    g_MOST_STATES := PySem.W.mg_of X G z_MOST_STATES
    t_SIGNS := tSIGNS
    g_SIGNS := PySem.W.mg_of X G z_SIGNS
  }, rfl, rfl⟩
  obtain ⟨T, e1, e2⟩ := T
  rw [← e1, ← e2]
  exact ok_top T
theorem walk {l : PySem.W.OpenLaw} {q : Program} {loose : List Str} {XP : (Str → Option Value) → Heap → Prop} {YP : World → Heap → Prop} {d : DefRec} {K : Params → PySem.W.Frag} (hn : l.most = some 63) (hdf : d.params.defaults = [])
    (hY : ∀ (w : World) (h : Heap), YP w h → (K w.params).In h)
    (F : ∀ (w : World) (mg : Str → Option Value) (fa : Addr) (h : Heap), (K w.params).In h → h.Ns mainGlobals mg → mg d.name = some (.ref fa) →
      ∃ fd : FuncData, (∀ (s : Shared) (u : Value), BindsTo s fd ⟨[u], []⟩ [("script", u)]) ∧ ∀ base : Heap, (K w.params).In base → base.Ns mainGlobals mg → FnOk l.prog w (K w.params) mg base CX0 35 fa fd ["script"] (spLaw (K w.params))) :
    PySem.W.WalkO q loose XP YP l.row.toRowW d [] (fun f vs => PySem.call f vs) :=
  L2.walk_of (n := 63) (k := 35) (x := "script") (CX := fun _ => CX0) (sp := fun w => spLaw (K w.params)) hn (by decide) hdf ⟨rfl, by decide, by decide⟩ hY F (fun _ _ a ns hl _ hS => ⟨a, ns, rfl, hS, hl, fun _ => rfl⟩) fun _ _ _ _ _ z => z
end K68
open PySem PySem.W PyProof.Rows in
set_option maxRecDepth 100000 in
set_option maxHeartbeats 0 in
theorem PySem.Challenge.cw_evergate_k68_coded_machines_holds : PySem.Challenge.rw_evergate_k68_coded_machines.Holds := by
  w_on; o_law; k_head; (case hw => w_witness2)
  k_fill
  refine K68.walk (l := PySem.Challenge.rw_evergate_k68_coded_machines) rfl rfl (fun w h Y => PySem.W.kIn_of Y) ?F
  case F =>
    intro w mg fa h KX G hmg
    refine' K68.all_mk KX G hmg ?aCCircuit ?aCBuilder ?aCMachine ?aCDecoder ?aCEvergateError ?aCInvalidCircuit ?aCInvalidCodes ?aCInvalidCount ?aCInvalidMachine ?a1 ?l1 ?c1 ?k1 ?a2 ?l2 ?c2 ?k2 ?a3 ?l3 ?c3 ?k3 ?a4 ?l4 ?c4 ?k4 ?a5 ?l5 ?c5 ?k5 ?a6 ?l6 ?c6 ?k6 ?i6 ?a7 ?l7 ?c7 ?k7 ?a8 ?l8 ?c8 ?k8 ?i8 ?a9 ?l9 ?c9 ?k9 ?i9 ?a10 ?l10 ?c10 ?k10 ?a11 ?l11 ?c11 ?k11 ?a12 ?l12 ?c12 ?k12 ?a13 ?l13 ?c13 ?k13 ?a14 ?l14 ?c14 ?k14 ?i14 ?a15 ?l15 ?c15 ?k15 ?i15 ?a16 ?l16 ?c16 ?k16 ?i16 ?a17 ?l17 ?c17 ?k17 ?i17 ?a18 ?l18 ?c18 ?k18 ?i18 ?a19 ?l19 ?c19 ?k19 ?a20 ?l20 ?c20 ?k20 ?i20 ?a21 ?l21 ?c21 ?k21 ?i21 ?a22 ?l22 ?c22 ?k22 ?i22 ?a23 ?l23 ?c23 ?k23 ?a24 ?l24 ?c24 ?k24 ?a25 ?l25 ?c25 ?k25 ?a26 ?l26 ?c26 ?k26 ?a27 ?l27 ?c27 ?k27 ?a28 ?l28 ?c28 ?k28 ?a29 ?l29 ?c29 ?k29 ?a30 ?l30 ?c30 ?k30 ?a31 ?l31 ?c31 ?k31 ?pgCircuit ?hdCircuit ?poCircuit ?saCircuit ?mkCircuit ?kcCircuit ?nCircuit_inputs ?nCircuit_latches ?nCircuit_ands ?nCircuit_outputs ?qhaCircuit ?qhnCircuit ?qhtCircuit ?qhmCircuit ?pgBuilder ?hdBuilder ?poBuilder ?saBuilder ?mkBuilder ?kcBuilder ?nBuilder_leaf_count ?nBuilder_pairs ?nBuilder__nodes ?nBuilder__levels ?pgMachine ?hdMachine ?poMachine ?saMachine ?mkMachine ?kcMachine ?nMachine_input_count ?nMachine_output_count ?nMachine_moves ?pgDecoder ?hdDecoder ?poDecoder ?saDecoder ?mkDecoder ?kcDecoder ?nDecoder_input_count ?nDecoder_codes ?nDecoder_builder ?z_super ?zan ?yht ?eKInvalidCircuit ?eVInvalidCircuit ?eSInvalidCircuit ?eXInvalidCircuit ?eTInvalidCircuit ?ePInvalidCircuit ?eIInvalidCircuit ?eFInvalidCircuit ?eLInvalidCircuit ?eCInvalidCircuit ?eDInvalidCircuit ?eEInvalidCircuit ?eGInvalidCircuit ?eHInvalidCircuit ?eMInvalidCircuit ?eNInvalidCircuit ?eOInvalidCircuit ?eAInvalidCircuit_part ?eAInvalidCircuit_index ?ehgInvalidCircuit ?ehkInvalidCircuit ?ehsInvalidCircuit ?ehdInvalidCircuit ?ehaInvalidCircuit ?ehnInvalidCircuit ?ehtInvalidCircuit ?ehmInvalidCircuit ?eKInvalidCodes ?eVInvalidCodes ?eSInvalidCodes ?eXInvalidCodes ?eTInvalidCodes ?ePInvalidCodes ?eIInvalidCodes ?eFInvalidCodes ?eLInvalidCodes ?eCInvalidCodes ?eDInvalidCodes ?eEInvalidCodes ?eGInvalidCodes ?eHInvalidCodes ?eMInvalidCodes ?eNInvalidCodes ?eOInvalidCodes ?eAInvalidCodes_state ?ehgInvalidCodes ?ehkInvalidCodes ?ehsInvalidCodes ?ehdInvalidCodes ?ehaInvalidCodes ?ehnInvalidCodes ?ehtInvalidCodes ?ehmInvalidCodes ?xqInvalidCount ?xkInvalidCount ?xsInvalidCount ?xtInvalidCount ?eKInvalidMachine ?eVInvalidMachine ?eSInvalidMachine ?eXInvalidMachine ?eTInvalidMachine ?ePInvalidMachine ?eIInvalidMachine ?eFInvalidMachine ?eLInvalidMachine ?eCInvalidMachine ?eDInvalidMachine ?eEInvalidMachine ?eGInvalidMachine ?eHInvalidMachine ?eMInvalidMachine ?eNInvalidMachine ?eOInvalidMachine ?eAInvalidMachine_state ?eAInvalidMachine_row ?ybInvalidCircuit_InvalidCircuit ?yiInvalidCircuit_InvalidCircuit ?ytInvalidCircuit_InvalidCircuit ?ysInvalidCircuit_InvalidCircuit ?ybInvalidCircuit_InvalidCodes ?yiInvalidCircuit_InvalidCodes ?ytInvalidCircuit_InvalidCodes ?ysInvalidCircuit_InvalidCodes ?ybInvalidCodes_InvalidCodes ?yiInvalidCodes_InvalidCodes ?ytInvalidCodes_InvalidCodes ?ysInvalidCodes_InvalidCodes ?znInvalidCodes_EvergateError ?ziInvalidCodes_EvergateError ?ztInvalidCodes_EvergateError ?zsInvalidCodes_EvergateError ?z_enumerate ?z_int ?z_isinstance ?z_len ?z_list ?z_max ?z_min ?z_range ?z_str ?z_sum ?z_tuple ?z_FIRST_SIGNS ?z_MOST_ANDS ?z_MOST_INPUTS_circuit ?z_MOST_INPUTS_machine ?z_MOST_LATCHES ?z_MOST_OUTPUTS_circuit ?z_MOST_OUTPUTS_machine ?z_MOST_SIGNS ?z_MOST_STATES ?z_SIGNS
    (case aCCircuit => k_is)
    (case aCBuilder => k_is)
    (case aCMachine => k_is)
    (case aCDecoder => k_is)
    (case aCEvergateError => k_is)
    (case aCInvalidCircuit => k_is)
    (case aCInvalidCodes => k_is)
    (case aCInvalidCount => k_is)
    (case aCInvalidMachine => k_is)
    (case a1 => k_is)
    (case l1 => k_is)
    (case c1 => k_is)
    (case k1 => k_is)
    (case a2 => k_is)
    (case l2 => k_is)
    (case c2 => k_is)
    (case k2 => k_is)
    (case a3 => k_is)
    (case l3 => k_is)
    (case c3 => k_is)
    (case k3 => k_is)
    (case a4 => k_is)
    (case l4 => k_is)
    (case c4 => k_is)
    (case k4 => k_is)
    (case a5 => k_is)
    (case l5 => k_is)
    (case c5 => k_is)
    (case k5 => k_is)
    (case a6 => k_is)
    (case l6 => k_is)
    (case c6 => k_is)
    (case k6 => k_is)
    (case i6 => k_is)
    (case a7 => k_is)
    (case l7 => k_is)
    (case c7 => k_is)
    (case k7 => k_is)
    (case a8 => k_is)
    (case l8 => k_is)
    (case c8 => k_is)
    (case k8 => k_is)
    (case i8 => k_is)
    (case a9 => k_is)
    (case l9 => k_is)
    (case c9 => k_is)
    (case k9 => k_is)
    (case i9 => k_is)
    (case a10 => k_is)
    (case l10 => k_is)
    (case c10 => k_is)
    (case k10 => k_is)
    (case a11 => k_is)
    (case l11 => k_is)
    (case c11 => k_is)
    (case k11 => k_is)
    (case a12 => k_is)
    (case l12 => k_is)
    (case c12 => k_is)
    (case k12 => k_is)
    (case a13 => k_is)
    (case l13 => k_is)
    (case c13 => k_is)
    (case k13 => k_is)
    (case a14 => k_is)
    (case l14 => k_is)
    (case c14 => k_is)
    (case k14 => k_is)
    (case i14 => k_is)
    (case a15 => k_is)
    (case l15 => k_is)
    (case c15 => k_is)
    (case k15 => k_is)
    (case i15 => k_is)
    (case a16 => k_is)
    (case l16 => k_is)
    (case c16 => k_is)
    (case k16 => k_is)
    (case i16 => k_is)
    (case a17 => k_is)
    (case l17 => k_is)
    (case c17 => k_is)
    (case k17 => k_is)
    (case i17 => k_is)
    (case a18 => k_is)
    (case l18 => k_is)
    (case c18 => k_is)
    (case k18 => k_is)
    (case i18 => k_is)
    (case a19 => k_is)
    (case l19 => k_is)
    (case c19 => k_is)
    (case k19 => k_is)
    (case a20 => k_is)
    (case l20 => k_is)
    (case c20 => k_is)
    (case k20 => k_is)
    (case i20 => k_is)
    (case a21 => k_is)
    (case l21 => k_is)
    (case c21 => k_is)
    (case k21 => k_is)
    (case i21 => k_is)
    (case a22 => k_is)
    (case l22 => k_is)
    (case c22 => k_is)
    (case k22 => k_is)
    (case i22 => k_is)
    (case a23 => k_is)
    (case l23 => k_is)
    (case c23 => k_is)
    (case k23 => k_is)
    (case a24 => k_is)
    (case l24 => k_is)
    (case c24 => k_is)
    (case k24 => k_is)
    (case a25 => k_is)
    (case l25 => k_is)
    (case c25 => k_is)
    (case k25 => k_is)
    (case a26 => k_is)
    (case l26 => k_is)
    (case c26 => k_is)
    (case k26 => k_is)
    (case a27 => k_is)
    (case l27 => k_is)
    (case c27 => k_is)
    (case k27 => k_is)
    (case a28 => k_is)
    (case l28 => k_is)
    (case c28 => k_is)
    (case k28 => k_is)
    (case a29 => k_is)
    (case l29 => k_is)
    (case c29 => k_is)
    (case k29 => k_is)
    (case a30 => k_is)
    (case l30 => k_is)
    (case c30 => k_is)
    (case k30 => k_is)
    (case a31 => k_is)
    (case l31 => k_is)
    (case c31 => k_is)
    (case k31 => k_is)
    (case pgCircuit => k_is)
    (case hdCircuit => k_is)
    (case poCircuit => k_is)
    (case saCircuit => k_is)
    (case mkCircuit => k_is)
    (case kcCircuit => k_is)
    (case nCircuit_inputs => k_is)
    (case nCircuit_latches => k_is)
    (case nCircuit_ands => k_is)
    (case nCircuit_outputs => k_is)
    (case qhaCircuit => k_is)
    (case qhnCircuit => k_is)
    (case qhtCircuit => k_is)
    (case qhmCircuit => k_is)
    (case pgBuilder => k_is)
    (case hdBuilder => k_is)
    (case poBuilder => k_is)
    (case saBuilder => k_is)
    (case mkBuilder => k_is)
    (case kcBuilder => k_is)
    (case nBuilder_leaf_count => k_is)
    (case nBuilder_pairs => k_is)
    (case nBuilder__nodes => k_is)
    (case nBuilder__levels => k_is)
    (case pgMachine => k_is)
    (case hdMachine => k_is)
    (case poMachine => k_is)
    (case saMachine => k_is)
    (case mkMachine => k_is)
    (case kcMachine => k_is)
    (case nMachine_input_count => k_is)
    (case nMachine_output_count => k_is)
    (case nMachine_moves => k_is)
    (case pgDecoder => k_is)
    (case hdDecoder => k_is)
    (case poDecoder => k_is)
    (case saDecoder => k_is)
    (case mkDecoder => k_is)
    (case kcDecoder => k_is)
    (case nDecoder_input_count => k_is)
    (case nDecoder_codes => k_is)
    (case nDecoder_builder => k_is)
    (case z_super => k_is)
    (case zan => k_is)
    (case yht => first | rfl | decide +kernel)
    (case eKInvalidCircuit => k_is)
    (case eVInvalidCircuit => first | rfl | decide +kernel)
    (case eSInvalidCircuit => k_is)
    (case eXInvalidCircuit => k_is)
    (case eTInvalidCircuit => k_is)
    (case ePInvalidCircuit => k_is)
    (case eIInvalidCircuit => k_is)
    (case eFInvalidCircuit => k_is)
    (case eLInvalidCircuit => k_is)
    (case eCInvalidCircuit => k_is)
    (case eDInvalidCircuit => k_is)
    (case eEInvalidCircuit => rfl)
    (case eGInvalidCircuit => first | rfl | decide +kernel)
    (case eHInvalidCircuit => k_is)
    (case eMInvalidCircuit => ks_is)
    (case eNInvalidCircuit => k_is)
    (case eOInvalidCircuit => k_is)
    (case eAInvalidCircuit_part => k_is)
    (case eAInvalidCircuit_index => k_is)
    (case ehgInvalidCircuit => k_is)
    (case ehkInvalidCircuit => k_is)
    (case ehsInvalidCircuit => k_is)
    (case ehdInvalidCircuit => k_is)
    (case ehaInvalidCircuit => k_is)
    (case ehnInvalidCircuit => k_is)
    (case ehtInvalidCircuit => k_is)
    (case ehmInvalidCircuit => k_is)
    (case eKInvalidCodes => k_is)
    (case eVInvalidCodes => first | rfl | decide +kernel)
    (case eSInvalidCodes => k_is)
    (case eXInvalidCodes => k_is)
    (case eTInvalidCodes => k_is)
    (case ePInvalidCodes => k_is)
    (case eIInvalidCodes => k_is)
    (case eFInvalidCodes => k_is)
    (case eLInvalidCodes => k_is)
    (case eCInvalidCodes => k_is)
    (case eDInvalidCodes => k_is)
    (case eEInvalidCodes => rfl)
    (case eGInvalidCodes => first | rfl | decide +kernel)
    (case eHInvalidCodes => k_is)
    (case eMInvalidCodes => ks_is)
    (case eNInvalidCodes => k_is)
    (case eOInvalidCodes => k_is)
    (case eAInvalidCodes_state => k_is)
    (case ehgInvalidCodes => k_is)
    (case ehkInvalidCodes => k_is)
    (case ehsInvalidCodes => k_is)
    (case ehdInvalidCodes => k_is)
    (case ehaInvalidCodes => k_is)
    (case ehnInvalidCodes => k_is)
    (case ehtInvalidCodes => k_is)
    (case ehmInvalidCodes => k_is)
    (case xqInvalidCount => k_exc)
    (case xkInvalidCount => k_is)
    (case xsInvalidCount => k_is)
    (case xtInvalidCount => k_is)
    (case eKInvalidMachine => k_is)
    (case eVInvalidMachine => first | rfl | decide +kernel)
    (case eSInvalidMachine => k_is)
    (case eXInvalidMachine => k_is)
    (case eTInvalidMachine => k_is)
    (case ePInvalidMachine => k_is)
    (case eIInvalidMachine => k_is)
    (case eFInvalidMachine => k_is)
    (case eLInvalidMachine => k_is)
    (case eCInvalidMachine => k_is)
    (case eDInvalidMachine => k_is)
    (case eEInvalidMachine => rfl)
    (case eGInvalidMachine => first | rfl | decide +kernel)
    (case eHInvalidMachine => k_is)
    (case eMInvalidMachine => ks_is)
    (case eNInvalidMachine => k_is)
    (case eOInvalidMachine => k_is)
    (case eAInvalidMachine_state => k_is)
    (case eAInvalidMachine_row => k_is)
    (case ybInvalidCircuit_InvalidCircuit => k_is)
    (case yiInvalidCircuit_InvalidCircuit => k_is)
    (case ytInvalidCircuit_InvalidCircuit => k_is)
    (case ysInvalidCircuit_InvalidCircuit => k_is)
    (case ybInvalidCircuit_InvalidCodes => k_is)
    (case yiInvalidCircuit_InvalidCodes => k_is)
    (case ytInvalidCircuit_InvalidCodes => k_is)
    (case ysInvalidCircuit_InvalidCodes => k_is)
    (case ybInvalidCodes_InvalidCodes => k_is)
    (case yiInvalidCodes_InvalidCodes => k_is)
    (case ytInvalidCodes_InvalidCodes => k_is)
    (case ysInvalidCodes_InvalidCodes => k_is)
    (case znInvalidCodes_EvergateError => rfl)
    (case ziInvalidCodes_EvergateError => k_is)
    (case ztInvalidCodes_EvergateError => k_is)
    (case zsInvalidCodes_EvergateError => k_is)
    (case z_enumerate => k_is)
    (case z_int => k_is)
    (case z_isinstance => k_is)
    (case z_len => k_is)
    (case z_list => k_is)
    (case z_max => k_is)
    (case z_min => k_is)
    (case z_range => k_is)
    (case z_str => k_is)
    (case z_sum => k_is)
    (case z_tuple => k_is)
    (case z_FIRST_SIGNS => k_is)
    (case z_MOST_ANDS => k_is)
    (case z_MOST_INPUTS_circuit => k_is)
    (case z_MOST_INPUTS_machine => k_is)
    (case z_MOST_LATCHES => k_is)
    (case z_MOST_OUTPUTS_circuit => k_is)
    (case z_MOST_OUTPUTS_machine => k_is)
    (case z_MOST_SIGNS => k_is)
    (case z_MOST_STATES => k_is)
    (case z_SIGNS => k_is)
#print axioms PySem.Challenge.cw_evergate_k68_coded_machines_holds

