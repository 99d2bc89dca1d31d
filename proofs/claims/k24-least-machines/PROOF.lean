import PyProof.Rows.All
import Wide.All
import OpenK.AllK
import Wide.FinOn
import HandS.ForMost
import HandS.ForExc
import HandS.Walk
import PyProof.Rows.TupDisplay
import HandS.IsInst
import HandS.Words
import HandS.ExcInit
import KE.KExcSuper
import KE.KSuper
import HandS.FStr
import HandS.ExcIs
import HandS.ExcField
import HandS.TryOnly
import HandS.SetFor
import HandS.Strs
import HandS.Conv
import KE.KExcIs
import HandS.Property
import HandS.SortKw
import PyProof.WalkInts
import KE.KMinKey
import HandS.Text
import HandS.RevRange
import HandS.Codes
import HandS.OwnEq
import HandS.More
import HandS.Wide
import KE.KeyNested
import HandS.TupLen
import KE.BitLaws
import PySem.Challenge.RW_evergate_k24_least_machines
import KE.RegKSuper
set_option Elab.async false
set_option linter.all false
set_option maxRecDepth 100000
set_option maxHeartbeats 4000000
/-! Ty1 -/
namespace Ty
open PySem PySem.Spec L2

/-! ### slots: what is known of a value -/
structure Slot where
  P : Hp → Hp → List Addr → Option V → Prop
  mono : ∀ {F H F' H' : Hp} {fp : List Addr} {o : Option V}, Same F F' → Same H H' → P F H fp o → P F' H' fp o
  st : Prop
  mm : st → ∀ {F H F' H' : Hp} {fp : List Addr} {o : Option V}, Same F F' → (∀ a ∈ fp, H' a = H a) → P F H fp o → P F' H' fp o

inductive Slots (F H : Hp) : List Addr → List (Option V) → List Slot → Prop
  | nil : Slots F H [] [] []
  | cons {fp os : List Addr} {o : Option V} {σ : List (Option V)} {s : Slot} {Γ : List Slot} : s.P F H fp o → Slots F H os σ Γ → Slots F H (fp ++ os) (o :: σ) (s :: Γ)

theorem Slots.mono {F H F' H' : Hp} (hF : Same F F') (hH : Same H H') : ∀ {os σ Γ}, Slots F H os σ Γ → Slots F' H' os σ Γ
  | _, _, _, .nil => .nil
  | _, _, _, .cons p r => .cons (Slot.mono _ hF hH p) (Slots.mono hF hH r)

/-- all slots of the list bear a change elsewhere -/
def Stb (Γ : List Slot) : Prop := ∀ s ∈ Γ, s.st
theorem Stb.nil : Stb [] := fun _ h => nomatch h
theorem Stb.cons {s : Slot} {Γ : List Slot} (h : s.st) (r : Stb Γ) : Stb (s :: Γ) := fun x hx => by
  rcases List.mem_cons.mp hx with rfl | hx
  · exact h
  · exact r x hx
theorem Slots.mm {F H F' H' : Hp} (hF : Same F F') {os σ Γ} (h : Slots F H os σ Γ) : Stb Γ → (∀ a ∈ os, H' a = H a) → Slots F' H' os σ Γ := by
  induction h with
  | nil => intro _ _; exact .nil
  | @cons fp os o σ s Γ p r ih =>
    intro b k
    exact .cons (s.mm (b s List.mem_cons_self) hF (fun a ha => k a (List.mem_append_left _ ha)) p)
      (ih (fun x hx => b x (List.mem_cons_of_mem _ hx)) (fun a ha => k a (List.mem_append_right _ ha)))
theorem Slots.length {F H : Hp} : ∀ {os σ Γ}, Slots F H os σ Γ → σ.length = Γ.length
  | _, _, _, .nil => rfl
  | _, _, _, .cons _ r => congrArg (· + 1) r.length
theorem Slots.append {F H : Hp} : ∀ {os σ Γ os' σ' Γ'}, Slots F H os σ Γ → Slots F H os' σ' Γ' → Slots F H (os ++ os') (σ ++ σ') (Γ ++ Γ')
  | _, _, _, _, _, _, .nil, s => s
  | _, _, _, _, _, _, .cons p r, s => by
    rw [List.append_assoc]
    exact .cons p (Slots.append r s)

/-- the i-th slot taken out, and something put in its place -/
theorem Slots.at {F H : Hp} : ∀ {os σ Γ i s}, Slots F H os σ Γ → Γ[i]? = some s →
    ∃ o fp r, σ[i]? = some o ∧ s.P F H fp o ∧ os.Perm (fp ++ r) ∧
      ∀ {F' H' : Hp} {fp' : List Addr} {o' : Option V} {s' : Slot}, s'.P F' H' fp' o' →
        (∀ s0 ∈ Γ, ∀ fp0 o0, (∀ a ∈ fp0, a ∈ r) → s0.P F H fp0 o0 → s0.P F' H' fp0 o0) →
        ∃ os', Slots F' H' os' (σ.set i o') (Γ.set i s') ∧ os'.Perm (fp' ++ r)
  | _, _, _, i, s, .nil, e => by simp at e
  | _, _, _, 0, s, .cons (fp := fp) (os := os) (o := o) (σ := σ) (s := s0) (Γ := Γ) p r, e => by
    simp at e; subst e
    refine ⟨o, fp, os, rfl, p, List.Perm.refl _, ?_⟩
    intro F' H' fp' o' s' q k
    have all : ∀ {os σ Γ'}, Slots F H os σ Γ' → (∀ s ∈ Γ', ∀ fp0 o0, (∀ a ∈ fp0, a ∈ os) → s.P F H fp0 o0 → s.P F' H' fp0 o0) → Slots F' H' os σ Γ' := by
      intro os σ Γ' h
      induction h with
      | nil => intro _; exact .nil
      | cons p r ih =>
        intro k
        exact .cons (k _ List.mem_cons_self _ _ (fun a ha => List.mem_append_left _ ha) p) (ih fun s hs fp0 o0 hf q => k s (List.mem_cons_of_mem _ hs) fp0 o0 (fun a ha => List.mem_append_right _ (hf a ha)) q)
    exact ⟨fp' ++ os, .cons q (all r fun s hs fp0 o0 hf q => k s (List.mem_cons_of_mem _ hs) fp0 o0 hf q), List.Perm.refl _⟩
  | _, _, _, i + 1, s, .cons (fp := fp) (os := os) (o := o) (σ := σ) (s := s0) (Γ := Γ) p r, e => by
    obtain ⟨o1, fp1, r1, e1, p1, q1, k1⟩ := Slots.at (i := i) (s := s) r (by simpa using e)
    refine ⟨o1, fp1, fp ++ r1, by simpa using e1, p1, ?_, ?_⟩
    · refine (List.Perm.append_left fp q1).trans ?_
      rw [← List.append_assoc, ← List.append_assoc]
      exact List.Perm.append_right r1 List.perm_append_comm
    · intro F' H' fp' o' s' q k
      obtain ⟨os', h1, h2⟩ := k1 q (fun s hs fp0 o0 hf q => k s (List.mem_cons_of_mem _ hs) fp0 o0 (fun a ha => List.mem_append_right _ (hf a ha)) q)
      refine ⟨fp ++ os', .cons (k s0 List.mem_cons_self fp o (fun a ha => List.mem_append_left _ ha) p) h1, ?_⟩
      refine (List.Perm.append_left fp h2).trans ?_
      rw [← List.append_assoc, ← List.append_assoc]
      exact List.Perm.append_right r1 List.perm_append_comm

/-! ### the world: the caller's heaps, the frozen heap F, the heap H, what is owned -/
structure Bs where
  F : Hp
  H : Hp
  os : List Addr
structure Wo (B : Bs) (F H : Hp) (os : List Addr) : Prop where
  sub : Same F H
  nd : os.Nodup
  oF : ∀ a ∈ os, F a = none
  oH : ∀ a ∈ os, ∃ o, H a = some o
  bF : Same B.F F
  bH : ∀ a o, B.H a = some o → a ∉ B.os → H a = some o
  bN : ∀ a o, F a = some o → B.F a = some o ∨ B.H a = none ∨ a ∈ B.os
  bO : ∀ a ∈ os, B.H a = none ∨ a ∈ B.os
section
variable {B : Bs} {F H F' H' : Hp} {os os' : List Addr}
theorem Wo.perm (W : Wo B F H os) (p : os.Perm os') : Wo B F H os' :=
  ⟨W.sub, p.nodup_iff.mp W.nd, fun a h => W.oF a (p.mem_iff.mpr h), fun a h => W.oH a (p.mem_iff.mpr h), W.bF, W.bH, W.bN, fun a h => W.bO a (p.mem_iff.mpr h)⟩
theorem Wo.drop {a b : List Addr} (W : Wo B F H (a ++ b)) : Wo B F H b :=
  ⟨W.sub, (List.nodup_append.mp W.nd).2.1, fun x h => W.oF x (List.mem_append_right _ h), fun x h => W.oH x (List.mem_append_right _ h), W.bF, W.bH, W.bN, fun x h => W.bO x (List.mem_append_right _ h)⟩
theorem Wo.dropR {a b : List Addr} (W : Wo B F H (a ++ b)) : Wo B F H a := (W.perm List.perm_append_comm).drop
theorem Wo.bFree (W : Wo B F H os) {p : Addr} (h : H p = none) : B.H p = none ∨ p ∈ B.os := by
  cases q : B.H p with
  | none => exact .inl rfl
  | some o =>
    refine .inr ?_
    by_cases hp : p ∈ B.os
    · exact hp
    · rw [W.bH p o q hp] at h; cases h
theorem Wo.free (W : Wo B F H os) {p : Addr} (h : H p = none) : F p = none ∧ p ∉ os := by
  refine ⟨?_, fun hp => ?_⟩
  · cases q : F p with
    | none => rfl
    | some o => rw [W.sub p o q] at h; cases h
  · obtain ⟨o, e⟩ := W.oH p hp
    rw [e] at h; cases h
theorem same_upd {H : Hp} {p : Addr} {o : HO} (h : H p = none) : Same H (upd H p o) := fun a u e => by
  rw [upd_ne (ne_of_none e h)]; exact e
/-- a new frozen object -/
theorem Wo.newF (W : Wo B F H os) {p : Addr} {o : HO} (h : H p = none) : Wo B (upd F p o) (upd H p o) os := by
  obtain ⟨f0, n0⟩ := W.free h
  refine ⟨fun a u e => ?_, W.nd, fun a ha => ?_, fun a ha => ?_, fun a u e => ?_, fun a u e hb => ?_, fun a u e => ?_, W.bO⟩
  · by_cases q : a = p
    · subst q; rw [upd_same] at e ⊢; exact e
    · rw [upd_ne q] at e ⊢; exact W.sub a u e
  · rw [upd_ne (fun q => n0 (by rw [← q]; exact ha))]; exact W.oF a ha
  · rw [upd_ne (fun q => n0 (by rw [← q]; exact ha))]; exact W.oH a ha
  · exact same_upd f0 a u (W.bF a u e)
  · exact same_upd h a u (W.bH a u e hb)
  · by_cases q : a = p
    · subst q; exact .inr (W.bFree h)
    · rw [upd_ne q] at e; exact W.bN a u e
/-- a new owned object -/
theorem Wo.newO (W : Wo B F H os) {p : Addr} {o : HO} (h : H p = none) : Wo B F (upd H p o) (p :: os) := by
  obtain ⟨f0, n0⟩ := W.free h
  refine ⟨fun a u e => same_upd h a u (W.sub a u e), List.nodup_cons.mpr ⟨n0, W.nd⟩, fun a ha => ?_, fun a ha => ?_, W.bF, fun a u e hb => same_upd h a u (W.bH a u e hb), W.bN, fun a ha => ?_⟩
  · rcases List.mem_cons.mp ha with rfl | ha
    · exact f0
    · exact W.oF a ha
  · rcases List.mem_cons.mp ha with rfl | ha
    · exact ⟨o, upd_same⟩
    · obtain ⟨u, e⟩ := W.oH a ha; exact ⟨u, same_upd h a u e⟩
  · rcases List.mem_cons.mp ha with rfl | ha
    · exact W.bFree h
    · exact W.bO a ha
/-- an owned object changes -/
theorem Wo.write (W : Wo B F H os) {p : Addr} {o : HO} (hp : p ∈ os) : Wo B F (upd H p o) os := by
  have nf : ∀ a u, F a = some u → a ≠ p := fun a u e q => by subst q; rw [W.oF a hp] at e; cases e
  refine ⟨fun a u e => by rw [upd_ne (nf a u e)]; exact W.sub a u e, W.nd, W.oF, fun a ha => ?_, W.bF, fun a u e hb => ?_, W.bN, W.bO⟩
  · by_cases q : a = p
    · subst q; exact ⟨o, upd_same⟩
    · rw [upd_ne q]; exact W.oH a ha
  · have q : a ≠ p := fun q => by
      subst q
      rcases W.bO a hp with z | z
      · rw [z] at e; cases e
      · exact hb z
    rw [upd_ne q]; exact W.bH a u e hb
/-- owned objects become frozen -/
theorem Wo.freeze {a b : List Addr} (W : Wo B F H (a ++ b)) : ∃ F', Wo B F' H b ∧ Same F F' ∧ ∀ x ∈ a, F' x = H x := by
  classical
  have nd := List.nodup_append.mp W.nd
  refine ⟨fun x => if x ∈ a then H x else F x, ⟨fun x o e => ?_, nd.2.1, fun x hx => ?_, fun x hx => W.oH x (List.mem_append_right _ hx), fun x o e => ?_, W.bH, fun x o e => ?_, fun x hx => W.bO x (List.mem_append_right _ hx)⟩, fun x o e => ?_, fun x hx => if_pos hx⟩
  · by_cases q : x ∈ a
    · simp only [q, if_true] at e; exact e
    · simp only [q, if_false] at e; exact W.sub x o e
  · have q : x ∉ a := fun q => (nd.2.2 x q x hx) rfl
    simp only [q, if_false]; exact W.oF x (List.mem_append_right _ hx)
  · have q : x ∉ a := fun q => by
      have z := W.oF x (List.mem_append_left _ q)
      rw [W.bF x o e] at z; cases z
    simp only [q, if_false]; exact W.bF x o e
  · by_cases q : x ∈ a
    · exact .inr (W.bO x (List.mem_append_left _ q))
    · simp only [q, if_false] at e; exact W.bN x o e
  · have q : x ∉ a := fun q => by
      have z := W.oF x (List.mem_append_left _ q)
      rw [e] at z; cases z
    simp only [q, if_false]; exact e
end

/-- a state told from an entry within -/
theorem Wo.trans {B : Bs} {F1 H1 F2 H2 : Hp} {os1 os2 : List Addr} (W1 : Wo B F1 H1 os1) (W2 : Wo ⟨F1, H1, os1⟩ F2 H2 os2) : Wo B F2 H2 os2 := by
  refine ⟨W2.sub, W2.nd, W2.oF, W2.oH, W1.bF.trans W2.bF, fun a o e hb => ?_, fun a o e => ?_, fun a ha => ?_⟩
  · refine W2.bH a o (W1.bH a o e hb) fun z => ?_
    rcases W1.bO a z with q | q
    · rw [q] at e; cases e
    · exact hb q
  · rcases W2.bN a o e with q | q | q
    · exact W1.bN a o q
    · exact .inr (W1.bFree q)
    · exact .inr (W1.bO a q)
  · rcases W2.bO a ha with q | q
    · exact W1.bFree q
    · exact W1.bO a q
theorem Wo.self {B : Bs} {F H : Hp} {os : List Addr} (W : Wo B F H os) : Wo ⟨F, H, os⟩ F H os :=
  ⟨W.sub, W.nd, W.oF, W.oH, fun _ _ h => h, fun _ _ h _ => h, fun _ _ h => .inl h, fun _ h => .inr h⟩

/-! ### the state of a frame -/
def Sta (B : Bs) (F H : Hp) (σ : List (Option V)) (Γ : List Slot) : Prop := ∃ os, Wo B F H os ∧ Slots F H os σ Γ
end Ty

/-! Ty2 -/
namespace Ty
open PySem PySem.Spec L2

/-! ### kinds of values -/
/-- frozen data: what of the frozen heap makes v the datum a -/
structure VP (α : Type) where
  R : Hp → V → α → Prop
  mono : ∀ {F F' : Hp} {v : V} {a : α}, Same F F' → R F v a → R F' v a
/-- owned data: at the addresses fp -/
structure OP (α : Type) where
  P : Hp → Hp → List Addr → V → α → Prop
  mono : ∀ {F H F' H' : Hp} {fp : List Addr} {v : V} {a : α}, Same F F' → Same H H' → P F H fp v a → P F' H' fp v a
  mm : ∀ {F H F' H' : Hp} {fp : List Addr} {v : V} {a : α}, Same F F' → (∀ x ∈ fp, H' x = H x) → P F H fp v a → P F' H' fp v a
section
variable {α β γ : Type}
def val (p : VP α) (a : α) : Slot where
  P := fun F _ fp o => fp = [] ∧ ∃ v, o = some v ∧ p.R F v a
  mono := fun hF _ h => let ⟨e, v, ev, r⟩ := h; ⟨e, v, ev, p.mono hF r⟩
  st := True
  mm := fun _ {_ _ _ _ _ _} hF _ h => let ⟨e, v, ev, r⟩ := h; ⟨e, v, ev, p.mono hF r⟩
def dead : Slot where
  P := fun _ _ fp _ => fp = []
  mono := fun {_ _ _ _ _ _} _ _ h => h
  st := True
  mm := fun {_ _ _ _ _ _ _} _ _ h => h
def own (O : OP α) (a : α) : Slot where
  P := fun F H fp o => ∃ v, o = some v ∧ O.P F H fp v a
  mono := fun hF hH h => let ⟨v, ev, r⟩ := h; ⟨v, ev, O.mono hF hH r⟩
  st := True
  mm := fun _ {_ _ _ _ _ _} hF hH h => let ⟨v, ev, r⟩ := h; ⟨v, ev, O.mm hF hH r⟩
/-- something owned that is looked at: its data by the whole heap -/
def bor (p : VP α) (a : α) : Slot where
  P := fun _ H fp o => fp = [] ∧ ∃ v, o = some v ∧ p.R H v a
  mono := fun _ hH h => let ⟨e, v, ev, r⟩ := h; ⟨e, v, ev, p.mono hH r⟩
  st := False
  mm := fun h => h.elim

theorem Paired.mon {α β : Type} {R R' : α → β → Prop} (h : ∀ a b, R a b → R' a b) : ∀ {xs ys}, Paired R xs ys → Paired R' xs ys
  | _, _, .nil => .nil
  | _, _, .cons r t => .cons (h _ _ r) (Paired.mon h t)
def pInt : VP Int := ⟨fun _ v i => v = .int i, fun _ h => h⟩
def pBl : VP Bool := ⟨fun _ v b => v = .bl b, fun _ h => h⟩
def pStr : VP Str := ⟨fun _ v s => v = .str s, fun _ h => h⟩
def pNon : VP Unit := ⟨fun _ v _ => v = .non, fun _ h => h⟩
def pOpt (p : VP α) : VP (Option α) where
  R := fun F v o => match o with | none => v = .non | some a => p.R F v a ∧ v ≠ .non
  mono := fun {F F' v a} hF h => by
    cases a with
    | none => exact h
    | some a => exact ⟨p.mono hF h.1, h.2⟩
def pL (p : VP α) : VP (List α) where
  R := fun F v xs => ∃ l vs, v = .ref l ∧ F l = some (.lst vs) ∧ Paired (p.R F) vs xs
  mono := fun hF h => let ⟨l, vs, e, h1, h2⟩ := h; ⟨l, vs, e, hF _ _ h1, Paired.mon (fun _ _ r => p.mono hF r) h2⟩
/-- a tuple of any length -/
def pTup (p : VP α) : VP (List α) where
  R := fun F v xs => ∃ l vs, v = .ref l ∧ F l = some (.tup vs) ∧ Paired (p.R F) vs xs
  mono := fun hF h => let ⟨l, vs, e, h1, h2⟩ := h; ⟨l, vs, e, hF _ _ h1, Paired.mon (fun _ _ r => p.mono hF r) h2⟩
def pT2 (p : VP α) (q : VP β) : VP (α × β) where
  R := fun F v x => ∃ l a b, v = .ref l ∧ F l = some (.tup [a, b]) ∧ p.R F a x.1 ∧ q.R F b x.2
  mono := fun hF h => let ⟨l, a, b, e, h1, h2, h3⟩ := h; ⟨l, a, b, e, hF _ _ h1, p.mono hF h2, q.mono hF h3⟩
def pT3 (p : VP α) (q : VP β) (r : VP γ) : VP (α × β × γ) where
  R := fun F v x => ∃ l a b c, v = .ref l ∧ F l = some (.tup [a, b, c]) ∧ p.R F a x.1 ∧ q.R F b x.2.1 ∧ r.R F c x.2.2
  mono := fun hF h => let ⟨l, a, b, c, e, h1, h2, h3, h4⟩ := h; ⟨l, a, b, c, e, hF _ _ h1, p.mono hF h2, q.mono hF h3, r.mono hF h4⟩
/-- the script: it may be locked -/
def pScr (K : PySem.W.Frag) : VP (List Int) where
  R := fun F v ns => ∃ l, v = .ref l ∧ SqL K F l (ns.map V.int)
  mono := fun hF h => let ⟨l, e, h1⟩ := h; ⟨l, e, Same.seq hF h1⟩
/-- an owned list of frozen items -/
def oL (p : VP α) : OP (List α) where
  P := fun F H fp v xs => ∃ l vs, v = .ref l ∧ fp = [l] ∧ H l = some (.lst vs) ∧ Paired (p.R F) vs xs
  mono := fun hF hH h => let ⟨l, vs, e, ef, h1, h2⟩ := h; ⟨l, vs, e, ef, hH _ _ h1, Paired.mon (fun _ _ r => p.mono hF r) h2⟩
  mm := fun hF hH h => let ⟨l, vs, e, ef, h1, h2⟩ := h; ⟨l, vs, e, ef, by rw [hH l (by rw [ef]; exact List.mem_cons_self)]; exact h1, Paired.mon (fun _ _ r => p.mono hF r) h2⟩
/-- an owned list that is looked at: its items frozen -/
def borL (p : VP α) (xs : List α) : Slot where
  P := fun F H fp o => fp = [] ∧ ∃ l vs, o = some (.ref l) ∧ H l = some (.lst vs) ∧ Paired (p.R F) vs xs
  mono := fun hF hH h => let ⟨ef, l, vs, e, h1, h2⟩ := h; ⟨ef, l, vs, e, hH _ _ h1, Paired.mon (fun _ _ r => p.mono hF r) h2⟩
  st := False
  mm := fun h => h.elim
end
abbrev vInt (i : Int) : Slot := val pInt i
abbrev vBl (b : Bool) : Slot := val pBl b
abbrev vStr (s : Str) : Slot := val pStr s
abbrev vNon : Slot := val pNon ()

/-! ### views -/
section
variable {α β γ : Type}
/-- a list whose items are frozen, frozen or owned itself -/
def LV (s : Slot) (p : VP α) (xs : List α) : Prop := ∀ F H fp o, Same F H → s.P F H fp o → ∃ l vs, o = some (.ref l) ∧ H l = some (.lst vs) ∧ Paired (p.R F) vs xs
theorem LV.val {p : VP α} {xs : List α} : LV (val (pL p) xs) p xs := fun F H fp o hS h => let ⟨_, v, e, l, vs, ev, h1, h2⟩ := h; ⟨l, vs, by rw [e, ev], hS _ _ h1, h2⟩
theorem LV.own {p : VP α} {xs : List α} : LV (own (oL p) xs) p xs := fun F H fp o _ h => let ⟨v, e, l, vs, ev, _, h1, h2⟩ := h; ⟨l, vs, by rw [e, ev], h1, h2⟩
theorem LV.bor {p : VP α} {xs : List α} : LV (borL p xs) p xs := fun F H fp o _ h => let ⟨_, l, vs, e, h1, h2⟩ := h; ⟨l, vs, e, h1, h2⟩
/-- a list that may be locked -/
def SV (K : PySem.W.Frag) (s : Slot) (p : VP α) (xs : List α) : Prop := ∀ F H fp o, Same F H → s.P F H fp o → ∃ l vs, o = some (.ref l) ∧ SqL K H l vs ∧ Paired (p.R F) vs xs
theorem LV.sv {K : PySem.W.Frag} {s : Slot} {p : VP α} {xs : List α} (h : LV s p xs) : SV K s p xs := fun F H fp o hS q => let ⟨l, vs, e, h1, h2⟩ := h F H fp o hS q; ⟨l, vs, e, SqL.of h1, h2⟩
theorem paired_map_int {F : Hp} : ∀ (ns : List Int), Paired (pInt.R F) (ns.map V.int) ns
  | [] => .nil
  | _ :: r => .cons rfl (paired_map_int r)
theorem map_int_of {F : Hp} : ∀ {vs : List V} {ns : List Int}, Paired (pInt.R F) vs ns → vs = ns.map V.int
  | _, _, .nil => rfl
  | _, _, .cons r t => by rw [show _ = V.int _ from r, map_int_of t]; rfl
theorem SV.scr {K : PySem.W.Frag} {ns : List Int} : SV K (Ty.val (pScr K) ns) pInt ns := fun F H fp o hS h => let ⟨_, v, e, l, ev, h1⟩ := h; ⟨l, _, by rw [e, ev], Same.seq hS h1, paired_map_int ns⟩
/-- a tuple of any length -/
def TV (s : Slot) (p : VP α) (xs : List α) : Prop := ∀ F H fp o, Same F H → s.P F H fp o → ∃ l vs, o = some (.ref l) ∧ H l = some (.tup vs) ∧ Paired (p.R F) vs xs
theorem TV.val {p : VP α} {xs : List α} : TV (Ty.val (pTup p) xs) p xs := fun F H fp o hS h => let ⟨_, v, e, l, vs, ev, h1, h2⟩ := h; ⟨l, vs, by rw [e, ev], hS _ _ h1, h2⟩
/-- a value without a heap -/
def Flat (p : VP α) : Prop := ∀ F F' v a, p.R F v a → p.R F' v a
theorem Flat.int : Flat pInt := fun _ _ _ _ h => h
theorem Flat.bl : Flat pBl := fun _ _ _ _ h => h
theorem Flat.str : Flat pStr := fun _ _ _ _ h => h
theorem Flat.non : Flat pNon := fun _ _ _ _ h => h
theorem Flat.opt {p : VP α} (h : Flat p) : Flat (pOpt p) := fun F F' v a q => by
  cases a with
  | none => exact q
  | some a => exact ⟨h F F' v a q.1, q.2⟩
/-- any value, its data by the whole heap -/
def Vw (s : Slot) (p : VP α) (a : α) : Prop := ∀ F H fp o, Same F H → s.P F H fp o → ∃ v, o = some v ∧ p.R H v a
theorem Vw.val {p : VP α} {a : α} : Vw (Ty.val p a) p a := fun F H fp o hS h => let ⟨_, v, e, r⟩ := h; ⟨v, e, p.mono hS r⟩
theorem Vw.bor {p : VP α} {a : α} : Vw (Ty.bor p a) p a := fun F H fp o hS h => let ⟨_, v, e, r⟩ := h; ⟨v, e, r⟩
theorem LV.vw {s : Slot} {p : VP α} {xs : List α} (h : LV s p xs) : Vw s (pL p) xs := fun F H fp o hS q => let ⟨l, vs, e, h1, h2⟩ := h F H fp o hS q; ⟨_, e, l, vs, rfl, h1, Paired.mon (fun _ _ r => p.mono hS r) h2⟩
theorem val_P {p : VP α} {a : α} {F H : Hp} {fp : List Addr} {v : V} (h : (Ty.val p a).P F H fp (some v)) : fp = [] ∧ p.R F v a := by
  obtain ⟨e, v', ev, r⟩ := h
  cases ev; exact ⟨e, r⟩
end

/-! ### contexts: a body, or a block of a comprehension, whatever the state where it starts -/
structure Fa (P : Program) (w : World) (K : PySem.W.Frag) (mg : Str → Option Value) (base : Heap) (k : Nat) where
  I : Type
  X : I → Cx
  hP : ∀ i, (X i).prog = P
  hw : ∀ i, (X i).w = w
  hK : ∀ i, (X i).K = K
  hM : ∀ i, (X i).mg = mg
  hB : ∀ i, (X i).base = base
  cm : Bool
  hC : ∀ i, (X i).calm = cm
  hR : cm = true → ∀ i, Room k (X i).A
  hU : ∀ i, (X i).A.units + 64 < cLine
  W : WX
  tk : ∀ i, Takes (X i) W
  hN : ∀ i, (X i).N.Nodup
  hO : ∀ i, PassesOwn (model (X i).prog (X i).w) (X i).A (X i).env (X i).xe
section
variable {P : Program} {w : World} {K : PySem.W.Frag} {mg : Str → Option Value} {base : Heap} {k : Nat}
/-- where an expression stands: the world, and the frame told by Γ somewhere within what is owned -/
structure In (B : Bs) (F H : Hp) (os : List Addr) (σ : List (Option V)) (Γ : List Slot) : Prop where
  W : Wo B F H os
  S : ∃ o2 r, os.Perm (o2 ++ r) ∧ Slots F H o2 σ Γ
theorem In.step {B : Bs} {F H F' H' : Hp} {fp os : List Addr} {σ : List (Option V)} {Γ : List Slot} (I : In B F H os σ Γ) (hF : Same F F') (hH : Same H H') (W : Wo B F' H' (fp ++ os)) : In B F' H' (fp ++ os) σ Γ := by
  obtain ⟨_, o2, r, p, S⟩ := I
  exact ⟨W, o2, r ++ fp, (List.perm_append_comm.trans (List.Perm.append_right fp p)).trans (by rw [List.append_assoc]), S.mono hF hH⟩
theorem In.step0 {B : Bs} {F H F' H' : Hp} {os : List Addr} {σ : List (Option V)} {Γ : List Slot} (I : In B F H os σ Γ) (hF : Same F F') (hH : Same H H') (W : Wo B F' H' os) : In B F' H' os σ Γ := I.step (fp := []) hF hH W
/-- e gives a value told by r; all that was stands, what is new is the value's -/
def XV (Y : Fa P w K mg base k) (e : Expr) (Γ : List Slot) (r : Slot) : Prop :=
  ∃ t : TE, (∀ i, PE (Y.X i) e t) ∧ ∀ (B : Bs) (F H : Hp) (os : List Addr) (σ : List (Option V)) (Q : VK), In B F H os σ Γ →
    (∀ v F' H' fp, Same F F' → Same H H' → Wo B F' H' (fp ++ os) → r.P F' H' fp (some v) → Q v H') → t σ H Q
def XT (Y : Fa P w K mg base k) (e : Expr) (Γ : List Slot) (b : Bool) : Prop :=
  ∃ t : TT, (∀ i, PT (Y.X i) e t) ∧ ∀ (B : Bs) (F H : Hp) (os : List Addr) (σ : List (Option V)) (Q : Bool → Hp → Prop), In B F H os σ Γ →
    (∀ F' H', Same F F' → Same H H' → Wo B F' H' os → Q b H') → t σ H Q
def XW (Y : Fa P w K mg base k) (e : Expr) (Γ : List Slot) (b : Bool) : Prop :=
  ∃ t : TT, (∀ i, PW (Y.X i) e t) ∧ ∀ (B : Bs) (F H : Hp) (os : List Addr) (σ : List (Option V)) (Q : Bool → Hp → Prop), In B F H os σ Γ →
    (∀ F' H', Same F F' → Same H H' → Wo B F' H' os → Q b H') → t σ H Q
def XA (Y : Fa P w K mg base k) (es : List Expr) (Γ As : List Slot) : Prop :=
  ∃ t : TA, (∀ i, PA (Y.X i) es t) ∧ ∀ (B : Bs) (F H : Hp) (os : List Addr) (σ : List (Option V)) (Q : List V → Hp → Prop), In B F H os σ Γ →
    (∀ vs F' H' fp, Same F F' → Same H H' → Wo B F' H' (fp ++ os) → Slots F' H' fp (vs.map some) As → Q vs H') → t σ H Q
/-- a two-place operation on values -/
def Op2 (r : R2) (a b c : Slot) : Prop := ∀ (B : Bs) (F H : Hp) (x y : V) (fx fy os : List Addr) (Q : VK), Wo B F H (fy ++ (fx ++ os)) → a.P F H fx (some x) → b.P F H fy (some y) →
  (∀ v F' H' fp, Same F F' → Same H H' → Wo B F' H' (fp ++ os) → c.P F' H' fp (some v) → Q v H') → r x y H Q
def Op1 (r : V → Hp → VK → Prop) (a c : Slot) : Prop := ∀ (B : Bs) (F H : Hp) (x : V) (fx os : List Addr) (Q : VK), Wo B F H (fx ++ os) → a.P F H fx (some x) →
  (∀ v F' H' fp, Same F F' → Same H H' → Wo B F' H' (fp ++ os) → c.P F' H' fp (some v) → Q v H') → r x H Q
/-- a call of a known value -/
def OpA (r : List V → Hp → VK → Prop) (As : List Slot) (c : Slot) : Prop := ∀ (B : Bs) (F H : Hp) (vs : List V) (fx os : List Addr) (Q : VK), Wo B F H (fx ++ os) → Slots F H fx (vs.map some) As →
  (∀ v F' H' fp, Same F F' → Same H H' → Wo B F' H' (fp ++ os) → c.P F' H' fp (some v) → Q v H') → r vs H Q
variable {Y : Fa P w K mg base k} {e ea eb : Expr} {es : List Expr} {Γ : List Slot} {a b c r : Slot} {pos : Pos}

theorem same_refl {H : Hp} : Same H H := fun _ _ h => h
theorem val_no {α : Type} {p : VP α} {z : α} {F H : Hp} {fp : List Addr} {v : Option V} (h : (val p z).P F H fp v) : fp = [] := h.1
/-! ### atoms -/
theorem x_c {v : V} {t : VP Unit → Unit} : True := trivial
theorem x_int {z : Int} {j : Nat} : XV Y (.Constant (.int z) j pos) Γ (vInt z) :=
  ⟨_, fun _ => pe_int, fun _ F H os σ Q I q => q _ F H [] same_refl same_refl I.W ⟨rfl, _, rfl, rfl⟩⟩
theorem x_bl {z : Bool} {j : Nat} : XV Y (.Constant (.bool z) j pos) Γ (vBl z) :=
  ⟨_, fun _ => pe_bl, fun _ F H os σ Q I q => q _ F H [] same_refl same_refl I.W ⟨rfl, _, rfl, rfl⟩⟩
theorem x_str {z : Str} {j : Nat} : XV Y (.Constant (.str z) j pos) Γ (vStr z) :=
  ⟨_, fun _ => pe_str, fun _ F H os σ Q I q => q _ F H [] same_refl same_refl I.W ⟨rfl, _, rfl, rfl⟩⟩
theorem x_non {j : Nat} : XV Y (.Constant .none j pos) Γ vNon :=
  ⟨_, fun _ => pe_non, fun _ F H os σ Q I q => q _ F H [] same_refl same_refl I.W ⟨rfl, _, rfl, rfl⟩⟩
theorem In.slot {B : Bs} {F H : Hp} {os : List Addr} {σ : List (Option V)} {i : Nat} {s : Slot} (I : In B F H os σ Γ) (hs : Γ[i]? = some s) : ∃ o fp, σ[i]? = some o ∧ s.P F H fp o := by
  obtain ⟨_, o2, r, p, S⟩ := I
  obtain ⟨o, fp, _, e, p, _⟩ := S.at hs
  exact ⟨o, fp, e, p⟩
/-- a name -/
theorem x_var {α : Type} {p : VP α} {z : α} (i : Nat) {x : Str} (hs : Γ[i]? = some (val p z) := by rfl) (hN : ∀ j, (Y.X j).N[i]? = some x := by intro _; rfl)
    (hv : ∀ j, Vis (Y.X j).env.scope x := by intro _; first | exact Or.inl rfl | exact Or.inr (Or.inl rfl) | exact Or.inr (Or.inr rfl)) (hd : (x == ("__debug__" : Str)) = false := by decide) (hcd : (x == ("__classdict__" : Str)) = false := by decide) : XV Y (.Name x pos) Γ (val p z) := by
  refine ⟨_, fun j => pe_var (hN j) (hv j) hd hcd, fun B F H os σ Q I q => ?_⟩
  obtain ⟨o, fp, e, ef, v, ev, h⟩ := I.slot hs
  subst ev
  exact ⟨v, e, q v F H [] same_refl same_refl I.W ⟨rfl, v, rfl, h⟩⟩
/-- an owned list's name, looked at -/
theorem x_varL {α : Type} {p : VP α} {z : List α} (i : Nat) {x : Str} (hs : Γ[i]? = some (own (oL p) z) := by rfl) (hN : ∀ j, (Y.X j).N[i]? = some x := by intro _; rfl)
    (hv : ∀ j, Vis (Y.X j).env.scope x := by intro _; first | exact Or.inl rfl | exact Or.inr (Or.inl rfl) | exact Or.inr (Or.inr rfl)) (hd : (x == ("__debug__" : Str)) = false := by decide) (hcd : (x == ("__classdict__" : Str)) = false := by decide) : XV Y (.Name x pos) Γ (borL p z) := by
  refine ⟨_, fun j => pe_var (hN j) (hv j) hd hcd, fun B F H os σ Q I q => ?_⟩
  obtain ⟨o, fp, e, v, ev, l, vs, el, _, h1, h2⟩ := I.slot hs
  subst ev; subst el
  exact ⟨_, e, q _ F H [] same_refl same_refl I.W ⟨rfl, l, vs, rfl, h1, h2⟩⟩
/-- a module's constant -/
theorem x_glob {α : Type} {p : VP α} {z : α} {x : Str} {v : V} {u : Value} (hm : mg x = some u) (hr : RelV v u) (hz : ∀ F, p.R F v z) (hg : ∀ j, Gl (Y.X j) x := by intro _; rfl) (hd : (x == ("__debug__" : Str)) = false := by decide) : XV Y (.Name x pos) Γ (val p z) :=
  ⟨_, fun j => pe_glob (hg j) (by rw [Y.hM]; exact hm) hr hd, fun _ F H os σ Q I q => q v F H [] same_refl same_refl I.W ⟨rfl, _, rfl, hz F⟩⟩

/-! ### operators -/
/-- two in a row -/
theorem two {ta tb : TE} {B : Bs} {F H : Hp} {os : List Addr} {σ : List (Option V)} {Q : VK} {R : V → V → Hp → Prop} (I : In B F H os σ Γ)
    (ra : ∀ (B : Bs) (F H : Hp) (os : List Addr) (σ : List (Option V)) (Q : VK), In B F H os σ Γ → (∀ v F' H' fp, Same F F' → Same H H' → Wo B F' H' (fp ++ os) → a.P F' H' fp (some v) → Q v H') → ta σ H Q)
    (rb : ∀ (B : Bs) (F H : Hp) (os : List Addr) (σ : List (Option V)) (Q : VK), In B F H os σ Γ → (∀ v F' H' fp, Same F F' → Same H H' → Wo B F' H' (fp ++ os) → b.P F' H' fp (some v) → Q v H') → tb σ H Q)
    (h : ∀ x y F' H' fx fy, Same F F' → Same H H' → Wo B F' H' (fy ++ (fx ++ os)) → a.P F' H' fx (some x) → b.P F' H' fy (some y) → R x y H') : ta σ H fun x H1 => tb σ H1 fun y H2 => R x y H2 := by
  refine ra B F H os σ _ I fun x F1 H1 fx f1 e1 W1 p1 => ?_
  refine rb B F1 H1 _ σ _ (I.step f1 e1 W1) fun y F2 H2 fy f2 e2 W2 p2 => ?_
  exact h x y F2 H2 fx fy (f1.trans f2) (e1.trans e2) W2 (a.mono f2 e2 p1) p2
theorem x_op {op : Operator} {r2 : R2} (ho : ∀ i, OpR (Y.X i) (binaryOp op) r2) (h : Op2 r2 a b c) (ha : XV Y ea Γ a) (hb : XV Y eb Γ b) : XV Y (.BinOp ea op eb pos) Γ c := by
  obtain ⟨ta, pa, ra⟩ := ha
  obtain ⟨tb, pb, rb⟩ := hb
  refine ⟨_, fun i => pe_op (ho i) (pa i) (pb i), fun B F H os σ Q I q => ?_⟩
  refine two (Q := Q) I ra rb fun x y F2 H2 fx fy f2 e2 W2 p1 p2 => ?_
  exact h B F2 H2 x y fx fy os Q W2 p1 p2 fun v F3 H3 fp f3 e3 W3 p3 => q v F3 H3 fp (f2.trans f3) (e2.trans e3) W3 p3
theorem x_cmp {op : CmpOp} {r2 : R2} (ho : ∀ i, OpR (Y.X i) (compareOp op) r2) (h : Op2 r2 a b c) (hm : behindInMarks op eb = false) (ha : XV Y ea Γ a) (hb : XV Y eb Γ b) : XV Y (.Compare ea [op] [eb] pos) Γ c := by
  obtain ⟨ta, pa, ra⟩ := ha
  obtain ⟨tb, pb, rb⟩ := hb
  refine ⟨_, fun i => pe_cmpR (ho i) (pa i) (pb i) hm, fun B F H os σ Q I q => ?_⟩
  refine two (Q := Q) I ra rb fun x y F2 H2 fx fy f2 e2 W2 p1 p2 => ?_
  exact h B F2 H2 x y fx fy os Q W2 p1 p2 fun v F3 H3 fp f3 e3 W3 p3 => q v F3 H3 fp (f2.trans f3) (e2.trans e3) W3 p3
theorem vbl {z : Bool} {F H : Hp} {fp : List Addr} {v : V} (h : (vBl z).P F H fp (some v)) : v = .bl z := (val_P h).2
theorem vint {z : Int} {F H : Hp} {fp : List Addr} {v : V} (h : (vInt z).P F H fp (some v)) : v = .int z := (val_P h).2
theorem vstr {z : Str} {F H : Hp} {fp : List Addr} {v : V} (h : (vStr z).P F H fp (some v)) : v = .str z := (val_P h).2
theorem Wo.flat {α : Type} {p : VP α} {z : α} {B : Bs} {F H F1 H1 : Hp} {fp os : List Addr} {v : Option V} (W : Wo B F H (fp ++ os)) (h : (val p z).P F1 H1 fp v) : Wo B F H os := W.drop
theorem xt_cmp {op : CmpOp} {r2 : R2} {z : Bool} (ho : ∀ i, OpR (Y.X i) (compareOp op) r2) (h : Op2 r2 a b (vBl z)) (hm : behindInMarks op eb = false) (ha : XV Y ea Γ a) (hb : XV Y eb Γ b) : XT Y (.Compare ea [op] [eb] pos) Γ z := by
  obtain ⟨ta, pa, ra⟩ := ha
  obtain ⟨tb, pb, rb⟩ := hb
  refine ⟨_, fun i => pt_cmpR (ho i) (pa i) (pb i) hm, fun B F H os σ Q I q => ?_⟩
  refine two (Q := fun _ _ => True) I ra rb fun x y F2 H2 fx fy f2 e2 W2 p1 p2 => ?_
  exact h B F2 H2 x y fx fy os _ W2 p1 p2 fun v F3 H3 fp f3 e3 W3 p3 => ⟨z, vbl p3, q F3 H3 (f2.trans f3) (e2.trans e3) W3.drop⟩
/-- a op1 b op2 c, b an int -/
theorem xt_chain {op op' : CmpOp} {r2 r2' : R2} {ec : Expr} {z z' u : Bool} {n : Int} (ho : ∀ i, OpR (Y.X i) (compareOp op) r2) (ho' : ∀ i, OpR (Y.X i) (compareOp op') r2') (h : Op2 r2 a (vInt n) (vBl z)) (h' : z = true → Op2 r2' (vInt n) c (vBl z'))
    (hu : u = (z && z')) (ha : XV Y ea Γ a) (hb : XV Y eb Γ (vInt n)) (hc : z = true → XV Y ec Γ c) (hm : lastMarks [op, op'] [eb, ec] = false := by with_unfolding_all rfl) : XT Y (.Compare ea [op, op'] [eb, ec] pos) Γ u := by
  subst hu
  obtain ⟨ta, pa, ra⟩ := ha
  obtain ⟨tb, pb, rb⟩ := hb
  cases z with
  | true =>
    obtain ⟨tc, pc, rc⟩ := hc rfl
    refine ⟨_, fun i => pt_chain (ho i) (ho' i) (pa i) (pb i) (pc i) hm, fun B F H os σ Q I q => ?_⟩
    refine two (Q := fun _ _ => True) I ra rb fun x y F2 H2 fx fy f2 e2 W2 p1 p2 => ?_
    obtain rfl := val_no p2
    refine h B F2 H2 x y fx [] os _ W2 p1 p2 fun v F3 H3 fp f3 e3 W3 p3 => ?_
    refine ⟨true, vbl p3, ?_⟩
    show tc σ H3 _
    have W3' := W3.drop
    refine rc B F3 H3 os σ _ (I.step0 (f2.trans f3) (e2.trans e3) W3') fun z4 F4 H4 fp4 f4 e4 W4 p4 => ?_
    refine h' rfl B F4 H4 y z4 [] fp4 os _ W4 ((vInt n).mono (f3.trans f4) (e3.trans e4) p2) p4 fun v5 F5 H5 fp5 f5 e5 W5 p5 => ?_
    exact ⟨z', vbl p5, q F5 H5 (((f2.trans f3).trans f4).trans f5) (((e2.trans e3).trans e4).trans e5) W5.drop⟩
  | false =>
    have dum : ∃ tc, ∀ i, PE (Y.X i) ec tc := ⟨fun _ _ _ => False, fun i => ⟨fun _ _ _ _ _ _ h => h.elim⟩⟩
    obtain ⟨tc, pc⟩ := dum
    refine ⟨_, fun i => pt_chain (ho i) (ho' i) (pa i) (pb i) (pc i) hm, fun B F H os σ Q I q => ?_⟩
    refine two (Q := fun _ _ => True) I ra rb fun x y F2 H2 fx fy f2 e2 W2 p1 p2 => ?_
    refine h B F2 H2 x y fx fy os _ W2 p1 p2 fun v F3 H3 fp f3 e3 W3 p3 => ?_
    refine ⟨false, vbl p3, ?_⟩
    show ∃ k, V.bl false = .bl k ∧ _
    exact ⟨false, rfl, q F3 H3 (f2.trans f3) (e2.trans e3) W3.drop⟩
theorem x_chain {op op' : CmpOp} {r2 r2' : R2} {ec : Expr} {z z' u : Bool} {n : Int} (ho : ∀ i, OpR (Y.X i) (compareOp op) r2) (ho' : ∀ i, OpR (Y.X i) (compareOp op') r2') (h : Op2 r2 a (vInt n) (vBl z)) (h' : z = true → Op2 r2' (vInt n) c (vBl z'))
    (hu : u = (z && z')) (ha : XV Y ea Γ a) (hb : XV Y eb Γ (vInt n)) (hc : z = true → XV Y ec Γ c) (hm : lastMarks [op, op'] [eb, ec] = false := by with_unfolding_all rfl) : XV Y (.Compare ea [op, op'] [eb, ec] pos) Γ (vBl u) := by
  subst hu
  obtain ⟨ta, pa, ra⟩ := ha
  obtain ⟨tb, pb, rb⟩ := hb
  cases z with
  | true =>
    obtain ⟨tc, pc, rc⟩ := hc rfl
    refine ⟨_, fun i => pe_chain (ho i) (ho' i) (pa i) (pb i) (pc i) hm, fun B F H os σ Q I q => ?_⟩
    refine two (Q := fun _ _ => True) I ra rb fun x y F2 H2 fx fy f2 e2 W2 p1 p2 => ?_
    obtain rfl := val_no p2
    refine h B F2 H2 x y fx [] os _ W2 p1 p2 fun v F3 H3 fp f3 e3 W3 p3 => ?_
    refine ⟨true, vbl p3, ?_⟩
    show tc σ H3 _
    have W3' := W3.drop
    refine rc B F3 H3 os σ _ (I.step0 (f2.trans f3) (e2.trans e3) W3') fun z4 F4 H4 fp4 f4 e4 W4 p4 => ?_
    refine h' rfl B F4 H4 y z4 [] fp4 os _ W4 ((vInt n).mono (f3.trans f4) (e3.trans e4) p2) p4 fun v5 F5 H5 fp5 f5 e5 W5 p5 => ?_
    exact q v5 F5 H5 fp5 (((f2.trans f3).trans f4).trans f5) (((e2.trans e3).trans e4).trans e5) W5 p5
  | false =>
    have dum : ∃ tc, ∀ i, PE (Y.X i) ec tc := ⟨fun _ _ _ => False, fun i => ⟨fun _ _ _ _ _ _ h => h.elim⟩⟩
    obtain ⟨tc, pc⟩ := dum
    refine ⟨_, fun i => pe_chain (ho i) (ho' i) (pa i) (pb i) (pc i) hm, fun B F H os σ Q I q => ?_⟩
    refine two (Q := fun _ _ => True) I ra rb fun x y F2 H2 fx fy f2 e2 W2 p1 p2 => ?_
    refine h B F2 H2 x y fx fy os _ W2 p1 p2 fun v F3 H3 fp f3 e3 W3 p3 => ?_
    refine ⟨false, vbl p3, ?_⟩
    show Q (.bl false) H3
    exact q _ F3 H3 [] (f2.trans f3) (e2.trans e3) W3.drop ⟨rfl, _, rfl, rfl⟩
theorem x_un {op : UnaryOp} {r1 : V → Hp → VK → Prop} (ho : ∀ i, UnR (Y.X i) (unaryOp op) r1) (h : Op1 r1 a c) (ha : XV Y ea Γ a) : XV Y (.UnaryOp op ea pos) Γ c := by
  obtain ⟨ta, pa, ra⟩ := ha
  refine ⟨_, fun i => pe_un (ho i) (pa i), fun B F H os σ Q I q => ?_⟩
  refine ra B F H os σ _ I fun x F1 H1 fx f1 e1 W1 p1 => ?_
  exact h B F1 H1 x fx os Q W1 p1 fun v F3 H3 fp f3 e3 W3 p3 => q v F3 H3 fp (f1.trans f3) (e1.trans e3) W3 p3

/-! ### tests -/
theorem xt_val {z : Bool} (h : XV Y e Γ (vBl z)) (he : ∀ i whole, isTrue e (Y.X i).env whole = (do let v ← whole; standAt e.pos; holding [v] (truthy v)) := by intro _ _; rfl) : XT Y e Γ z := by
  obtain ⟨t, p, r⟩ := h
  refine ⟨_, fun i => pt_val (p i) (he i), fun B F H os σ Q I q => ?_⟩
  refine r B F H os σ _ I fun v F1 H1 fp f1 e1 W1 p1 => ?_
  exact ⟨z, vbl p1, q F1 H1 f1 e1 W1.drop⟩
theorem xw_pt {z : Bool} (h : XW Y e Γ z) : XT Y e Γ z := let ⟨t, p, r⟩ := h; ⟨t, fun i => (p i).pt, r⟩
theorem xw_and1 {z : Bool} (h : XT Y e Γ z) : XW Y (.BoolOp .And [e] pos) Γ z := let ⟨t, p, r⟩ := h; ⟨t, fun i => pw_and1 (p i), r⟩
theorem xw_or1 {z : Bool} (h : XT Y e Γ z) : XW Y (.BoolOp .Or [e] pos) Γ z := let ⟨t, p, r⟩ := h; ⟨t, fun i => pw_or1 (p i), r⟩
theorem pw_dum {i : Y.I} : PW (Y.X i) e (fun _ _ _ => False) := ⟨fun _ _ _ _ _ _ _ h => h.elim⟩
theorem pe_dum {i : Y.I} : PE (Y.X i) e (fun _ _ _ => False) := ⟨fun _ _ _ _ _ _ h => h.elim⟩
theorem xw_and {z z' u : Bool} (h : XT Y ea Γ z) (h2 : z = true → XW Y (.BoolOp .And (eb :: es) pos) Γ z') (hu : u = (z && z')) : XW Y (.BoolOp .And (ea :: eb :: es) pos) Γ u := by
  subst hu
  obtain ⟨t, p, r⟩ := h
  cases z with
  | true =>
    obtain ⟨t2, p2, r2⟩ := h2 rfl
    refine ⟨_, fun i => pw_and (p i) (p2 i), fun B F H os σ Q I q => ?_⟩
    refine r B F H os σ _ I fun F1 H1 f1 e1 W1 => ?_
    show t2 σ H1 Q
    exact r2 B F1 H1 os σ _ (I.step0 f1 e1 W1) fun F2 H2 f2 e2 W2 => q F2 H2 (f1.trans f2) (e1.trans e2) W2
  | false =>
    refine ⟨_, fun i => pw_and (p i) pw_dum, fun B F H os σ Q I q => ?_⟩
    refine r B F H os σ _ I fun F1 H1 f1 e1 W1 => ?_
    show Q false H1
    exact q F1 H1 f1 e1 W1
theorem xw_or {z z' u : Bool} (h : XT Y ea Γ z) (h2 : z = false → XW Y (.BoolOp .Or (eb :: es) pos) Γ z') (hu : u = (z || z')) : XW Y (.BoolOp .Or (ea :: eb :: es) pos) Γ u := by
  subst hu
  obtain ⟨t, p, r⟩ := h
  cases z with
  | false =>
    obtain ⟨t2, p2, r2⟩ := h2 rfl
    refine ⟨_, fun i => pw_or (p i) (p2 i), fun B F H os σ Q I q => ?_⟩
    refine r B F H os σ _ I fun F1 H1 f1 e1 W1 => ?_
    show t2 σ H1 Q
    exact r2 B F1 H1 os σ _ (I.step0 f1 e1 W1) fun F2 H2 f2 e2 W2 => q F2 H2 (f1.trans f2) (e1.trans e2) W2
  | true =>
    refine ⟨_, fun i => pw_or (p i) pw_dum, fun B F H os σ Q I q => ?_⟩
    refine r B F H os σ _ I fun F1 H1 f1 e1 W1 => ?_
    show Q true H1
    exact q F1 H1 f1 e1 W1
theorem xt_not {z u : Bool} (h : XT Y e Γ z) (hu : u = !z) : XT Y (.UnaryOp .Not e pos) Γ u := by
  subst hu
  obtain ⟨t, p, r⟩ := h
  exact ⟨_, fun i => pt_not (p i), fun B F H os σ Q I q => r B F H os σ _ I fun F1 H1 f1 e1 W1 => q F1 H1 f1 e1 W1⟩
/-- as values, all bools -/
theorem x_one {op : BoolOp} (h : XV Y e Γ r) : XV Y (.BoolOp op [e] pos) Γ r := let ⟨t, p, r⟩ := h; ⟨t, fun i => pe_one (p i), r⟩
theorem x_and {z z' u : Bool} (h : XV Y ea Γ (vBl z)) (h2 : z = true → XV Y (.BoolOp .And (eb :: es) pos) Γ (vBl z')) (hu : u = (z && z')) : XV Y (.BoolOp .And (ea :: eb :: es) pos) Γ (vBl u) := by
  subst hu
  obtain ⟨t, p, r⟩ := h
  cases z with
  | true =>
    obtain ⟨t2, p2, r2⟩ := h2 rfl
    refine ⟨_, fun i => pe_and (p i) (p2 i), fun B F H os σ Q I q => ?_⟩
    refine r B F H os σ _ I fun v F1 H1 fp f1 e1 W1 p1 => ?_
    refine ⟨true, vbl p1, ?_⟩
    show t2 σ H1 Q
    exact r2 B F1 H1 os σ _ (I.step0 f1 e1 W1.drop) fun v F2 H2 fp f2 e2 W2 p2 => q v F2 H2 fp (f1.trans f2) (e1.trans e2) W2 p2
  | false =>
    refine ⟨_, fun i => pe_and (p i) pe_dum, fun B F H os σ Q I q => ?_⟩
    refine r B F H os σ _ I fun v F1 H1 fp f1 e1 W1 p1 => ?_
    refine ⟨false, vbl p1, ?_⟩
    show Q (.bl false) H1
    exact q _ F1 H1 [] f1 e1 W1.drop ⟨rfl, _, rfl, rfl⟩
theorem x_or {z z' u : Bool} (h : XV Y ea Γ (vBl z)) (h2 : z = false → XV Y (.BoolOp .Or (eb :: es) pos) Γ (vBl z')) (hu : u = (z || z')) : XV Y (.BoolOp .Or (ea :: eb :: es) pos) Γ (vBl u) := by
  subst hu
  obtain ⟨t, p, r⟩ := h
  cases z with
  | false =>
    obtain ⟨t2, p2, r2⟩ := h2 rfl
    refine ⟨_, fun i => pe_or (p i) (p2 i), fun B F H os σ Q I q => ?_⟩
    refine r B F H os σ _ I fun v F1 H1 fp f1 e1 W1 p1 => ?_
    refine ⟨false, vbl p1, ?_⟩
    show t2 σ H1 Q
    exact r2 B F1 H1 os σ _ (I.step0 f1 e1 W1.drop) fun v F2 H2 fp f2 e2 W2 p2 => q v F2 H2 fp (f1.trans f2) (e1.trans e2) W2 p2
  | true =>
    refine ⟨_, fun i => pe_or (p i) pe_dum, fun B F H os σ Q I q => ?_⟩
    refine r B F H os σ _ I fun v F1 H1 fp f1 e1 W1 p1 => ?_
    refine ⟨true, vbl p1, ?_⟩
    show Q (.bl true) H1
    exact q _ F1 H1 [] f1 e1 W1.drop ⟨rfl, _, rfl, rfl⟩
theorem x_not {z u : Bool} (h : XV Y e Γ (vBl z)) (hu : u = !z) : XV Y (.UnaryOp .Not e pos) Γ (vBl u) := by
  subst hu
  obtain ⟨t, p, r⟩ := h
  refine ⟨_, fun i => pe_not (p i), fun B F H os σ Q I q => ?_⟩
  refine r B F H os σ _ I fun v F1 H1 fp f1 e1 W1 p1 => ?_
  exact ⟨z, vbl p1, q _ F1 H1 [] f1 e1 W1.drop ⟨rfl, _, rfl, rfl⟩⟩
theorem x_ite {ec : Expr} {z : Bool} (hc : XT Y ec Γ z) (h1 : z = true → XV Y ea Γ r) (h2 : z = false → XV Y eb Γ r) : XV Y (.IfExp ec ea eb pos) Γ r := by
  obtain ⟨t, p, rr⟩ := hc
  cases z with
  | true =>
    obtain ⟨t2, p2, r2⟩ := h1 rfl
    refine ⟨_, fun i => pe_ifExp (p i) (p2 i) pe_dum, fun B F H os σ Q I q => ?_⟩
    refine rr B F H os σ _ I fun F1 H1 f1 e1 W1 => ?_
    show t2 σ H1 Q
    exact r2 B F1 H1 os σ _ (I.step0 f1 e1 W1) fun v F2 H2 fp f2 e2 W2 p2 => q v F2 H2 fp (f1.trans f2) (e1.trans e2) W2 p2
  | false =>
    obtain ⟨t2, p2, r2⟩ := h2 rfl
    refine ⟨_, fun i => pe_ifExp (p i) pe_dum (p2 i), fun B F H os σ Q I q => ?_⟩
    refine rr B F H os σ _ I fun F1 H1 f1 e1 W1 => ?_
    show t2 σ H1 Q
    exact r2 B F1 H1 os σ _ (I.step0 f1 e1 W1) fun v F2 H2 fp f2 e2 W2 p2 => q v F2 H2 fp (f1.trans f2) (e1.trans e2) W2 p2
/-- another reading of the value -/
theorem XV.as (h : XV Y e Γ a) (k : ∀ F H fp o, Same F H → a.P F H fp o → b.P F H fp o) : XV Y e Γ b := by
  obtain ⟨t, p, r⟩ := h
  exact ⟨t, p, fun B F H os σ Q I q => r B F H os σ _ I fun v F1 H1 fp f1 e1 W1 p1 => q v F1 H1 fp f1 e1 W1 (k F1 H1 fp _ W1.sub p1)⟩

/-! ### arguments -/
theorem xa_nil : XA Y [] Γ [] := ⟨_, fun _ => pa_nil, fun B F H os σ Q I q => q [] F H [] same_refl same_refl I.W .nil⟩
theorem xa_cons {As : List Slot} (h : XV Y e Γ a) (hr : XA Y es Γ As) (hs : ∀ i, starEach (e :: es) (Y.X i).env = (false, eval e (Y.X i).env) :: starEach es (Y.X i).env := by intro _; rfl) : XA Y (e :: es) Γ (a :: As) := by
  obtain ⟨t, p, r⟩ := h
  obtain ⟨t2, p2, r2⟩ := hr
  refine ⟨_, fun i => pa_cons (p i) (p2 i) (hs i), fun B F H os σ Q I q => ?_⟩
  refine r B F H os σ _ I fun v F1 H1 fp f1 e1 W1 p1 => ?_
  refine r2 B F1 H1 _ σ _ (I.step f1 e1 W1) fun vs F2 H2 fp2 f2 e2 W2 S2 => ?_
  refine q (v :: vs) F2 H2 (fp ++ fp2) (f1.trans f2) (e1.trans e2) (W2.perm ?_) (.cons (a.mono f2 e2 p1) S2)
  rw [← List.append_assoc]
  exact List.Perm.append_right os List.perm_append_comm
end

/-! ### ints, bools, texts -/
section
variable {a b c : Slot} {i j : Int}
theorem o_II {g : Int → Int → V} (h : ∀ F H, c.P F H [] (some (g i j))) : Op2 (rI0 g) (vInt i) (vInt j) c := fun B F H x y fx fy os Q W p1 p2 q => by
  obtain rfl := vint p1
  obtain rfl := vint p2
  exact ⟨i, j, rfl, rfl, q _ F H [] same_refl same_refl W.drop.drop (h F H)⟩
theorem o_IIc {C : Int → Int → Prop} {g : Int → Int → V} (hC : C i j) (h : ∀ F H, c.P F H [] (some (g i j))) : Op2 (rI C g) (vInt i) (vInt j) c := fun B F H x y fx fy os Q W p1 p2 q => by
  obtain rfl := vint p1
  obtain rfl := vint p2
  exact ⟨i, j, rfl, rfl, hC, q _ F H [] same_refl same_refl W.drop.drop (h F H)⟩
theorem o_int {g : Int → Int → Int} : Op2 (rI0 fun i j => .int (g i j)) (vInt i) (vInt j) (vInt (g i j)) := o_II fun _ _ => ⟨rfl, _, rfl, rfl⟩
theorem o_bl {g : Int → Int → Bool} : Op2 (rI0 fun i j => .bl (g i j)) (vInt i) (vInt j) (vBl (g i j)) := o_II fun _ _ => ⟨rfl, _, rfl, rfl⟩
theorem o_intC {C : Int → Int → Prop} {g : Int → Int → Int} (hC : C i j) : Op2 (rI C fun i j => .int (g i j)) (vInt i) (vInt j) (vInt (g i j)) := o_IIc hC fun _ _ => ⟨rfl, _, rfl, rfl⟩
/-- == of flat values -/
theorem o_eq {α β : Type} {p : VP α} {q' : VP β} {u : α} {v : β} {z : Bool} (h : ∀ F x y, p.R F x u → q'.R F y v → scal x y = true ∧ decide (x = y) = z) : Op2 rEq (val p u) (val q' v) (vBl z) := fun B F H x y fx fy os Q W p1 p2 q => by
  obtain ⟨e1, e2⟩ := h F x y (val_P p1).2 (val_P p2).2
  exact ⟨e1, by rw [e2]; exact q _ F H [] same_refl same_refl W.drop.drop ⟨rfl, _, rfl, rfl⟩⟩
theorem o_ne {α β : Type} {p : VP α} {q' : VP β} {u : α} {v : β} {z : Bool} (h : ∀ F x y, p.R F x u → q'.R F y v → scal x y = true ∧ (!decide (x = y)) = z) : Op2 rNe (val p u) (val q' v) (vBl z) := fun B F H x y fx fy os Q W p1 p2 q => by
  obtain ⟨e1, e2⟩ := h F x y (val_P p1).2 (val_P p2).2
  exact ⟨e1, by rw [e2]; exact q _ F H [] same_refl same_refl W.drop.drop ⟨rfl, _, rfl, rfl⟩⟩
theorem o_eqI : Op2 rEq (vInt i) (vInt j) (vBl (decide (i = j))) := o_eq fun F x y h1 h2 => by
  cases h1; cases h2
  refine ⟨rfl, ?_⟩
  by_cases e : i = j <;> simp [e]
theorem o_neI : Op2 rNe (vInt i) (vInt j) (vBl (!decide (i = j))) := o_ne fun F x y h1 h2 => by
  cases h1; cases h2
  refine ⟨rfl, ?_⟩
  by_cases e : i = j <;> simp [e]
theorem o_eqS {x y : Str} : Op2 rEq (vStr x) (vStr y) (vBl (decide (x = y))) := o_eq fun F x1 y1 h1 h2 => by
  cases h1; cases h2
  refine ⟨rfl, ?_⟩
  by_cases e : x = y <;> simp [e]
theorem o_neS {x y : Str} : Op2 rNe (vStr x) (vStr y) (vBl (!decide (x = y))) := o_ne fun F x1 y1 h1 h2 => by
  cases h1; cases h2
  refine ⟨rfl, ?_⟩
  by_cases e : x = y <;> simp [e]
theorem o_eqB {x y : Bool} : Op2 rEq (vBl x) (vBl y) (vBl (decide (x = y))) := o_eq fun F x1 y1 h1 h2 => by
  cases h1; cases h2
  refine ⟨rfl, ?_⟩
  by_cases e : x = y <;> simp [e]
end
end Ty

/-! Ty3 -/
namespace Ty
open PySem PySem.Spec L2

section
variable {P : Program} {w : World} {K : PySem.W.Frag} {mg : Str → Option Value} {base : Heap} {k : Nat}
variable {Y : Fa P w K mg base k} {i : Y.I} {e ea eb tg iter : Expr} {es : List Expr} {st : Stmt} {rest body orelse : List Stmt} {Γ Γ' Γ1 Γ2 : List Slot} {a b c r : Slot} {pos : Pos} {B : Bs} {D : Ends}

/-! ### slots read otherwise: frozen, forgotten -/
/-- s may be read as s': what of its own (x) is frozen or forgotten, what (y) stays its own -/
def WkS (s s' : Slot) : Prop := ∀ (F H : Hp) (fp : List Addr) (o : Option V), Same F H → s.P F H fp o → ∃ x y, fp = x ++ y ∧ ∀ F', Same F F' → Same F' H → (∀ q ∈ x, F' q = H q) → s'.P F' H y o
theorem WkS.refl {s : Slot} : WkS s s := fun F H fp o _ h => ⟨[], fp, rfl, fun F' hF _ _ => s.mono hF (fun _ _ h => h) h⟩
theorem WkS.dead {s : Slot} : WkS s dead := fun F H fp o _ h => ⟨fp, [], by simp, fun _ _ _ _ => rfl⟩
theorem WkS.list {α : Type} {p : VP α} {xs : List α} : WkS (own (oL p) xs) (val (pL p) xs) := fun F H fp o _ h => by
  obtain ⟨v, e, l, vs, el, ef, h1, h2⟩ := h
  subst ef
  exact ⟨[l], [], rfl, fun F' hF hs hx => ⟨rfl, v, e, l, vs, el, by rw [hx l List.mem_cons_self]; exact h1, Paired.mon (fun _ _ r => p.mono hF r) h2⟩⟩
/-- the same value, said otherwise -/
theorem WkS.val {α β : Type} {p : VP α} {q : VP β} {x : α} {y : β} (h : ∀ F v, p.R F v x → q.R F v y) : WkS (val p x) (val q y) := fun F H fp o _ g => by
  obtain ⟨e, v, ev, r⟩ := g
  exact ⟨[], fp, rfl, fun F' hF _ _ => ⟨e, v, ev, h F' v (p.mono hF r)⟩⟩
theorem WkS.opt {α : Type} {p : VP α} {x : α} (h : ∀ F v, p.R F v x → v ≠ .non) : WkS (Ty.val p x) (Ty.val (pOpt p) (Option.some x)) := WkS.val fun F v r => ⟨r, h F v r⟩
theorem WkS.optN {α : Type} {p : VP α} : WkS vNon (Ty.val (pOpt p) (Option.none : Option α)) := WkS.val fun F v r => r
inductive WkL : List Slot → List Slot → Prop
  | nil : WkL [] []
  | cons {s s' : Slot} {Γ Γ' : List Slot} : WkS s s' → WkL Γ Γ' → WkL (s :: Γ) (s' :: Γ')
theorem WkL.refl : ∀ {Γ : List Slot}, WkL Γ Γ
  | [] => .nil
  | _ :: _ => .cons .refl WkL.refl
theorem Slots.wk {F H : Hp} (hS : Same F H) {Γ Γ' : List Slot} (w : WkL Γ Γ') : ∀ {os σ}, Slots F H os σ Γ → ∃ x y, os.Perm (x ++ y) ∧ ∀ F', Same F F' → Same F' H → (∀ q ∈ x, F' q = H q) → Slots F' H y σ Γ' := by
  induction w with
  | nil => intro os σ h; cases h; exact ⟨[], [], .refl _, fun _ _ _ _ => .nil⟩
  | cons h w ih =>
    intro os σ g
    cases g with
    | @cons fp os o σ _ _ p q =>
      obtain ⟨x1, y1, e1, k1⟩ := h F H fp o hS p
      obtain ⟨x2, y2, e2, k2⟩ := ih q
      refine ⟨x1 ++ x2, y1 ++ y2, ?_, fun F' hF hs hx => .cons (k1 F' hF hs fun q hq => hx q (List.mem_append_left _ hq)) (k2 F' hF hs fun q hq => hx q (List.mem_append_right _ hq))⟩
      subst e1
      refine (List.Perm.append_left (x1 ++ y1) e2).trans ?_
      rw [List.append_assoc, List.append_assoc]
      refine List.Perm.append_left x1 ?_
      rw [← List.append_assoc, ← List.append_assoc]
      exact List.Perm.append_right y2 List.perm_append_comm
theorem Sta.wk {F H : Hp} {σ : List (Option V)} (S : Sta B F H σ Γ) (w : WkL Γ Γ') : ∃ F', Sta B F' H σ Γ' := by
  obtain ⟨os, W, S1⟩ := S
  obtain ⟨x, y, e, kk⟩ := S1.wk W.sub w
  obtain ⟨F', W', hF, hx⟩ := (W.perm e).freeze
  exact ⟨F', y, W', kk F' hF W'.sub hx⟩
theorem XV.wk (h : XV Y e Γ a) (hw : WkS a b) : XV Y e Γ b := by
  obtain ⟨t, p, rd⟩ := h
  refine ⟨t, p, fun B F H os σ Q I q => rd B F H os σ _ I fun v F1 H1 fp f1 e1 W1 p1 => ?_⟩
  obtain ⟨x, y, e, kk⟩ := hw F1 H1 fp _ W1.sub p1
  subst e
  rw [List.append_assoc] at W1
  obtain ⟨F', W', hF, hx⟩ := W1.freeze
  exact q v F' H1 y (f1.trans hF) e1 W' (kk F' hF W'.sub hx)

/-! ### statements -/
/-- the rest of a block, run from here -/
def cont (X : Cx) (rest : List Stmt) (D : Ends) : L2.St → Hp → Prop := fun σ H => ∀ pins s, Inv X pins σ H s → wpAny (model X.prog X.w) X.A (execs rest X.env) (SP X pins D) X.xe s
def Go (Y : Fa P w K mg base k) (i : Y.I) (sts : List Stmt) (D : Ends) (B : Bs) (Γ : List Slot) : Prop := ∀ F H σ, Sta B F H σ Γ → cont (Y.X i) sts D σ H
/-- a state that Γ tells -/
def Nx (B : Bs) (Γ : List Slot) : L2.St → Hp → Prop := fun σ H => ∃ F, Sta B F H σ Γ
/-- a value that is left, nothing else kept -/
def Fi (B : Bs) (s : Slot) : VK := fun v H => ∃ F fp, Wo B F H fp ∧ s.P F H fp (some v)
theorem pss_cont {X : Cx} : PSs X body (fun D σ H => cont X body D σ H) := ⟨fun pins s σ H D I h => h pins s I⟩
theorem go_nil (h : ∀ σ H, Nx B Γ σ H → D.nx σ H) : Go Y i [] D B Γ := fun F H σ S pins s I => wpAny_execs_nil ⟨σ, H, I, h σ H ⟨F, S⟩⟩
theorem go_ps {t : TS} (hp : PS (Y.X i) st t) (h : ∀ F H σ, Sta B F H σ Γ → t { D with nx := cont (Y.X i) rest D } σ H) : Go Y i (st :: rest) D B Γ := fun F H σ S pins s I => by
  refine wpAny_execs_cons (thn (hp.run pins s σ H _ I (h F H σ S)) fun f s1 q => ?_)
  cases f with
  | next =>
    obtain ⟨σ', H', I', q⟩ := q
    exact q pins s1 I'
  | ret v => exact q
  | brk => exact q
  | cont => exact q
theorem go_wk (h : Go Y i rest D B Γ') (hw : WkL Γ Γ') : Go Y i rest D B Γ := fun F H σ S => let ⟨F', S'⟩ := S.wk hw; h F' H σ S'
/-- the end of a branch: what follows the if -/
theorem go_join (h : Go Y i rest D B Γ) : Go Y i [] { D with nx := cont (Y.X i) rest D } B Γ := go_nil fun σ H ⟨F, S⟩ => h F H σ S
theorem go_nx (hw : WkL Γ Γ') : Go Y i [] { D with nx := Nx B Γ' } B Γ := go_nil fun σ H ⟨F, S⟩ => S.wk hw
theorem go_pass (h : Go Y i rest D B Γ) : Go Y i (.Pass pos :: rest) D B Γ := go_ps ps_pass fun F H σ S => h F H σ S
theorem go_break (h : ∀ σ H, Nx B Γ σ H → D.bk σ H) : Go Y i (.Break pos :: rest) D B Γ := go_ps ps_break fun F H σ S => h σ H ⟨F, S⟩
theorem go_cont (h : ∀ σ H, Nx B Γ σ H → D.ct σ H) : Go Y i (.Continue pos :: rest) D B Γ := go_ps ps_continue fun F H σ S => h σ H ⟨F, S⟩
theorem go_never (h : False) : Go Y i rest D B Γ := h.elim
/-- an expression run from a state -/
theorem Sta.in {F H : Hp} {σ : List (Option V)} {os : List Addr} (W : Wo B F H os) (S : Slots F H os σ Γ) : In B F H os σ Γ := ⟨W, os, [], by simp, S⟩
theorem Sta.to {F H F' H' : Hp} {σ : List (Option V)} {os : List Addr} (S : Slots F H os σ Γ) (hF : Same F F') (hH : Same H H') (W : Wo B F' H' os) : Sta B F' H' σ Γ := ⟨os, W, S.mono hF hH⟩
theorem go_ret (h : XV Y e Γ r) (hd : ∀ v H, Fi B r v H → D.rt v H) : Go Y i (.Return (some e) pos :: rest) D B Γ := by
  obtain ⟨t, p, rd⟩ := h
  refine go_ps (ps_ret (p i)) fun F H σ ⟨os, W, S⟩ => ?_
  exact rd B F H os σ _ (Sta.in W S) fun v F1 H1 fp f1 e1 W1 p1 => hd v H1 ⟨F1, fp, W1.dropR, p1⟩
theorem go_retN (hd : ∀ v H, Fi B vNon v H → D.rt v H) : Go Y i (.Return none pos :: rest) D B Γ := by
  refine go_ps ps_retN fun F H σ ⟨os, W, S⟩ => ?_
  exact hd .non H ⟨F, [], Wo.drop (a := os) (b := []) (by simpa using W), rfl, _, rfl, rfl⟩
theorem go_expr (h : XV Y e Γ r) (hg : Go Y i rest D B Γ) (hs : swapsWith e none pos.line (Y.X i).env = pure false := by rfl) : Go Y i (.Expr e pos :: rest) D B Γ := by
  obtain ⟨t, p, rd⟩ := h
  refine go_ps (ps_expr (p i) hs) fun F H σ ⟨os, W, S⟩ => ?_
  exact rd B F H os σ _ (Sta.in W S) fun v F1 H1 fp f1 e1 W1 p1 => hg F1 H1 σ (Sta.to S f1 e1 W1.drop)
theorem go_if {z : Bool} (hc : XT Y e Γ z) (h1 : z = true → Go Y i body { D with nx := cont (Y.X i) rest D } B Γ) (h2 : z = false → Go Y i orelse { D with nx := cont (Y.X i) rest D } B Γ) : Go Y i (.If e body orelse pos :: rest) D B Γ := by
  obtain ⟨t, p, rd⟩ := hc
  refine go_ps (ps_if (p i) pss_cont pss_cont) fun F H σ ⟨os, W, S⟩ => ?_
  refine rd B F H os σ _ (Sta.in W S) fun F1 H1 f1 e1 W1 => ?_
  cases z with
  | true =>
    show cont (Y.X i) body _ σ H1
    exact h1 rfl F1 H1 σ (Sta.to S f1 e1 W1)
  | false =>
    show cont (Y.X i) orelse _ σ H1
    exact h2 rfl F1 H1 σ (Sta.to S f1 e1 W1)
theorem cont_mono {X : Cx} {sts : List Stmt} {D D' : Ends} {σ : L2.St} {H : Hp} (h : cont X sts D σ H) (h1 : ∀ σ H, D.nx σ H → D'.nx σ H) (h2 : ∀ v H, D.rt v H → D'.rt v H) (h3 : ∀ σ H, D.bk σ H → D'.bk σ H) (h4 : ∀ σ H, D.ct σ H → D'.ct σ H) : cont X sts D' σ H := fun pins s I => by
  refine thn (h pins s I) fun f s1 q => ?_
  cases f with
  | next => obtain ⟨σ', H', I', q⟩ := q; exact ⟨σ', H', I', h1 _ _ q⟩
  | ret v => obtain ⟨x, σ', H', I', r, q⟩ := q; exact ⟨x, σ', H', I', r, h2 _ _ q⟩
  | brk => obtain ⟨σ', H', I', q⟩ := q; exact ⟨σ', H', I', h3 _ _ q⟩
  | cont => obtain ⟨σ', H', I', q⟩ := q; exact ⟨σ', H', I', h4 _ _ q⟩
/-- both branches come to the one state Γ', from which it goes on -/
theorem go_ifJ (Γ' : List Slot) {z : Bool} (hc : XT Y e Γ z) (h1 : z = true → Go Y i body { D with nx := Nx B Γ' } B Γ) (h2 : z = false → Go Y i orelse { D with nx := Nx B Γ' } B Γ) (hg : Go Y i rest D B Γ') : Go Y i (.If e body orelse pos :: rest) D B Γ :=
  go_if hc (fun hz F H σ S => cont_mono (h1 hz F H σ S) (fun σ' H' ⟨F', S'⟩ => hg F' H' σ' S') (fun _ _ q => q) (fun _ _ q => q) (fun _ _ q => q))
    (fun hz F H σ S => cont_mono (h2 hz F H σ S) (fun σ' H' ⟨F', S'⟩ => hg F' H' σ' S') (fun _ _ q => q) (fun _ _ q => q) (fun _ _ q => q))

/-! ### targets -/
/-- the target takes a value told by r; ws: the slots that it writes -/
def XG (Y : Fa P w K mg base k) (tg : Expr) (ws : List Nat) (r : Slot) (Γ Γ' : List Slot) : Prop :=
  (Γ'.length = Γ.length ∧ ∀ j, j ∉ ws → Γ'[j]? = Γ[j]?) ∧ ∃ g : TG, (∀ i, PG (Y.X i) tg g) ∧ ∀ (F H : Hp) (fp os : List Addr) (σ : List (Option V)) (v : V) (Q : L2.St → Hp → Prop), Same F H → r.P F H fp (some v) → Slots F H os σ Γ →
    (∀ σ' os' d, (σ'.length = σ.length ∧ ∀ j, j ∉ ws → σ'[j]? = σ[j]?) → (fp ++ os).Perm (d ++ os') → Slots F H os' σ' Γ' → Q σ' H) → g v σ H Q
def XGs (Y : Fa P w K mg base k) (tgs : List Expr) (ws : List Nat) (rs : List Slot) (Γ Γ' : List Slot) : Prop :=
  (Γ'.length = Γ.length ∧ ∀ j, j ∉ ws → Γ'[j]? = Γ[j]?) ∧ ∃ g : TGs, (∀ i, PGs (Y.X i) tgs g) ∧ ∀ (F H : Hp) (fp os : List Addr) (σ : List (Option V)) (vs : List V) (Q : L2.St → Hp → Prop), Same F H → Slots F H fp (vs.map some) rs → Slots F H os σ Γ →
    (∀ σ' os' d, (σ'.length = σ.length ∧ ∀ j, j ∉ ws → σ'[j]? = σ[j]?) → (fp ++ os).Perm (d ++ os') → Slots F H os' σ' Γ' → Q σ' H) → g vs σ H Q
theorem Slots.put {F H : Hp} {fp os : List Addr} {o : Option V} {σ : List (Option V)} {j : Nat} (S : Slots F H os σ Γ) (h : r.P F H fp o) (hj : j < Γ.length) : ∃ os' d, Slots F H os' (σ.set j o) (Γ.set j r) ∧ (fp ++ os).Perm (d ++ os') := by
  obtain ⟨o3, fp3, r3, e3, p3, q3, k3⟩ := S.at (List.getElem?_eq_getElem hj)
  obtain ⟨os', h1, h2⟩ := k3 h (fun s0 _ fp0 o0 _ x => x)
  refine ⟨os', fp3, h1, ?_⟩
  refine (List.Perm.append_left fp q3).trans ?_
  rw [← List.append_assoc]
  refine (List.Perm.append_right r3 List.perm_append_comm).trans ?_
  rw [List.append_assoc]
  exact List.Perm.append_left fp3 h2.symm
theorem xg_name (j : Nat) {x : Str} (hj : Nat.blt j Γ.length = true := by rfl) (hi : ∀ i, (Y.X i).N[j]? = some x := by intro _; rfl) (hx : ∀ i, Loc (Y.X i).env.scope x := by intro _; first | exact Or.inl rfl | exact Or.inr rfl)
    (hf : ∀ i, (Y.X i).fn x = true ∨ (Y.X i).env.scope.names.lookup x = some .local := by intro _; first | exact Or.inl rfl | exact Or.inr rfl) : XG Y (.Name x pos) [j] r Γ (Γ.set j r) := by
  refine ⟨⟨by simp, fun q hq => List.getElem?_set_ne (fun z => hq (by simp [z]))⟩, _, fun i => pg_name (Y.hN i) (hi i) (hx i) (hf i), fun F H fp os σ v Q hS p S q => ?_⟩
  obtain ⟨os', d, h1, h2⟩ := S.put p (Nat.le_of_ble_eq_true hj)
  exact q _ os' d ⟨by simp, fun q hq => List.getElem?_set_ne (fun z => hq (by simp [z]))⟩ h2 h1
theorem xgs_nil : XGs Y [] [] [] Γ Γ := by
  refine ⟨⟨rfl, fun _ _ => rfl⟩, _, fun i => pgs_nil, fun F H fp os σ vs Q hS p S q => ?_⟩
  have e := p.length
  obtain rfl : vs = [] := List.eq_nil_of_length_eq_zero (by simpa using e)
  exact ⟨rfl, q σ os fp ⟨rfl, fun _ _ => rfl⟩ (.refl _) S⟩
theorem Slots.cons_inv {F H : Hp} {fp : List Addr} {o : Option V} {σ : List (Option V)} {s : Slot} {Γ : List Slot} (S : Slots F H fp (o :: σ) (s :: Γ)) : ∃ f1 f2, fp = f1 ++ f2 ∧ s.P F H f1 o ∧ Slots F H f2 σ Γ := by
  cases S with
  | cons p r => exact ⟨_, _, rfl, p, r⟩
theorem xgs_cons {t : Expr} {ts : List Expr} {w1 w2 : List Nat} {rs : List Slot} (h1 : XG Y t w1 r Γ Γ1) (h2 : XGs Y ts w2 rs Γ1 Γ2) (hs : ∀ i, (assignEach (t :: ts) (Y.X i).env).map (·.2) = assign t (Y.X i).env :: (assignEach ts (Y.X i).env).map (·.2) := by intro _; rfl) : XGs Y (t :: ts) (w1 ++ w2) (r :: rs) Γ Γ2 := by
  obtain ⟨⟨l1, k1⟩, g1, p1, q1⟩ := h1
  obtain ⟨⟨l2, k2⟩, g2, p2, q2⟩ := h2
  refine ⟨⟨by rw [l2, l1], fun j hj => ?_⟩, _, fun i => pgs_cons (p1 i) (p2 i) (hs i), fun F H fp os σ vs Q hS p S q => ?_⟩
  · rw [k2 j (fun z => hj (List.mem_append_right _ z)), k1 j (fun z => hj (List.mem_append_left _ z))]
  · match vs, p with
    | [], p => have e := p.length; simp at e
    | v :: vs, p =>
      obtain ⟨f1, f2, rfl, pv, pr⟩ := Slots.cons_inv p
      refine ⟨v, vs, rfl, q1 F H f1 os σ v _ hS pv S fun σ1 os1 d1 ⟨m1, n1⟩ W1 S1 => ?_⟩
      refine q2 F H f2 os1 σ1 vs _ hS pr S1 fun σ2 os2 d2 ⟨m2, n2⟩ W3 S2 => q σ2 os2 (d1 ++ d2) ⟨by rw [m2, m1], fun j hj => ?_⟩ ?_ S2
      · rw [n2 j (fun z => hj (List.mem_append_right _ z)), n1 j (fun z => hj (List.mem_append_left _ z))]
      · have a1 : (f1 ++ f2 ++ os).Perm (f2 ++ (f1 ++ os)) := by
          rw [← List.append_assoc]
          exact List.Perm.append_right os List.perm_append_comm
        refine a1.trans ((List.Perm.append_left f2 W1).trans ?_)
        have a2 : (f2 ++ (d1 ++ os1)).Perm (d1 ++ (f2 ++ os1)) := by
          rw [← List.append_assoc, ← List.append_assoc]
          exact List.Perm.append_right os1 List.perm_append_comm
        refine a2.trans ?_
        rw [List.append_assoc]
        exact List.Perm.append_left d1 W3
theorem xg_tup2 {α β : Type} {p : VP α} {q : VP β} {x : α × β} {t1 t2 : Expr} {n : Nat} {ws : List Nat} (h : XGs Y [t1, t2] ws [val p x.1, val q x.2] Γ Γ') (hn : ∀ i, (assignEach [t1, t2] (Y.X i).env).length = 2 := by intro _; rfl) (hst : ∀ i, (assignEach [t1, t2] (Y.X i).env).findIdx? (·.1) = none := by intro _; rfl) (hcm : Y.cm = true := by rfl) :
    XG Y (.Tuple [t1, t2] n pos) ws (val (pT2 p q) x) Γ Γ' := by
  obtain ⟨kk, g, pp, qq⟩ := h
  refine ⟨kk, _, fun i => by have := pg_tup (X := Y.X i) (k := n) (pos := pos) ((Y.hC i).trans hcm) (pp i) (hn i) (hst i); rw [Y.hK i] at this; exact this, fun F H fp os σ v Q hS pv S q => ?_⟩
  obtain ⟨rfl, l, a, b, ev, h1, h2, h3⟩ := val_P pv
  subst ev
  exact ⟨l, [a, b], rfl, SqT.of (hS _ _ h1), rfl, qq F H [] os σ [a, b] Q hS (Slots.cons (fp := []) ⟨rfl, _, rfl, h2⟩ (Slots.cons (fp := []) ⟨rfl, _, rfl, h3⟩ .nil)) S q⟩
theorem xg_tup3 {α β γ : Type} {p : VP α} {q : VP β} {u : VP γ} {x : α × β × γ} {t1 t2 t3 : Expr} {n : Nat} {ws : List Nat} (h : XGs Y [t1, t2, t3] ws [val p x.1, val q x.2.1, val u x.2.2] Γ Γ') (hn : ∀ i, (assignEach [t1, t2, t3] (Y.X i).env).length = 3 := by intro _; rfl) (hst : ∀ i, (assignEach [t1, t2, t3] (Y.X i).env).findIdx? (·.1) = none := by intro _; rfl) (hcm : Y.cm = true := by rfl) :
    XG Y (.Tuple [t1, t2, t3] n pos) ws (val (pT3 p q u) x) Γ Γ' := by
  obtain ⟨kk, g, pp, qq⟩ := h
  refine ⟨kk, _, fun i => by have := pg_tup (X := Y.X i) (k := n) (pos := pos) ((Y.hC i).trans hcm) (pp i) (hn i) (hst i); rw [Y.hK i] at this; exact this, fun F H fp os σ v Q hS pv S q => ?_⟩
  obtain ⟨rfl, l, a, b, c, ev, h1, h2, h3, h4⟩ := val_P pv
  subst ev
  exact ⟨l, [a, b, c], rfl, SqT.of (hS _ _ h1), rfl, qq F H [] os σ [a, b, c] Q hS (Slots.cons (fp := []) ⟨rfl, _, rfl, h2⟩ (Slots.cons (fp := []) ⟨rfl, _, rfl, h3⟩ (Slots.cons (fp := []) ⟨rfl, _, rfl, h4⟩ .nil))) S q⟩
/-- x = e -/
theorem go_set (j : Nat) {x : Str} {pos' : Pos} (he : XV Y e Γ r) (hg : Go Y i rest D B (Γ.set j r)) (hj : Nat.blt j Γ.length = true := by rfl) (hi : (Y.X i).N[j]? = some x := by rfl) (hx : Loc (Y.X i).env.scope x := by first | exact Or.inl rfl | exact Or.inr rfl)
    (hs : swapsWith e (some (.Name x pos')) pos.line (Y.X i).env = pure false := by rfl) (hf : (Y.X i).fn x = true ∨ (Y.X i).env.scope.names.lookup x = some .local := by first | exact Or.inl rfl | exact Or.inr rfl) : Go Y i (.Assign [.Name x pos'] e pos :: rest) D B Γ := by
  obtain ⟨t, p, rd⟩ := he
  refine go_ps (ps_set (Y.hN i) hi hx (p i) hs hf) fun F H σ ⟨os, W, S⟩ => ?_
  refine rd B F H os σ _ (Sta.in W S) fun v F1 H1 fp f1 e1 W1 p1 => ?_
  obtain ⟨os', d, h1, h2⟩ := (S.mono f1 e1).put p1 (Nat.le_of_ble_eq_true hj)
  exact hg F1 H1 _ ⟨os', (W1.perm h2).drop, h1⟩
/-- target = e -/
theorem go_asg {ws : List Nat} (he : XV Y e Γ r) (ht : XG Y tg ws r Γ Γ') (hg : Go Y i rest D B Γ') (hs : swapsWithSole [tg] e pos.line (Y.X i).env = pure false := by rfl) (hw : swappedStores [tg] e (Y.X i).env = pure none := by rfl) (h1 : (assignEach [tg] (Y.X i).env).map (·.2) = [assign tg (Y.X i).env] := by rfl) :
    Go Y i (.Assign [tg] e pos :: rest) D B Γ := by
  obtain ⟨t, p, rd⟩ := he
  obtain ⟨_, g, pg, qg⟩ := ht
  refine go_ps (ps_asg (p i) (pg i) hs hw h1) fun F H σ ⟨os, W, S⟩ => ?_
  refine rd B F H os σ _ (Sta.in W S) fun v F1 H1 fp f1 e1 W1 p1 => ?_
  exact qg F1 H1 fp os σ v _ W1.sub p1 (S.mono f1 e1) fun σ' os' d _ W' S' => hg F1 H1 σ' ⟨os', (W1.perm W').drop, S'⟩
/-- x op= e, ints -/
theorem go_augI (j : Nat) {op : Operator} {f : Int → Int → Int} {x : Str} {pos' : Pos} {u v : Int} (ho : PIp (Y.X i) op (ipI f)) (he : XV Y e Γ (vInt v)) (hg : Go Y i rest D B (Γ.set j (vInt (f u v)))) (hv : Γ[j]? = some (vInt u) := by rfl) (hi : (Y.X i).N[j]? = some x := by rfl)
    (hx : Loc (Y.X i).env.scope x := by first | exact Or.inl rfl | exact Or.inr rfl) (hf : (Y.X i).fn x = true ∨ (Y.X i).env.scope.names.lookup x = some .local := by first | exact Or.inl rfl | exact Or.inr rfl) : Go Y i (.AugAssign (.Name x pos') op e pos :: rest) D B Γ := by
  obtain ⟨t, p, rd⟩ := he
  refine go_ps (ps_aug (Y.hN i) hi hx (p i) ho hf) fun F H σ ⟨os, W, S⟩ => ?_
  obtain ⟨o, fp, es, hp⟩ := (Sta.in W S).slot hv
  obtain ⟨_, v0, ev, rfl⟩ := hp
  subst ev
  refine ⟨_, es, rd B F H os σ _ (Sta.in W S) fun y F1 H1 fp f1 e1 W1 p1 => ?_⟩
  obtain rfl := vint p1
  obtain ⟨os', d, h1, h2⟩ := (S.mono f1 e1).put (r := vInt (f u v)) (fp := []) (o := some (.int (f u v))) ⟨rfl, _, rfl, rfl⟩ (List.getElem?_eq_some_iff.mp hv).1
  exact ⟨u, v, rfl, rfl, hg F1 H1 _ ⟨os', (W1.drop.perm h2).drop, h1⟩⟩

/-! ### what is walked -/
/-- an iterator of things told by rs; ro: while the whole heap stands -/
def Wk (ro : Prop) (J : It) (F H : Hp) (rs : List Slot) : Prop := ∀ F1 H1, Same F F1 → (ro → Same H H1) → Same F1 H1 → J.stop rs.length H1 ∧
  ∀ (n : Nat) (r : Slot), rs[n]? = some r → J.go n H1 ∧ ∀ v H2, J.yld n H1 v H2 → Same H1 H2 ∧ ∀ (B : Bs) (os : List Addr), Wo B F1 H1 os → ∃ F2, Same F1 F2 ∧ Wo B F2 H2 os ∧ r.P F2 H2 [] (some v)
def XI (Y : Fa P w K mg base k) (tg iter : Expr) (Γ : List Slot) (ro : Prop) (rs : List Slot) : Prop :=
  ∃ wi : TI, (∀ i, PI (Y.X i) tg iter wi) ∧ ∀ (B : Bs) (F H : Hp) (os : List Addr) (σ : List (Option V)) (R : It → Hp → Prop), In B F H os σ Γ → (∀ J F' H', Same F F' → Same H H' → Wo B F' H' os → Wk ro J F' H' rs → R J H') → wi σ H R
theorem XI.ro {ro : Prop} {rs : List Slot} (h : XI Y tg iter Γ False rs) : XI Y tg iter Γ ro rs := by
  obtain ⟨wi, p, q⟩ := h
  exact ⟨wi, p, fun B F H os σ R I k => q B F H os σ R I fun J F' H' f e W w' => k J F' H' f e W fun F1 H1 a _ c => w' F1 H1 a (fun z => z.elim) c⟩
theorem paired_at {α β : Type} {G : α → β → Prop} : ∀ {xs : List α} {ys : List β}, Paired G xs ys → ∀ {n : Nat} {x : α}, xs[n]? = some x → ∃ y, ys[n]? = some y ∧ G x y
  | _, _, .nil, n, x, e => by simp at e
  | _, _, .cons r t, 0, x, e => by simp at e; subst e; exact ⟨_, rfl, r⟩
  | _, _, .cons r t, n + 1, x, e => paired_at t (n := n) (by simpa using e)
theorem paired_at' {α β : Type} {G : α → β → Prop} : ∀ {xs : List α} {ys : List β}, Paired G xs ys → ∀ {n : Nat} {y : β}, ys[n]? = some y → ∃ x, xs[n]? = some x ∧ G x y
  | _, _, .nil, n, x, e => by simp at e
  | _, _, .cons r t, 0, x, e => by simp at e; subst e; exact ⟨_, rfl, r⟩
  | _, _, .cons r t, n + 1, x, e => paired_at' t (n := n) (by simpa using e)
/-- over a list that stands still, by what is known of it at every heap that comes -/
theorem wk_list {α : Type} {p : VP α} {xs : List α} {ro : Prop} {F H : Hp} {l : Addr} {vs : List V} (hl : ∀ F1 H1, Same F F1 → (ro → Same H H1) → Same F1 H1 → SqL K H1 l vs) (hp : Paired (p.R F) vs xs) : Wk ro (Itl K l) F H (xs.map (val p)) := by
  intro F1 H1 a b c
  have q := hl F1 H1 a b c
  have hlen := Paired.length hp
  refine ⟨⟨vs, q, by simp [hlen]⟩, fun n r hr => ?_⟩
  rw [List.getElem?_map] at hr
  obtain ⟨x, ex, er⟩ := Option.map_eq_some_iff.mp hr
  obtain ⟨v, ev, rv⟩ := paired_at' hp ex
  refine ⟨⟨vs, v, q, ev⟩, fun u H2 y => ?_⟩
  obtain ⟨e1, y⟩ := y
  subst e1
  refine ⟨fun _ _ h => h, fun B os W => ⟨F1, same_refl, W, ?_⟩⟩
  have e2 := y vs q
  rw [ev] at e2
  cases e2
  subst er
  exact ⟨rfl, v, rfl, p.mono a rv⟩
theorem xi_list {α : Type} {p : VP α} {xs : List α} (h : XV Y iter Γ (val (pL p) xs)) : XI Y tg iter Γ False (xs.map (val p)) := by
  obtain ⟨t, pe, rd⟩ := h
  refine ⟨_, fun i => by have := pi_list (X := Y.X i) (tg := tg) (pe i); rw [Y.hK i] at this; exact this, fun B F H os σ R I kk => ?_⟩
  refine rd B F H os σ _ I fun v F1 H1 fp f1 e1 W1 p1 => ?_
  obtain ⟨_, l, vs, ev, h1, h2⟩ := val_P p1
  subst ev
  exact ⟨l, rfl, ⟨vs, SqL.of (W1.sub _ _ h1)⟩, kk _ F1 H1 f1 e1 W1.drop (wk_list (fun F2 H2 a _ c => SqL.of (c _ _ (a _ _ h1))) h2)⟩
theorem xi_scr {ns : List Int} (h : XV Y iter Γ (val (pScr K) ns)) : XI Y tg iter Γ False (ns.map (val pInt)) := by
  obtain ⟨t, pe, rd⟩ := h
  refine ⟨_, fun i => by have := pi_list (X := Y.X i) (tg := tg) (pe i); rw [Y.hK i] at this; exact this, fun B F H os σ R I kk => ?_⟩
  refine rd B F H os σ _ I fun v F1 H1 fp f1 e1 W1 p1 => ?_
  obtain ⟨_, l, ev, h1⟩ := val_P p1
  subst ev
  exact ⟨l, rfl, ⟨_, Same.seq W1.sub h1⟩, kk _ F1 H1 f1 e1 W1.drop (wk_list (fun F2 H2 a _ c => Same.seq c (Same.seq a h1)) (paired_map_int ns))⟩
theorem xi_bor {α : Type} {p : VP α} {xs : List α} (h : XV Y iter Γ (borL p xs)) : XI Y tg iter Γ True (xs.map (val p)) := by
  obtain ⟨t, pe, rd⟩ := h
  refine ⟨_, fun i => by have := pi_list (X := Y.X i) (tg := tg) (pe i); rw [Y.hK i] at this; exact this, fun B F H os σ R I kk => ?_⟩
  refine rd B F H os σ _ I fun v F1 H1 fp f1 e1 W1 p1 => ?_
  obtain ⟨_, l, vs, ev, h1, h2⟩ := p1
  cases ev
  exact ⟨l, rfl, ⟨vs, SqL.of h1⟩, kk _ F1 H1 f1 e1 W1.drop (wk_list (fun F2 H2 a b c => SqL.of (b trivial _ _ h1)) h2)⟩
theorem xi_tup {α : Type} {p : VP α} {xs : List α} (h : XV Y iter Γ (val (pTup p) xs)) : XI Y tg iter Γ False (xs.map (val p)) := by
  obtain ⟨t, pe, rd⟩ := h
  refine ⟨_, fun i => by have := pi_tup (X := Y.X i) (tg := tg) (pe i); rw [Y.hK i] at this; exact this, fun B F H os σ R I kk => ?_⟩
  refine rd B F H os σ _ I fun v F1 H1 fp f1 e1 W1 p1 => ?_
  obtain ⟨_, l, vs, ev, h1, hp⟩ := val_P p1
  subst ev
  refine ⟨l, rfl, ⟨vs, SqT.of (W1.sub _ _ h1)⟩, kk _ F1 H1 f1 e1 W1.drop ?_⟩
  intro F2 H2 a b c
  have q : SqT K H2 l vs := SqT.of (c _ _ (a _ _ h1))
  have hlen := Paired.length hp
  refine ⟨⟨vs, q, by simp [hlen]⟩, fun n r hr => ?_⟩
  rw [List.getElem?_map] at hr
  obtain ⟨x, ex, er⟩ := Option.map_eq_some_iff.mp hr
  obtain ⟨v, ev, rv⟩ := paired_at' hp ex
  refine ⟨⟨vs, v, q, ev⟩, fun u H3 y => ?_⟩
  obtain ⟨e1, y⟩ := y
  subst e1
  refine ⟨fun _ _ h => h, fun B os W => ⟨F2, same_refl, W, ?_⟩⟩
  have e2 := y vs q
  rw [ev] at e2
  cases e2
  subst er
  exact ⟨rfl, v, rfl, p.mono a rv⟩
/-- lo, lo + 1, .. below hi -/
def rangeL (lo hi : Int) : List Int := (List.range (hi - lo).toNat).map fun (n : Nat) => lo + (n : Int)
theorem wk_range {ro : Prop} {F H : Hp} {lo hi : Int} : Wk ro (Itr lo (hi - lo).toNat) F H ((rangeL lo hi).map (val pInt)) := by
  intro F1 H1 a b c
  refine ⟨by show (hi - lo).toNat ≤ _; simp [rangeL], fun n r hr => ?_⟩
  rw [List.getElem?_map] at hr
  obtain ⟨x, ex, er⟩ := Option.map_eq_some_iff.mp hr
  unfold rangeL at ex
  rw [List.getElem?_map] at ex
  obtain ⟨m, em, e3⟩ := Option.map_eq_some_iff.mp ex
  have hn : n < (hi - lo).toNat := by
    have := (List.getElem?_eq_some_iff.mp em).1
    simpa using this
  rw [List.getElem?_range hn] at em
  cases em
  refine ⟨hn, fun u H2 y => ?_⟩
  obtain ⟨e1, e2⟩ := y
  subst e1; subst e2; subst er; subst e3
  exact ⟨fun _ _ h => h, fun B os W => ⟨F1, same_refl, W, rfl, _, rfl, rfl⟩⟩
theorem xi_range1 {n : Int} {p' : Pos} (hm : mg "range" = none) (h : XV Y e Γ (vInt n)) (hn : -(2 ^ 62) ≤ n ∧ n < 2 ^ 62) (hg : ∀ i, Gl (Y.X i) "range" := by intro _; rfl) (hs : ∀ i, starEach [e] (Y.X i).env = [(false, eval e (Y.X i).env)] := by intro _; rfl) : XI Y tg (.Call (.Name "range" p') [e] [] pos) Γ False ((rangeL 0 n).map (val pInt)) := by
  obtain ⟨t, pe, rd⟩ := h
  refine ⟨_, fun i => pi_range1 (hg i) (by rw [Y.hM]; exact hm) (pa_cons (pe i) pa_nil (by rw [hs i]; rfl)) (hs i), fun B F H os σ R I kk => ?_⟩
  refine rd B F H os σ _ I fun v F1 H1 fp f1 e1 W1 p1 => ?_
  obtain rfl := vint p1
  refine ⟨n, rfl, hn.1, hn.2, ?_⟩
  have := kk (Itr 0 (n - 0).toNat) F1 H1 f1 e1 W1.drop wk_range
  rw [Int.sub_zero] at this
  exact this
theorem xi_range2 {m n : Int} {p' : Pos} (hm : mg "range" = none) (ha : XV Y ea Γ (vInt m)) (hb : XV Y eb Γ (vInt n)) (hn : -(2 ^ 62) ≤ m ∧ m < 2 ^ 62 ∧ -(2 ^ 62) ≤ n ∧ n < 2 ^ 62) (hg : ∀ i, Gl (Y.X i) "range" := by intro _; rfl)
    (hs : ∀ i, starEach [ea, eb] (Y.X i).env = [(false, eval ea (Y.X i).env), (false, eval eb (Y.X i).env)] := by intro _; rfl) (hs2 : ∀ i, starEach [eb] (Y.X i).env = [(false, eval eb (Y.X i).env)] := by intro _; rfl) : XI Y tg (.Call (.Name "range" p') [ea, eb] [] pos) Γ False ((rangeL m n).map (val pInt)) := by
  obtain ⟨t, pe, rd⟩ := ha
  obtain ⟨t2, pe2, rd2⟩ := hb
  refine ⟨_, fun i => pi_range2 (hg i) (by rw [Y.hM]; exact hm) (pa_cons (pe i) (pa_cons (pe2 i) pa_nil (by rw [hs2 i]; rfl)) (by rw [hs i, hs2 i])) (hs i) (hs2 i), fun B F H os σ R I kk => ?_⟩
  refine rd B F H os σ _ I fun v F1 H1 fp f1 e1 W1 p1 => ?_
  obtain rfl := vint p1
  refine rd2 B F1 H1 os σ _ (I.step0 f1 e1 W1.drop) fun v2 F2 H2 fp2 f2 e2 W2 p2 => ?_
  obtain rfl := vint p2
  exact ⟨m, n, rfl, hn, kk _ F2 H2 (f1.trans f2) (e1.trans e2) W2.drop wk_range⟩
/-- enumerate(xs) of a list that stands still -/
theorem xi_enum {α : Type} {p : VP α} {xs : List α} {p' tpos : Pos} {elts : List Expr} {kk : Nat} (hm : mg "enumerate" = none) (h : XV Y e Γ (val (pL p) xs)) (hg : ∀ i, Gl (Y.X i) "enumerate" := by intro _; rfl) (hs : ∀ i, starEach [e] (Y.X i).env = [(false, eval e (Y.X i).env)] := by intro _; rfl) :
    XI Y (.Tuple elts kk tpos) (.Call (.Name "enumerate" p') [e] [] pos) Γ False ((xs.zipIdx).map fun (x : α × Nat) => val (pT2 pInt p) ((x.2 : Int), x.1)) := by
  obtain ⟨t, pe, rd⟩ := h
  refine ⟨_, fun i => by have := pi_enum (X := Y.X i) (p := p') (pos := pos) (tpos := tpos) (elts := elts) (kk := kk) (hg i) (by rw [Y.hM]; exact hm) (pa_cons (pe i) pa_nil (by rw [hs i]; rfl)) (hs i); rw [Y.hK i] at this; exact this, fun B F H os σ R I q => ?_⟩
  refine rd B F H os σ _ I fun v F1 H1 fp f1 e1 W1 p1 => ?_
  obtain ⟨_, l, vs, ev, h1, hp⟩ := val_P p1
  subst ev
  refine ⟨l, vs, rfl, SqL.of (W1.sub _ _ h1), q _ F1 H1 f1 e1 W1.drop ?_⟩
  intro F2 H2 a b c
  have ql : SqL K H2 l vs := SqL.of (c _ _ (a _ _ h1))
  have hlen := Paired.length hp
  refine ⟨⟨vs, ql, by simp [hlen]⟩, fun n r hr => ?_⟩
  rw [List.getElem?_map] at hr
  obtain ⟨x, ex, er⟩ := Option.map_eq_some_iff.mp hr
  rw [List.getElem?_zipIdx] at ex
  obtain ⟨x', ex', e3⟩ := Option.map_eq_some_iff.mp ex
  subst e3
  obtain ⟨v, ev, rv⟩ := paired_at' hp ex'
  refine ⟨⟨vs, v, ql, ev⟩, fun u H3 y => ?_⟩
  obtain ⟨T, x2, e4, hT, e5, y⟩ := y
  subst e4; subst e5
  have e2 := y vs ql
  rw [ev] at e2
  cases e2
  subst er
  refine ⟨same_upd hT, fun B os W => ?_⟩
  have hF2 := (W.free hT).1
  exact ⟨upd F2 T (.tup [.int (n : Nat), v]), same_upd hF2, W.newF hT, rfl, _, rfl, T, _, _, rfl, upd_same, by simp [pInt], p.mono (fun _ _ z => same_upd hF2 _ _ (a _ _ z)) rv⟩

/-! ### loops -/
/-- how a loop's turn (or the loop) ends -/
inductive Fl (ρ S : Type) where
  | next (s : S)
  | brk (s : S)
  | ret (r : ρ)
def forF {α S ρ : Type} : List α → S → (α → S → Option (Fl ρ S)) → Option (Fl ρ S)
  | [], s, _ => some (.next s)
  | x :: xs, s, f => (f x s).bind fun
    | .next s' => forF xs s' f
    | .brk s' => some (.brk s')
    | .ret r => some (.ret r)
def whileF {S ρ : Type} : Nat → S → (S → Option (Fl ρ S)) → Option (Fl ρ S)
  | 0, _, _ => none
  | n + 1, s, f => (f s).bind fun
    | .next s' => whileF n s' f
    | .brk s' => some (.brk s')
    | .ret r => some (.ret r)
/-- what a turn's ways out lead to -/
def LE {ρ S : Type} (B : Bs) (Γf : S → List Slot) (Sr : ρ → Slot) (out : Fl ρ S) : Ends where
  nx := fun σ H => ∃ s', out = .next s' ∧ Nx B (Γf s') σ H
  ct := fun σ H => ∃ s', out = .next s' ∧ Nx B (Γf s') σ H
  bk := fun σ H => ∃ s', out = .brk s' ∧ Nx B (Γf s') σ H
  rt := fun v H => ∃ r, out = .ret r ∧ Fi B (Sr r) v H
/-- a target's reading from what runs it -/
def contG (X : Cx) (tg : Expr) : TG := fun v σ H Q => ∀ (pins : List (Addr × Obj)) (s : Shared) (u : Value), Inv X pins σ H s → RelV v u → wpAny (model X.prog X.w) X.A (assign tg X.env u) (fun _ s' => ∃ σ' H', Inv X pins σ' H' s' ∧ Q σ' H') X.xe s
theorem pg_contG {X : Cx} : PG X tg (contG X tg) := ⟨fun pins s σ H v u Q I r h => h pins s u I r⟩
def contT (X : Cx) (e : Expr) : TT := fun σ H Q => ∀ (pins : List (Addr × Obj)) (s : Shared), Inv X pins σ H s → wpAny (model X.prog X.w) X.A (isTrue e X.env (eval e X.env)) (TP X pins σ Q) X.xe s
theorem pt_contT {X : Cx} : PT X e (contT X e) := ⟨fun pins s σ H Q I h => h pins s I⟩
/-- the entry made the base, and back -/
theorem Sta.enter {F H : Hp} {σ : L2.St} (S : Sta B F H σ Γ) : ∃ os, Wo B F H os ∧ Sta ⟨F, H, os⟩ F H σ Γ := by
  obtain ⟨os, W, S⟩ := S
  exact ⟨os, W, os, W.self, S⟩
theorem Sta.leave {F1 H1 F H : Hp} {os : List Addr} {σ : L2.St} (W : Wo B F1 H1 os) (S : Sta ⟨F1, H1, os⟩ F H σ Γ) : Sta B F H σ Γ := by
  obtain ⟨o2, W2, S⟩ := S
  exact ⟨o2, W.trans W2, S⟩
theorem Fi.leave {F1 H1 : Hp} {os : List Addr} {v : V} {H : Hp} (W : Wo B F1 H1 os) (S : Fi ⟨F1, H1, os⟩ r v H) : Fi B r v H := by
  obtain ⟨F, fp, W2, p⟩ := S
  exact ⟨F, fp, W.trans W2, p⟩
theorem Sta.bF {F H : Hp} {σ : L2.St} (S : Sta B F H σ Γ) : Same B.F F := let ⟨_, W, _⟩ := S; W.bF
theorem Sta.sub {F H : Hp} {σ : L2.St} (S : Sta B F H σ Γ) : Same F H := let ⟨_, W, _⟩ := S; W.sub
theorem go_for {α T ρ : Type} {xs : List α} {rs : α → Slot} (Γf : T → List Slot) {Sr : ρ → Slot} {s0 : T} {f : α → T → Option (Fl ρ T)} {o : Fl ρ T}
    (hi : XI Y tg iter Γ False (xs.map rs)) (h0 : WkL Γ (Γf s0)) (ho : forF xs s0 f = some o)
    (hb : ∀ B1 x s out, x ∈ xs → f x s = some out → (∀ r, out = .ret r → o = .ret r) → (∀ F H os, Wo B1 F H os → Wo B F H os) → ∃ ws Γ1, XG Y tg ws (rs x) (Γf s) Γ1 ∧ Go Y i body (LE B1 Γf Sr out) B1 Γ1)
    (hr : ∀ s, (o = .next s ∨ o = .brk s) → Go Y i rest D B (Γf s)) (hret : ∀ r, o = .ret r → ∀ v H, Fi B (Sr r) v H → D.rt v H)
    (hs : ∀ x, foldedSetIterable iter (Y.X i).env x = pure x := by intro _; rfl) (hcm : Y.cm = true := by rfl) : Go Y i (.For tg iter body [] pos :: rest) D B Γ := by
  obtain ⟨wi, pi, qi⟩ := hi
  refine go_ps (ps_for (Y.hO i) ((Y.hC i).trans hcm) (pi i) pg_contG pss_cont hs) fun F H σ ⟨os0, W0, S0⟩ => ?_
  refine qi B F H os0 σ _ (Sta.in W0 S0) fun J F1 H1 f1 e1 W1 wk => ?_
  obtain ⟨os, W, S1⟩ := (Sta.to S0 f1 e1 W1).enter
  obtain ⟨F2, S2⟩ := S1.wk h0
  refine ⟨fun n m σ' H' => n ≤ xs.length ∧ m = xs.length - n ∧ ∃ (s : T) (F' : Hp), Sta ⟨F1, H1, os⟩ F' H' σ' (Γf s) ∧ forF (xs.drop n) s f = some o, ⟨xs.length - 0, Nat.zero_le _, rfl, s0, F2, S2, by simpa using ho⟩, ?_⟩
  rintro n m σ' H' ⟨hn, rfl, s, F', S', hfo⟩
  obtain ⟨w1, w2⟩ := wk F' H' S'.bF (fun z => z.elim) S'.sub
  by_cases hlt : n < xs.length
  · have hx : xs[n]? = some xs[n] := List.getElem?_eq_getElem hlt
    have hdrop : xs.drop n = xs[n] :: xs.drop (n + 1) := List.drop_eq_getElem_cons hlt
    rw [hdrop] at hfo
    unfold forF at hfo
    obtain ⟨out, hout, hfo⟩ := Option.bind_eq_some_iff.mp hfo
    obtain ⟨g1, g2⟩ := w2 n (rs xs[n]) (by rw [List.getElem?_map, hx]; rfl)
    obtain ⟨ws, Γ1, hxg, hgo⟩ := hb ⟨F1, H1, os⟩ xs[n] s out (List.getElem_mem hlt) hout (fun r e => by subst e; simpa using hfo.symm) (fun _ _ _ W' => W.trans W')
    refine .inr ⟨g1, fun σ2 H2 => ∃ s', out = .next s' ∧ Nx ⟨F1, H1, os⟩ (Γf s') σ2 H2, ?_, ?_⟩
    · rintro σ2 H2 ⟨s', rfl, F3, S3⟩
      exact ⟨xs.length - (n + 1), by omega, hlt, rfl, s', F3, S3, hfo⟩
    · intro v H2 y
      obtain ⟨e2, push⟩ := g2 v H2 y
      obtain ⟨o4, W4, S4⟩ := S'
      obtain ⟨F4, f4, W5, p5⟩ := push _ _ W4
      obtain ⟨_, g, pg, qg⟩ := hxg
      intro pins s9 u I r
      refine (pg i).run pins s9 σ' H2 v u _ I r (qg F4 H2 [] o4 σ' v _ W5.sub p5 (S4.mono f4 e2) fun σ5 o5 d _ W6 S5 => ?_)
      refine cont_mono (hgo F4 H2 σ5 ⟨o5, (W5.perm (by simpa using W6)).drop, S5⟩) (fun _ _ z => z) (fun v H z => ?_) (fun σ6 H6 z => ?_) (fun _ _ z => z)
      · obtain ⟨r, rfl, S6⟩ := z
        exact hret r (by simpa using hfo.symm) v H (S6.leave W)
      · obtain ⟨s', rfl, F6, S6⟩ := z
        exact hr s' (.inr (by simpa using hfo.symm)) F6 H6 σ6 (S6.leave W)
  · have e : n = xs.length := by omega
    subst e
    refine .inl ⟨by simpa using w1, ?_⟩
    rw [List.drop_length] at hfo
    unfold forF at hfo
    exact hr s (.inl (by simpa using hfo.symm)) F' H' σ' (S'.leave W)
theorem go_while {T ρ : Type} (Γf : T → List Slot) {Sr : ρ → Slot} {n : Nat} {s0 : T} {f : T → Option (Fl ρ T)} {o : Fl ρ T}
    (h0 : WkL Γ (Γf s0)) (ho : whileF n s0 f = some o)
    (hb : ∀ B1 s out, f s = some out → (∀ r, out = .ret r → o = .ret r) → (∀ F H os, Wo B1 F H os → Wo B F H os) → ∃ z : Bool, XT Y e (Γf s) z ∧ (z = true → Go Y i body (LE B1 Γf Sr out) B1 (Γf s)) ∧ (z = false → out = .brk s))
    (hr : ∀ s, o = .brk s → Go Y i rest D B (Γf s)) (hret : ∀ r, o = .ret r → ∀ v H, Fi B (Sr r) v H → D.rt v H) : Go Y i (.While e body [] pos :: rest) D B Γ := by
  refine go_ps (ps_while (Y.hO i) (pt_contT) pss_cont) fun F H σ S => ?_
  obtain ⟨os, W, S1⟩ := S.enter
  obtain ⟨F2, S2⟩ := S1.wk h0
  refine ⟨fun m σ' H' => ∃ (s : T) (F' : Hp), Sta ⟨F, H, os⟩ F' H' σ' (Γf s) ∧ whileF m s f = some o, ⟨n, s0, F2, S2, ho⟩, ?_⟩
  rintro m σ' H' ⟨s, F', S', hfo⟩
  cases m with
  | zero => cases hfo
  | succ m =>
    unfold whileF at hfo
    obtain ⟨out, hout, hfo⟩ := Option.bind_eq_some_iff.mp hfo
    obtain ⟨z, ⟨t, pt, rd⟩, hgo, hbr⟩ := hb ⟨F, H, os⟩ s out hout (fun r e => by subst e; simpa using hfo.symm) (fun _ _ _ W' => W.trans W')
    intro pins s9 I
    obtain ⟨o4, W4, S4⟩ := S'
    refine (pt i).run pins s9 σ' H' _ I (rd _ F' H' o4 σ' _ (Sta.in W4 S4) fun F3 H3 f3 e3 W3 => ?_)
    have S3 := Sta.to S4 f3 e3 W3
    cases z with
    | true =>
      show ∃ N : L2.St → Hp → Prop, _ ∧ _
      refine ⟨fun σ2 H2 => ∃ s', out = .next s' ∧ Nx ⟨F, H, os⟩ (Γf s') σ2 H2, ?_, ?_⟩
      · rintro σ2 H2 ⟨s', rfl, F4, S4⟩
        exact ⟨m, Nat.lt_succ_self m, s', F4, S4, hfo⟩
      · refine cont_mono (hgo rfl F3 H3 σ' S3) (fun _ _ z => z) (fun v H z => ?_) (fun σ6 H6 z => ?_) (fun _ _ z => z)
        · obtain ⟨r, rfl, S6⟩ := z
          exact hret r (by simpa using hfo.symm) v H (S6.leave W)
        · obtain ⟨s', rfl, F6, S6⟩ := z
          exact hr s' (by simpa using hfo.symm) F6 H6 σ6 (S6.leave W)
    | false =>
      show cont (Y.X i) rest D σ' H3
      obtain rfl := hbr rfl
      exact hr s (by simpa using hfo.symm) F3 H3 σ' (S3.leave W)
end
end Ty

/-! Ty4 -/
namespace Ty
open PySem PySem.Spec L2

section
variable {P : Program} {w : World} {K : PySem.W.Frag} {mg : Str → Option Value} {base : Heap} {k : Nat}
variable {Y : Fa P w K mg base k} {i : Y.I} {e ea eb eo tg iter : Expr} {es : List Expr} {st : Stmt} {rest body orelse : List Stmt} {Γ Γ' Γ1 Γ2 As : List Slot} {a b c r s s' : Slot} {pos : Pos} {B : Bs} {D : Ends} {x : Str} {p' : Pos}

/-! ### calls of builtins -/
theorem x_callB {id : String} {rr : List V → Hp → VK → Prop} (hc : ∀ i, CallR (Y.X i) (.builtin id) rr) (hm : mg x = none) (hv : bootBuiltins x = some (.builtin id)) (h : OpA rr As c) (ha : XA Y (e :: es) Γ As) (hg : ∀ i, Gl (Y.X i) x := by intro _; rfl) (hn : x ≠ "__name__" := by decide) (hdb : (x == ("__debug__" : Str)) = false := by decide)
    (he : ∀ i, starEach (e :: es) (Y.X i).env = (false, eval e (Y.X i).env) :: starEach es (Y.X i).env := by intro _; rfl) (hpl : ∀ i, (backTo pos (starEach es (Y.X i).env)).any (·.1) = false := by intro _; rfl) : XV Y (.Call (.Name x p') (e :: es) [] pos) Γ c := by
  obtain ⟨t, pa, rd⟩ := ha
  refine ⟨_, fun i => pe_callB (hc i) (hg i) (by rw [Y.hM]; exact hm) hv (pa i) hn hdb (he i) (hpl i), fun B F H os σ Q I q => ?_⟩
  refine rd B F H os σ _ I fun vs F1 H1 fp f1 e1 W1 S1 => ?_
  exact h B F1 H1 vs fp os Q W1 S1 fun v F2 H2 fp2 f2 e2 W2 p2 => q v F2 H2 fp2 (f1.trans f2) (e1.trans e2) W2 p2
theorem x_callTy {id : String} {rr : List V → Hp → VK → Prop} (hc : ∀ i, CallR (Y.X i) (.type id) rr) (hm : mg x = none) (hv : bootBuiltins x = some (.type id)) (h : OpA rr As c) (ha : XA Y (e :: es) Γ As) (hg : ∀ i, Gl (Y.X i) x := by intro _; rfl) (hn : x ≠ "__name__" := by decide) (hdb : (x == ("__debug__" : Str)) = false := by decide)
    (he : ∀ i, starEach (e :: es) (Y.X i).env = (false, eval e (Y.X i).env) :: starEach es (Y.X i).env := by intro _; rfl) (hpl : ∀ i, (backTo pos (starEach es (Y.X i).env)).any (·.1) = false := by intro _; rfl) : XV Y (.Call (.Name x p') (e :: es) [] pos) Γ c := by
  obtain ⟨t, pa, rd⟩ := ha
  refine ⟨_, fun i => pe_callTy (hc i) (hg i) (by rw [Y.hM]; exact hm) hv (pa i) hn hdb (he i) (hpl i), fun B F H os σ Q I q => ?_⟩
  refine rd B F H os σ _ I fun vs F1 H1 fp f1 e1 W1 S1 => ?_
  exact h B F1 H1 vs fp os Q W1 S1 fun v F2 H2 fp2 f2 e2 W2 p2 => q v F2 H2 fp2 (f1.trans f2) (e1.trans e2) W2 p2
/-- one argument -/
theorem opA1 {rr : List V → Hp → VK → Prop} (h : Op1 (fun x H Q => rr [x] H Q) a c) : OpA rr [a] c := fun B F H vs fx os Q W S q => by
  match vs, S with
  | [], S => have e := S.length; simp at e
  | [v], S =>
    obtain ⟨f1, f2, rfl, p, S2⟩ := Slots.cons_inv S
    rw [List.append_assoc] at W
    have W' : Wo B F H (f1 ++ os) := (W.perm (by rw [← List.append_assoc, ← List.append_assoc]; exact List.Perm.append_right os List.perm_append_comm)).drop
    exact h B F H v f1 os Q W' p q
  | _ :: _ :: _, S => have e := S.length; simp at e
theorem opA2 {rr : List V → Hp → VK → Prop} (h : Op2 (fun x y H Q => rr [x, y] H Q) a b c) : OpA rr [a, b] c := fun B F H vs fx os Q W S q => by
  match vs, S with
  | [], S => have e := S.length; simp at e
  | [_], S => have e := S.length; simp at e
  | [v, u], S =>
    obtain ⟨f1, f2, rfl, p, S2⟩ := Slots.cons_inv S
    obtain ⟨f3, f4, rfl, p2, S3⟩ := Slots.cons_inv S2
    have W' : Wo B F H (f4 ++ (f3 ++ (f1 ++ os))) := W.perm (by
      have e1 : (f1 ++ (f3 ++ f4)).Perm (f4 ++ (f3 ++ f1)) := by
        refine List.perm_append_comm.trans ?_
        rw [← List.append_assoc]
        exact List.Perm.append_right f1 List.perm_append_comm
      have e2 := List.Perm.append_right os e1
      rw [List.append_assoc f4, List.append_assoc f3] at e2
      exact e2)
    exact h B F H v u f1 f3 os Q W'.drop p p2 q
  | _ :: _ :: _ :: _, S => have e := S.length; simp at e
theorem xa1 (h : XV Y e Γ a) (hs : ∀ i, starEach [e] (Y.X i).env = (false, eval e (Y.X i).env) :: starEach [] (Y.X i).env := by intro _; rfl) : XA Y [e] Γ [a] := xa_cons h xa_nil hs
theorem xa2 (h : XV Y ea Γ a) (h2 : XV Y eb Γ b) (hs2 : ∀ i, starEach [eb] (Y.X i).env = (false, eval eb (Y.X i).env) :: starEach [] (Y.X i).env := by intro _; rfl) (hs : ∀ i, starEach [ea, eb] (Y.X i).env = (false, eval ea (Y.X i).env) :: starEach [eb] (Y.X i).env := by intro _; rfl) : XA Y [ea, eb] Γ [a, b] := xa_cons h (xa_cons h2 xa_nil hs2) hs

/-! ### len, list(), tuple(), int(), max, min -/
def rLenK (K : PySem.W.Frag) : List V → Hp → VK → Prop := fun xs H Q => ∃ p ys, xs = [.ref p] ∧ (SqL K H p ys ∨ SqT K H p ys) ∧ Q (.int ys.length) H
def rListK (K : PySem.W.Frag) : List V → Hp → VK → Prop := fun xs H Q => ∃ p ys, xs = [.ref p] ∧ (SqL K H p ys ∨ SqT K H p ys) ∧ ∀ l, H l = none → Q (.ref l) (upd H l (.lst ys))
def rTupK (K : PySem.W.Frag) : List V → Hp → VK → Prop := fun xs H Q => ∃ p ys, xs = [.ref p] ∧ ((SqL K H p ys ∧ ∀ l, H l = none → Q (.ref l) (upd H l (.tup ys))) ∨ (SqT K H p ys ∧ Q (.ref p) H))
theorem c_len (Y : Fa P w K mg base k) (i : Y.I) : CallR (Y.X i) (.builtin "len") (rLenK K) := by have h := call_len_seq (X := Y.X i); rw [Y.hK i] at h; exact h
theorem c_list (Y : Fa P w K mg base k) (i : Y.I) : CallR (Y.X i) (.type "list") (rListK K) := by have h := call_list_of (X := Y.X i); rw [Y.hK i] at h; exact h
theorem c_tup (Y : Fa P w K mg base k) (i : Y.I) : CallR (Y.X i) (.type "tuple") (rTupK K) := by have h := call_tuple_of (X := Y.X i); rw [Y.hK i] at h; exact h
section
variable {α β : Type} {p : VP α} {q : VP β} {xs : List α}
theorem o_lenL (hs : SV K s p xs) : OpA (rLenK K) [s] (vInt (xs.length : Int)) := opA1 fun B F H v fx os Q W pv q => by
  obtain ⟨l, vs, ev, h1, h2⟩ := hs F H fx _ W.sub pv
  cases ev
  exact ⟨l, vs, rfl, .inl h1, q _ F H [] same_refl same_refl W.drop ⟨rfl, _, rfl, by show V.int _ = V.int _; rw [Paired.length h2]⟩⟩
theorem o_lenT (hs : TV s p xs) : OpA (rLenK K) [s] (vInt (xs.length : Int)) := opA1 fun B F H v fx os Q W pv q => by
  obtain ⟨l, vs, ev, h1, h2⟩ := hs F H fx _ W.sub pv
  cases ev
  exact ⟨l, vs, rfl, .inr (SqT.of h1), q _ F H [] same_refl same_refl W.drop ⟨rfl, _, rfl, by show V.int _ = V.int _; rw [Paired.length h2]⟩⟩
/-- a list made anew -/
theorem newL {B : Bs} {F H : Hp} {os : List Addr} {vs : List V} {l : Addr} {Q : VK} (W : Wo B F H os) (hl : H l = none) (hp : Paired (p.R F) vs xs)
    (q : ∀ v F' H' fp, Same F F' → Same H H' → Wo B F' H' (fp ++ os) → (own (oL p) xs).P F' H' fp (some v) → Q v H') : Q (.ref l) (upd H l (.lst vs)) :=
  q _ F _ [l] same_refl (same_upd hl) (W.newO hl) ⟨_, rfl, l, vs, rfl, rfl, upd_same, hp⟩
theorem o_listL (hs : SV K s p xs) : OpA (rListK K) [s] (own (oL p) xs) := opA1 fun B F H v fx os Q W pv q => by
  obtain ⟨l, vs, ev, h1, h2⟩ := hs F H fx _ W.sub pv
  cases ev
  exact ⟨l, vs, rfl, .inl h1, fun l' hl => newL W.drop hl h2 q⟩
theorem o_listT (hs : TV s p xs) : OpA (rListK K) [s] (own (oL p) xs) := opA1 fun B F H v fx os Q W pv q => by
  obtain ⟨l, vs, ev, h1, h2⟩ := hs F H fx _ W.sub pv
  cases ev
  exact ⟨l, vs, rfl, .inr (SqT.of h1), fun l' hl => newL W.drop hl h2 q⟩
/-- a frozen object made anew -/
theorem newF {B : Bs} {F H : Hp} {os : List Addr} {u : HO} {l : Addr} {Q : VK} {r : Slot} (W : Wo B F H os) (hl : H l = none) (hp : ∀ F', Same F F' → F' l = some u → r.P F' (upd H l u) [] (some (.ref l)))
    (q : ∀ v F' H' fp, Same F F' → Same H H' → Wo B F' H' (fp ++ os) → r.P F' H' fp (some v) → Q v H') : Q (.ref l) (upd H l u) :=
  q _ (upd F l u) _ [] (same_upd (W.free hl).1) (same_upd hl) (W.newF hl) (hp _ (same_upd (W.free hl).1) upd_same)
theorem o_tupL (hs : SV K s p xs) : OpA (rTupK K) [s] (val (pTup p) xs) := opA1 fun B F H v fx os Q W pv q => by
  obtain ⟨l, vs, ev, h1, h2⟩ := hs F H fx _ W.sub pv
  cases ev
  exact ⟨l, vs, rfl, .inl ⟨h1, fun l' hl => newF (r := val (pTup p) xs) W.drop hl (fun F' f e => ⟨rfl, _, rfl, l', vs, rfl, e, Paired.mon (fun _ _ r => p.mono f r) h2⟩) q⟩⟩
theorem o_intI {z : Int} : OpA (fun xs H Q => (∃ i, xs = [V.int i] ∧ Q (.int i) H) ∨ ∃ k, xs = [V.bl k] ∧ Q (.int (if k then 1 else 0)) H) [vInt z] (vInt z) := opA1 fun B F H v fx os Q W pv q => by
  obtain rfl := vint pv
  exact .inl ⟨z, rfl, q _ F H [] same_refl same_refl W.drop ⟨rfl, _, rfl, rfl⟩⟩
theorem o_intB {z : Bool} : OpA (fun xs H Q => (∃ i, xs = [V.int i] ∧ Q (.int i) H) ∨ ∃ k, xs = [V.bl k] ∧ Q (.int (if k then 1 else 0)) H) [vBl z] (vInt (if z then 1 else 0)) := opA1 fun B F H v fx os Q W pv q => by
  obtain rfl := vbl pv
  exact .inr ⟨z, rfl, q _ F H [] same_refl same_refl W.drop ⟨rfl, _, rfl, rfl⟩⟩
theorem o_max2 {m n : Int} : OpA (fun xs H Q => ∃ i j, xs = [V.int i, V.int j] ∧ Q (.int (if j > i then j else i)) H) [vInt m, vInt n] (vInt (if n > m then n else m)) := opA2 fun B F H x y fx fy os Q W p1 p2 q => by
  obtain rfl := vint p1
  obtain rfl := vint p2
  exact ⟨m, n, rfl, q _ F H [] same_refl same_refl W.drop.drop ⟨rfl, _, rfl, rfl⟩⟩
theorem o_min2 {m n : Int} : OpA (fun xs H Q => ∃ i j, xs = [V.int i, V.int j] ∧ Q (.int (if j < i then j else i)) H) [vInt m, vInt n] (vInt (if n < m then n else m)) := opA2 fun B F H x y fx fy os Q W p1 p2 q => by
  obtain rfl := vint p1
  obtain rfl := vint p2
  exact ⟨m, n, rfl, q _ F H [] same_refl same_refl W.drop.drop ⟨rfl, _, rfl, rfl⟩⟩

/-! ### displays -/
theorem slots_vals {F H : Hp} : ∀ {vs : List V} {xs : List α} {fp : List Addr}, Slots F H fp (vs.map some) (xs.map (val p)) → Paired (p.R F) vs xs
  | [], [], _, _ => .nil
  | [], _ :: _, _, S => by have e := S.length; simp at e
  | _ :: _, [], _, S => by have e := S.length; simp at e
  | v :: vs, x :: xs, fp, S => by
    rw [List.map_cons, List.map_cons] at S
    obtain ⟨f1, f2, rfl, pv, S2⟩ := Slots.cons_inv S
    exact .cons (val_P pv).2 (slots_vals S2)
theorem x_lst (ha : XA Y es Γ (xs.map (val p))) (hz : xs.length ≤ sizeLine) : XV Y (.List es pos) Γ (own (oL p) xs) := by
  obtain ⟨t, pa, rd⟩ := ha
  refine ⟨_, fun i => pe_lst (pa i), fun B F H os σ Q I q => ?_⟩
  refine rd B F H os σ _ I fun vs F1 H1 fp f1 e1 W1 S1 => ?_
  have hp := slots_vals S1
  exact ⟨by rw [Paired.length hp]; exact hz, fun p' hl => newL W1.drop hl hp fun v F' H' fp' f2 e2 => q v F' H' fp' (f1.trans f2) (e1.trans e2)⟩
theorem x_tupN (ha : XA Y es Γ (xs.map (val p))) (hz : xs.length ≤ sizeLine) {n : Nat} : XV Y (.Tuple es n pos) Γ (val (pTup p) xs) := by
  obtain ⟨t, pa, rd⟩ := ha
  refine ⟨_, fun i => pe_tup (pa i), fun B F H os σ Q I q => ?_⟩
  refine rd B F H os σ _ I fun vs F1 H1 fp f1 e1 W1 S1 => ?_
  have hp := slots_vals S1
  exact ⟨by rw [Paired.length hp]; exact hz, fun p' hl => newF (r := val (pTup p) xs) W1.drop hl (fun F' f e => ⟨rfl, _, rfl, p', vs, rfl, e, Paired.mon (fun _ _ r => p.mono f r) hp⟩) fun v F' H' fp' f2 e2 => q v F' H' fp' (f1.trans f2) (e1.trans e2)⟩
theorem x_tup2 {n : Nat} {u : α} {v : β} (ha : XA Y [ea, eb] Γ [val p u, val q v]) : XV Y (.Tuple [ea, eb] n pos) Γ (val (pT2 p q) (u, v)) := by
  obtain ⟨t, pa, rd⟩ := ha
  refine ⟨_, fun i => pe_tup (pa i), fun B F H os σ Q I kk => ?_⟩
  refine rd B F H os σ _ I fun vs F1 H1 fp f1 e1 W1 S1 => ?_
  match vs, S1 with
  | [], S => have e := S.length; simp at e
  | [_], S => have e := S.length; simp at e
  | [v1, v2], S =>
    obtain ⟨g1, g2, rfl, p1, S2⟩ := Slots.cons_inv S
    obtain ⟨g3, g4, rfl, p2, S3⟩ := Slots.cons_inv S2
    exact ⟨by show 2 ≤ sizeLine; decide, fun p' hl => newF (r := val (pT2 p q) (u, v)) W1.drop hl (fun F' f e => ⟨rfl, _, rfl, p', v1, v2, rfl, e, p.mono f (val_P p1).2, q.mono f (val_P p2).2⟩) fun v F' H' fp' f2 e2 => kk v F' H' fp' (f1.trans f2) (e1.trans e2)⟩
  | _ :: _ :: _ :: _, S => have e := S.length; simp at e
theorem x_tup3 {γ : Type} {o : VP γ} {n : Nat} {e3 : Expr} {u : α} {v : β} {z : γ} (ha : XA Y [ea, eb, e3] Γ [val p u, val q v, val o z]) : XV Y (.Tuple [ea, eb, e3] n pos) Γ (val (pT3 p q o) (u, v, z)) := by
  obtain ⟨t, pa, rd⟩ := ha
  refine ⟨_, fun i => pe_tup (pa i), fun B F H os σ Q I kk => ?_⟩
  refine rd B F H os σ _ I fun vs F1 H1 fp f1 e1 W1 S1 => ?_
  match vs, S1 with
  | [], S => have e := S.length; simp at e
  | [_], S => have e := S.length; simp at e
  | [_, _], S => have e := S.length; simp at e
  | [v1, v2, v3], S =>
    obtain ⟨g1, g2, rfl, p1, S2⟩ := Slots.cons_inv S
    obtain ⟨g3, g4, rfl, p2, S3⟩ := Slots.cons_inv S2
    obtain ⟨g5, g6, rfl, p3, S4⟩ := Slots.cons_inv S3
    exact ⟨by show 3 ≤ sizeLine; decide, fun p' hl => newF (r := val (pT3 p q o) (u, v, z)) W1.drop hl (fun F' f e => ⟨rfl, _, rfl, p', v1, v2, v3, rfl, e, p.mono f (val_P p1).2, q.mono f (val_P p2).2, o.mono f (val_P p3).2⟩) fun v F' H' fp' f2 e2 => kk v F' H' fp' (f1.trans f2) (e1.trans e2)⟩
  | _ :: _ :: _ :: _ :: _, S => have e := S.length; simp at e

/-! ### subscripts -/
theorem paired_atI {F : Hp} {vs : List V} (h : Paired (p.R F) vs xs) {z : Int} {u : α} (hz : atI xs z = some u) : ∃ v, atI vs z = some v ∧ p.R F v u := by
  unfold atI at hz ⊢
  rw [← Paired.length h] at hz
  cases e : ixN vs.length z with
  | none => rw [e] at hz; cases hz
  | some j =>
    rw [e] at hz
    exact paired_at' h (by simpa using hz)
theorem x_ix {z : Int} {u : α} (ha : XV Y ea Γ s) (hs : SV K s p xs) (hb : XV Y eb Γ (vInt z)) (hz : atI xs z = some u) (hx : PlainIx eb := by exact fun _ _ => rfl) : XV Y (.Subscript ea eb pos) Γ (val p u) := by
  obtain ⟨ta, pa, ra⟩ := ha
  obtain ⟨tb, pb, rb⟩ := hb
  refine ⟨_, fun i => by have h := ix_list (X := Y.X i); rw [Y.hK i] at h; exact pe_ix h (pa i) (pb i) hx, fun B F H os σ Q I q => ?_⟩
  refine two (Q := fun _ _ => True) I ra rb fun x y F2 H2 fx fy f2 e2 W2 p1 p2 => ?_
  obtain rfl := vint p2
  obtain ⟨l, vs, ev, h1, h2⟩ := hs F2 H2 fx _ W2.sub p1
  cases ev
  obtain ⟨v, hv, rv⟩ := paired_atI h2 hz
  exact ⟨l, vs, z, v, rfl, rfl, h1, hv, q v F2 H2 [] f2 e2 W2.drop.drop ⟨rfl, _, rfl, rv⟩⟩
theorem x_ixT {z : Int} {u : α} (ha : XV Y ea Γ s) (hs : TV s p xs) (hb : XV Y eb Γ (vInt z)) (hz : atI xs z = some u) (hx : PlainIx eb := by exact fun _ _ => rfl) : XV Y (.Subscript ea eb pos) Γ (val p u) := by
  obtain ⟨ta, pa, ra⟩ := ha
  obtain ⟨tb, pb, rb⟩ := hb
  refine ⟨_, fun i => by have h := ix_tup (X := Y.X i); rw [Y.hK i] at h; exact pe_ix h (pa i) (pb i) hx, fun B F H os σ Q I q => ?_⟩
  refine two (Q := fun _ _ => True) I ra rb fun x y F2 H2 fx fy f2 e2 W2 p1 p2 => ?_
  obtain rfl := vint p2
  obtain ⟨l, vs, ev, h1, h2⟩ := hs F2 H2 fx _ W2.sub p1
  cases ev
  obtain ⟨v, hv, rv⟩ := paired_atI h2 hz
  exact ⟨l, vs, z, v, rfl, rfl, SqT.of h1, hv, q v F2 H2 [] f2 e2 W2.drop.drop ⟨rfl, _, rfl, rv⟩⟩
/-- an item of a tuple of known places -/
theorem x_ixC {z : Int} {u : β} {t0 : VP α} {y : α} (ht : ∀ F v, t0.R F v y → ∃ l vs v', v = .ref l ∧ F l = some (.tup vs) ∧ atI vs z = some v' ∧ q.R F v' u) (ha : XV Y ea Γ (val t0 y)) (hb : XV Y eb Γ (vInt z)) (hx : PlainIx eb := by exact fun _ _ => rfl) : XV Y (.Subscript ea eb pos) Γ (val q u) := by
  obtain ⟨ta, pa, ra⟩ := ha
  obtain ⟨tb, pb, rb⟩ := hb
  refine ⟨_, fun i => by have h := ix_tup (X := Y.X i); rw [Y.hK i] at h; exact pe_ix h (pa i) (pb i) hx, fun B F H os σ Q I kk => ?_⟩
  refine two (Q := fun _ _ => True) I ra rb fun x y F2 H2 fx fy f2 e2 W2 p1 p2 => ?_
  obtain rfl := vint p2
  obtain ⟨l, vs, v', ev, h1, h2, h3⟩ := ht F2 _ (val_P p1).2
  subst ev
  exact ⟨l, vs, z, v', rfl, rfl, SqT.of (W2.sub _ _ h1), h2, kk v' F2 H2 [] f2 e2 W2.drop.drop ⟨rfl, _, rfl, h3⟩⟩
theorem x_fst {u : α × β} (ha : XV Y ea Γ (val (pT2 p q) u)) (hb : XV Y eb Γ (vInt 0)) (hx : PlainIx eb := by exact fun _ _ => rfl) : XV Y (.Subscript ea eb pos) Γ (val p u.1) :=
  x_ixC (t0 := pT2 p q) (y := u) (fun F v h => let ⟨l, a, b, e, h1, h2, h3⟩ := h; ⟨l, _, a, e, h1, rfl, h2⟩) ha hb hx
theorem x_snd {u : α × β} (ha : XV Y ea Γ (val (pT2 p q) u)) (hb : XV Y eb Γ (vInt 1)) (hx : PlainIx eb := by exact fun _ _ => rfl) : XV Y (.Subscript ea eb pos) Γ (val q u.2) :=
  x_ixC (t0 := pT2 p q) (y := u) (fun F v h => let ⟨l, a, b, e, h1, h2, h3⟩ := h; ⟨l, _, b, e, h1, rfl, h3⟩) ha hb hx
theorem x_t31 {γ : Type} {o : VP γ} {u : α × β × γ} (ha : XV Y ea Γ (val (pT3 p q o) u)) (hb : XV Y eb Γ (vInt 0)) (hx : PlainIx eb := by exact fun _ _ => rfl) : XV Y (.Subscript ea eb pos) Γ (val p u.1) :=
  x_ixC (t0 := pT3 p q o) (y := u) (fun F v h => let ⟨l, a, b, c, e, h1, h2, h3, h4⟩ := h; ⟨l, _, a, e, h1, rfl, h2⟩) ha hb hx
theorem x_t32 {γ : Type} {o : VP γ} {u : α × β × γ} (ha : XV Y ea Γ (val (pT3 p q o) u)) (hb : XV Y eb Γ (vInt 1)) (hx : PlainIx eb := by exact fun _ _ => rfl) : XV Y (.Subscript ea eb pos) Γ (val q u.2.1) :=
  x_ixC (t0 := pT3 p q o) (y := u) (fun F v h => let ⟨l, a, b, c, e, h1, h2, h3, h4⟩ := h; ⟨l, _, b, e, h1, rfl, h3⟩) ha hb hx
theorem x_t33 {γ : Type} {o : VP γ} {u : α × β × γ} (ha : XV Y ea Γ (val (pT3 p q o) u)) (hb : XV Y eb Γ (vInt 2)) (hx : PlainIx eb := by exact fun _ _ => rfl) : XV Y (.Subscript ea eb pos) Γ (val o u.2.2) :=
  x_ixC (t0 := pT3 p q o) (y := u) (fun F v h => let ⟨l, a, b, c, e, h1, h2, h3, h4⟩ := h; ⟨l, _, c, e, h1, rfl, h4⟩) ha hb hx

/-! ### list + list, list * int, in -/
theorem Paired.app {α β : Type} {G : α → β → Prop} : ∀ {xs : List α} {ys : List β} {us : List α} {ws : List β}, Paired G xs ys → Paired G us ws → Paired G (xs ++ us) (ys ++ ws)
  | _, _, _, _, .nil, h => h
  | _, _, _, _, .cons r t, h => .cons r (Paired.app t h)
theorem o_cat {ys : List α} (h1 : LV a p xs) (h2 : LV b p ys) (hz : xs.length + ys.length ≤ sizeLine) : Op2 rCat a b (own (oL p) (xs ++ ys)) := fun B F H x y fx fy os Q W p1 p2 q => by
  obtain ⟨l2, vs2, e2, g2, r2⟩ := h2 F H fy _ W.sub p2
  obtain ⟨l1, vs1, e1, g1, r1⟩ := h1 F H fx _ W.sub p1
  cases e1; cases e2
  exact ⟨l1, l2, vs1, vs2, rfl, rfl, g1, g2, by rw [Paired.length r1, Paired.length r2]; exact hz, fun p' hp => newL W.drop.drop hp (Paired.app r1 r2) q⟩
theorem Paired.rep {α β : Type} {G : α → β → Prop} {xs : List α} {ys : List β} (h : Paired G xs ys) : ∀ n : Nat, Paired G (List.replicate n xs).flatten (List.replicate n ys).flatten
  | 0 => .nil
  | n + 1 => by rw [List.replicate_succ, List.replicate_succ, List.flatten_cons, List.flatten_cons]; exact Paired.app h (Paired.rep h n)
theorem o_rep {z : Int} (h1 : LV a p xs) (hz : -(2 ^ 63) ≤ z ∧ z < 2 ^ 63 ∧ xs.length * z.toNat ≤ sizeLine) : Op2 rRep a (vInt z) (own (oL p) (List.replicate z.toNat xs).flatten) := fun B F H x y fx fy os Q W p1 p2 q => by
  obtain rfl := vint p2
  obtain ⟨l1, vs1, e1, g1, r1⟩ := h1 F H fx _ W.sub p1
  cases e1
  exact ⟨l1, z, vs1, rfl, rfl, g1, hz.1, hz.2.1, by rw [Paired.length r1]; exact hz.2.2, fun p' hp => newL W.drop.drop hp (Paired.rep r1 _) q⟩
/-- items that == tells as equality does -/
def Eqv (p : VP α) [DecidableEq α] : Prop := ∀ F v a, p.R F v a → flatV v = true ∧ ∀ F' v' a', p.R F' v' a' → eqV v' v = decide (a' = a)
theorem Eqv.int : Eqv pInt := fun F v a h => by
  cases h
  refine ⟨rfl, fun F' v' a' h' => ?_⟩
  cases h'
  show (a' == a) = _
  rw [Bool.eq_iff_iff]; simp
theorem Eqv.str : Eqv pStr := fun F v a h => by
  cases h
  refine ⟨rfl, fun F' v' a' h' => ?_⟩
  cases h'
  show (a' == a) = _
  rw [Bool.eq_iff_iff]; simp
theorem inV_of [DecidableEq α] (E : Eqv p) {F F' : Hp} {v : V} {u : α} (hu : p.R F' v u) : ∀ {vs : List V} {xs : List α}, Paired (p.R F) vs xs → inV v vs = decide (u ∈ xs) ∧ vs.all flatV = true
  | _, _, .nil => ⟨by simp [inV], rfl⟩
  | _, _, .cons r t => by
    obtain ⟨i1, i2⟩ := inV_of E hu t
    have h1 := (E _ _ _ hu).2 _ _ _ r
    refine ⟨?_, by rw [List.all_cons, (E _ _ _ r).1, i2]; rfl⟩
    unfold inV at i1 ⊢
    rw [List.any_cons, i1, h1, ← Bool.decide_or]
    exact decide_eq_decide.mpr ⟨fun z => z.elim (fun z => List.mem_cons.mpr (.inl z.symm)) fun z => List.mem_cons_of_mem _ z, fun z => (List.mem_cons.mp z).elim (fun z => .inl z.symm) .inr⟩
theorem o_inL [DecidableEq α] (E : Eqv p) {u : α} (hs : SV K s p xs) : Op2 (rIn K false) (val p u) s (vBl (decide (u ∈ xs))) := fun B F H x y fx fy os Q W p1 p2 q => by
  obtain ⟨l, vs, ev, h1, h2⟩ := hs F H fy _ W.sub p2
  cases ev
  have hu := (val_P p1).2
  obtain ⟨i1, i2⟩ := inV_of E hu h2
  exact ⟨l, vs, rfl, .inl h1, (E _ _ _ hu).1, i2, q _ F H [] same_refl same_refl W.drop.drop ⟨rfl, _, rfl, by show V.bl (inV _ _) = V.bl _; rw [i1]⟩⟩
theorem o_ninL [DecidableEq α] (E : Eqv p) {u : α} (hs : SV K s p xs) : Op2 (rIn K true) (val p u) s (vBl (!decide (u ∈ xs))) := fun B F H x y fx fy os Q W p1 p2 q => by
  obtain ⟨l, vs, ev, h1, h2⟩ := hs F H fy _ W.sub p2
  cases ev
  have hu := (val_P p1).2
  obtain ⟨i1, i2⟩ := inV_of E hu h2
  exact ⟨l, vs, rfl, .inl h1, (E _ _ _ hu).1, i2, q _ F H [] same_refl same_refl W.drop.drop ⟨rfl, _, rfl, by show V.bl (!(inV _ _)) = V.bl _; rw [i1]⟩⟩
theorem o_inT [DecidableEq α] (E : Eqv p) {u : α} (hs : TV s p xs) : Op2 (rIn K false) (val p u) s (vBl (decide (u ∈ xs))) := fun B F H x y fx fy os Q W p1 p2 q => by
  obtain ⟨l, vs, ev, h1, h2⟩ := hs F H fy _ W.sub p2
  cases ev
  have hu := (val_P p1).2
  obtain ⟨i1, i2⟩ := inV_of E hu h2
  exact ⟨l, vs, rfl, .inr (SqT.of h1), (E _ _ _ hu).1, i2, q _ F H [] same_refl same_refl W.drop.drop ⟨rfl, _, rfl, by show V.bl (inV _ _) = V.bl _; rw [i1]⟩⟩
theorem c_in (Y : Fa P w K mg base k) (i : Y.I) : OpR (Y.X i) (compareOp .In) (rIn K false) := by have h := op_in_seq (X := Y.X i); rw [Y.hK i] at h; exact h
theorem c_nin (Y : Fa P w K mg base k) (i : Y.I) : OpR (Y.X i) (compareOp .NotIn) (rIn K true) := by have h := op_notIn_seq (X := Y.X i); rw [Y.hK i] at h; exact h

/-! ### == of data -/
structure DE (p : VP α) [DecidableEq α] (ok : α → Prop) where
  enc : α → PyData
  dp : ∀ (K : PySem.W.Frag) F v a, p.R F v a → Dp K F v (enc a)
  sh : ∀ a, ok a → (enc a).canLay0 = true
  d : Nat
  hd : ∀ a, (enc a).depth ≤ d
  eq : ∀ a b, PyData.eqv (enc a) (enc b) = decide (a = b)
theorem Dp.mono {F F' : Hp} (h : Same F F') : ∀ {v d}, Dp K F v d → Dp K F' v d := fun {v d} q => by
  refine Dp.rec (motive_1 := fun v d _ => Dp K F' v d) (motive_2 := fun vs ds _ => DpAll K F' vs ds) ?_ ?_ ?_ ?_ ?_ ?_ ?_ ?_ q
  · exact .non
  · exact fun b => .bl b
  · exact fun b => .int b
  · exact fun b => .str b
  · exact fun {a xs ds} s _ ih => .lst (Same.seq h s) ih
  · intro a xs ds s _ ih
    refine .tup ?_ ih
    rcases s with (s | ⟨o, s⟩) | s
    · exact .inl (.inl (h _ _ s))
    · exact .inl (.inr ⟨o, h _ _ s⟩)
    · exact .inr s
  · exact .nil
  · exact fun _ _ i1 i2 => .cons i1 i2
def DE.int : DE pInt (fun _ => True) := ⟨fun i => .int i, fun K F v a h => by cases h; exact .int a, fun _ _ => rfl, 0, fun _ => Nat.le_refl _, fun a b => by rw [PyData.eqv, Bool.eq_iff_iff]; simp⟩
def DE.bl : DE pBl (fun _ => True) := ⟨fun i => .bool i, fun K F v a h => by cases h; exact .bl a, fun _ _ => rfl, 0, fun _ => Nat.le_refl _, fun a b => by rw [PyData.eqv, Bool.eq_iff_iff]; simp⟩
def DE.str : DE pStr (fun x => PyData.strOk x = true) := ⟨fun i => .str i, fun K F v a h => by cases h; exact .str a, fun a h => by rw [PyData.canLay0]; exact h, 0, fun _ => Nat.le_refl _, fun a b => by rw [PyData.eqv, Bool.eq_iff_iff]; simp⟩
theorem eqvAll_map {enc : α → PyData} [DecidableEq α] (h : ∀ a b, PyData.eqv (enc a) (enc b) = decide (a = b)) : ∀ xs ys : List α, PyData.eqvAll (xs.map enc) (ys.map enc) = decide (xs = ys)
  | [], [] => by simp [PyData.eqvAll]
  | [], _ :: _ => by simp [PyData.eqvAll]
  | _ :: _, [] => by simp [PyData.eqvAll]
  | x :: xs, y :: ys => by
    rw [List.map_cons, List.map_cons, PyData.eqvAll, h, eqvAll_map h xs ys, Bool.eq_iff_iff]
    simp
theorem dpAll_of {F : Hp} {enc : α → PyData} (h : ∀ v a, p.R F v a → Dp K F v (enc a)) : ∀ {vs : List V} {xs : List α}, Paired (p.R F) vs xs → DpAll K F vs (xs.map enc)
  | _, _, .nil => .nil
  | _, _, .cons r t => .cons (h _ _ r) (dpAll_of h t)
theorem canAll {enc : α → PyData} {ok : α → Prop} (h : ∀ a, ok a → (enc a).canLay0 = true) : ∀ xs : List α, (∀ a ∈ xs, ok a) → PyData.canLayAll0 (xs.map enc) = true
  | [], _ => by simp [PyData.canLayAll0]
  | x :: xs, k => by
    rw [List.map_cons, PyData.canLayAll0, h x (k x List.mem_cons_self), canAll h xs fun a ha => k a (List.mem_cons_of_mem _ ha)]; rfl
theorem depthAll_le {enc : α → PyData} {d : Nat} (h : ∀ a, (enc a).depth ≤ d) : ∀ xs : List α, PyData.depthAll (xs.map enc) ≤ d
  | [] => by simp [PyData.depthAll]
  | x :: xs => by
    rw [List.map_cons, PyData.depthAll]
    exact Nat.max_le.mpr ⟨h x, depthAll_le h xs⟩
def DE.list [DecidableEq α] {ok : α → Prop} (E : DE p ok) : DE (pL p) (fun xs => ∀ a ∈ xs, ok a) where
  enc := fun xs => .list (xs.map E.enc)
  dp := fun K F v a h => let ⟨l, vs, e, h1, h2⟩ := h; by subst e; exact .lst (SqL.of h1) (dpAll_of (E.dp K F) h2)
  sh := fun a h => by rw [PyData.canLay0]; exact canAll E.sh a h
  d := E.d + 1
  hd := fun a => by rw [PyData.depth]; exact Nat.succ_le_succ (depthAll_le E.hd a)
  eq := fun a b => by rw [PyData.eqv]; exact eqvAll_map E.eq a b
def DE.tup [DecidableEq α] {ok : α → Prop} (E : DE p ok) : DE (pTup p) (fun xs => ∀ a ∈ xs, ok a) where
  enc := fun xs => .tuple (xs.map E.enc)
  dp := fun K F v a h => let ⟨l, vs, e, h1, h2⟩ := h; by subst e; exact .tup (SqT.of h1) (dpAll_of (E.dp K F) h2)
  sh := fun a h => by rw [PyData.canLay0]; exact canAll E.sh a h
  d := E.d + 1
  hd := fun a => by rw [PyData.depth]; exact Nat.succ_le_succ (depthAll_le E.hd a)
  eq := fun a b => by rw [PyData.eqv]; exact eqvAll_map E.eq a b
def DE.t2 [DecidableEq α] [DecidableEq β] {ok : α → Prop} {ok' : β → Prop} (E : DE p ok) (E' : DE q ok') : DE (pT2 p q) (fun x => ok x.1 ∧ ok' x.2) where
  enc := fun x => .tuple [E.enc x.1, E'.enc x.2]
  dp := fun K F v a h => let ⟨l, u, w, e, h1, h2, h3⟩ := h; by subst e; exact .tup (SqT.of h1) (.cons (E.dp K F _ _ h2) (.cons (E'.dp K F _ _ h3) .nil))
  sh := fun a h => by simp [PyData.canLay0, PyData.canLayAll0, E.sh _ h.1, E'.sh _ h.2]
  d := max E.d E'.d + 1
  hd := fun a => by
    simp only [PyData.depth, PyData.depthAll]
    have h1 := E.hd a.1
    have h2 := E'.hd a.2
    omega
  eq := fun a b => by
    simp only [PyData.eqv, PyData.eqvAll, E.eq, E'.eq]
    rw [Bool.eq_iff_iff]
    simp [Prod.ext_iff]
def DE.t3 {γ : Type} {o : VP γ} [DecidableEq α] [DecidableEq β] [DecidableEq γ] {ok : α → Prop} {ok' : β → Prop} {ok2 : γ → Prop} (E : DE p ok) (E' : DE q ok') (E2 : DE o ok2) : DE (pT3 p q o) (fun x => ok x.1 ∧ ok' x.2.1 ∧ ok2 x.2.2) where
  enc := fun x => .tuple [E.enc x.1, E'.enc x.2.1, E2.enc x.2.2]
  dp := fun K F v a h => let ⟨l, u, w, z, e, h1, h2, h3, h4⟩ := h; by subst e; exact .tup (SqT.of h1) (.cons (E.dp K F _ _ h2) (.cons (E'.dp K F _ _ h3) (.cons (E2.dp K F _ _ h4) .nil)))
  sh := fun a h => by simp [PyData.canLay0, PyData.canLayAll0, E.sh _ h.1, E'.sh _ h.2.1, E2.sh _ h.2.2]
  d := max E.d (max E'.d E2.d) + 1
  hd := fun a => by
    simp only [PyData.depth, PyData.depthAll]
    have h1 := E.hd a.1
    have h2 := E'.hd a.2.1
    have h3 := E2.hd a.2.2
    omega
  eq := fun a b => by
    simp only [PyData.eqv, PyData.eqvAll, E.eq, E'.eq, E2.eq]
    rw [Bool.eq_iff_iff]
    simp [Prod.ext_iff]
def DE.opt [DecidableEq α] {ok : α → Prop} (E : DE p ok) (hn : ∀ a b, PyData.eqv (E.enc a) .none = false ∧ PyData.eqv .none (E.enc b) = false) : DE (pOpt p) (fun x => ∀ a, x = some a → ok a) where
  enc := fun x => match x with | none => .none | some a => E.enc a
  dp := fun K F v a h => by
    cases a with
    | none => cases h; exact .non
    | some a => exact E.dp K F v a h.1
  sh := fun a h => by
    cases a with
    | none => rfl
    | some a => exact E.sh a (h a rfl)
  d := E.d
  hd := fun a => by
    cases a with
    | none => exact Nat.zero_le _
    | some a => exact E.hd a
  eq := fun a b => by
    cases a with
    | none =>
      cases b with
      | none => rfl
      | some b => simp [(hn b b).2]
    | some a =>
      cases b with
      | none => simp [(hn a a).1]
      | some b => simp [E.eq]
theorem o_eqD [DecidableEq α] {ok : α → Prop} (E : DE p ok) (hE : E.d ≤ 64 := by decide) {u v : α} (ha : Vw a p u) (hb : Vw b p v) (h1 : ok u) (h2 : ok v) : Op2 (rEqD K) a b (vBl (decide (u = v))) := fun B F H x y fx fy os Q W p1 p2 q => by
  obtain ⟨y', ey, ry⟩ := hb F H fy _ W.sub p2
  obtain ⟨x', ex, rx⟩ := ha F H fx _ W.sub p1
  cases ex; cases ey
  have sh : ∀ z, ok z → SeqAt.shaped (E.enc z) = true := fun z hz => by
    unfold SeqAt.shaped
    rw [E.sh z hz, decide_eq_true (Nat.le_trans (E.hd z) hE)]; rfl
  exact ⟨E.enc u, E.enc v, E.dp K H _ _ rx, E.dp K H _ _ ry, sh u h1, sh v h2, q _ F H [] same_refl same_refl W.drop.drop ⟨rfl, _, rfl, by rw [E.eq]; rfl⟩⟩
theorem o_neD [DecidableEq α] {ok : α → Prop} (E : DE p ok) (hE : E.d ≤ 64 := by decide) {u v : α} (ha : Vw a p u) (hb : Vw b p v) (h1 : ok u) (h2 : ok v) : Op2 (rNeD K) a b (vBl (!decide (u = v))) := fun B F H x y fx fy os Q W p1 p2 q => by
  obtain ⟨y', ey, ry⟩ := hb F H fy _ W.sub p2
  obtain ⟨x', ex, rx⟩ := ha F H fx _ W.sub p1
  cases ex; cases ey
  have sh : ∀ z, ok z → SeqAt.shaped (E.enc z) = true := fun z hz => by
    unfold SeqAt.shaped
    rw [E.sh z hz, decide_eq_true (Nat.le_trans (E.hd z) hE)]; rfl
  exact ⟨E.enc u, E.enc v, E.dp K H _ _ rx, E.dp K H _ _ ry, sh u h1, sh v h2, q _ F H [] same_refl same_refl W.drop.drop ⟨rfl, _, rfl, by rw [E.eq]; rfl⟩⟩
theorem c_eqD (Y : Fa P w K mg base k) (i : Y.I) : OpR (Y.X i) (compareOp .Eq) (rEqD K) := by have h := op_eqD (X := Y.X i) (Y.hU i); rw [Y.hK i] at h; exact h
theorem c_neD (Y : Fa P w K mg base k) (i : Y.I) : OpR (Y.X i) (compareOp .NotEq) (rNeD K) := by have h := op_neD (X := Y.X i) (Y.hU i); rw [Y.hK i] at h; exact h

/-! ### owned lists that change -/
/-- a place that holds something owned -/
def PL (Y : Fa P w K mg base k) (e : Expr) (Γ : List Slot) (s : Slot) (up : Slot → List Slot) : Prop :=
  ∃ (t : TE) (Pv : L2.St → Hp → V → Prop), (∀ i, PE (Y.X i) e t) ∧ (∀ σ H H' v, Same H H' → Pv σ H v → Pv σ H' v) ∧
    (∀ (B : Bs) (F H : Hp) (os : List Addr) (σ : List (Option V)) (Q : VK), In B F H os σ Γ → (∀ v, Pv σ H v → Q v H) → t σ H Q) ∧
    ∀ (F H : Hp) (os : List Addr) (σ : List (Option V)) (v : V), Slots F H os σ Γ → Pv σ H v → ∃ fp r, os.Perm (fp ++ r) ∧ s.P F H fp (some v) ∧
      ∀ (F' H' : Hp) (fp' : List Addr) (s' : Slot), Same F F' → (∀ q ∈ r, H' q = H q) → s'.P F' H' fp' (some v) → ∃ os', Slots F' H' os' σ (up s') ∧ os'.Perm (fp' ++ r)
theorem pl_name (j : Nat) (hst : Stb Γ) (hs : Γ[j]? = some s := by rfl) (hso : ∀ F H fp o, s.P F H fp o → ∃ v, o = some v) (hN : ∀ i, (Y.X i).N[j]? = some x := by intro _; rfl)
    (hv : ∀ i, Vis (Y.X i).env.scope x := by intro _; first | exact Or.inl rfl | exact Or.inr (Or.inl rfl) | exact Or.inr (Or.inr rfl)) (hd : (x == ("__debug__" : Str)) = false := by decide) (hcd : (x == ("__classdict__" : Str)) = false := by decide) : PL Y (.Name x pos) Γ s (fun s' => Γ.set j s') := by
  refine ⟨_, fun σ H v => σ[j]? = some (some v), fun i => pe_var (hN i) (hv i) hd hcd, fun σ H H' v _ h => h, fun B F H os σ Q I q => ?_, fun F H os σ v S hv => ?_⟩
  · obtain ⟨o, fp, e, h⟩ := I.slot hs
    obtain ⟨v, rfl⟩ := hso F H fp o h
    exact ⟨v, e, q v e⟩
  · obtain ⟨o, fp, r, e, p, q, kk⟩ := S.at hs
    rw [hv] at e; cases e
    refine ⟨fp, r, q, p, fun F' H' fp' s' hF hk hs' => ?_⟩
    obtain ⟨os', h1, h2⟩ := kk hs' (fun s0 h0 fp0 o0 hf hp => s0.mm (hst s0 h0) hF (fun z hz => hk z (hf z hz)) hp)
    have es : σ.set j (some v) = σ := by
      obtain ⟨hj, e⟩ := List.getElem?_eq_some_iff.mp hv
      rw [← e]; exact List.set_getElem_self hj
    rw [es] at h1
    exact ⟨os', h1, h2⟩
theorem own_some {O : OP α} {u : α} : ∀ F H fp o, (own O u).P F H fp o → ∃ v, o = some v := fun F H fp o h => let ⟨v, e, _⟩ := h; ⟨v, e⟩
/-- what must be seen of the text of a call o.m(e) of a built-in's method -/
structure Bm1 (X : Cx) (o : Expr) (name : Str) (apos : Pos) (e : Expr) (cpos : Pos) : Prop where
  base : attributeBase o name X.env (eval o X.env) = eval o X.env
  few : ((backTo cpos (starEach [e] X.env)).all (fun x => !x.1) && (backToKw cpos (keywordEach [] X.env)).all (fun x => x.1.isSome) && decide (([e] : List Expr).length + ([] : List Keyword).length + (if ([] : List Keyword).isEmpty then 0 else 1) < 30)) = true
  line : (apos.endLine == cpos.line) = true
  st : starEach [e] X.env = (false, eval e X.env) :: starEach [] X.env
  pl : (backTo cpos (starEach [] X.env)).any (·.1) = false
/-- an owned object at l within a place is rewritten -/
theorem pl_write {F H : Hp} {os r : List Addr} {σ : List (Option V)} {l : Addr} {u : HO} {fy : List Addr} {s' : Slot} {v : V} {up : Slot → List Slot} (W : Wo B F H (fy ++ os)) (hp : os.Perm ([l] ++ r)) (hs' : s'.P F (upd H l u) [l] (some v))
    (kk : ∀ (F' H' : Hp) (fp' : List Addr) (s' : Slot), Same F F' → (∀ q ∈ r, H' q = H q) → s'.P F' H' fp' (some v) → ∃ os', Slots F' H' os' σ (up s') ∧ os'.Perm (fp' ++ r)) : Sta B F (upd H l u) σ (up s') := by
  have W1 : Wo B F H ([l] ++ r) := W.drop.perm hp
  have nr : ∀ q ∈ r, q ≠ l := fun q hq e => (List.nodup_append.mp W1.nd).2.2 l (by simp) q hq e.symm
  obtain ⟨os', h1, h2⟩ := kk F (upd H l u) [l] s' same_refl (fun q hq => upd_ne (nr q hq)) hs'
  exact ⟨os', (W1.write (by simp)).perm h2.symm, h1⟩
/-- xs.append(e) -/
theorem go_append {up : Slot → List Slot} {apos cpos : Pos} {u : α} (ho : PL Y eo Γ (own (oL p) xs) up) (he : XV Y e Γ (val p u)) (hz : xs.length < sizeLine) (hg : Go Y i rest D B (up (own (oL p) (xs ++ [u]))))
    (hb : Bm1 (Y.X i) eo "append" apos e cpos := by exact ⟨rfl, rfl, rfl, rfl, rfl⟩)
    (hs : swapsWith (.Call (.Attribute eo "append" apos) [e] [] cpos) none pos.line (Y.X i).env = pure false := by rfl) : Go Y i (.Expr (.Call (.Attribute eo "append" apos) [e] [] cpos) pos :: rest) D B Γ := by
  obtain ⟨t, Pv, pe, pst, rd, up'⟩ := ho
  obtain ⟨t2, pe2, rd2⟩ := he
  refine go_ps (ps_expr (pe_bm PySem.F.plainAttrs_list PySem.F.slot_list_append PySem.F.type_list_append mt_append (pe i) (pa_cons (pe2 i) pa_nil hb.st) hb.base hb.few hb.line hb.st hb.pl) hs) fun F H σ ⟨os, W, S⟩ => ?_
  refine rd B F H os σ _ (Sta.in W S) fun v hv => ?_
  obtain ⟨fp, r, hr, hp, _⟩ := up' F H os σ v S hv
  obtain ⟨v0, ev, l, vs, el, ef, h1, h2⟩ := hp
  cases ev; subst el; subst ef
  refine ⟨.inl ⟨rfl, vs, SqL.of h1⟩, rd2 B F H os σ _ (Sta.in W S) fun y F1 H1 fy f1 e1 W1 p1 => ?_⟩
  obtain ⟨fp1, r1, hr1, hp1, kk1⟩ := up' F1 H1 os σ _ (S.mono f1 e1) (pst _ _ _ _ e1 hv)
  obtain ⟨v1, ev1, l1, vs1, el1, ef1, g1, g2⟩ := hp1
  cases ev1; cases el1; subst ef1
  have ry := (val_P p1).2
  refine ⟨l, vs1, y, rfl, rfl, g1, by rw [Paired.length g2]; exact hz, ?_⟩
  exact hg F1 _ σ (pl_write W1 hr1 ⟨_, rfl, l, _, rfl, rfl, upd_same, Paired.app g2 (.cons ry .nil)⟩ kk1)
/-- xs[j] = e -/
theorem Paired.put {α β : Type} {G : α → β → Prop} {x : α} {y : β} (h : G x y) : ∀ {xs : List α} {ys : List β} (n : Nat), Paired G xs ys → Paired G (xs.set n x) (ys.set n y)
  | _, _, _, .nil => .nil
  | _, _, 0, .cons _ t => .cons h t
  | _, _, n + 1, .cons r t => .cons r (Paired.put h n t)
/-- the list behind xs[z] = u -/
def setI {α : Type} (xs : List α) (z : Int) (u : α) : Option (List α) := (ixN xs.length z).map fun j => xs.set j u
/-- what must be seen of the text of o[i] = e -/
structure Si (X : Cx) (o ei e : Expr) (pos' : Pos) (ln : Nat) : Prop where
  ha : ∀ v, assign (.Subscript o ei pos') X.env v = (do
      let ov ← holding [v] (eval o X.env)
      let iv ← holding [v, ov] (eval ei X.env)
      standAt pos'
      holding [v, ov, iv] (setItem ov iv v)
      release [v, ov, iv] [])
  hs : swapsWithSole [.Subscript o ei pos'] e ln X.env = pure false
  hw : swappedStores [.Subscript o ei pos'] e X.env = pure none
  h1 : (assignEach [.Subscript o ei pos'] X.env).map (·.2) = [assign (.Subscript o ei pos') X.env]
theorem go_setitem {up : Slot → List Slot} {pos' : Pos} {u : α} {z : Int} {xs' : List α} (ho : PL Y eo Γ (own (oL p) xs) up) (hi : XV Y eb Γ (vInt z)) (he : XV Y e Γ (val p u)) (hz : setI xs z u = some xs') (hg : Go Y i rest D B (up (own (oL p) xs')))
    (hsi : Si (Y.X i) eo eb e pos' pos.line := by exact ⟨fun _ => rfl, rfl, rfl, rfl⟩) : Go Y i (.Assign [.Subscript eo eb pos'] e pos :: rest) D B Γ := by
  obtain ⟨t, Pv, pe, pst, rd, up'⟩ := ho
  obtain ⟨t2, pe2, rd2⟩ := he
  obtain ⟨t3, pe3, rd3⟩ := hi
  refine go_ps (ps_asg (pe2 i) (pg_sub (pe i) (pe3 i) set_list hsi.ha) hsi.hs hsi.hw hsi.h1) fun F H σ ⟨os, W, S⟩ => ?_
  refine rd2 B F H os σ _ (Sta.in W S) fun y F1 H1 fy f1 e1 W1 p1 => ?_
  have I1 := (Sta.in W S).step f1 e1 W1
  refine rd B F1 H1 _ σ _ I1 fun v hv => ?_
  refine rd3 B F1 H1 _ σ _ I1 fun y2 F2 H2 fy2 f2 e2 W2 p2 => ?_
  obtain rfl := vint p2
  have ry := (val_P ((val p u).mono f2 e2 p1)).2
  obtain ⟨fp1, r1, hr1, hp1, kk1⟩ := up' F2 H2 os σ _ (S.mono (f1.trans f2) (e1.trans e2)) (pst _ _ _ _ e2 hv)
  obtain ⟨v1, ev1, l1, vs1, el1, ef1, g1, g2⟩ := hp1
  cases ev1; subst el1; subst ef1
  unfold setI at hz
  obtain ⟨j, hj, rfl⟩ := Option.map_eq_some_iff.mp hz
  refine ⟨l1, vs1, z, j, rfl, rfl, g1, by rw [Paired.length g2]; exact hj, ?_⟩
  refine hg F2 _ σ (pl_write (fy := fy2 ++ fy) (by rw [List.append_assoc]; exact W2) hr1 ⟨_, rfl, l1, _, rfl, rfl, upd_same, Paired.put ry j g2⟩ kk1)
end
end
end Ty

/-! Ty5 -/
namespace Ty
open PySem PySem.Spec L2
open PyProof.Rows (envOfC)

section
variable {P : Program} {w : World} {K : PySem.W.Frag} {mg : Str → Option Value} {base : Heap} {k : Nat}

/-! ### defs -/
/-- a pure def: on frozen arguments it gives what its mirror gives, and all else stands -/
def spP {ι ρ : Type} (As : ι → List Slot) (m : ι → Option ρ) (Sr : ρ → Slot) : Sp := fun vs H Q _ => ∃ (z : ι) (r : ρ) (F : Hp), m z = some r ∧ Same F H ∧ Slots F H [] (vs.map some) (As z) ∧
  ∀ v F' H' fp, Wo ⟨F, H, []⟩ F' H' fp → (Sr r).P F' H' fp (some v) → Q v H'
/-- the body's context -/
def fb (P : Program) (w : World) (K : PySem.W.Frag) (mg : Str → Option Value) (base : Heap) (N : List Str) (qual : Str) (st : Stmt) (f : Addr) (cdv : Value) (A : Around) (outer : List Env) (s : Shared) (H : Hp) (E : XK) (k : Nat) (hr : Room k (A.deeper (envOfC qual (defScope st) s.heap.objs.size f cdv))) (nd : N.Nodup) : Fa P w K mg base k where
  I := Unit
  X := fun _ => (cxOf CX0 P w K mg base N qual (defScope st) f cdv A outer s H E).nox
  hP := fun _ => rfl
  hw := fun _ => rfl
  hK := fun _ => rfl
  hM := fun _ => rfl
  hB := fun _ => rfl
  cm := true
  hC := fun _ => rfl
  hR := fun _ _ => hr
  hU := fun _ => hr.units
  W := fun _ _ _ _ => False
  tk := fun _ => takes0
  hN := fun _ => nd
  hO := fun _ => PassesOwn.never
/-- the ends of a def's body -/
def DF (B : Bs) (s : Slot) : Ends := { nx := fun _ H => Fi B s .non H, rt := Fi B s }
theorem slots_dead {F H : Hp} : ∀ n : Nat, Slots F H [] (List.replicate n none) (List.replicate n dead)
  | 0 => .nil
  | n + 1 => by
    rw [List.replicate_succ, List.replicate_succ]
    exact Slots.cons (fp := []) rfl (slots_dead n)
theorem wo_nil {F H : Hp} (h : Same F H) : Wo ⟨F, H, []⟩ F H [] := ⟨h, List.nodup_nil, fun _ z => (nomatch z), fun _ z => (nomatch z), fun _ _ h => h, fun _ _ h _ => h, fun _ _ h => .inl h, fun _ z => (nomatch z)⟩
theorem fn_pure {ι ρ : Type} {As : ι → List Slot} {m : ι → Option ρ} {Sr : ρ → Slot} {x qual : Str} {st : Stmt} {f : Addr} {fd : FuncData} {N ps : List Str} (Fn : Fun K x qual st f fd) (S : FnScope N ps (defScope st)) (hlen : ∀ z, (As z).length = ps.length)
    (body : ∀ (cdv : Value) (A : Around) (outer : List Env) (s : Shared) (H : Hp) (E : XK) (hr : Room k (A.deeper (envOfC qual (defScope st) s.heap.objs.size f cdv))) (z : ι) (r : ρ) (B : Bs), m z = some r →
      Go (fb P w K mg base N qual st f cdv A outer s H E k hr S.nd) () (defBody st) (DF B (Sr r)) B (As z ++ List.replicate (N.length - ps.length) dead)) : FnOk P w K mg base CX0 (k + 1) f fd ps (spP As m Sr) := by
  refine Fn.ok S (fun vs H Q E h => ?_) (fun cdv A outer s H vs Q E hr h => ?_)
  · obtain ⟨z, r, F, _, _, Sl, _⟩ := h
    have e := Sl.length
    rw [List.length_map] at e
    rw [e, hlen]
  · obtain ⟨z, r, F, hm, hS, Sl, q⟩ := h
    refine ⟨_, pss_cont, ?_⟩
    have go := body cdv A outer s H E hr z r ⟨F, H, []⟩ hm
    have S0 : Sta ⟨F, H, []⟩ F H (L2.start N vs) (As z ++ List.replicate (N.length - ps.length) dead) := by
      refine ⟨[], wo_nil hS, ?_⟩
      unfold L2.start
      have e := Sl.length
      rw [List.length_map, hlen] at e
      rw [e]
      exact Slots.append Sl (slots_dead _)
    exact cont_mono (go F H _ S0) (fun σ H' ⟨F', fp, W', p'⟩ => q .non F' H' fp W' p') (fun v H' ⟨F', fp, W', p'⟩ => q v F' H' fp W' p') (fun _ _ z => z.elim) (fun _ _ z => z.elim)
variable {Y : Fa P w K mg base k} {i : Y.I} {e ea eb eo tg iter elt : Expr} {es : List Expr} {rest body : List Stmt} {Γ Γ' Γ1 Γ2 : List Slot} {a b c r s : Slot} {pos : Pos} {B : Bs} {D : Ends} {x : Str} {p' : Pos}
/-- all of them own nothing -/
def NoOwn : List Slot → Prop
  | [] => True
  | s :: r => (∀ F H fp o, s.P F H fp o → fp = []) ∧ NoOwn r
theorem no_val {α : Type} {p : VP α} {u : α} : ∀ F H fp o, (val p u).P F H fp o → fp = [] := fun F H fp o h => h.1
theorem no_bor {α : Type} {p : VP α} {u : α} : ∀ F H fp o, (bor p u).P F H fp o → fp = [] := fun F H fp o h => h.1
theorem no_borL {α : Type} {p : VP α} {u : List α} : ∀ F H fp o, (borL p u).P F H fp o → fp = [] := fun F H fp o h => h.1
theorem NoOwn.nil {F H : Hp} : ∀ {As : List Slot} {fp : List Addr} {vs : List V}, NoOwn As → Slots F H fp (vs.map some) As → fp = []
  | [], _, [], _, S => by cases S; rfl
  | [], _, _ :: _, _, S => by have e := S.length; simp at e
  | _ :: _, _, [], _, S => by have e := S.length; simp at e
  | s :: As, fp, v :: vs, h, S => by
    rw [List.map_cons] at S
    obtain ⟨f1, f2, rfl, p, S2⟩ := Slots.cons_inv S
    rw [h.1 F H f1 _ p, NoOwn.nil h.2 S2]; rfl
/-- behind a pure call -/
theorem Wo.called {F H F' H' : Hp} {os fp : List Addr} (W : Wo B F H os) (W4 : Wo ⟨F, H, []⟩ F' H' fp) : Same F F' ∧ Same H H' ∧ Wo B F' H' (fp ++ os) := by
  have hH : Same H H' := fun a o e => W4.bH a o e (by simp)
  refine ⟨W4.bF, hH, ?_⟩
  have own_old : ∀ q ∈ os, F' q = none := fun q hq => by
    cases z : F' q with
    | none => rfl
    | some u =>
      obtain ⟨o, ho⟩ := W.oH q hq
      rcases W4.bN q u z with y | y | y
      · have y' : F q = some u := y
        rw [W.oF q hq] at y'; cases y'
      · have y' : H q = none := y
        rw [ho] at y'; cases y'
      · exact nomatch y
  refine ⟨W4.sub, List.nodup_append.mpr ⟨W4.nd, W.nd, fun q hq q' hq' e => ?_⟩, fun q hq => ?_, fun q hq => ?_, W.bF.trans W4.bF, fun q u e hb => hH q u (W.bH q u e hb), fun q u e => ?_, fun q hq => ?_⟩
  · subst e
    obtain ⟨o, ho⟩ := W.oH q hq'
    rcases W4.bO q hq with y | y
    · have y' : H q = none := y
      rw [ho] at y'; cases y'
    · exact nomatch y
  · rcases List.mem_append.mp hq with hq | hq
    · exact W4.oF q hq
    · exact own_old q hq
  · rcases List.mem_append.mp hq with hq | hq
    · exact W4.oH q hq
    · obtain ⟨o, ho⟩ := W.oH q hq
      exact ⟨o, hH q o ho⟩
  · rcases W4.bN q u e with y | y | y
    · exact W.bN q u y
    · exact .inr (W.bFree y)
    · exact nomatch y
  · rcases List.mem_append.mp hq with hq | hq
    · rcases W4.bO q hq with y | y
      · exact W.bFree y
      · exact nomatch y
    · exact W.bO q hq
/-- f(e, ..) of a pure def on frozen arguments -/
theorem x_call {ι ρ : Type} {As : ι → List Slot} {m : ι → Option ρ} {Sr : ρ → Slot} {args : List Slot} {z : ι} {q : ρ} {j : Nat} {f : Addr} {fd : FuncData} {ps : List Str} (Fn : FnOk P w K mg base CX0 j f fd ps (spP As m Sr)) (hj : j ≤ k) (hm : mg x = some (.ref f)) (hk : PySem.W.keepIn K (.ref f) = true) (hb : Binds K fd ps [])
    (ha : XA Y (e :: es) Γ args) (hargs : args = As z) (hno : NoOwn args) (hq : m z = some q) (hg : ∀ i, Gl (Y.X i) x := by intro _; rfl) (hdb : (x == ("__debug__" : Str)) = false := by decide)
    (he : ∀ i, starEach (e :: es) (Y.X i).env = (false, eval e (Y.X i).env) :: starEach es (Y.X i).env := by intro _; rfl) (hpl : ∀ i, (backTo pos (starEach es (Y.X i).env)).any (·.1) = false := by intro _; rfl) (hcm : Y.cm = true := by rfl) : XV Y (.Call (.Name x p') (e :: es) [] pos) Γ (Sr q) := by
  subst hargs
  obtain ⟨t, pa, rd⟩ := ha
  have FF : ∀ i, FnOk (Y.X i).prog (Y.X i).w (Y.X i).K (Y.X i).mg (Y.X i).base CX0 j f fd ps (spP As m Sr) := fun i => by rw [Y.hP i, Y.hw i, Y.hK i, Y.hM i, Y.hB i]; exact Fn
  refine ⟨_, fun i => pe_call (FF i) ((Y.hR hcm i).mono hj) (hg i) (by rw [Y.hM i]; exact hm) (by rw [Y.hK i]; exact hk) (by rw [Y.hK i]; exact hb) .nil pass0 (pa i) hdb (he i) (hpl i), fun B F H os σ Q I kk => ?_⟩
  refine rd B F H os σ _ I fun vs F1 H1 fp f1 e1 W1 S1 => ?_
  obtain rfl := hno.nil S1
  rw [List.append_nil]
  refine ⟨z, q, F1, hq, W1.sub, S1, fun v F2 H2 fp W2 p2 => ?_⟩
  obtain ⟨f2, e2, W3⟩ := W1.called W2
  exact kk v F2 H2 fp (f1.trans f2) (e1.trans e2) W3 p2
/-- .. where the arguments are looked at (frozen or owned) and the answer has no heap -/
theorem x_callF {ι ρ : Type} {As : ι → List Slot} {m : ι → Option ρ} {pr : VP ρ} {args : List Slot} {z : ι} {q : ρ} {j : Nat} {f : Addr} {fd : FuncData} {ps : List Str} (Fn : FnOk P w K mg base CX0 j f fd ps (spP As m (val pr))) (hfl : Flat pr) (hj : j ≤ k) (hm : mg x = some (.ref f)) (hk : PySem.W.keepIn K (.ref f) = true) (hb : Binds K fd ps [])
    (ha : XA Y (e :: es) Γ args) (hargs : ∀ F H (vs : List V), Same F H → Slots F H [] (vs.map some) args → Slots H H [] (vs.map some) (As z)) (hno : NoOwn args) (hq : m z = some q) (hg : ∀ i, Gl (Y.X i) x := by intro _; rfl) (hdb : (x == ("__debug__" : Str)) = false := by decide)
    (he : ∀ i, starEach (e :: es) (Y.X i).env = (false, eval e (Y.X i).env) :: starEach es (Y.X i).env := by intro _; rfl) (hpl : ∀ i, (backTo pos (starEach es (Y.X i).env)).any (·.1) = false := by intro _; rfl) (hcm : Y.cm = true := by rfl) : XV Y (.Call (.Name x p') (e :: es) [] pos) Γ (val pr q) := by
  obtain ⟨t, pa, rd⟩ := ha
  have FF : ∀ i, FnOk (Y.X i).prog (Y.X i).w (Y.X i).K (Y.X i).mg (Y.X i).base CX0 j f fd ps (spP As m (val pr)) := fun i => by rw [Y.hP i, Y.hw i, Y.hK i, Y.hM i, Y.hB i]; exact Fn
  refine ⟨_, fun i => pe_call (FF i) ((Y.hR hcm i).mono hj) (hg i) (by rw [Y.hM i]; exact hm) (by rw [Y.hK i]; exact hk) (by rw [Y.hK i]; exact hb) .nil pass0 (pa i) hdb (he i) (hpl i), fun B F H os σ Q I kk => ?_⟩
  refine rd B F H os σ _ I fun vs F1 H1 fp f1 e1 W1 S1 => ?_
  obtain rfl := hno.nil S1
  rw [List.append_nil]
  refine ⟨z, q, H1, hq, same_refl, hargs F1 H1 vs W1.sub S1, fun v F2 H2 fp W2 p2 => ?_⟩
  have hH : Same H1 H2 := fun a o e => W2.bH a o e (by simp)
  have W : Wo B F1 H1 os := W1
  have W3 : Wo B F1 H2 os := ⟨W.sub.trans hH, W.nd, W.oF, fun a ha => let ⟨o, ho⟩ := W.oH a ha; ⟨o, hH a o ho⟩, W.bF, fun a o e hb => hH a o (W.bH a o e hb), W.bN, W.bO⟩
  exact kk v F1 H2 [] f1 (e1.trans hH) W3 ⟨rfl, v, rfl, hfl _ _ _ _ (val_P p2).2⟩
theorem Slots.one {F H : Hp} {os : List Addr} {o : Option V} {σ : List (Option V)} {s : Slot} {Γ : List Slot} (h : Slots F H os (o :: σ) (s :: Γ)) (he : os = []) : s.P F H [] o ∧ Slots F H [] σ Γ := by
  cases h with
  | @cons fp os _ _ _ _ hp hr =>
    obtain ⟨e1, e2⟩ := List.append_eq_nil_iff.mp he
    subst e1; subst e2
    exact ⟨hp, hr⟩
/-- how the arguments that are looked at are read -/
inductive AV : List Slot → List Slot → Prop
  | nil : AV [] []
  | cons {α : Type} {s : Slot} {p : VP α} {u : α} {As Bs : List Slot} : Vw s p u → AV As Bs → AV (s :: As) (val p u :: Bs)
theorem AV.to {As Cs : List Slot} (h : AV As Cs) : ∀ F H (vs : List V), Same F H → Slots F H [] (vs.map some) As → Slots H H [] (vs.map some) Cs := by
  induction h with
  | nil =>
    intro F H vs hS Sl
    have e := Sl.length
    cases vs with
    | nil => exact .nil
    | cons v vs => simp at e
  | @cons α s p u As Cs hv _ ih =>
    intro F H vs hS Sl
    have e := Sl.length
    cases vs with
    | nil => simp at e
    | cons v vs =>
      rw [List.map_cons] at Sl
      obtain ⟨hp, hr⟩ := Sl.one rfl
      have i1 := ih F H vs hS hr
      obtain ⟨v', ev, rv⟩ := hv F H [] _ hS hp
      cases ev
      exact Slots.cons (fp := []) ⟨rfl, v, rfl, rv⟩ i1
end
end Ty

/-! Ty6 -/
namespace Ty
open PySem PySem.Spec L2
section
variable {P : Program} {w : World} {K : PySem.W.Frag} {mg : Str → Option Value} {base : Heap} {k : Nat}
/-! ### comprehensions -/
/-- the blocks of a comprehension, wherever they start -/
def Fa.blk (Y : Fa P w K mg base k) (scope : Scope) : Fa P w K mg base k where
  I := Y.I × Shared × Hp × Addr × List (Str × Addr) × List Addr
  X := fun j => (Y.X j.1).blk j.2.1 j.2.2.1 scope (compEnvC scope j.2.2.2.2.1 j.2.2.2.1 (Y.X j.1).env) j.2.2.2.2.2
  hP := fun j => Y.hP j.1
  hw := fun j => Y.hw j.1
  hK := fun j => Y.hK j.1
  hM := fun j => Y.hM j.1
  hB := fun j => Y.hB j.1
  cm := Y.cm
  hC := fun j => Y.hC j.1
  hR := fun h j => Y.hR h j.1
  hU := fun j => Y.hU j.1
  W := fun _ _ _ _ => False
  tk := fun _ => takes0
  hN := fun j => Y.hN j.1
  hO := fun j => PassesOwn.never
variable {Y : Fa P w K mg base k} {i : Y.I} {e ea eb eo tg iter elt : Expr} {es ifs : List Expr} {rest body : List Stmt} {Γ Γ' Γ1 Γ2 : List Slot} {a b c r s : Slot} {pos : Pos} {B : Bs} {D : Ends} {x : Str} {p' : Pos} {scope : Scope}
/-- readings from what runs them, for a whole family -/
def cE (Y : Fa P w K mg base k) (e : Expr) : TE := fun σ H Q => ∀ (i : Y.I) (pins : List (Addr × Obj)) (s : Shared), Inv (Y.X i) pins σ H s → wpAny (model (Y.X i).prog (Y.X i).w) (Y.X i).A (eval e (Y.X i).env) (EP (Y.X i) pins σ Q) (Y.X i).xe s
theorem pe_cE (i : Y.I) : PE (Y.X i) e (cE Y e) := ⟨fun pins s σ H Q I h => h i pins s I⟩
def cG (Y : Fa P w K mg base k) (tg : Expr) : TG := fun v σ H Q => ∀ (i : Y.I) (pins : List (Addr × Obj)) (s : Shared) (u : Value), Inv (Y.X i) pins σ H s → RelV v u → wpAny (model (Y.X i).prog (Y.X i).w) (Y.X i).A (assign tg (Y.X i).env u) (fun _ s' => ∃ σ' H', Inv (Y.X i) pins σ' H' s' ∧ Q σ' H') (Y.X i).xe s
theorem pg_cG (i : Y.I) : PG (Y.X i) tg (cG Y tg) := ⟨fun pins s σ H v u Q I r h => h i pins s u I r⟩
def cTs (Y : Fa P w K mg base k) (ifs : List Expr) : TT := fun σ H Q => ∀ (i : Y.I) (pins : List (Addr × Obj)) (s : Shared), Inv (Y.X i) pins σ H s →
  wpAny (model (Y.X i).prog (Y.X i).w) (Y.X i).A (forIn ifs true fun c r => if r = true then do let ok ← isTrue c (Y.X i).env (eval c (Y.X i).env); pure (ForInStep.yield ok) else pure (ForInStep.yield r)) (TP (Y.X i) pins σ Q) (Y.X i).xe s
theorem pts_cTs (i : Y.I) : PTs (Y.X i) ifs (cTs Y ifs) := ⟨fun pins s σ H Q I h => h i pins s I⟩
/-- the tests of a clause -/
def XTs (Y : Fa P w K mg base k) (ifs : List Expr) (Γ : List Slot) (b : Bool) : Prop :=
  ∃ t : TT, (∀ i, PTs (Y.X i) ifs t) ∧ ∀ (B : Bs) (F H : Hp) (os : List Addr) (σ : List (Option V)) (Q : Bool → Hp → Prop), In B F H os σ Γ → (∀ F' H', Same F F' → Same H H' → Wo B F' H' os → Q b H') → t σ H Q
theorem xts_nil : XTs Y [] Γ true := ⟨_, fun _ => pts_nil, fun B F H os σ Q I q => q F H same_refl same_refl I.W⟩
theorem xts_one {z : Bool} (h : XT Y e Γ z) : XTs Y [e] Γ z := let ⟨t, p, r⟩ := h; ⟨t, fun i => pts_one (p i), r⟩
/-- a clause with a test: none where it is left out -/
def fmO {α β : Type} : List α → (α → Option (Option β)) → Option (List β)
  | [], _ => some []
  | x :: xs, f => (f x).bind fun o => (fmO xs f).bind fun r => some (o.toList ++ r)
theorem wipe_get {σ : L2.St} : ∀ {vs : List Nat} {j : Nat}, (wipe σ vs)[j]? = if j ∈ vs ∧ j < σ.length then some none else σ[j]?
  | [], j => by simp [wipe]
  | v :: vs, j => by
    unfold wipe
    by_cases hj : v = j
    · subst hj
      by_cases hl : v < σ.length
      · rw [List.getElem?_set_self (by rw [wipe_length]; exact hl), if_pos ⟨List.mem_cons_self, hl⟩]
      · rw [if_neg (fun z => hl z.2), List.getElem?_eq_none (by rw [List.length_set, wipe_length]; omega), List.getElem?_eq_none (by omega)]
    · rw [List.getElem?_set_ne hj, wipe_get (vs := vs) (j := j)]
      have : (j ∈ v :: vs) ↔ j ∈ vs := by
        constructor
        · intro z
          rcases List.mem_cons.mp z with z | z
          · exact absurd z.symm hj
          · exact z
        · exact List.mem_cons_of_mem _
      simp only [this]
/-- slots at which the frame is not looked at -/
theorem Slots.ext {F H : Hp} : ∀ {os : List Addr} {σ σ' : List (Option V)} {Γ : List Slot}, Slots F H os σ Γ → σ'.length = σ.length → (∀ (j : Nat) (s : Slot), Γ[j]? = some s → s = dead ∨ σ'[j]? = σ[j]?) → Slots F H os σ' Γ
  | _, _, [], _, .nil, _, _ => .nil
  | _, _, _ :: _, _, .nil, e, _ => by simp at e
  | _, _, [], _, .cons _ _, e, _ => by simp at e
  | _, _, o' :: σ', _, .cons (s := s) (o := o) p r, e, h => by
    refine .cons ?_ (Slots.ext r (by simpa using e) fun j s hs => by have := h (j + 1) s (by simpa using hs); simpa using this)
    rcases h 0 s rfl with z | z
    · subst z; exact p
    · have : o' = o := by simpa using z
      rw [this]; exact p
theorem wipe_eq {σ σ' : L2.St} {vs ws : List Nat} (hw : ∀ j ∈ ws, j ∈ vs) (hl : σ'.length = (wipe σ vs).length) (h : ∀ j, j ∉ ws → σ'[j]? = (wipe σ vs)[j]?) : wipe σ' vs = wipe σ vs := by
  apply List.ext_getElem?
  intro j
  rw [wipe_get, wipe_get]
  rw [wipe_length] at hl
  by_cases hj : j ∈ vs
  · by_cases h2 : j < σ.length
    · rw [if_pos ⟨hj, by rw [hl]; exact h2⟩, if_pos ⟨hj, h2⟩]
    · rw [if_neg (fun z => h2 (by rw [← hl]; exact z.2)), if_neg (fun z => h2 z.2), List.getElem?_eq_none (by omega), List.getElem?_eq_none (by omega)]
  · rw [if_neg (fun z => hj z.1), if_neg (fun z => hj z.1), h j (fun z => hj (hw j z)), wipe_get, if_neg (fun z => hj z.1)]
/-- what a comprehension asks of its text -/
structure Lc (Y : Fa P w K mg base k) (iter : Expr) (scope : Scope) (own : List (Str × Nat)) : Prop where
  ok : ∀ i, BlkOk (Y.X i).N (Y.X i).env.scope scope own
  hs : ∀ i x, foldedSetIterable iter (Y.X i).env x = pure x
/-- the slots are not looked at -/
def DeadAt (Γ : List Slot) : List Nat → Prop
  | [] => True
  | j :: r => Γ[j]? = some dead ∧ DeadAt Γ r
theorem DeadAt.get {Γ : List Slot} : ∀ {l : List Nat}, DeadAt Γ l → ∀ j ∈ l, Γ[j]? = some dead
  | j :: r, h, x, hx => by
    rcases List.mem_cons.mp hx with rfl | hx
    · exact h.1
    · exact DeadAt.get h.2 x hx
/-- the reading of a comprehension -/
theorem lc_run {α β : Type} {xs : List α} {rs : α → Slot} {q : VP β} {f : α → Option (Option β)} {ys : List β} {own : List (Str × Nat)} (hz : xs.length ≤ sizeLine) (hf : fmO xs f = some ys) (hd0 : DeadAt Γ (own.map (·.2)))
    (hb : ∀ x o, x ∈ xs → f x = some o → ∃ ws Γ1, (ws.all fun j => (own.map (·.2)).contains j) = true ∧ XG (Y.blk scope) tg ws (rs x) Γ Γ1 ∧ XTs (Y.blk scope) ifs Γ1 o.isSome ∧ ∀ y, o = some y → XV (Y.blk scope) elt Γ1 (val q y))
    {wi : TI} (hw : ∀ (B : Bs) (F H : Hp) (os : List Addr) (σ : List (Option V)) (R : It → Hp → Prop), In B F H os σ Γ → (∀ J F' H', Same F F' → Same H H' → Wo B F' H' os → Wk True J F' H' (xs.map rs) → R J H') → wi σ H R)
    {F H : Hp} {os : List Addr} {σ : List (Option V)} {Q : VK} (I : In B F H os σ Γ) (kk : ∀ v F' H' fp, Same F F' → Same H H' → Wo B F' H' (fp ++ os) → (Ty.own (oL q) ys).P F' H' fp (some v) → Q v H') :
    tLc wi (cG (Y.blk scope) tg) (cTs (Y.blk scope) ifs) (cE (Y.blk scope) elt) (own.map (·.2)) σ H Q := by
  have hd := hd0.get
  refine hw B F H os σ _ I fun J F1 H1 f1 e1 W1 wk Dl hD => ?_
  obtain ⟨_, o2, r0, hperm, S0⟩ := I
  have S1 : Slots F1 H1 o2 (wipe σ (own.map (·.2))) Γ := (S0.mono f1 e1).ext (wipe_length _ _) fun j s hs => by
    by_cases hj : j ∈ own.map (·.2)
    · left
      have := hd j hj
      rw [hs] at this; exact Option.some.inj this
    · right
      rw [wipe_get, if_neg (fun z => hj z.1)]
  refine ⟨fun n m H' => n ≤ xs.length ∧ m = xs.length - n ∧ ∃ (F' : Hp) (vs : List V) (acc rr : List β), Wo B F' H' (Dl :: os) ∧ Same F1 F' ∧ Same H1 H' ∧ H' Dl = some (.lst vs) ∧ Paired (q.R F') vs acc ∧ acc.length ≤ n ∧ fmO (xs.drop n) f = some rr ∧ ys = acc ++ rr,
    ⟨xs.length - 0, Nat.zero_le _, rfl, F1, [], [], ys, W1.newO hD, same_refl, same_upd hD, upd_same, .nil, Nat.zero_le _, by simpa using hf, rfl⟩, ?_⟩
  rintro n m H' ⟨hn, rfl, F', vs, acc, rr, W', fF, fH, hDl, hp, hacc, hrr, hys⟩
  obtain ⟨w1, w2⟩ := wk F' H' fF (fun _ => fH) W'.sub
  by_cases hlt : n < xs.length
  · have hx : xs[n]? = some xs[n] := List.getElem?_eq_getElem hlt
    have hdrop : xs.drop n = xs[n] :: xs.drop (n + 1) := List.drop_eq_getElem_cons hlt
    rw [hdrop] at hrr
    unfold fmO at hrr
    obtain ⟨o, ho, hrr⟩ := Option.bind_eq_some_iff.mp hrr
    obtain ⟨r2, hr2, hrr⟩ := Option.bind_eq_some_iff.mp hrr
    obtain ⟨g1, g2⟩ := w2 n (rs xs[n]) (by rw [List.getElem?_map, hx]; rfl)
    refine .inr ⟨g1, fun H'' => n + 1 ≤ xs.length ∧ ∃ (F' : Hp) (vs : List V) (acc rr : List β), Wo B F' H'' (Dl :: os) ∧ Same F1 F' ∧ Same H1 H'' ∧ H'' Dl = some (.lst vs) ∧ Paired (q.R F') vs acc ∧ acc.length ≤ n + 1 ∧ fmO (xs.drop (n + 1)) f = some rr ∧ ys = acc ++ rr, ?_, ?_⟩
    · rintro H'' ⟨hn', rest⟩
      exact ⟨xs.length - (n + 1), by omega, hn', rfl, rest⟩
    · intro v H2 y
      obtain ⟨e2, push⟩ := g2 v H2 y
      obtain ⟨F2, f2, W2, p2⟩ := push B _ W'
      obtain ⟨ws, Γ1, hws0, ⟨_, g, pg, qg⟩, ⟨tt, ptt, rtt⟩, hel⟩ := hb xs[n] o (List.getElem_mem hlt) ho
      have hws : ∀ j ∈ ws, j ∈ own.map (·.2) := fun j hj => List.contains_iff_mem.mp (List.all_eq_true.mp hws0 j hj)
      intro j pins sh u Iv rv
      refine (pg j).run pins sh _ H2 v u _ Iv rv (qg F2 H2 [] o2 _ v _ W2.sub p2 (S1.mono (fF.trans f2) (fH.trans e2)) fun σ' os' d ⟨l', k'⟩ pp S' => ⟨wipe_eq hws l' k', ?_⟩)
      have I2 : In B F2 H2 (Dl :: os) σ' Γ1 := ⟨W2, os', Dl :: (d ++ r0), by
        have a1 : os.Perm ((d ++ os') ++ r0) := hperm.trans (List.Perm.append_right r0 (by simpa using pp))
        refine (List.Perm.cons Dl a1).trans ?_
        have a2 : (Dl :: ((d ++ os') ++ r0)).Perm (Dl :: (os' ++ (d ++ r0))) := List.Perm.cons Dl (by rw [← List.append_assoc]; exact List.Perm.append_right r0 List.perm_append_comm)
        exact a2.trans List.perm_middle.symm, S'⟩
      intro j2 pins2 s2 Iv2
      refine (ptt j2).run pins2 s2 σ' H2 _ Iv2 (rtt B F2 H2 _ σ' _ I2 fun F3 H3 f3 e3 W3 => ?_)
      cases o with
      | none =>
        show n + 1 ≤ xs.length ∧ _
        refine ⟨hlt, F3, vs, acc, r2, W3, (fF.trans f2).trans f3, (fH.trans e2).trans e3, e3 _ _ (e2 _ _ hDl), Paired.mon (fun _ _ r => q.mono (f2.trans f3) r) hp, by omega, hr2, ?_⟩
        have : r2 = rr := by simpa using hrr
        rw [hys, this]
      | some yv =>
        show cE (Y.blk scope) elt σ' H3 _
        obtain ⟨te, pte, rte⟩ := hel yv rfl
        intro j3 pins3 s3 Iv3
        refine (pte j3).run pins3 s3 σ' H3 _ Iv3 (rte B F3 H3 _ σ' _ (I2.step0 f3 e3 W3) fun yy F4 H4 fp4 f4 e4 W4 p4 => ?_)
        have hD4 : H4 Dl = some (.lst vs) := e4 _ _ (e3 _ _ (e2 _ _ hDl))
        have hlen := Paired.length hp
        refine ⟨vs, hD4, by omega, hlt, F4, vs ++ [yy], acc ++ [yv], r2, ?_, ((fF.trans f2).trans f3).trans f4, ?_, upd_same, Paired.app (Paired.mon (fun _ _ r => q.mono ((f2.trans f3).trans f4) r) hp) (.cons (val_P p4).2 .nil), by simp; omega, hr2, ?_⟩
        · exact W4.drop.write List.mem_cons_self
        · intro z u hu
          rw [upd_ne (ne_of_none hu hD)]
          exact ((fH.trans e2).trans e3).trans e4 z u hu
        · have : [yv] ++ r2 = rr := by simpa using hrr
          rw [hys, ← this, List.append_assoc]
  · have e : n = xs.length := by omega
    subst e
    refine .inl ⟨by simpa using w1, ?_⟩
    rw [List.drop_length] at hrr
    unfold fmO at hrr
    have : rr = [] := by simpa using hrr.symm
    subst this
    rw [List.append_nil] at hys
    subst hys
    exact kk _ F' H' [Dl] (f1.trans fF) (e1.trans fH) W' ⟨_, rfl, Dl, vs, rfl, rfl, hDl, hp⟩
/-- [elt for tg in iter if ..] -/
theorem x_lc {α β : Type} {xs : List α} {rs : α → Slot} {q : VP β} {f : α → Option (Option β)} {ys : List β} {own : List (Str × Nat)} (hi : XI Y tg iter Γ True (xs.map rs)) (L : Lc Y iter scope own) (hz : xs.length ≤ sizeLine) (hf : fmO xs f = some ys) (hd0 : DeadAt Γ (own.map (·.2)))
    (hb : ∀ x o, x ∈ xs → f x = some o → ∃ ws Γ1, (ws.all fun j => (own.map (·.2)).contains j) = true ∧ XG (Y.blk scope) tg ws (rs x) Γ Γ1 ∧ XTs (Y.blk scope) ifs Γ1 o.isSome ∧ ∀ y, o = some y → XV (Y.blk scope) elt Γ1 (val q y)) (hcm : Y.cm = true := by rfl) :
    XV Y (.ListComp elt [⟨tg, iter, ifs, 0⟩] scope pos) Γ (Ty.own (oL q) ys) := by
  obtain ⟨wi, pi, hw⟩ := hi
  exact ⟨_, fun i => pe_lc ((Y.hC i).trans hcm) (Y.hN i) (pi i) (L.ok i) (fun s H C cl fp => pg_cG (Y := Y.blk scope) (i, s, H, C, cl, fp)) (fun s H C cl fp => pts_cTs (Y := Y.blk scope) (i, s, H, C, cl, fp)) (fun s H C cl fp => pe_cE (Y := Y.blk scope) (i, s, H, C, cl, fp)) (L.hs i),
    fun B F H os σ Q I kk => lc_run hz hf hd0 hb hw I kk⟩
/-- x = [elt for tg in iter if ..], x a plain local -/
theorem go_setLc {α β : Type} {xs : List α} {rs : α → Slot} {q : VP β} {f : α → Option (Option β)} {ys : List β} {own : List (Str × Nat)} (j : Nat) {py cpos : Pos} (hi : XI Y tg iter Γ True (xs.map rs)) (L : Lc Y iter scope own) (hz : xs.length ≤ sizeLine) (hf : fmO xs f = some ys) (hd0 : DeadAt Γ (own.map (·.2)))
    (hb : ∀ x o, x ∈ xs → f x = some o → ∃ ws Γ1, (ws.all fun j => (own.map (·.2)).contains j) = true ∧ XG (Y.blk scope) tg ws (rs x) Γ Γ1 ∧ XTs (Y.blk scope) ifs Γ1 o.isSome ∧ ∀ y, o = some y → XV (Y.blk scope) elt Γ1 (val q y))
    (hg : Go Y i rest D B (Γ.set j (Ty.own (oL q) ys))) (hj : Nat.blt j Γ.length = true := by rfl) (hy : (Y.X i).N[j]? = some x := by rfl) (hyl : (Y.X i).env.scope.names.lookup x = some .local := by rfl)
    (hsw : swapsWith (.ListComp elt [⟨tg, iter, ifs, 0⟩] scope cpos) (some (.Name x py)) pos.line (Y.X i).env = pure true) (hcm : Y.cm = true := by rfl) : Go Y i (.Assign [.Name x py] (.ListComp elt [⟨tg, iter, ifs, 0⟩] scope cpos) pos :: rest) D B Γ := by
  obtain ⟨wi, pi, hw⟩ := hi
  refine go_ps (ps_setLc ((Y.hC i).trans hcm) (Y.hN i) hy hyl hsw (pi i) (L.ok i) (fun s H C cl fp => pg_cG (Y := Y.blk scope) (i, s, H, C, cl, fp)) (fun s H C cl fp => pts_cTs (Y := Y.blk scope) (i, s, H, C, cl, fp)) (fun s H C cl fp => pe_cE (Y := Y.blk scope) (i, s, H, C, cl, fp)) (L.hs i)) fun F H σ ⟨os, W, S⟩ => ?_
  refine lc_run hz hf hd0 hb hw (Sta.in W S) fun v F1 H1 fp f1 e1 W1 p1 => ?_
  obtain ⟨os', d, h1, h2⟩ := (S.mono f1 e1).put p1 (Nat.le_of_ble_eq_true hj)
  exact hg F1 H1 _ ⟨os', (W1.perm h2).drop, h1⟩
end
end Ty

/-! Ty7 -/
namespace Ty
open PySem PySem.Spec L2
open PyProof.Rows (envOfC)
section
variable {P : Program} {w : World} {K : PySem.W.Frag} {mg : Str → Option Value} {base : Heap} {k : Nat}
variable {Y : Fa P w K mg base k} {i : Y.I} {e ea eb eo tg iter elt : Expr} {es ifs : List Expr} {rest body : List Stmt} {Γ Γ' Γ1 Γ2 Δ Δ' : List Slot} {a b c r s s' : Slot} {pos : Pos} {B : Bs} {D : Ends} {x f : Str} {p' : Pos} {C : Addr} {ns : List Str}

/-! ### objects -/
/-- an owned instance: its attributes told by Δ -/
def obj (C : Addr) (ns : List Str) (Δ : List Slot) : Slot where
  P := fun F H fp o => ∃ (x dx : Addr) (vs : List V) (os : List Addr), o = some (.ref x) ∧ fp = x :: dx :: os ∧ H x = some (.ins C dx (ns.zip vs)) ∧ H dx = some (.own x) ∧ vs.length = ns.length ∧ Slots F H os (vs.map some) Δ
  mono := fun hF hH h => let ⟨x, dx, vs, os, e1, e2, h1, h2, h3, h4⟩ := h; ⟨x, dx, vs, os, e1, e2, hH _ _ h1, hH _ _ h2, h3, h4.mono hF hH⟩
  st := Stb Δ
  mm := fun hs {_ _ _ _ _ _} hF hH h => let ⟨x, dx, vs, os, e1, e2, h1, h2, h3, h4⟩ := h
    ⟨x, dx, vs, os, e1, e2, by rw [hH x (by rw [e2]; simp)]; exact h1, by rw [hH dx (by rw [e2]; simp)]; exact h2, h3, h4.mm hF hs fun q hq => hH q (by rw [e2]; simp [hq])⟩
/-- a frozen instance -/
def pObj {α : Type} (C : Addr) (ns : List Str) (sl : α → List Slot) : VP α where
  R := fun F v z => ∃ (x dx : Addr) (vs : List V), v = .ref x ∧ F x = some (.ins C dx (ns.zip vs)) ∧ vs.length = ns.length ∧ Slots F F [] (vs.map some) (sl z)
  mono := fun hF h => let ⟨x, dx, vs, e1, h1, h3, h4⟩ := h; ⟨x, dx, vs, e1, hF _ _ h1, h3, h4.mono hF hF⟩
/-- an owned instance that is looked at -/
def bobj (C : Addr) (ns : List Str) (Δ : List Slot) : Slot where
  P := fun F H fp o => fp = [] ∧ ∃ (x dx : Addr) (vs : List V) (os : List Addr), o = some (.ref x) ∧ H x = some (.ins C dx (ns.zip vs)) ∧ vs.length = ns.length ∧ Slots F H os (vs.map some) Δ
  mono := fun hF hH h => let ⟨e0, x, dx, vs, os, e1, h1, h3, h4⟩ := h; ⟨e0, x, dx, vs, os, e1, hH _ _ h1, h3, h4.mono hF hH⟩
  st := False
  mm := fun h => h.elim
theorem zip_lookup : ∀ {ns : List Str} {vs : List V} {j : Nat} {f : Str} {v : V}, ns.Nodup → vs.length = ns.length → ns[j]? = some f → vs[j]? = some v → (ns.zip vs).lookup f = some v
  | [], _, _, _, _, _, _, e, _ => by simp at e
  | n :: ns, [], _, _, _, _, h, _, _ => by simp at h
  | n :: ns, u :: vs, 0, f, v, nd, h, e, e2 => by
    simp at e e2; subst e; subst e2
    simp [List.lookup]
  | n :: ns, u :: vs, j + 1, f, v, nd, h, e, e2 => by
    have nd' := List.nodup_cons.mp nd
    have hm : f ∈ ns := List.mem_of_getElem? (show ns[j]? = some f by simpa using e)
    have hb : (f == n) = false := by simpa using fun z : f = n => nd'.1 (z ▸ hm)
    rw [List.zip_cons_cons, List.lookup_cons, hb]
    exact zip_lookup nd'.2 (by simpa using h) (by simpa using e) (by simpa using e2)
theorem zip_lookup_none : ∀ {ns : List Str} {vs : List V} {f : Str}, f ∉ ns → (ns.zip vs).lookup f = none
  | [], _, _, _ => rfl
  | n :: ns, [], _, _ => rfl
  | n :: ns, u :: vs, f, h => by
    have hb : (f == n) = false := by simpa using fun z : f = n => h (by simp [z])
    rw [List.zip_cons_cons, List.lookup_cons, hb]
    exact zip_lookup_none fun z => h (List.mem_cons_of_mem _ z)
theorem zip_put : ∀ {ns : List Str} {vs : List V} {j : Nat} {f : Str} {v : V}, ns.Nodup → vs.length = ns.length → ns[j]? = some f → putF f v (ns.zip vs) = ns.zip (vs.set j v)
  | [], _, _, _, _, _, _, e => by simp at e
  | n :: ns, [], _, _, _, _, h, _ => by simp at h
  | n :: ns, u :: vs, 0, f, v, nd, h, e => by
    simp at e; subst e
    simp [putF]
  | n :: ns, u :: vs, j + 1, f, v, nd, h, e => by
    have nd' := List.nodup_cons.mp nd
    have hm : f ∈ ns := List.mem_of_getElem? (show ns[j]? = some f by simpa using e)
    have hne : ¬ n = f := fun z => nd'.1 (z ▸ hm)
    rw [List.zip_cons_cons, List.set_cons_succ, List.zip_cons_cons, putF, if_neg hne, zip_put nd'.2 (by simpa using h) (by simpa using e)]
theorem zip_new : ∀ {ns : List Str} {vs : List V} {f : Str} {v : V}, vs.length = ns.length → f ∉ ns → putF f v (ns.zip vs) = (ns ++ [f]).zip (vs ++ [v])
  | [], [], f, v, _, _ => rfl
  | [], _ :: _, _, _, h, _ => by simp at h
  | n :: ns, [], _, _, h, _ => by simp at h
  | n :: ns, u :: vs, f, v, h, hf => by
    have hne : ¬ n = f := fun z => hf (by simp [z])
    rw [List.zip_cons_cons, putF, if_neg hne, zip_new (by simpa using h) (fun z => hf (List.mem_cons_of_mem _ z))]; rfl
/-- what is asked of a class for an attribute -/
structure At (K : PySem.W.Frag) (C : Addr) (f : Str) : Prop where
  cl : Cls K C
  no : NoAttr K C f
/-- an instance that may be read: each attribute's value told by Δ -/
def OV (s : Slot) (C : Addr) (ns : List Str) (Δ : List Slot) : Prop := ∀ F H fp o, Same F H → s.P F H fp o → ∃ (x dx : Addr) (vs : List V) (os : List Addr), o = some (.ref x) ∧ H x = some (.ins C dx (ns.zip vs)) ∧ vs.length = ns.length ∧ Slots F H os (vs.map some) Δ
theorem OV.obj : OV (obj C ns Δ) C ns Δ := fun F H fp o _ h => let ⟨x, dx, vs, os, e1, _, h1, _, h3, h4⟩ := h; ⟨x, dx, vs, os, e1, h1, h3, h4⟩
theorem OV.bobj : OV (bobj C ns Δ) C ns Δ := fun F H fp o _ h => let ⟨_, x, dx, vs, os, e1, h1, h3, h4⟩ := h; ⟨x, dx, vs, os, e1, h1, h3, h4⟩
theorem OV.val {α : Type} {sl : α → List Slot} {z : α} : OV (Ty.val (pObj C ns sl) z) C ns (sl z) := fun F H fp o hS h => let ⟨_, v, ev, x, dx, vs, e1, h1, h3, h4⟩ := h; ⟨x, dx, vs, [], by rw [ev, e1], hS _ _ h1, h3, h4.mono same_refl hS⟩
/-- e.f, the attribute's value frozen -/
theorem x_fld {α : Type} {p : VP α} {u : α} (j : Nat) (he : XV Y e Γ s) (ho : OV s C ns Δ) (hA : At K C f) (hj : Δ[j]? = some (val p u) := by rfl) (hn : ns[j]? = some f := by rfl) (nd : ns.Nodup := by decide +kernel) (hb : ∀ i, attributeBase e f (Y.X i).env (eval e (Y.X i).env) = eval e (Y.X i).env := by intro _; rfl) : XV Y (.Attribute e f pos) Γ (val p u) := by
  obtain ⟨t, pe, rd⟩ := he
  refine ⟨_, fun i => by have h := pe_fld (pos := pos) (pe i) (hb i); rw [Y.hK i] at h; exact h, fun B F H os σ Q I q => ?_⟩
  refine rd B F H os σ _ I fun v F1 H1 fp f1 e1 W1 p1 => ?_
  obtain ⟨x, dx, vs, o2, ev, h1, h2, h3⟩ := ho F1 H1 fp _ W1.sub p1
  cases ev
  obtain ⟨o, fp', r', e3, p3, _, _⟩ := h3.at hj
  obtain ⟨_, v', ev, rv⟩ := p3
  subst ev
  have e4 : vs[j]? = some v' := by
    rw [List.getElem?_map] at e3
    obtain ⟨y, hy, ey⟩ := Option.map_eq_some_iff.mp e3
    cases ey; exact hy
  exact ⟨x, C, dx, _, v', rfl, h1, hA.cl, hA.no, zip_lookup nd h2 hn e4, q v' F1 H1 [] f1 e1 W1.drop ⟨rfl, v', rfl, rv⟩⟩
/-- e.f, an owned list within, looked at -/
theorem x_fldL {α : Type} {p : VP α} {u : List α} (j : Nat) (he : XV Y e Γ s) (ho : OV s C ns Δ) (hA : At K C f) (hj : Δ[j]? = some (own (oL p) u) := by rfl) (hn : ns[j]? = some f := by rfl) (nd : ns.Nodup := by decide +kernel) (hb : ∀ i, attributeBase e f (Y.X i).env (eval e (Y.X i).env) = eval e (Y.X i).env := by intro _; rfl) : XV Y (.Attribute e f pos) Γ (borL p u) := by
  obtain ⟨t, pe, rd⟩ := he
  refine ⟨_, fun i => by have h := pe_fld (pos := pos) (pe i) (hb i); rw [Y.hK i] at h; exact h, fun B F H os σ Q I q => ?_⟩
  refine rd B F H os σ _ I fun v F1 H1 fp f1 e1 W1 p1 => ?_
  obtain ⟨x, dx, vs, o2, ev, h1, h2, h3⟩ := ho F1 H1 fp _ W1.sub p1
  cases ev
  obtain ⟨o, fp', r', e3, p3, _, _⟩ := h3.at hj
  obtain ⟨v', ev, l, ws, el, ef, g1, g2⟩ := p3
  subst ev
  have e4 : vs[j]? = some v' := by
    rw [List.getElem?_map] at e3
    obtain ⟨y, hy, ey⟩ := Option.map_eq_some_iff.mp e3
    cases ey; exact hy
  exact ⟨x, C, dx, _, v', rfl, h1, hA.cl, hA.no, zip_lookup nd h2 hn e4, q v' F1 H1 [] f1 e1 W1.drop ⟨rfl, l, ws, by rw [el], g1, g2⟩⟩
/-- an owned instance's name, looked at -/
theorem x_varO (j : Nat) (hs : Γ[j]? = some (obj C ns Δ) := by rfl) (hN : ∀ i, (Y.X i).N[j]? = some x := by intro _; rfl)
    (hv : ∀ i, Vis (Y.X i).env.scope x := by intro _; first | exact Or.inl rfl | exact Or.inr (Or.inl rfl) | exact Or.inr (Or.inr rfl)) (hd : (x == ("__debug__" : Str)) = false := by decide) (hcd : (x == ("__classdict__" : Str)) = false := by decide) : XV Y (.Name x pos) Γ (bobj C ns Δ) := by
  refine ⟨_, fun i => pe_var (hN i) (hv i) hd hcd, fun B F H os σ Q I q => ?_⟩
  obtain ⟨o, fp, e, y, dx, vs, o2, e1, e2, h1, h2, h3, h4⟩ := I.slot hs
  subst e1
  exact ⟨_, e, q _ F H [] same_refl same_refl I.W ⟨rfl, y, dx, vs, o2, rfl, h1, h3, h4⟩⟩
/-- a place within an owned instance at a place -/
theorem pl_fld {up : Slot → List Slot} (j : Nat) (ho : PL Y eo Γ (obj C ns Δ) up) (hA : At K C f) (hst : Stb Δ) (hso : ∀ F H fp o, s.P F H fp o → ∃ v, o = some v) (hj : Δ[j]? = some s := by rfl) (hn : ns[j]? = some f := by rfl) (nd : ns.Nodup := by decide +kernel) (hb : ∀ i, attributeBase eo f (Y.X i).env (eval eo (Y.X i).env) = eval eo (Y.X i).env := by intro _; rfl) :
    PL Y (.Attribute eo f pos) Γ s (fun s' => up (obj C ns (Δ.set j s'))) := by
  obtain ⟨t, Pv, pe, pst, rd, up'⟩ := ho
  refine ⟨_, fun σ H v => ∃ x dx vs, Pv σ H (.ref x) ∧ H x = some (.ins C dx (ns.zip vs)) ∧ vs.length = ns.length ∧ vs[j]? = some v, fun i => by have h := pe_fld (pos := pos) (pe i) (hb i); rw [Y.hK i] at h; exact h,
    fun σ H H' v hH h => let ⟨x, dx, vs, h1, h2, h3, h4⟩ := h; ⟨x, dx, vs, pst _ _ _ _ hH h1, hH _ _ h2, h3, h4⟩, fun B F H os σ Q I q => ?_, fun F H os σ v S hv => ?_⟩
  · refine rd B F H os σ _ I fun v hv => ?_
    obtain ⟨_, o2, r, hp, S⟩ := I
    obtain ⟨fp, r2, hr2, hp2, _⟩ := up' F H o2 σ v S hv
    obtain ⟨x, dx, vs, o3, e1, e2, h1, h2, h3, h4⟩ := hp2
    cases e1
    obtain ⟨o, fp', r', e3, p3, _, _⟩ := h4.at hj
    obtain ⟨v', rfl⟩ := hso _ _ _ _ p3
    have e4 : vs[j]? = some v' := by
      rw [List.getElem?_map] at e3
      obtain ⟨y, hy, ey⟩ := Option.map_eq_some_iff.mp e3
      cases ey; exact hy
    exact ⟨x, C, dx, _, v', rfl, h1, hA.cl, hA.no, zip_lookup nd h3 hn e4, q v' ⟨x, dx, vs, hv, h1, h3, e4⟩⟩
  · obtain ⟨x, dx, vs, hv1, h1, h2, h3⟩ := hv
    obtain ⟨fp, r2, hr2, hp2, kk⟩ := up' F H os σ _ S hv1
    obtain ⟨x', dx', vs', o3, e1, e2, g1, g2, g3, g4⟩ := hp2
    cases e1
    rw [h1] at g1
    have ez : ns.zip vs = ns.zip vs' := by
      have := Option.some.inj g1
      injection this
    have ed : dx = dx' := by
      have := Option.some.inj g1
      injection this
    subst ed
    have ev : vs = vs' := by
      have a1 : (ns.zip vs).map (·.2) = (ns.zip vs').map (·.2) := by rw [ez]
      rw [List.map_snd_zip (by omega), List.map_snd_zip (by omega)] at a1
      exact a1
    subst ev
    obtain ⟨o, fp', r', e3, p3, q3, k3⟩ := g4.at hj
    have eo' : o = some v := by
      rw [List.getElem?_map, h3] at e3
      exact (Option.some.inj e3).symm
    subst eo'
    subst e2
    refine ⟨fp', (x :: dx :: r') ++ r2, ?_, p3, fun F' H' fp2 s' hF hk hs' => ?_⟩
    · refine hr2.trans ?_
      have a1 : (x :: dx :: o3).Perm (fp' ++ (x :: dx :: r')) := by
        have : (x :: dx :: o3).Perm (x :: dx :: (fp' ++ r')) := (q3.cons dx).cons x
        refine this.trans ?_
        have a2 : (fp' ++ (x :: dx :: r')).Perm (x :: (fp' ++ (dx :: r'))) := List.perm_middle
        have a3 : (fp' ++ (dx :: r')).Perm (dx :: (fp' ++ r')) := List.perm_middle
        exact (a2.trans (a3.cons x)).symm
      have a4 := List.Perm.append_right r2 a1
      rw [List.append_assoc] at a4
      exact a4
    · obtain ⟨os', t1, t2⟩ := k3 hs' (fun s0 h0 fp0 o0 hf hp => s0.mm (hst s0 h0) hF (fun q hq => hk q (by simp [hf q hq])) hp)
      have es : (vs.map some).set j (some v) = vs.map some := by
        obtain ⟨hj', e⟩ := List.getElem?_eq_some_iff.mp e3
        rw [← e]; exact List.set_getElem_self hj'
      rw [es] at t1
      obtain ⟨os2, u1, u2⟩ := kk F' H' (x :: dx :: os') (obj C ns (Δ.set j s')) hF (fun q hq => hk q (by simp [hq])) ⟨x, dx, vs, os', rfl, rfl, by rw [hk x (by simp)]; exact h1, by rw [hk dx (by simp)]; exact g2, h2, t1⟩
      refine ⟨os2, u1, u2.trans ?_⟩
      have a1 : (x :: dx :: os').Perm (x :: dx :: (fp2 ++ r')) := (t2.cons dx).cons x
      have a2 : (fp2 ++ (x :: dx :: r')).Perm (x :: (fp2 ++ (dx :: r'))) := List.perm_middle
      have a3 : (fp2 ++ (dx :: r')).Perm (dx :: (fp2 ++ r')) := List.perm_middle
      have a5 := List.Perm.append_right r2 (a1.trans (a2.trans (a3.cons x)).symm)
      rw [List.append_assoc] at a5
      exact a5
/-- o.f = e, the attribute there -/
theorem go_setfld {up : Slot → List Slot} {pos' : Pos} (j : Nat) (ho : PL Y eo Γ (obj C ns Δ) up) (he : XV Y e Γ r) (hA : At K C f) (hst : Stb Δ) (hr : r.st) (hg : Go Y i rest D B (up (obj C ns (Δ.set j r)))) (hj : Nat.blt j Δ.length = true := by rfl) (hn : ns[j]? = some f := by rfl) (nd : ns.Nodup := by decide +kernel) (hl : Nat.blt ns.length 1000 = true := by rfl)
    (hs : swapsWith e (some (.Attribute eo f pos')) pos.line (Y.X i).env = pure false := by rfl) : Go Y i (.Assign [.Attribute eo f pos'] e pos :: rest) D B Γ := by
  obtain ⟨t, Pv, pe, pst, rd, up'⟩ := ho
  obtain ⟨t2, pe2, rd2⟩ := he
  refine go_ps (ps_fld (pe i) (pe2 i) hs) fun F H σ ⟨os, W, S⟩ => ?_
  refine rd2 B F H os σ _ (Sta.in W S) fun y F1 H1 fy f1 e1 W1 p1 => ?_
  refine rd B F1 H1 _ σ _ ((Sta.in W S).step f1 e1 W1) fun v hv => ?_
  obtain ⟨fp, r2, hr2, hp2, kk⟩ := up' F1 H1 os σ v (S.mono f1 e1) hv
  obtain ⟨x, dx, vs, o3, ex, e2, g1, g2, g3, g4⟩ := hp2
  cases ex
  subst e2
  have W2 : Wo B F1 H1 (fy ++ ((x :: dx :: o3) ++ r2)) := W1.perm (List.Perm.append_left fy hr2)
  have nd2 := W2.nd
  have hx : ∀ q, q ∈ fy ∨ q ∈ dx :: o3 ∨ q ∈ r2 → q ≠ x := fun q hq e => by
    subst e
    have a1 := List.nodup_append.mp nd2
    rcases hq with hq | hq | hq
    · exact a1.2.2 q hq q (by simp) rfl
    · have a2 := List.nodup_append.mp a1.2.1
      exact (List.nodup_cons.mp a2.1).1 hq
    · have a2 := List.nodup_append.mp a1.2.1
      exact a2.2.2 q (by simp) q hq rfl
  rw [Y.hK i]
  refine ⟨x, C, dx, _, rfl, g1, hA.cl, hA.no, ?_, ?_⟩
  · rw [List.length_zip]
    have := Nat.le_of_ble_eq_true hl
    omega
  rw [zip_put nd g3 hn]
  have W3 : Wo B F1 (upd H1 x (.ins C dx (ns.zip (vs.set j y)))) (fy ++ ((x :: dx :: o3) ++ r2)) := W2.write (by simp)
  have hfy : ∀ q ∈ fy, q ≠ x := fun q hq => hx q (.inl hq)
  have g5 : Slots F1 (upd H1 x (.ins C dx (ns.zip (vs.set j y)))) o3 (vs.map some) Δ := g4.mm same_refl hst fun q hq => upd_ne (hx q (by simp [hq]))
  have p5 : r.P F1 (upd H1 x (.ins C dx (ns.zip (vs.set j y)))) fy (some y) := r.mm hr same_refl (fun q hq => upd_ne (hfy q hq)) p1
  obtain ⟨o6, d6, t6, u6⟩ := g5.put p5 (Nat.le_of_ble_eq_true hj)
  rw [← List.map_set] at t6
  have hdx : dx ≠ x := hx dx (by simp)
  obtain ⟨os2, v1, v2⟩ := kk F1 (upd H1 x (.ins C dx (ns.zip (vs.set j y)))) (x :: dx :: o6) (obj C ns (Δ.set j r)) same_refl (fun q hq => upd_ne (hx q (by simp [hq]))) ⟨x, dx, vs.set j y, o6, rfl, rfl, upd_same, by rw [upd_ne hdx]; exact g2, by simp [g3], t6⟩
  refine hg F1 _ σ ⟨os2, (Wo.drop (a := d6) (W3.perm ?_)).perm v2.symm, v1⟩
  have b1 : (fy ++ ((x :: dx :: o3) ++ r2)).Perm (x :: dx :: ((fy ++ o3) ++ r2)) := by
    have c1 : (fy ++ (x :: (dx :: (o3 ++ r2)))).Perm (x :: (fy ++ (dx :: (o3 ++ r2)))) := List.perm_middle
    have c2 : (fy ++ (dx :: (o3 ++ r2))).Perm (dx :: (fy ++ (o3 ++ r2))) := List.perm_middle
    have c3 := c1.trans (c2.cons x)
    rw [List.append_assoc]; exact c3
  have b2 : (x :: dx :: ((fy ++ o3) ++ r2)).Perm (x :: dx :: ((d6 ++ o6) ++ r2)) := ((List.Perm.append_right r2 u6).cons dx).cons x
  refine (b1.trans b2).trans ?_
  have b3 : (d6 ++ (x :: (dx :: (o6 ++ r2)))).Perm (x :: (d6 ++ (dx :: (o6 ++ r2)))) := List.perm_middle
  have b4 : (d6 ++ (dx :: (o6 ++ r2))).Perm (dx :: (d6 ++ (o6 ++ r2))) := List.perm_middle
  have b5 := (b3.trans (b4.cons x)).symm
  rw [List.append_assoc]; exact b5
/-- o.f = e, a new attribute -/
theorem go_newfld {up : Slot → List Slot} {pos' : Pos} (ho : PL Y eo Γ (obj C ns Δ) up) (he : XV Y e Γ r) (hA : At K C f) (hst : Stb Δ) (hr : r.st) (hg : Go Y i rest D B (up (obj C (ns ++ [f]) (Δ ++ [r])))) (hn : ns.contains f = false := by decide +kernel) (hl : Nat.blt ns.length 1000 = true := by rfl)
    (hs : swapsWith e (some (.Attribute eo f pos')) pos.line (Y.X i).env = pure false := by rfl) : Go Y i (.Assign [.Attribute eo f pos'] e pos :: rest) D B Γ := by
  obtain ⟨t, Pv, pe, pst, rd, up'⟩ := ho
  obtain ⟨t2, pe2, rd2⟩ := he
  refine go_ps (ps_fld (pe i) (pe2 i) hs) fun F H σ ⟨os, W, S⟩ => ?_
  refine rd2 B F H os σ _ (Sta.in W S) fun y F1 H1 fy f1 e1 W1 p1 => ?_
  refine rd B F1 H1 _ σ _ ((Sta.in W S).step f1 e1 W1) fun v hv => ?_
  obtain ⟨fp, r2, hr2, hp2, kk⟩ := up' F1 H1 os σ v (S.mono f1 e1) hv
  obtain ⟨x, dx, vs, o3, ex, e2, g1, g2, g3, g4⟩ := hp2
  cases ex
  subst e2
  have W2 : Wo B F1 H1 (fy ++ ((x :: dx :: o3) ++ r2)) := W1.perm (List.Perm.append_left fy hr2)
  have nd2 := W2.nd
  have hx : ∀ q, q ∈ fy ∨ q ∈ dx :: o3 ∨ q ∈ r2 → q ≠ x := fun q hq e => by
    subst e
    have a1 := List.nodup_append.mp nd2
    rcases hq with hq | hq | hq
    · exact a1.2.2 q hq q (by simp) rfl
    · have a2 := List.nodup_append.mp a1.2.1
      exact (List.nodup_cons.mp a2.1).1 hq
    · have a2 := List.nodup_append.mp a1.2.1
      exact a2.2.2 q (by simp) q hq rfl
  rw [Y.hK i]
  refine ⟨x, C, dx, _, rfl, g1, hA.cl, hA.no, ?_, ?_⟩
  · rw [List.length_zip]
    have := Nat.le_of_ble_eq_true hl
    omega
  have hnf : f ∉ ns := fun z => by
    have := List.contains_iff_mem.mpr z
    rw [hn] at this; cases this
  rw [zip_new g3 hnf]
  have W3 : Wo B F1 (upd H1 x (.ins C dx ((ns ++ [f]).zip (vs ++ [y])))) (fy ++ ((x :: dx :: o3) ++ r2)) := W2.write (by simp)
  have hfy : ∀ q ∈ fy, q ≠ x := fun q hq => hx q (.inl hq)
  have g5 : Slots F1 (upd H1 x (.ins C dx ((ns ++ [f]).zip (vs ++ [y])))) o3 (vs.map some) Δ := g4.mm same_refl hst fun q hq => upd_ne (hx q (by simp [hq]))
  have p5 : r.P F1 (upd H1 x (.ins C dx ((ns ++ [f]).zip (vs ++ [y])))) fy (some y) := r.mm hr same_refl (fun q hq => upd_ne (hfy q hq)) p1
  have t6 := g5.append (Slots.cons p5 .nil)
  rw [List.append_nil, show vs.map some ++ [some y] = (vs ++ [y]).map some by simp] at t6
  have hdx : dx ≠ x := hx dx (by simp)
  obtain ⟨os2, v1, v2⟩ := kk F1 (upd H1 x (.ins C dx ((ns ++ [f]).zip (vs ++ [y])))) (x :: dx :: (o3 ++ fy)) (obj C (ns ++ [f]) (Δ ++ [r])) same_refl (fun q hq => upd_ne (hx q (by simp [hq]))) ⟨x, dx, vs ++ [y], o3 ++ fy, rfl, rfl, upd_same, by rw [upd_ne hdx]; exact g2, by simp [g3], t6⟩
  refine hg F1 _ σ ⟨os2, (W3.perm ?_).perm v2.symm, v1⟩
  have b1 : (fy ++ ((x :: dx :: o3) ++ r2)).Perm (x :: dx :: ((fy ++ o3) ++ r2)) := by
    have c1 : (fy ++ (x :: (dx :: (o3 ++ r2)))).Perm (x :: (fy ++ (dx :: (o3 ++ r2)))) := List.perm_middle
    have c2 : (fy ++ (dx :: (o3 ++ r2))).Perm (dx :: (fy ++ (o3 ++ r2))) := List.perm_middle
    have c3 := c1.trans (c2.cons x)
    rw [List.append_assoc]; exact c3
  refine b1.trans ?_
  exact ((List.Perm.append_right r2 List.perm_append_comm).cons dx).cons x
/-- o.f += e of ints -/
theorem go_augfld {up : Slot → List Slot} {tpos : Pos} {op : Operator} {g : Int → Int → Int} {m n : Int} (j : Nat) (ho : PL Y eo Γ (obj C ns Δ) up) (he : XV Y e Γ (vInt n)) (hop : ∀ i, InOp (Y.X i) op (fun x y H Q => ∃ i j, x = .int i ∧ y = .int j ∧ Q (.int (g i j)) H)) (hA : At K C f) (hst : Stb Δ)
    (hg : Go Y i rest D B (up (obj C ns (Δ.set j (vInt (g m n)))))) (hm : Δ[j]? = some (vInt m) := by rfl) (hn : ns[j]? = some f := by rfl) (nd : ns.Nodup := by decide +kernel) (hl : Nat.blt ns.length 1000 = true := by rfl) : Go Y i (.AugAssign (.Attribute eo f tpos) op e pos :: rest) D B Γ := by
  obtain ⟨t, Pv, pe, pst, rd, up'⟩ := ho
  obtain ⟨t2, pe2, rd2⟩ := he
  refine go_ps (ps_fldaug (pe i) (pe2 i) (hop i)) fun F H σ ⟨os, W, S⟩ => ?_
  refine rd B F H _ σ _ (Sta.in W S) fun v hv => ?_
  obtain ⟨fp, r2, hr2, hp2, _⟩ := up' F H os σ v S hv
  obtain ⟨x, dx, vs, o3, ex, e2, g1, g2, g3, g4⟩ := hp2
  cases ex
  obtain ⟨o, fp', r', e3, p3, _, _⟩ := g4.at hm
  obtain ⟨_, v', rfl, rv⟩ := p3
  have e4 : vs[j]? = some v' := by
    rw [List.getElem?_map] at e3
    obtain ⟨y, hy, ey⟩ := Option.map_eq_some_iff.mp e3
    cases ey; exact hy
  rw [Y.hK i]
  refine ⟨x, C, dx, _, v', rfl, g1, hA.cl, hA.no, zip_lookup nd g3 hn e4, ?_⟩
  have rv' : v' = .int m := rv
  subst rv'
  refine rd2 B F H os σ _ (Sta.in W S) fun y F1 H1 fy f1 e1 W1 p1 => ?_
  obtain rfl := vint p1
  refine ⟨m, n, rfl, rfl, dx, _, e1 _ _ g1, ?_, ?_⟩
  · rw [List.length_zip]
    have := Nat.le_of_ble_eq_true hl
    omega
  rw [zip_put nd g3 hn]
  obtain ⟨fp, r2, hr2, hp2, kk⟩ := up' F1 H1 os σ _ (S.mono f1 e1) (pst _ _ _ _ e1 hv)
  obtain ⟨x', dx', vs', o3', ex, e2, g1', g2', g3', g4'⟩ := hp2
  cases ex
  subst e2
  rw [e1 _ _ g1] at g1'
  have ez : ns.zip vs = ns.zip vs' := by
    have := Option.some.inj g1'
    injection this
  have ed : dx = dx' := by
    have := Option.some.inj g1'
    injection this
  subst ed
  have ev : vs = vs' := by
    have a1 : (ns.zip vs).map (·.2) = (ns.zip vs').map (·.2) := by rw [ez]
    rw [List.map_snd_zip (by omega), List.map_snd_zip (by omega)] at a1
    exact a1
  subst ev
  have W2 : Wo B F1 H1 ((x :: dx :: o3') ++ r2) := W1.drop.perm hr2
  have nd2 := W2.nd
  have hx : ∀ q, q ∈ dx :: o3' ∨ q ∈ r2 → q ≠ x := fun q hq e => by
    subst e
    have a2 := List.nodup_append.mp nd2
    rcases hq with hq | hq
    · exact (List.nodup_cons.mp a2.1).1 hq
    · exact a2.2.2 q (by simp) q hq rfl
  have W3 : Wo B F1 (upd H1 x (.ins C dx (ns.zip (vs.set j (.int (g m n)))))) ((x :: dx :: o3') ++ r2) := W2.write (by simp)
  have g5 : Slots F1 (upd H1 x (.ins C dx (ns.zip (vs.set j (.int (g m n)))))) o3' (vs.map some) Δ := g4'.mm same_refl hst fun q hq => upd_ne (hx q (by simp [hq]))
  have p5 : (vInt (g m n)).P F1 (upd H1 x (.ins C dx (ns.zip (vs.set j (.int (g m n)))))) [] (some (.int (g m n))) := ⟨rfl, _, rfl, rfl⟩
  obtain ⟨o6, d6, t6, u6⟩ := g5.put p5 (List.getElem?_eq_some_iff.mp hm).1
  rw [← List.map_set] at t6
  have hdx : dx ≠ x := hx dx (by simp)
  obtain ⟨os2, v1, v2⟩ := kk F1 (upd H1 x (.ins C dx (ns.zip (vs.set j (.int (g m n)))))) (x :: dx :: o6) (obj C ns (Δ.set j (vInt (g m n)))) same_refl (fun q hq => upd_ne (hx q (by simp [hq]))) ⟨x, dx, vs.set j _, o6, rfl, rfl, upd_same, by rw [upd_ne hdx]; exact g2', by simp [g3], t6⟩
  refine hg F1 _ σ ⟨os2, (Wo.drop (a := d6) (W3.perm ?_)).perm v2.symm, v1⟩
  have b2 : (x :: dx :: (o3' ++ r2)).Perm (x :: dx :: ((d6 ++ o6) ++ r2)) := ((List.Perm.append_right r2 (by simpa using u6)).cons dx).cons x
  refine b2.trans ?_
  have b3 : (d6 ++ (x :: (dx :: (o6 ++ r2)))).Perm (x :: (d6 ++ (dx :: (o6 ++ r2)))) := List.perm_middle
  have b4 : (d6 ++ (dx :: (o6 ++ r2))).Perm (dx :: (d6 ++ (o6 ++ r2))) := List.perm_middle
  have b5 := (b3.trans (b4.cons x)).symm
  rw [List.append_assoc]; exact b5
/-- all of them frozen values -/
def AllV : List Slot → Prop
  | [] => True
  | s :: r => (∃ (α : Type) (p : VP α) (u : α), s = Ty.val p u) ∧ AllV r
theorem AllV.no {F H : Hp} : ∀ {Γ : List Slot} {os : List Addr} {σ : List (Option V)}, AllV Γ → Slots F H os σ Γ → os = [] ∧ Slots F F [] σ Γ
  | [], _, _, _, S => by cases S; exact ⟨rfl, .nil⟩
  | s :: Γ, _, _, h, S => by
    cases S with
    | @cons fp os o σ _ _ p q =>
      obtain ⟨⟨α, p', u, rfl⟩, h2⟩ := h
      obtain ⟨e1, v, e2, rv⟩ := p
      obtain ⟨e3, t⟩ := AllV.no h2 q
      subst e1; subst e3
      exact ⟨rfl, Slots.cons (fp := []) ⟨rfl, v, e2, rv⟩ t⟩
/-- an owned instance frozen -/
theorem WkS.obj {α : Type} {sl : α → List Slot} {z : α} (hw : WkL Δ (sl z)) (hv : AllV (sl z)) : WkS (Ty.obj C ns Δ) (Ty.val (pObj C ns sl) z) := fun F H fp o hS h => by
  obtain ⟨x, dx, vs, os, e1, e2, h1, h2, h3, h4⟩ := h
  obtain ⟨xx, yy, hp, kk⟩ := h4.wk hS hw
  obtain ⟨rfl, _⟩ := hv.no (kk H hS same_refl fun _ _ => rfl)
  subst e2
  refine ⟨x :: dx :: os, [], by simp, fun F' hF hs hx => ⟨rfl, _, e1, x, dx, vs, rfl, by rw [hx x (by simp)]; exact h1, h3, (hv.no (kk F' hF hs fun q hq => hx q ?_)).2⟩⟩
  have := hp.mem_iff.mpr (by simpa using hq)
  simp [this]

/-! ### what is handed in is kept by name -/
/-- s, held at the value v -/
def hold (s : Slot) (v : V) : Slot where
  P := fun F H fp o => o = some v ∧ s.P F H fp o
  mono := fun hF hH h => ⟨h.1, s.mono hF hH h.2⟩
  st := s.st
  mm := fun hs {_ _ _ _ _ _} hF hH h => ⟨h.1, s.mm hs hF hH h.2⟩
theorem pl_hold {v0 : V} (j : Nat) (hst : Stb Γ) (hs : Γ[j]? = some (hold s v0) := by rfl) (hN : ∀ i, (Y.X i).N[j]? = some x := by intro _; rfl)
    (hv : ∀ i, Vis (Y.X i).env.scope x := by intro _; first | exact Or.inl rfl | exact Or.inr (Or.inl rfl) | exact Or.inr (Or.inr rfl)) (hd : (x == ("__debug__" : Str)) = false := by decide) (hcd : (x == ("__classdict__" : Str)) = false := by decide) : PL Y (.Name x pos) Γ s (fun s' => Γ.set j (hold s' v0)) := by
  refine ⟨_, fun σ H v => σ[j]? = some (some v), fun i => pe_var (hN i) (hv i) hd hcd, fun σ H H' v _ h => h, fun B F H os σ Q I q => ?_, fun F H os σ v S hv => ?_⟩
  · obtain ⟨o, fp, e, h⟩ := I.slot hs
    obtain ⟨rfl, _⟩ := h
    exact ⟨v0, e, q v0 e⟩
  · obtain ⟨o, fp, r, e, p, q, kk⟩ := S.at hs
    rw [hv] at e; cases e
    obtain ⟨e0, p⟩ := p
    refine ⟨fp, r, q, p, fun F' H' fp' s' hF hk hs' => ?_⟩
    obtain ⟨os', h1, h2⟩ := kk (s' := hold s' v0) ⟨e0, hs'⟩ (fun s0 h0 fp0 o0 hf hp => s0.mm (hst s0 h0) hF (fun z hz => hk z (hf z hz)) hp)
    have es : σ.set j (some v) = σ := by
      obtain ⟨hj, e⟩ := List.getElem?_eq_some_iff.mp hv
      rw [← e]; exact List.set_getElem_self hj
    rw [es] at h1
    exact ⟨os', h1, h2⟩
theorem x_varH {v0 : V} (j : Nat) (hs : Γ[j]? = some (hold (obj C ns Δ) v0) := by rfl) (hN : ∀ i, (Y.X i).N[j]? = some x := by intro _; rfl)
    (hv : ∀ i, Vis (Y.X i).env.scope x := by intro _; first | exact Or.inl rfl | exact Or.inr (Or.inl rfl) | exact Or.inr (Or.inr rfl)) (hd : (x == ("__debug__" : Str)) = false := by decide) (hcd : (x == ("__classdict__" : Str)) = false := by decide) : XV Y (.Name x pos) Γ (bobj C ns Δ) := by
  refine ⟨_, fun i => pe_var (hN i) (hv i) hd hcd, fun B F H os σ Q I q => ?_⟩
  obtain ⟨o, fp, e, _, y, dx, vs, o2, e1, e2, h1, h2, h3, h4⟩ := I.slot hs
  subst e1
  exact ⟨_, e, q _ F H [] same_refl same_refl I.W ⟨rfl, y, dx, vs, o2, rfl, h1, h3, h4⟩⟩
theorem obj_some : ∀ F H fp o, (obj C ns Δ).P F H fp o → ∃ v, o = some v := fun F H fp o h => let ⟨_, _, _, _, e, _⟩ := h; ⟨_, e⟩
theorem val_some {α : Type} {p : VP α} {u : α} : ∀ F H fp o, (val p u).P F H fp o → ∃ v, o = some v := fun F H fp o h => let ⟨_, v, e, _⟩ := h; ⟨v, e⟩

/-! ### defs that change their first argument -/
def spM {ι μ ρ : Type} (s0 : ι → Slot) (As : ι → List Slot) (m : ι → Option (μ × ρ)) (s1 : μ → Slot) (Sr : ρ → Slot) : Sp := fun vs H Q _ => ∃ (z : ι) (r : μ × ρ) (F : Hp) (fp : List Addr) (v0 : V) (ws : List V), vs = v0 :: ws ∧ m z = some r ∧ Wo ⟨F, H, fp⟩ F H fp ∧ (s0 z).P F H fp (some v0) ∧ Slots F H [] (ws.map some) (As z) ∧
  ∀ v F' H' f1 f2, Wo ⟨F, H, fp⟩ F' H' (f2 ++ f1) → (s1 r.1).P F' H' f1 (some v0) → (Sr r.2).P F' H' f2 (some v) → Q v H'
/-- the ends of such a body -/
def DM {μ ρ : Type} (B : Bs) (v0 : V) (s1 : μ → Slot) (Sr : ρ → Slot) (r : μ × ρ) : Ends where
  nx := fun _ H => ∃ F f1 f2, Wo B F H (f2 ++ f1) ∧ (s1 r.1).P F H f1 (some v0) ∧ (Sr r.2).P F H f2 (some .non)
  rt := fun v H => ∃ F f1 f2, Wo B F H (f2 ++ f1) ∧ (s1 r.1).P F H f1 (some v0) ∧ (Sr r.2).P F H f2 (some v)
theorem fn_mut {ι μ ρ : Type} {s0 : ι → Slot} {As : ι → List Slot} {m : ι → Option (μ × ρ)} {s1 : μ → Slot} {Sr : ρ → Slot} {x qual : Str} {st : Stmt} {f : Addr} {fd : FuncData} {N ps : List Str} (Fn : Fun K x qual st f fd) (S : FnScope N ps (defScope st)) (hlen : ∀ z, (As z).length + 1 = ps.length)
    (body : ∀ (cdv : Value) (A : Around) (outer : List Env) (s : Shared) (H : Hp) (E : XK) (hr : Room k (A.deeper (envOfC qual (defScope st) s.heap.objs.size f cdv))) (z : ι) (r : μ × ρ) (v0 : V) (B : Bs), m z = some r →
      Go (fb P w K mg base N qual st f cdv A outer s H E k hr S.nd) () (defBody st) (DM B v0 s1 Sr r) B (hold (s0 z) v0 :: As z ++ List.replicate (N.length - ps.length) dead)) : FnOk P w K mg base CX0 (k + 1) f fd ps (spM s0 As m s1 Sr) := by
  refine Fn.ok S (fun vs H Q E h => ?_) (fun cdv A outer s H vs Q E hr h => ?_)
  · obtain ⟨z, r, F, fp, v0, ws, rfl, _, _, _, Sl, _⟩ := h
    have e := Sl.length
    rw [List.length_map] at e
    rw [List.length_cons, e, hlen]
  · obtain ⟨z, r, F, fp, v0, ws, rfl, hm, hW, hp, Sl, q⟩ := h
    refine ⟨_, pss_cont, ?_⟩
    have go := body cdv A outer s H E hr z r v0 ⟨F, H, fp⟩ hm
    have S0 : Sta ⟨F, H, fp⟩ F H (L2.start N (v0 :: ws)) (hold (s0 z) v0 :: As z ++ List.replicate (N.length - ps.length) dead) := by
      refine ⟨fp, hW, ?_⟩
      unfold L2.start
      have e := Sl.length
      rw [List.length_map] at e
      rw [List.length_cons, e, hlen]
      have e1 := Slots.cons (s := hold (s0 z) v0) ⟨rfl, hp⟩ (Slots.append Sl (slots_dead (F := F) (H := H) (N.length - ps.length)))
      simpa using e1
    exact cont_mono (go F H _ S0) (fun σ H' ⟨F', f1, f2, W', p', q'⟩ => q .non F' H' f1 f2 W' p' q') (fun v H' ⟨F', f1, f2, W', p', q'⟩ => q v F' H' f1 f2 W' p' q') (fun _ _ z => z.elim) (fun _ _ z => z.elim)
/-- the body falls off its end -/
theorem go_nilM {μ ρ : Type} {v0 : V} {s1 : μ → Slot} {Sr : ρ → Slot} {r : μ × ρ} (j : Nat) (hs : Γ[j]? = some (hold (s1 r.1) v0) := by rfl) (hr : ∀ F H, (Sr r.2).P F H [] (some .non) := by intro _ _; exact ⟨rfl, _, rfl, rfl⟩) : Go Y i [] (DM B v0 s1 Sr r) B Γ :=
  go_nil fun σ H ⟨F, os, W, S⟩ => by
    obtain ⟨o, fp, r', e, p, q, _⟩ := S.at hs
    obtain ⟨rfl, p⟩ := p
    exact ⟨F, fp, [], (W.perm q).dropR, p, hr _ _⟩
theorem go_retM {μ ρ : Type} {v0 : V} {s1 : μ → Slot} {Sr : ρ → Slot} {r : μ × ρ} (j : Nat) (h : XV Y e Γ (Sr r.2)) (hs : Γ[j]? = some (hold (s1 r.1) v0) := by rfl) : Go Y i (.Return (some e) pos :: rest) (DM B v0 s1 Sr r) B Γ := by
  obtain ⟨t, p, rd⟩ := h
  refine go_ps (ps_ret (p i)) fun F H σ ⟨os, W, S⟩ => ?_
  refine rd B F H os σ _ (Sta.in W S) fun v F1 H1 fp f1 e1 W1 p1 => ?_
  obtain ⟨o, fp2, r', e, p, q, _⟩ := (S.mono f1 e1).at hs
  obtain ⟨rfl, p⟩ := p
  refine ⟨F1, fp2, fp, ?_, p, p1⟩
  have := W1.perm (List.Perm.append_left fp q)
  rw [← List.append_assoc] at this
  exact this.dropR
/-- behind a call that changes what is at fp -/
theorem Wo.calledM {F H F' H' : Hp} {os fp r fp' : List Addr} (W : Wo B F H os) (hp : os.Perm (fp ++ r)) (W4 : Wo ⟨F, H, fp⟩ F' H' fp') : Same F F' ∧ (∀ q ∈ r, H' q = H q) ∧ Wo B F' H' (fp' ++ r) := by
  have W1 := W.perm hp
  have nd := List.nodup_append.mp W1.nd
  have hr : ∀ q ∈ r, q ∉ fp := fun q hq hf => nd.2.2 q hf q hq rfl
  have hH : ∀ q ∈ r, H' q = H q := fun q hq => by
    obtain ⟨o, ho⟩ := W1.oH q (List.mem_append_right _ hq)
    rw [ho]; exact W4.bH q o ho (hr q hq)
  have own_old : ∀ q ∈ r, F' q = none := fun q hq => by
    cases z : F' q with
    | none => rfl
    | some u =>
      obtain ⟨o, ho⟩ := W1.oH q (List.mem_append_right _ hq)
      rcases W4.bN q u z with y | y | y
      · have y' : F q = some u := y
        rw [W1.oF q (List.mem_append_right _ hq)] at y'; cases y'
      · have y' : H q = none := y
        rw [ho] at y'; cases y'
      · exact absurd y (hr q hq)
  refine ⟨W4.bF, hH, W4.sub, List.nodup_append.mpr ⟨W4.nd, nd.2.1, fun q hq q' hq' e => ?_⟩, fun q hq => ?_, fun q hq => ?_, W.bF.trans W4.bF, fun q u e hb => ?_, fun q u e => ?_, fun q hq => ?_⟩
  · subst e
    rcases W4.bO q hq with y | y
    · have y' : H q = none := y
      obtain ⟨o, ho⟩ := W1.oH q (List.mem_append_right _ hq')
      rw [ho] at y'; cases y'
    · exact hr q hq' y
  · rcases List.mem_append.mp hq with hq | hq
    · exact W4.oF q hq
    · exact own_old q hq
  · rcases List.mem_append.mp hq with hq | hq
    · exact W4.oH q hq
    · obtain ⟨o, ho⟩ := W1.oH q (List.mem_append_right _ hq)
      exact ⟨o, by rw [hH q hq]; exact ho⟩
  · by_cases hf : q ∈ fp
    · exfalso
      rcases W1.bO q (List.mem_append_left _ hf) with z | z
      · rw [z] at e; cases e
      · exact hb z
    · exact W4.bH q u (W.bH q u e hb) hf
  · rcases W4.bN q u e with y | y | y
    · exact W.bN q u y
    · exact .inr (W.bFree y)
    · exact .inr (W1.bO q (List.mem_append_left _ y))
  · rcases List.mem_append.mp hq with hq | hq
    · rcases W4.bO q hq with y | y
      · exact W.bFree y
      · exact W1.bO q (List.mem_append_left _ y)
    · exact W1.bO q (List.mem_append_right _ hq)
theorem Wo.here {F H : Hp} {os fp r : List Addr} (W : Wo B F H os) (hp : os.Perm (fp ++ r)) : Wo ⟨F, H, fp⟩ F H fp := (W.perm hp).dropR.self
theorem lookup_no {vs : List V} (hns : ns.contains f = false) : (ns.zip vs).lookup f = none := zip_lookup_none fun z => by
  have := List.contains_iff_mem.mpr z
  rw [hns] at this; cases this
/-- o.m(e, ..), the answer dropped -/
theorem go_meth {ι μ ρ : Type} {s0 : ι → Slot} {As : ι → List Slot} {m : ι → Option (μ × ρ)} {s1 : μ → Slot} {Sr : ρ → Slot} {args : List Slot} {z : ι} {q : μ × ρ} {j : Nat} {g : Addr} {fd : FuncData} {ps : List Str} {up : Slot → List Slot} {apos cpos : Pos} {pl : Sem Bool}
    (Fn : FnOk P w K mg base CX0 j g fd ps (spM s0 As m s1 Sr)) (hj : j ≤ k) (hc : Cls K C) (hm : Meth K C f g) (hb : Binds K fd ps []) (ho : PL Y eo Γ (obj C ns Δ) up) (h0 : s0 z = obj C ns Δ) (ha : XA Y (e :: es) Γ args) (hargs : args = As z) (hno : NoOwn args) (hq : m z = some q)
    (hg : Go Y i rest D B (up (s1 q.1))) (hns : ns.contains f = false := by decide +kernel)
    (hst : starEach (e :: es) (Y.X i).env = (false, eval e (Y.X i).env) :: starEach es (Y.X i).env := by rfl) (hpl : (backTo cpos (starEach es (Y.X i).env)).any (·.1) = false := by rfl)
    (ht : eval (.Call (.Attribute eo f apos) (e :: es) [] cpos) (Y.X i).env = (do
      let ov ← eval eo (Y.X i).env
      standAt apos.atName
      let (f, first) ← holding [ov] (getMethod ov f pl)
      callWith cpos f first (backTo cpos (starEach (e :: es) (Y.X i).env)) (backToKw cpos (keywordEach [] (Y.X i).env))) := by rfl)
    (hs : swapsWith (.Call (.Attribute eo f apos) (e :: es) [] cpos) none pos.line (Y.X i).env = pure false := by rfl) (hcm : Y.cm = true := by rfl) : Go Y i (.Expr (.Call (.Attribute eo f apos) (e :: es) [] cpos) pos :: rest) D B Γ := by
  subst hargs
  obtain ⟨t, Pv, pe, pst, rd, up'⟩ := ho
  obtain ⟨ta, pa, ra⟩ := ha
  have FF : FnOk (Y.X i).prog (Y.X i).w (Y.X i).K (Y.X i).mg (Y.X i).base CX0 j g fd ps (spM s0 As m s1 Sr) := by rw [Y.hP i, Y.hw i, Y.hK i, Y.hM i, Y.hB i]; exact Fn
  refine go_ps (ps_expr (pe_meth (pl := pl) (pe i) (by rw [Y.hK i]; exact hc) (by rw [Y.hK i]; exact hm) FF ((Y.hR hcm i).mono hj) (by rw [Y.hK i]; exact hb) .nil pass0 (pa i) hst hpl ht) hs) fun F H σ ⟨os, W, S⟩ => ?_
  refine rd B F H os σ _ (Sta.in W S) fun v hv => ?_
  obtain ⟨fp, r2, hr2, hp2, _⟩ := up' F H os σ v S hv
  obtain ⟨x, dx, vs, o3, ex, e2, g1, g2, g3, g4⟩ := hp2
  cases ex
  refine ⟨x, dx, _, rfl, g1, lookup_no hns, ?_⟩
  refine ra B F H os σ _ (Sta.in W S) fun ws F1 H1 fa f1 e1 W1 S1 => ?_
  obtain rfl := hno.nil S1
  obtain ⟨fp, r2, hr2, hp2, kk⟩ := up' F1 H1 os σ _ (S.mono f1 e1) (pst _ _ _ _ e1 hv)
  rw [List.append_nil]
  refine ⟨z, q, F1, fp, _, ws, rfl, hq, W1.here hr2, by rw [h0]; exact hp2, S1, fun v F2 H2 fp1 fp2 W2 p2 _ => ?_⟩
  obtain ⟨c1, c2, W3⟩ := Wo.calledM (os := os) W1 hr2 W2
  obtain ⟨os2, v1, v2⟩ := kk F2 H2 fp1 (s1 q.1) c1 c2 p2
  rw [List.append_assoc] at W3
  exact hg F2 H2 σ ⟨os2, W3.drop.perm v2.symm, v1⟩
/-- C(e, ..): a new instance -/
theorem x_make {ι μ ρ : Type} {s0 : ι → Slot} {As : ι → List Slot} {m : ι → Option (μ × ρ)} {s1 : μ → Slot} {Sr : ρ → Slot} {args : List Slot} {z : ι} {q : μ × ρ} {j : Nat} {g : Addr} {fd : FuncData} {ps : List Str}
    (Fn : FnOk P w K mg base CX0 j g fd ps (spM s0 As m s1 Sr)) (hj : j + 1 ≤ k) (M : Mk K C g) (hm : mg x = some (.ref C)) (hb : Binds K fd ps []) (ha : XA Y (e :: es) Γ args) (hargs : args = As z) (hno : NoOwn args) (h0 : s0 z = obj C [] []) (hq : m z = some q) (hr : Sr q.2 = vNon)
    (hg : ∀ i, Gl (Y.X i) x := by intro _; rfl) (hdb : (x == ("__debug__" : Str)) = false := by decide)
    (he : ∀ i, starEach (e :: es) (Y.X i).env = (false, eval e (Y.X i).env) :: starEach es (Y.X i).env := by intro _; rfl) (hpl : ∀ i, (backTo pos (starEach es (Y.X i).env)).any (·.1) = false := by intro _; rfl) (hcm : Y.cm = true := by rfl) : XV Y (.Call (.Name x p') (e :: es) [] pos) Γ (s1 q.1) := by
  subst hargs
  obtain ⟨t, pa, rd⟩ := ha
  have FF : ∀ i, FnOk (Y.X i).prog (Y.X i).w (Y.X i).K (Y.X i).mg (Y.X i).base CX0 j g fd ps (spM s0 As m s1 Sr) := fun i => by rw [Y.hP i, Y.hw i, Y.hK i, Y.hM i, Y.hB i]; exact Fn
  refine ⟨_, fun i => pe_make (by rw [Y.hK i]; exact M) (FF i) ((Y.hR hcm i).mono hj) (hg i) (by rw [Y.hM i]; exact hm) (by rw [Y.hK i]; exact hb) .nil pass0 (pa i) hdb (he i) (hpl i), fun B F H os σ Q I kk => ?_⟩
  refine rd B F H os σ _ I fun vs F1 H1 fp f1 e1 W1 S1 => ?_
  obtain rfl := hno.nil S1
  intro a dx ha hdx hne
  rw [List.append_nil]
  have hdx' : (upd H1 dx (.own a)) a = none := by rw [upd_ne (fun z => hne z.symm)]; exact ha
  have W1' : Wo B F1 H1 os := W1
  have W2 : Wo B F1 (upd (upd H1 dx (.own a)) a (.ins C dx [])) (a :: dx :: os) := (W1'.newO hdx).newO hdx'
  have e3 : Same H1 (upd (upd H1 dx (.own a)) a (.ins C dx [])) := (same_upd hdx).trans (same_upd hdx')
  refine ⟨z, q, F1, [a, dx], .ref a, vs, rfl, hq, W2.here (fp := [a, dx]) (r := os) (.refl _), ?_, S1.mono same_refl e3, fun v F2 H2 fp1 fp2 W3 p2 p3 => ?_⟩
  · rw [h0]
    exact ⟨a, dx, [], [], rfl, rfl, upd_same, by rw [upd_ne hne]; exact upd_same, rfl, .nil⟩
  · rw [hr] at p3
    obtain ⟨rfl, rv⟩ := val_P p3
    refine ⟨rv, ?_⟩
    obtain ⟨c1, c2, W4⟩ := Wo.calledM (os := a :: dx :: os) (fp := [a, dx]) (r := os) W2 (.refl _) W3
    refine kk _ F2 H2 fp1 (f1.trans c1) (e1.trans ?_) W4 p2
    intro b u hb
    refine W3.bH b u (e3 b u hb) ?_
    intro hm
    rcases List.mem_cons.mp hm with rfl | hm
    · rw [ha] at hb; cases hb
    · obtain rfl := List.mem_singleton.mp hm
      rw [hdx] at hb; cases hb
end
end Ty

/-! Ty8 -/
namespace Ty
open PySem PySem.Spec L2
open PyProof.Rows (envOfC)
section
variable {P : Program} {w : World} {K : PySem.W.Frag} {mg : Str → Option Value} {base : Heap} {k : Nat}
variable {Y : Fa P w K mg base k} {i : Y.I} {e ea eb eo ev tg iter elt : Expr} {es ifs : List Expr} {rest body : List Stmt} {Γ Γ' Γ1 Γ2 Δ Δ' : List Slot} {a b c r s s' : Slot} {pos : Pos} {B : Bs} {D : Ends} {x f : Str} {p' : Pos} {C : Addr} {ns : List Str}

/-! ### dicts -/
/-- a kind of key: ints, texts, or tuples of them -/
structure DQ (κ : Type) where
  pk : VP κ
  T : Type
  dT : DecidableEq T
  enc : κ → T
  inj : ∀ a b, enc a = enc b → a = b
  ho : List (T × V) → HO
  hinj : ∀ a b, ho a = ho b → a = b
  get : ∀ {F H : Hp} {a : Addr} {v : V} {k : κ} {kvs : List (T × V)}, Same F H → pk.R F v k → H a = some (ho kvs) → DGet H a v (valV kvs (enc k))
  put : ∀ {F H : Hp} {a : Addr} {v y : V} {k : κ} {kvs : List (T × V)}, Same F H → pk.R F v k → H a = some (ho kvs) → kvs.length < sizeLine → DPut H a v y (upd H a (ho (putK kvs (enc k) y)))
instance {κ : Type} (q : DQ κ) : DecidableEq q.T := q.dT
def dInt : DQ Int where
  pk := pInt
  T := Key
  dT := inferInstance
  enc := fun i => .inl i
  inj := fun a b h => Sum.inl.inj h
  ho := .dK
  hinj := fun a b h => by injection h
  get := fun _ hv h => by cases hv; exact DGet.k (k := .inl _) h
  put := fun _ hv h hl => by cases hv; exact DPut.k (k := .inl _) h hl
def dStr : DQ Str where
  pk := pStr
  T := Key
  dT := inferInstance
  enc := fun i => .inr i
  inj := fun a b h => Sum.inr.inj h
  ho := .dK
  hinj := fun a b h => by injection h
  get := fun _ hv h => by cases hv; exact DGet.k (k := .inr _) h
  put := fun _ hv h hl => by cases hv; exact DPut.k (k := .inr _) h hl
/-- keys that are tuples -/
def dTup {κ : Type} (pk : VP κ) (enc : κ → List Key) (inj : ∀ a b, enc a = enc b → a = b) (h : ∀ F v k, pk.R F v k → ∃ b, v = .ref b ∧ F b = some (.tup ((enc k).map kV))) : DQ κ where
  pk := pk
  T := List Key
  dT := inferInstance
  enc := enc
  inj := inj
  ho := .dT
  hinj := fun a b h => by injection h
  get := fun hS hv hd => by obtain ⟨b, rfl, hb⟩ := h _ _ _ hv; exact DGet.t hd (hS _ _ hb)
  put := fun hS hv hd hl => by obtain ⟨b, rfl, hb⟩ := h _ _ _ hv; exact DPut.t hd (hS _ _ hb) hl
def dII : DQ (Int × Int) := dTup (pT2 pInt pInt) (fun x => [.inl x.1, .inl x.2]) (fun a b h => by simp at h; exact Prod.ext h.1 h.2) fun F v k h => by
  obtain ⟨l, a, b, rfl, h1, h2, h3⟩ := h
  cases h2; cases h3
  exact ⟨l, rfl, h1⟩
theorem map_inl_inj : ∀ {a b : List Int}, a.map (fun i => (Sum.inl i : Key)) = b.map Sum.inl → a = b
  | [], [], _ => rfl
  | [], _ :: _, h => by simp at h
  | _ :: _, [], h => by simp at h
  | x :: a, y :: b, h => by
    simp only [List.map_cons, List.cons.injEq, Sum.inl.injEq] at h
    rw [h.1, map_inl_inj h.2]
def dInts : DQ (List Int) := dTup (pTup pInt) (fun x => x.map Sum.inl) (fun a b h => map_inl_inj h) fun F v k h => by
  obtain ⟨l, vs, rfl, h1, h2⟩ := h
  refine ⟨l, rfl, ?_⟩
  rw [h1, map_int_of h2, List.map_map]; rfl
section
variable {κ β α : Type} [DecidableEq κ]
def dget (kvs : List (κ × β)) (k : κ) : Option β := (kvs.find? fun kv => decide (kv.1 = k)).map (·.2)
def dput (kvs : List (κ × β)) (k : κ) (v : β) : List (κ × β) := if (kvs.any fun kv => decide (kv.1 = k)) = true then kvs.map (fun kv => if kv.1 = k then (kv.1, v) else kv) else kvs ++ [(k, v)]
variable {q : DQ κ} {p : VP β}
abbrev DRel (q : DQ κ) (p : VP β) (F : Hp) (vs : List (q.T × V)) (kvs : List (κ × β)) : Prop := Paired (fun a b => a.1 = q.enc b.1 ∧ p.R F a.2 b.2) vs kvs
theorem dget_some {F : Hp} {vs : List (q.T × V)} {kvs : List (κ × β)} (h : DRel q p F vs kvs) {k : κ} {u : β} (hu : dget kvs k = some u) : ∃ v, valV vs (q.enc k) = some v ∧ p.R F v u := by
  unfold DRel at h
  induction h with
  | nil => cases hu
  | @cons a b as bs hab _ ih =>
    by_cases e : b.1 = k
    · have : a.1 = q.enc k := by rw [hab.1, e]
      refine ⟨a.2, valV_pos this, ?_⟩
      have : b.2 = u := by simpa [dget, List.find?_cons, e] using hu
      rw [← this]; exact hab.2
    · have : ¬ a.1 = q.enc k := fun z => e (q.inj _ _ (by rw [← hab.1, z]))
      rw [valV_neg this]
      exact ih (by simpa [dget, List.find?_cons, e] using hu)
theorem dget_none {F : Hp} {vs : List (q.T × V)} {kvs : List (κ × β)} (h : DRel q p F vs kvs) {k : κ} (hu : dget kvs k = none) : valV vs (q.enc k) = none := by
  unfold DRel at h
  induction h with
  | nil => rfl
  | @cons a b as bs hab _ ih =>
    by_cases e : b.1 = k
    · simp [dget, List.find?_cons, e] at hu
    · have : ¬ a.1 = q.enc k := fun z => e (q.inj _ _ (by rw [← hab.1, z]))
      rw [valV_neg this]
      exact ih (by simpa [dget, List.find?_cons, e] using hu)
theorem dget_isSome {F : Hp} {vs : List (q.T × V)} {kvs : List (κ × β)} (h : DRel q p F vs kvs) (k : κ) : (valV vs (q.enc k)).isSome = (dget kvs k).isSome := by
  cases e : dget kvs k with
  | none => rw [dget_none h e]; rfl
  | some u =>
    obtain ⟨v, hv, _⟩ := dget_some h e
    rw [hv]; rfl
theorem drel_any {F : Hp} {vs : List (q.T × V)} {kvs : List (κ × β)} (h : DRel q p F vs kvs) (k : κ) : (vs.any fun kv => decide (kv.1 = q.enc k)) = kvs.any fun kv => decide (kv.1 = k) := by
  unfold DRel at h
  induction h with
  | nil => rfl
  | @cons a b as bs hab _ ih =>
    rw [List.any_cons, List.any_cons, ih]
    congr 1
    by_cases e : b.1 = k
    · simp [e, hab.1]
    · have : ¬ a.1 = q.enc k := fun z => e (q.inj _ _ (by rw [← hab.1, z]))
      simp [e, this]
theorem drel_put {F : Hp} {vs : List (q.T × V)} {kvs : List (κ × β)} (h : DRel q p F vs kvs) (k : κ) {v : V} {u : β} (hv : p.R F v u) : DRel q p F (putK vs (q.enc k) v) (dput kvs k u) := by
  unfold putK dput
  rw [drel_any h k]
  by_cases hc : (kvs.any fun kv => decide (kv.1 = k)) = true
  · rw [if_pos hc, if_pos hc]
    clear hc
    unfold DRel at h ⊢
    induction h with
    | nil => exact .nil
    | @cons a b as bs hab _ ih =>
      rw [List.map_cons, List.map_cons]
      refine .cons ?_ ih
      by_cases e : b.1 = k
      · have : a.1 = q.enc k := by rw [hab.1, e]
        rw [if_pos e, if_pos this]
        exact ⟨hab.1, hv⟩
      · have : ¬ a.1 = q.enc k := fun z => e (q.inj _ _ (by rw [← hab.1, z]))
        rw [if_neg e, if_neg this]
        exact hab
  · rw [if_neg hc, if_neg hc]
    exact Paired.app h (.cons ⟨rfl, hv⟩ .nil)
theorem drel_mono {F F' : Hp} (hF : Same F F') {vs : List (q.T × V)} {kvs : List (κ × β)} (h : DRel q p F vs kvs) : DRel q p F' vs kvs := Paired.mon (fun _ _ r => ⟨r.1, p.mono hF r.2⟩) h
/-- an owned dict -/
def oD (q : DQ κ) (p : VP β) : OP (List (κ × β)) where
  P := fun F H fp v kvs => ∃ d vs, v = .ref d ∧ fp = [d] ∧ H d = some (q.ho vs) ∧ DRel q p F vs kvs
  mono := fun hF hH h => let ⟨d, vs, e, ef, h1, h2⟩ := h; ⟨d, vs, e, ef, hH _ _ h1, drel_mono hF h2⟩
  mm := fun hF hH h => let ⟨d, vs, e, ef, h1, h2⟩ := h; ⟨d, vs, e, ef, by rw [hH d (by rw [ef]; exact List.mem_cons_self)]; exact h1, drel_mono hF h2⟩
/-- a dict that is looked at -/
def borD (q : DQ κ) (p : VP β) (kvs : List (κ × β)) : Slot where
  P := fun F H fp o => fp = [] ∧ ∃ d vs, o = some (.ref d) ∧ H d = some (q.ho vs) ∧ DRel q p F vs kvs
  mono := fun hF hH h => let ⟨ef, d, vs, e, h1, h2⟩ := h; ⟨ef, d, vs, e, hH _ _ h1, drel_mono hF h2⟩
  st := False
  mm := fun h => h.elim
/-- a frozen dict -/
def pD (q : DQ κ) (p : VP β) : VP (List (κ × β)) where
  R := fun F v kvs => ∃ d vs, v = .ref d ∧ F d = some (q.ho vs) ∧ DRel q p F vs kvs
  mono := fun hF h => let ⟨d, vs, e, h1, h2⟩ := h; ⟨d, vs, e, hF _ _ h1, drel_mono hF h2⟩
def DV (s : Slot) (q : DQ κ) (p : VP β) (kvs : List (κ × β)) : Prop := ∀ F H fp o, Same F H → s.P F H fp o → ∃ d vs, o = some (.ref d) ∧ H d = some (q.ho vs) ∧ DRel q p F vs kvs
theorem DV.own {kvs : List (κ × β)} : DV (Ty.own (oD q p) kvs) q p kvs := fun F H fp o _ h => let ⟨v, e, d, vs, ev, _, h1, h2⟩ := h; ⟨d, vs, by rw [e, ev], h1, h2⟩
theorem DV.bor {kvs : List (κ × β)} : DV (borD q p kvs) q p kvs := fun F H fp o _ h => let ⟨_, d, vs, e, h1, h2⟩ := h; ⟨d, vs, e, h1, h2⟩
theorem DV.val {kvs : List (κ × β)} : DV (Ty.val (pD q p) kvs) q p kvs := fun F H fp o hS h => let ⟨_, v, e, d, vs, ev, h1, h2⟩ := h; ⟨d, vs, by rw [e, ev], hS _ _ h1, h2⟩
theorem WkS.dict {kvs : List (κ × β)} : WkS (Ty.own (oD q p) kvs) (Ty.val (pD q p) kvs) := fun F H fp o _ h => by
  obtain ⟨v, e, l, vs, el, ef, h1, h2⟩ := h
  subst ef
  exact ⟨[l], [], rfl, fun F' hF hs hx => ⟨rfl, v, e, l, vs, el, by rw [hx l List.mem_cons_self]; exact h1, drel_mono hF h2⟩⟩
theorem x_varD {kvs : List (κ × β)} (j : Nat) (hs : Γ[j]? = some (Ty.own (oD q p) kvs) := by rfl) (hN : ∀ i, (Y.X i).N[j]? = some x := by intro _; rfl)
    (hv : ∀ i, Vis (Y.X i).env.scope x := by intro _; first | exact Or.inl rfl | exact Or.inr (Or.inl rfl) | exact Or.inr (Or.inr rfl)) (hd : (x == ("__debug__" : Str)) = false := by decide) (hcd : (x == ("__classdict__" : Str)) = false := by decide) : XV Y (.Name x pos) Γ (borD q p kvs) := by
  refine ⟨_, fun i => pe_var (hN i) (hv i) hd hcd, fun B F H os σ Q I q => ?_⟩
  obtain ⟨o, fp, e, v, ev, l, vs, el, _, h1, h2⟩ := I.slot hs
  subst ev; subst el
  exact ⟨_, e, q _ F H [] same_refl same_refl I.W ⟨rfl, l, vs, rfl, h1, h2⟩⟩
theorem x_fldD {kvs : List (κ × β)} (j : Nat) (he : XV Y e Γ s) (ho : OV s C ns Δ) (hA : At K C f) (hj : Δ[j]? = some (Ty.own (oD q p) kvs) := by rfl) (hn : ns[j]? = some f := by rfl) (nd : ns.Nodup := by decide +kernel) (hb : ∀ i, attributeBase e f (Y.X i).env (eval e (Y.X i).env) = eval e (Y.X i).env := by intro _; rfl) : XV Y (.Attribute e f pos) Γ (borD q p kvs) := by
  obtain ⟨t, pe, rd⟩ := he
  refine ⟨_, fun i => by have h := pe_fld (pos := pos) (pe i) (hb i); rw [Y.hK i] at h; exact h, fun B F H os σ Q I q => ?_⟩
  refine rd B F H os σ _ I fun v F1 H1 fp f1 e1 W1 p1 => ?_
  obtain ⟨x, dx, vs, o2, ev, h1, h2, h3⟩ := ho F1 H1 fp _ W1.sub p1
  cases ev
  obtain ⟨o, fp', r', e3, p3, _, _⟩ := h3.at hj
  obtain ⟨v', ev, l, ws, el, ef, g1, g2⟩ := p3
  subst ev
  have e4 : vs[j]? = some v' := by
    rw [List.getElem?_map] at e3
    obtain ⟨y, hy, ey⟩ := Option.map_eq_some_iff.mp e3
    cases ey; exact hy
  exact ⟨x, C, dx, _, v', rfl, h1, hA.cl, hA.no, zip_lookup nd h2 hn e4, q v' F1 H1 [] f1 e1 W1.drop ⟨rfl, l, ws, by rw [el], g1, g2⟩⟩
theorem Fa.u1 (Y : Fa P w K mg base k) (i : Y.I) : (Y.X i).A.units + 1 < cLine := by have := Y.hU i; omega
/-- d[k] -/
theorem x_dget {kvs : List (κ × β)} {z : κ} {u : β} (ha : XV Y ea Γ s) (hs : DV s q p kvs) (hb : XV Y eb Γ (val q.pk z)) (hz : dget kvs z = some u) (hx : NoSl eb := by exact fun _ _ => rfl) : XV Y (.Subscript ea eb pos) Γ (val p u) := by
  obtain ⟨ta, pa, ra⟩ := ha
  obtain ⟨tb, pb, rb⟩ := hb
  refine ⟨_, fun i => pe_dget (Y.u1 i) (pa i) (pb i) hx, fun B F H os σ Q I kk => ?_⟩
  refine two (Q := fun _ _ => True) I ra rb fun x y F2 H2 fx fy f2 e2 W2 p1 p2 => ?_
  obtain ⟨d, vs, ev, h1, h2⟩ := hs F2 H2 fx _ W2.sub p1
  cases ev
  obtain ⟨v, hv, rv⟩ := dget_some h2 hz
  have g := q.get W2.sub (val_P p2).2 h1
  rw [hv] at g
  exact ⟨d, v, rfl, g, kk v F2 H2 [] f2 e2 W2.drop.drop ⟨rfl, _, rfl, rv⟩⟩
theorem in_run {kvs : List (κ × β)} {z : κ} (hs : DV s q p kvs) {B : Bs} {F H : Hp} {fx fy os : List Addr} {xv yv : V} (W : Wo B F H (fy ++ (fx ++ os))) (p1 : (val q.pk z).P F H fx (some xv)) (p2 : s.P F H fy (some yv)) : ∃ d, yv = .ref d ∧ ∃ o, DGet H d xv o ∧ o.isSome = (dget kvs z).isSome := by
  obtain ⟨d, vs, ev, h1, h2⟩ := hs F H fy _ W.sub p2
  cases ev
  exact ⟨d, rfl, _, q.get W.sub (val_P p1).2 h1, dget_isSome h2 z⟩
theorem x_din {kvs : List (κ × β)} {z : κ} {t : Bool} (ha : XV Y ea Γ (val q.pk z)) (hb : XV Y eb Γ s) (hs : DV s q p kvs) (ht : t = (dget kvs z).isSome) (hm : behindInMarks .In eb = false := by with_unfolding_all rfl) : XV Y (.Compare ea [.In] [eb] pos) Γ (vBl t) := by
  obtain ⟨ta, pa, ra⟩ := ha
  obtain ⟨tb, pb, rb⟩ := hb
  refine ⟨_, fun i => pe_cmp (pc_din (Y.u1 i) (pa i) (pb i)) hm, fun B F H os σ Q I kk => ?_⟩
  refine two (Q := fun _ _ => True) I ra rb fun x y F2 H2 fx fy f2 e2 W2 p1 p2 => ?_
  obtain ⟨d, rfl, o, g, eo⟩ := in_run hs W2 p1 p2
  exact ⟨d, o, rfl, g, kk _ F2 H2 [] f2 e2 W2.drop.drop ⟨rfl, _, rfl, by rw [eo, ht]; rfl⟩⟩
theorem xt_din {kvs : List (κ × β)} {z : κ} {t : Bool} (ha : XV Y ea Γ (val q.pk z)) (hb : XV Y eb Γ s) (hs : DV s q p kvs) (ht : t = (dget kvs z).isSome) (hm : behindInMarks .In eb = false := by with_unfolding_all rfl) : XT Y (.Compare ea [.In] [eb] pos) Γ t := by
  obtain ⟨ta, pa, ra⟩ := ha
  obtain ⟨tb, pb, rb⟩ := hb
  refine ⟨_, fun i => pt_cmp (pc_din (Y.u1 i) (pa i) (pb i)) hm, fun B F H os σ Q I kk => ?_⟩
  refine two (Q := fun _ _ => True) I ra rb fun x y F2 H2 fx fy f2 e2 W2 p1 p2 => ?_
  obtain ⟨d, rfl, o, g, eo⟩ := in_run hs W2 p1 p2
  refine ⟨d, o, rfl, g, _, rfl, ?_⟩
  rw [eo, ← ht]
  exact kk F2 H2 f2 e2 W2.drop.drop
theorem x_dnin {kvs : List (κ × β)} {z : κ} {t : Bool} (ha : XV Y ea Γ (val q.pk z)) (hb : XV Y eb Γ s) (hs : DV s q p kvs) (ht : t = !(dget kvs z).isSome) (hm : behindInMarks .NotIn eb = false := by with_unfolding_all rfl) : XV Y (.Compare ea [.NotIn] [eb] pos) Γ (vBl t) := by
  obtain ⟨ta, pa, ra⟩ := ha
  obtain ⟨tb, pb, rb⟩ := hb
  refine ⟨_, fun i => pe_cmp (pc_dnotin (Y.u1 i) (pa i) (pb i)) hm, fun B F H os σ Q I kk => ?_⟩
  refine two (Q := fun _ _ => True) I ra rb fun x y F2 H2 fx fy f2 e2 W2 p1 p2 => ?_
  obtain ⟨d, rfl, o, g, eo⟩ := in_run hs W2 p1 p2
  exact ⟨d, o, rfl, g, kk _ F2 H2 [] f2 e2 W2.drop.drop ⟨rfl, _, rfl, by rw [eo, ht]; rfl⟩⟩
theorem xt_dnin {kvs : List (κ × β)} {z : κ} {t : Bool} (ha : XV Y ea Γ (val q.pk z)) (hb : XV Y eb Γ s) (hs : DV s q p kvs) (ht : t = !(dget kvs z).isSome) (hm : behindInMarks .NotIn eb = false := by with_unfolding_all rfl) : XT Y (.Compare ea [.NotIn] [eb] pos) Γ t := by
  obtain ⟨ta, pa, ra⟩ := ha
  obtain ⟨tb, pb, rb⟩ := hb
  refine ⟨_, fun i => pt_cmp (pc_dnotin (Y.u1 i) (pa i) (pb i)) hm, fun B F H os σ Q I kk => ?_⟩
  refine two (Q := fun _ _ => True) I ra rb fun x y F2 H2 fx fy f2 e2 W2 p1 p2 => ?_
  obtain ⟨d, rfl, o, g, eo⟩ := in_run hs W2 p1 p2
  refine ⟨d, o, rfl, g, _, rfl, ?_⟩
  rw [eo, ← ht]
  exact kk F2 H2 f2 e2 W2.drop.drop
/-- d[k] = v -/
theorem go_dput {up : Slot → List Slot} {pos' : Pos} {kvs : List (κ × β)} {z : κ} {u : β} (ho : PL Y eo Γ (Ty.own (oD q p) kvs) up) (hi : XV Y eb Γ (val q.pk z)) (he : XV Y e Γ (val p u)) (hz : kvs.length < sizeLine) (hg : Go Y i rest D B (up (Ty.own (oD q p) (dput kvs z u))))
    (hs : swapsWith e (some (.Subscript eo eb pos')) pos.line (Y.X i).env = pure false := by rfl) : Go Y i (.Assign [.Subscript eo eb pos'] e pos :: rest) D B Γ := by
  obtain ⟨t, Pv, pe, pst, rd, up'⟩ := ho
  obtain ⟨t2, pe2, rd2⟩ := he
  obtain ⟨t3, pe3, rd3⟩ := hi
  refine go_ps (ps_dput (Y.u1 i) (pe i) (pe3 i) (pe2 i) hs) fun F H σ ⟨os, W, S⟩ => ?_
  refine rd2 B F H os σ _ (Sta.in W S) fun y F1 H1 fy f1 e1 W1 p1 => ?_
  have I1 := (Sta.in W S).step f1 e1 W1
  refine rd B F1 H1 _ σ _ I1 fun v hv => ?_
  refine rd3 B F1 H1 _ σ _ I1 fun y2 F2 H2 fy2 f2 e2 W2 p2 => ?_
  have ry := (val_P ((val p u).mono f2 e2 p1)).2
  obtain ⟨fp1, r1, hr1, hp1, kk1⟩ := up' F2 H2 os σ _ (S.mono (f1.trans f2) (e1.trans e2)) (pst _ _ _ _ e2 hv)
  obtain ⟨v1, ev1, l1, vs1, el1, ef1, g1, g2⟩ := hp1
  cases ev1; subst el1; subst ef1
  refine ⟨l1, _, rfl, q.put W2.sub (val_P p2).2 g1 (by rw [Paired.length g2]; exact hz), ?_⟩
  exact hg F2 _ σ (pl_write (fy := fy2 ++ fy) (by rw [List.append_assoc]; exact W2) hr1 ⟨_, rfl, l1, _, rfl, rfl, upd_same, drel_put g2 z ry⟩ kk1)
end
/-- {} -/
theorem x_dnewK {κ β : Type} [DecidableEq κ] {q : DQ κ} {p : VP β} (h0 : q.ho [] = .dK []) : XV Y (.Dict [] [] pos) Γ (own (oD q p) ([] : List (κ × β))) :=
  ⟨_, fun i => pe_dnewK, fun B F H os σ Q I kk l hl => kk _ F _ [l] same_refl (same_upd hl) (I.W.newO hl) ⟨_, rfl, l, [], rfl, rfl, by rw [h0]; exact upd_same, .nil⟩⟩
theorem x_dnewT {κ β : Type} [DecidableEq κ] {q : DQ κ} {p : VP β} (h0 : q.ho [] = .dT []) : XV Y (.Dict [] [] pos) Γ (own (oD q p) ([] : List (κ × β))) :=
  ⟨_, fun i => pe_dnewT, fun B F H os σ Q I kk l hl => kk _ F _ [l] same_refl (same_upd hl) (I.W.newO hl) ⟨_, rfl, l, [], rfl, rfl, by rw [h0]; exact upd_same, .nil⟩⟩
/-- {k: v}, the key a tuple -/
def tDisp1T (tk tv : TE) : TE := fun σ H Q => ∀ p, H p = none → tk σ (upd H p (.dT [])) fun x H1 => tv σ H1 fun y H2 => ∃ b ks, x = .ref b ∧ H2 p = some (.dT []) ∧ H2 b = some (.tup (ks.map kV)) ∧ Q (.ref p) (upd H2 p (.dT [(ks, y)]))
theorem pe_disp1T {X : Cx} {ek ev : Expr} {tk tv : TE} {pos : Pos} (hu : X.A.units < cLine) (hk : PE X ek tk) (hv : PE X ev tv) : PE X (.Dict [some ek] [ev] pos) (tDisp1T tk tv) := by
  refine ⟨fun pins s σ H Q I q => ?_⟩
  have hn := I.hok.fresh (Nat.le_refl s.heap.objs.size)
  have I1 := I.laid (a := s.heap.objs.size) (o := .dT []) (h' := s.heap.push { cls := .type "dict", data := .dict #[] }) (t' := s.toks) (fun _ _ q => Heap.get?_push_of_some _ q) (Nat.le_refl _) (dt_empty s.heap I.big)
  refine wpAny_Dict_any rfl rfl (by simp) (by simp) (pairTrees_cons_walk (thn (hk.run pins _ σ _ _ I1 (q _ hn)) fun u s1 ⟨x, H1, I2, rx, q1⟩ => thn (hv.run pins s1 σ H1 _ I2 q1) fun w2 s2 ⟨y, H2, I3, ry, b, ks, ex, e, eb, q2⟩ => pairTrees_nil_walk ?_))
  subst ex
  cases (show u = Value.ref b from rx)
  obtain ⟨z, hd, xs, rel, dd⟩ := dt_of I3.hok e
  cases rel
  show wpAny _ _ (storeAll s.heap.objs.size [(Value.ref b, w2)]) _ _ s2
  unfold storeAll
  rw [List.forIn_cons]
  refine wpAny_bind (wpAny_bind (wpAny_dictSet_heap (knd := tupleKind (mixKind X.prog X.w)) (hsz := by rw [sizeLine_eq]; decide) hu (key_of I3.hok eb) dd fun h' dd' hs => wpAny_pure ?_))
  show wpAny _ _ (forIn [] _ _) _ _ _
  rw [List.forIn_nil]
  refine wpAny_pure ⟨.ref s.heap.objs.size, _, ?_, rfl, q2⟩
  obtain ⟨q', es', ep, hq, h2, h3, h4, _, h5⟩ := dd'
  refine d_write I3 (by rw [e]; exact True.intro) hs ⟨q', hq⟩ ⟨by rw [sizeLine_eq]; show 1 ≤ 16777216; decide, hd, _, ((KT.put (kvs := []) (xs := []) .nil ks eb ry).keeps fun c ys ec => ?_), q', es', ep, hq, h2, h3, h4, h5⟩
  rw [upd_ne (ne_of ec e (fun z => nomatch z))]
  exact ec
theorem x_disp1T {κ β : Type} [DecidableEq κ] {pk : VP κ} {enc : κ → List Key} {inj : ∀ a b, enc a = enc b → a = b} {h : ∀ F v k, pk.R F v k → ∃ b, v = .ref b ∧ F b = some (.tup ((enc k).map kV))} {p : VP β} {ek ev : Expr} {z : κ} {u : β} (hk : XV Y ek Γ (val pk z)) (hv : XV Y ev Γ (val p u)) :
    XV Y (.Dict [some ek] [ev] pos) Γ (own (oD (dTup pk enc inj h) p) [(z, u)]) := by
  obtain ⟨ta, pa, ra⟩ := hk
  obtain ⟨tb, pb, rb⟩ := hv
  refine ⟨_, fun i => pe_disp1T (by have := Y.hU i; omega) (pa i) (pb i), fun B F H os σ Q I kk l hl => ?_⟩
  have I1 : In B F (upd H l (.dT [])) ([l] ++ os) σ Γ := I.step same_refl (same_upd hl) (I.W.newO hl)
  refine ra B F _ _ σ _ I1 fun x F1 H1 fx f1 e1 W1 p1 => ?_
  obtain ⟨rfl, rx⟩ := val_P p1
  have I2 : In B F1 H1 ([l] ++ os) σ Γ := I1.step0 f1 e1 W1
  refine rb B F1 H1 _ σ _ I2 fun y F2 H2 fy f2 e2 W2 p2 => ?_
  obtain ⟨rfl, ry⟩ := val_P p2
  obtain ⟨b, rfl, hb⟩ := h _ _ _ rx
  have W3 : Wo B F2 H2 ([l] ++ os) := W2
  refine ⟨b, enc z, rfl, e2 _ _ (e1 _ _ upd_same), W3.sub _ _ (f2 _ _ hb), ?_⟩
  refine kk _ F2 _ [l] (f1.trans f2) (fun q u hq => ?_) (W3.write (by simp)) ⟨_, rfl, l, [(enc z, y)], rfl, rfl, upd_same, .cons ⟨rfl, ry⟩ .nil⟩
  rw [upd_ne (ne_of_none hq hl)]
  exact e2 _ _ (e1 _ _ (same_upd hl _ _ hq))

/-! ### None -/
theorem o_isN {α : Type} {q : VP α} {u : α} {z : Bool} (hz : ∀ F v, q.R F v u → decide (v = .non) = z) : Op2 (fun x y H Q => y = .non ∧ Q (.bl (decide (x = .non))) H) (val q u) vNon (vBl z) := fun B F H x y fx fy os Q W p1 p2 kk => by
  obtain ⟨_, r1⟩ := val_P p1
  obtain ⟨_, r2⟩ := val_P p2
  exact ⟨r2, by rw [hz F x r1]; exact kk _ F H [] same_refl same_refl W.drop.drop ⟨rfl, _, rfl, rfl⟩⟩
theorem o_notN {α : Type} {q : VP α} {u : α} {z : Bool} (hz : ∀ F v, q.R F v u → (!decide (v = .non)) = z) : Op2 (fun x y H Q => y = .non ∧ Q (.bl (!decide (x = .non))) H) (val q u) vNon (vBl z) := fun B F H x y fx fy os Q W p1 p2 kk => by
  obtain ⟨_, r1⟩ := val_P p1
  obtain ⟨_, r2⟩ := val_P p2
  exact ⟨r2, by rw [hz F x r1]; exact kk _ F H [] same_refl same_refl W.drop.drop ⟨rfl, _, rfl, rfl⟩⟩
theorem opt_isN {α : Type} {q : VP α} {u : Option α} : ∀ F v, (pOpt q).R F v u → decide (v = .non) = u.isNone := fun F v h => by
  cases u with
  | none => cases h; rfl
  | some a => simp [h.2]
theorem opt_notN {α : Type} {q : VP α} {u : Option α} : ∀ F v, (pOpt q).R F v u → (!decide (v = .non)) = u.isSome := fun F v h => by
  rw [opt_isN F v h]; cases u <;> rfl
theorem opt_get {α : Type} {q : VP α} {u : Option α} {z : α} (hz : u = some z) (h : XV Y e Γ (val (pOpt q) u)) : XV Y e Γ (val q z) := h.as fun F H fp o _ ⟨e1, v, e2, r⟩ => by subst hz; exact ⟨e1, v, e2, r.1⟩

/-! ### isinstance(e, T) -/
def pTy : VP String := ⟨fun _ v t => v = .ty t, fun _ h => h⟩
theorem x_ty {T : String} (hm : mg x = none) (hv : bootBuiltins x = some (.type T)) (hg : ∀ i, Gl (Y.X i) x := by intro _; rfl) (hn : x ≠ "__name__" := by decide) (hd : (x == ("__debug__" : Str)) = false := by decide) : XV Y (.Name x pos) Γ (val pTy T) :=
  ⟨_, fun i => pe_bltn (v := .ty T) (hg i) (by rw [Y.hM]; exact hm) hv rfl hn hd, fun B F H os σ Q I q => q _ F H [] same_refl same_refl I.W ⟨rfl, _, rfl, rfl⟩⟩
/-- a value's type -/
def TyV (K : PySem.W.Frag) (s : Slot) (T : String) : Prop := ∀ F H fp o, Same F H → s.P F H fp o → ∃ v, o = some v ∧ TyX K H v (.type T)
theorem LV.ty {α : Type} {s : Slot} {p : VP α} {xs : List α} (h : LV s p xs) : TyV K s "list" := fun F H fp o hS hp => let ⟨l, vs, e, h1, _⟩ := h F H fp o hS hp; ⟨_, e, .base (.lst h1)⟩
theorem TV.ty {α : Type} {s : Slot} {p : VP α} {xs : List α} (h : TV s p xs) : TyV K s "tuple" := fun F H fp o hS hp => let ⟨l, vs, e, h1, _⟩ := h F H fp o hS hp; ⟨_, e, .base (.tup h1)⟩
theorem TyV.int {i : Int} : TyV K (vInt i) "int" := fun F H fp o hS hp => let ⟨_, v, e, r⟩ := hp; ⟨v, e, by cases r; exact .base (.int i)⟩
theorem TyV.bl {i : Bool} : TyV K (vBl i) "bool" := fun F H fp o hS hp => let ⟨_, v, e, r⟩ := hp; ⟨v, e, by cases r; exact .base (.bl i)⟩
theorem TyV.str {i : Str} : TyV K (vStr i) "str" := fun F H fp o hS hp => let ⟨_, v, e, r⟩ := hp; ⟨v, e, by cases r; exact .base (.str i)⟩
theorem TyV.non : TyV K vNon "NoneType" := fun F H fp o hS hp => let ⟨_, v, e, r⟩ := hp; ⟨v, e, by cases r; exact .base .non⟩
theorem c_isi (Y : Fa P w K mg base k) (i : Y.I) : CallR (Y.X i) (.builtin "isinstance") (rIsi K) := by have h := call_isi (X := Y.X i); rw [Y.hK i] at h; exact h
theorem o_isi {T T' : String} {z : Bool} (hs : TyV K s T) (hz : kitB T T' = some z) : OpA (rIsi K) [s, val pTy T'] (vBl z) := opA2 fun B F H x y fx fy os Q W p1 p2 kk => by
  obtain ⟨v, ev, ty⟩ := hs F H fx _ W.sub p1
  cases ev
  obtain ⟨_, r2⟩ := val_P p2
  cases r2
  exact ⟨x, _, _, .type T', z, rfl, .ty T', ty, kit_ty hz, kk _ F H [] same_refl same_refl W.drop.drop ⟨rfl, _, rfl, rfl⟩⟩

/-! ### reversed(list) -/
theorem wk_rev {α : Type} {p : VP α} {xs : List α} {ro : Prop} {F H : Hp} {l : Addr} {vs : List V} (hl : ∀ F1 H1, Same F F1 → (ro → Same H H1) → Same F1 H1 → SqL K H1 l vs) (hp : Paired (p.R F) vs xs) : Wk ro (Itv K l xs.length) F H (xs.reverse.map (val p)) := by
  intro F1 H1 a b c
  have q := hl F1 H1 a b c
  have hlen := Paired.length hp
  refine ⟨by show xs.length ≤ _; simp, fun n r hr => ?_⟩
  rw [List.getElem?_map] at hr
  obtain ⟨x, ex, er⟩ := Option.map_eq_some_iff.mp hr
  have hn : n < xs.length := by
    have := (List.getElem?_eq_some_iff.mp ex).1
    simpa using this
  rw [List.getElem?_reverse hn] at ex
  obtain ⟨v, ev, rv⟩ := paired_at' hp ex
  refine ⟨⟨hn, vs, v, q, ev⟩, fun u H2 y => ?_⟩
  obtain ⟨e1, y⟩ := y
  subst e1
  refine ⟨fun _ _ h => h, fun B os W => ⟨F1, same_refl, W, ?_⟩⟩
  have e2 := y vs q
  rw [ev] at e2
  cases e2
  subst er
  exact ⟨rfl, v, rfl, p.mono a rv⟩
theorem xi_revB {α : Type} {p : VP α} {xs : List α} (hm : mg "reversed" = none) (h : XV Y e Γ (borL p xs)) (hg : ∀ i, Gl (Y.X i) "reversed" := by intro _; rfl) (hs : ∀ i, starEach [e] (Y.X i).env = [(false, eval e (Y.X i).env)] := by intro _; rfl) : XI Y tg (.Call (.Name "reversed" p') [e] [] pos) Γ True (xs.reverse.map (val p)) := by
  obtain ⟨t, pe, rd⟩ := h
  refine ⟨_, fun i => by have := pi_reversed (X := Y.X i) (tg := tg) (p := p') (pos := pos) (hg i) (by rw [Y.hM]; exact hm) (pa_cons (pe i) pa_nil (by rw [hs i]; rfl)) (hs i); rw [Y.hK i] at this; exact this, fun B F H os σ R I kk => ?_⟩
  refine rd B F H os σ _ I fun v F1 H1 fp f1 e1 W1 p1 => ?_
  obtain ⟨_, l, vs, ev, h1, h2⟩ := p1
  cases ev
  refine ⟨l, vs, rfl, SqL.of h1, ?_⟩
  rw [Paired.length h2]
  exact kk _ F1 H1 f1 e1 W1.drop (wk_rev (fun F2 H2 a b c => SqL.of (b trivial _ _ h1)) h2)
theorem xi_rev {α : Type} {p : VP α} {xs : List α} (hm : mg "reversed" = none) (h : XV Y e Γ (val (pL p) xs)) (hg : ∀ i, Gl (Y.X i) "reversed" := by intro _; rfl) (hs : ∀ i, starEach [e] (Y.X i).env = [(false, eval e (Y.X i).env)] := by intro _; rfl) : XI Y tg (.Call (.Name "reversed" p') [e] [] pos) Γ False (xs.reverse.map (val p)) := by
  obtain ⟨t, pe, rd⟩ := h
  refine ⟨_, fun i => by have := pi_reversed (X := Y.X i) (tg := tg) (p := p') (pos := pos) (hg i) (by rw [Y.hM]; exact hm) (pa_cons (pe i) pa_nil (by rw [hs i]; rfl)) (hs i); rw [Y.hK i] at this; exact this, fun B F H os σ R I kk => ?_⟩
  refine rd B F H os σ _ I fun v F1 H1 fp f1 e1 W1 p1 => ?_
  obtain ⟨_, l, vs, ev, h1, h2⟩ := val_P p1
  subst ev
  refine ⟨l, vs, rfl, SqL.of (W1.sub _ _ h1), ?_⟩
  rw [Paired.length h2]
  exact kk _ F1 H1 f1 e1 W1.drop (wk_rev (fun F2 H2 a b c => SqL.of (c _ _ (a _ _ h1))) h2)

/-! ### methods of frozen instances -/
theorem x_meth {ι ρ α : Type} {As : ι → List Slot} {m : ι → Option ρ} {Sr : ρ → Slot} {args : List Slot} {z : ι} {q : ρ} {j : Nat} {g : Addr} {fd : FuncData} {ps : List Str} {sl : α → List Slot} {u : α} {apos : Pos} {pl : Y.I → Sem Bool}
    (Fn : FnOk P w K mg base CX0 j g fd ps (spP As m Sr)) (hj : j ≤ k) (hc : Cls K C) (hm : Meth K C f g) (hb : Binds K fd ps []) (ho : XV Y eo Γ (val (pObj C ns sl) u)) (ha : XA Y (e :: es) Γ args) (hargs : val (pObj C ns sl) u :: args = As z) (hno : NoOwn args) (hq : m z = some q) (hns : ns.contains f = false := by decide +kernel)
    (hst : ∀ i, starEach (e :: es) (Y.X i).env = (false, eval e (Y.X i).env) :: starEach es (Y.X i).env := by intro _; rfl) (hpl : ∀ i, (backTo pos (starEach es (Y.X i).env)).any (·.1) = false := by intro _; rfl)
    (ht : ∀ i, eval (.Call (.Attribute eo f apos) (e :: es) [] pos) (Y.X i).env = (do
      let ov ← eval eo (Y.X i).env
      standAt apos.atName
      let (f, first) ← holding [ov] (getMethod ov f (pl i))
      callWith pos f first (backTo pos (starEach (e :: es) (Y.X i).env)) (backToKw pos (keywordEach [] (Y.X i).env))) := by intro _; rfl) (hcm : Y.cm = true := by rfl) : XV Y (.Call (.Attribute eo f apos) (e :: es) [] pos) Γ (Sr q) := by
  obtain ⟨to, po, ro⟩ := ho
  obtain ⟨t, pa, rd⟩ := ha
  have FF : ∀ i, FnOk (Y.X i).prog (Y.X i).w (Y.X i).K (Y.X i).mg (Y.X i).base CX0 j g fd ps (spP As m Sr) := fun i => by rw [Y.hP i, Y.hw i, Y.hK i, Y.hM i, Y.hB i]; exact Fn
  refine ⟨_, fun i => pe_meth (pl := pl i) (po i) (by rw [Y.hK i]; exact hc) (by rw [Y.hK i]; exact hm) (FF i) ((Y.hR hcm i).mono hj) (by rw [Y.hK i]; exact hb) .nil pass0 (pa i) (hst i) (hpl i) (ht i), fun B F H os σ Q I kk => ?_⟩
  refine ro B F H os σ _ I fun v0 F1 H1 fp f1 e1 W1 p1 => ?_
  obtain ⟨rfl, x, dx, vs, rfl, h1, h3, h4⟩ := val_P p1
  refine ⟨x, dx, _, rfl, W1.sub _ _ h1, lookup_no hns, ?_⟩
  have W1' : Wo B F1 H1 os := W1
  refine rd B F1 H1 os σ _ (I.step0 f1 e1 W1') fun ws F2 H2 fp f2 e2 W2 S2 => ?_
  obtain rfl := hno.nil S2
  rw [List.append_nil]
  have W2' : Wo B F2 H2 os := W2
  refine ⟨z, q, F2, hq, W2'.sub, ?_, fun v F3 H3 fp W3 p3 => ?_⟩
  · rw [← hargs]
    exact Slots.cons (fp := []) ((val (pObj C ns sl) u).mono f2 e2 p1) S2
  · obtain ⟨f3, e3, W4⟩ := W2'.called W3
    exact kk v F3 H3 fp ((f1.trans f2).trans f3) ((e1.trans e2).trans e3) W4 p3
theorem x_meth0 {ι ρ α : Type} {As : ι → List Slot} {m : ι → Option ρ} {Sr : ρ → Slot} {z : ι} {q : ρ} {j : Nat} {g : Addr} {fd : FuncData} {ps : List Str} {sl : α → List Slot} {u : α} {apos : Pos} {pl : Y.I → Sem Bool}
    (Fn : FnOk P w K mg base CX0 j g fd ps (spP As m Sr)) (hj : j ≤ k) (hc : Cls K C) (hm : Meth K C f g) (hb : Binds K fd ps []) (ho : XV Y eo Γ (val (pObj C ns sl) u)) (hargs : [val (pObj C ns sl) u] = As z) (hq : m z = some q) (hns : ns.contains f = false := by decide +kernel)
    (ht : ∀ i, eval (.Call (.Attribute eo f apos) [] [] pos) (Y.X i).env = (do
      let ov ← eval eo (Y.X i).env
      standAt apos.atName
      let (f, first) ← holding [ov] (getMethod ov f (pl i))
      callWith pos f first (backTo pos (starEach [] (Y.X i).env)) (backToKw pos (keywordEach [] (Y.X i).env))) := by intro _; rfl) (hcm : Y.cm = true := by rfl) : XV Y (.Call (.Attribute eo f apos) [] [] pos) Γ (Sr q) := by
  obtain ⟨to, po, ro⟩ := ho
  have FF : ∀ i, FnOk (Y.X i).prog (Y.X i).w (Y.X i).K (Y.X i).mg (Y.X i).base CX0 j g fd ps (spP As m Sr) := fun i => by rw [Y.hP i, Y.hw i, Y.hK i, Y.hM i, Y.hB i]; exact Fn
  refine ⟨_, fun i => pe_meth0 (pl := pl i) (po i) (by rw [Y.hK i]; exact hc) (by rw [Y.hK i]; exact hm) (FF i) ((Y.hR hcm i).mono hj) (by rw [Y.hK i]; exact hb) .nil pass0 (ht i), fun B F H os σ Q I kk => ?_⟩
  refine ro B F H os σ _ I fun v0 F1 H1 fp f1 e1 W1 p1 => ?_
  obtain ⟨rfl, x, dx, vs, rfl, h1, h3, h4⟩ := val_P p1
  refine ⟨x, dx, _, rfl, W1.sub _ _ h1, lookup_no hns, ?_⟩
  have W1' : Wo B F1 H1 os := W1
  refine ⟨z, q, F1, hq, W1'.sub, ?_, fun v F3 H3 fp W3 p3 => ?_⟩
  · rw [← hargs]
    exact Slots.cons (fp := []) p1 .nil
  · obtain ⟨f3, e3, W4⟩ := W1'.called W3
    exact kk v F3 H3 fp (f1.trans f3) (e1.trans e3) W4 p3
end
end Ty

/-! Ty9 -/
namespace Ty
open PySem PySem.Spec L2
open PyProof.Rows (envOfC)
section
variable {P : Program} {w : World} {K : PySem.W.Frag} {mg : Str → Option Value} {base : Heap} {k : Nat}
variable {Y : Fa P w K mg base k} {i : Y.I} {e ea eb eo ev tg iter elt : Expr} {es ifs : List Expr} {rest body : List Stmt} {Γ Γ' Γ1 Γ2 Δ Δ' : List Slot} {a b c r s s' : Slot} {pos : Pos} {B : Bs} {D : Ends} {x f : Str} {p' : Pos} {scope : Scope}
/-! ### small helpers of mirrors -/
def guardO {α : Type} (c : Prop) [Decidable c] (x : Option α) : Option α := if c then x else none
theorem guardO_some {α : Type} {c : Prop} [Decidable c] {x : Option α} {y : α} (h : guardO c x = some y) : c ∧ x = some y := by
  unfold guardO at h
  by_cases hc : c
  · rw [if_pos hc] at h; exact ⟨hc, h⟩
  · rw [if_neg hc] at h; cases h
def lcO {α β : Type} (xs : List α) (f : α → Option (Option β)) : Option (List β) := guardO (xs.length ≤ sizeLine) (fmO xs f)
def rangeO (lo hi : Int) : Option (List Int) := guardO (-(2 ^ 62) ≤ lo ∧ lo < 2 ^ 62 ∧ -(2 ^ 62) ≤ hi ∧ hi < 2 ^ 62) (some (rangeL lo hi))
/-! ### lists of owned things -/
def lstS (Γs : List Slot) : Slot where
  P := fun F H fp o => ∃ l vs os, o = some (.ref l) ∧ fp = l :: os ∧ H l = some (.lst vs) ∧ Slots F H os (vs.map some) Γs
  mono := fun hF hH h => let ⟨l, vs, os, e1, e2, h1, h2⟩ := h; ⟨l, vs, os, e1, e2, hH _ _ h1, h2.mono hF hH⟩
  st := Stb Γs
  mm := fun hs {_ _ _ _ _ _} hF hH h => let ⟨l, vs, os, e1, e2, h1, h2⟩ := h
    ⟨l, vs, os, e1, e2, by rw [hH l (by rw [e2]; simp)]; exact h1, h2.mm hF hs fun q hq => hH q (by rw [e2]; simp [hq])⟩
theorem lstS_some : ∀ F H fp o, (lstS Δ).P F H fp o → ∃ v, o = some v := fun F H fp o h => let ⟨_, _, _, e, _⟩ := h; ⟨_, e⟩
theorem slots_paired {F H : Hp} {α : Type} {q : VP α} : ∀ {vs : List V} {xs : List α} {os : List Addr}, Slots F H os (vs.map some) (xs.map (Ty.val q)) → os = [] ∧ Paired (q.R F) vs xs
  | [], [], _, S => by cases S; exact ⟨rfl, .nil⟩
  | [], _ :: _, _, S => by have e := S.length; simp at e
  | _ :: _, [], _, S => by have e := S.length; simp at e
  | v :: vs, x :: xs, _, S => by
    rw [List.map_cons, List.map_cons] at S
    obtain ⟨f1, f2, rfl, p, S2⟩ := Slots.cons_inv S
    obtain ⟨rfl, r⟩ := val_P p
    obtain ⟨rfl, t⟩ := slots_paired S2
    exact ⟨rfl, .cons r t⟩
theorem wkL_map {α : Type} {g : α → Slot} {q : VP α} (h : ∀ x, WkS (g x) (Ty.val q x)) : ∀ xs : List α, WkL (xs.map g) (xs.map (Ty.val q))
  | [] => .nil
  | x :: xs => .cons (h x) (wkL_map h xs)
theorem WkS.lstS {α : Type} {g : α → Slot} {q : VP α} {xs : List α} (h : ∀ x, WkS (g x) (Ty.val q x)) : WkS (Ty.lstS (xs.map g)) (Ty.val (pL q) xs) := fun F H fp o hS hp => by
  obtain ⟨l, vs, os, e1, e2, h1, h2⟩ := hp
  obtain ⟨xx, yy, hperm, kk⟩ := h2.wk hS (wkL_map h xs)
  obtain ⟨rfl, _⟩ := slots_paired (kk H hS same_refl fun _ _ => rfl)
  subst e2
  refine ⟨l :: os, [], by simp, fun F' hF hs hx => ⟨rfl, _, e1, l, vs, rfl, by rw [hx l (by simp)]; exact h1, (slots_paired (kk F' hF hs fun q hq => hx q ?_)).2⟩⟩
  have := hperm.mem_iff.mpr (by simpa using hq)
  simp [this]
/-- read as data of the whole heap -/
theorem paired_bor {F H : Hp} (hS : Same F H) {α : Type} {g : α → Slot} {q : VP α} (h : ∀ x, Vw (g x) q x) : ∀ {vs : List V} {xs : List α} {os : List Addr}, Slots F H os (vs.map some) (xs.map g) → Paired (q.R H) vs xs
  | [], [], _, _ => .nil
  | [], _ :: _, _, S => by have e := S.length; simp at e
  | _ :: _, [], _, S => by have e := S.length; simp at e
  | v :: vs, x :: xs, _, S => by
    rw [List.map_cons, List.map_cons] at S
    obtain ⟨f1, f2, rfl, p, S2⟩ := Slots.cons_inv S
    obtain ⟨v', ev, rv⟩ := h x F H f1 _ hS p
    cases ev
    exact .cons rv (paired_bor hS h S2)
/-- a name, whatever it owns, looked at as data -/
theorem x_look {α : Type} {q : VP α} {u : α} (j : Nat) (hw : Vw s q u) (hs : Γ[j]? = some s := by rfl) (hN : ∀ i, (Y.X i).N[j]? = some x := by intro _; rfl)
    (hv : ∀ i, Vis (Y.X i).env.scope x := by intro _; first | exact Or.inl rfl | exact Or.inr (Or.inl rfl) | exact Or.inr (Or.inr rfl)) (hd : (x == ("__debug__" : Str)) = false := by decide) (hcd : (x == ("__classdict__" : Str)) = false := by decide) : XV Y (.Name x pos) Γ (bor q u) := by
  refine ⟨_, fun i => pe_var (hN i) (hv i) hd hcd, fun B F H os σ Q I kk => ?_⟩
  obtain ⟨o, fp, e, hp⟩ := I.slot hs
  obtain ⟨v, rfl, rv⟩ := hw F H fp _ I.W.sub hp
  exact ⟨_, e, kk _ F H [] same_refl same_refl I.W ⟨rfl, v, rfl, rv⟩⟩
theorem Vw.lstS {α : Type} {g : α → Slot} {q : VP α} {xs : List α} (h : ∀ x, Vw (g x) q x) : Vw (Ty.lstS (xs.map g)) (pL q) xs := fun F H fp o hS hp => by
  obtain ⟨l, vs, os, e1, e2, h1, h2⟩ := hp
  exact ⟨_, e1, l, vs, rfl, h1, paired_bor hS h h2⟩
theorem LV.look {α : Type} {s : Slot} {p : VP α} {xs : List α} (h : LV s p xs) : Vw s (pL p) xs := h.vw
/-- an item of what is looked at -/
theorem x_ixB {α : Type} {p : VP α} {xs : List α} {z : Int} {u : α} (ha : XV Y ea Γ (bor (pL p) xs)) (hb : XV Y eb Γ (vInt z)) (hz : atI xs z = some u) (hx : PlainIx eb := by exact fun _ _ => rfl) : XV Y (.Subscript ea eb pos) Γ (bor p u) := by
  obtain ⟨ta, pa, ra⟩ := ha
  obtain ⟨tb, pb, rb⟩ := hb
  refine ⟨_, fun i => by have h := ix_list (X := Y.X i); rw [Y.hK i] at h; exact pe_ix h (pa i) (pb i) hx, fun B F H os σ Q I q => ?_⟩
  refine two (Q := fun _ _ => True) I ra rb fun x y F2 H2 fx fy f2 e2 W2 p1 p2 => ?_
  obtain rfl := vint p2
  obtain ⟨_, v, ev, l, vs, rfl, h1, h2⟩ := p1
  cases ev
  obtain ⟨v, hv, rv⟩ := paired_atI h2 hz
  exact ⟨l, vs, z, v, rfl, rfl, SqL.of h1, hv, q v F2 H2 [] f2 e2 W2.drop.drop ⟨rfl, _, rfl, rv⟩⟩
theorem x_ixCB {α β : Type} {q : VP β} {z : Int} {u : β} {t0 : VP α} {y : α} (ht : ∀ F v, t0.R F v y → ∃ l vs v', v = .ref l ∧ F l = some (.tup vs) ∧ atI vs z = some v' ∧ q.R F v' u) (ha : XV Y ea Γ (bor t0 y)) (hb : XV Y eb Γ (vInt z)) (hx : PlainIx eb := by exact fun _ _ => rfl) : XV Y (.Subscript ea eb pos) Γ (bor q u) := by
  obtain ⟨ta, pa, ra⟩ := ha
  obtain ⟨tb, pb, rb⟩ := hb
  refine ⟨_, fun i => by have h := ix_tup (X := Y.X i); rw [Y.hK i] at h; exact pe_ix h (pa i) (pb i) hx, fun B F H os σ Q I kk => ?_⟩
  refine two (Q := fun _ _ => True) I ra rb fun x y F2 H2 fx fy f2 e2 W2 p1 p2 => ?_
  obtain rfl := vint p2
  obtain ⟨_, v, ev, rv⟩ := p1
  cases ev
  obtain ⟨l, vs, v', rfl, h1, hv, rv'⟩ := ht _ _ rv
  exact ⟨l, vs, z, v', rfl, rfl, SqT.of h1, hv, kk v' F2 H2 [] f2 e2 W2.drop.drop ⟨rfl, _, rfl, rv'⟩⟩
theorem t2_fst {α β : Type} {p : VP α} {q : VP β} {y : α × β} : ∀ F v, (pT2 p q).R F v y → ∃ l vs v', v = .ref l ∧ F l = some (.tup vs) ∧ atI vs 0 = some v' ∧ p.R F v' y.1 := fun F v h => let ⟨l, a, b, e, h1, h2, _⟩ := h; ⟨l, [a, b], a, e, h1, rfl, h2⟩
theorem t2_snd {α β : Type} {p : VP α} {q : VP β} {y : α × β} : ∀ F v, (pT2 p q).R F v y → ∃ l vs v', v = .ref l ∧ F l = some (.tup vs) ∧ atI vs 1 = some v' ∧ q.R F v' y.2 := fun F v h => let ⟨l, a, b, e, h1, _, h2⟩ := h; ⟨l, [a, b], b, e, h1, rfl, h2⟩
theorem XV.flat {α : Type} {p : VP α} {u : α} (h : XV Y e Γ (bor p u)) (hf : Flat p) : XV Y e Γ (val p u) := h.as fun F H fp o _ ⟨e1, v, e2, r⟩ => ⟨e1, v, e2, hf _ _ _ _ r⟩
/-- len of what is looked at -/
theorem SV.bor {α : Type} {p : VP α} {xs : List α} (hf : Flat p) : SV K (Ty.bor (pL p) xs) p xs := fun F H fp o hS h => let ⟨_, v, e, l, vs, ev, h1, h2⟩ := h; ⟨l, vs, by rw [e, ev], SqL.of h1, Paired.mon (fun _ _ r => hf _ _ _ _ r) h2⟩
/-- an int of which the heap takes no notice -/
def XS (Y : Fa P w K mg base k) (e : Expr) (Γ : List Slot) (z : Int) : Prop :=
  ∃ t : TE, (∀ i, PE (Y.X i) e t) ∧ ∀ (B : Bs) (F H : Hp) (os : List Addr) (σ : List (Option V)) (Q : VK), In B F H os σ Γ → Q (.int z) H → t σ H Q
theorem xs_int {z : Int} {j : Nat} : XS Y (.Constant (.int z) j pos) Γ z := ⟨_, fun _ => pe_int, fun _ F H os σ Q I q => q⟩
theorem xs_var {z : Int} (j : Nat) (hs : Γ[j]? = some (vInt z) := by rfl) (hN : ∀ i, (Y.X i).N[j]? = some x := by intro _; rfl)
    (hv : ∀ i, Vis (Y.X i).env.scope x := by intro _; first | exact Or.inl rfl | exact Or.inr (Or.inl rfl) | exact Or.inr (Or.inr rfl)) (hd : (x == ("__debug__" : Str)) = false := by decide) (hcd : (x == ("__classdict__" : Str)) = false := by decide) : XS Y (.Name x pos) Γ z := by
  refine ⟨_, fun i => pe_var (hN i) (hv i) hd hcd, fun B F H os σ Q I q => ?_⟩
  obtain ⟨o, fp, e, _, v, ev, rv⟩ := I.slot hs
  subst ev
  cases rv
  exact ⟨_, e, q⟩
theorem xs_op {op : Operator} {C : Int → Int → Prop} {g : Int → Int → Int} {m n : Int} (ho : ∀ i, OpR (Y.X i) (binaryOp op) (rI C fun i j => .int (g i j))) (hC : C m n) (ha : XS Y ea Γ m) (hb : XS Y eb Γ n) : XS Y (.BinOp ea op eb pos) Γ (g m n) := by
  obtain ⟨ta, pa, ra⟩ := ha
  obtain ⟨tb, pb, rb⟩ := hb
  exact ⟨_, fun i => pe_op (ho i) (pa i) (pb i), fun B F H os σ Q I q => ra B F H os σ _ I (rb B F H os σ _ I ⟨m, n, rfl, rfl, hC, q⟩)⟩
theorem xs_op0 {op : Operator} {g : Int → Int → Int} {m n : Int} (ho : ∀ i, OpR (Y.X i) (binaryOp op) (rI0 fun i j => .int (g i j))) (ha : XS Y ea Γ m) (hb : XS Y eb Γ n) : XS Y (.BinOp ea op eb pos) Γ (g m n) := by
  obtain ⟨ta, pa, ra⟩ := ha
  obtain ⟨tb, pb, rb⟩ := hb
  exact ⟨_, fun i => pe_op (ho i) (pa i) (pb i), fun B F H os σ Q I q => ra B F H os σ _ I (rb B F H os σ _ I ⟨m, n, rfl, rfl, q⟩)⟩
/-- an item of an owned list, itself owned -/
theorem pl_ix {up : Slot → List Slot} {z : Int} {j : Nat} (ho : PL Y eo Γ (lstS Δ) up) (hi : XS Y eb Γ z) (hz : ixN Δ.length z = some j) (hst : Stb Δ) (hj : Δ[j]? = some s) (hso : ∀ F H fp o, s.P F H fp o → ∃ v, o = some v) (hx : PlainIx eb := by exact fun _ _ => rfl) :
    PL Y (.Subscript eo eb pos) Γ s (fun s' => up (lstS (Δ.set j s'))) := by
  obtain ⟨t, Pv, pe, pst, rd, up'⟩ := ho
  obtain ⟨tb, pb, rb⟩ := hi
  refine ⟨_, fun σ H v => ∃ l vs, Pv σ H (.ref l) ∧ H l = some (.lst vs) ∧ vs[j]? = some v, fun i => by have h := ix_list (X := Y.X i); rw [Y.hK i] at h; exact pe_ix h (pe i) (pb i) hx,
    fun σ H H' v hH h => let ⟨l, vs, h1, h2, h3⟩ := h; ⟨l, vs, pst _ _ _ _ hH h1, hH _ _ h2, h3⟩, fun B F H os σ Q I q => ?_, fun F H os σ v S hv => ?_⟩
  · refine rd B F H os σ _ I fun v hv => ?_
    refine rb B F H os σ _ I ?_
    obtain ⟨_, o2, r, hp, S⟩ := I
    obtain ⟨fp, r2, hr2, hp2, _⟩ := up' F H o2 σ v S hv
    obtain ⟨l, vs, o3, e1, e2, g1, g4⟩ := hp2
    cases e1
    obtain ⟨o, fp', r', e3, p3, _, _⟩ := g4.at hj
    obtain ⟨v', rfl⟩ := hso _ _ _ _ p3
    have e4 : vs[j]? = some v' := by
      rw [List.getElem?_map] at e3
      obtain ⟨y, hy, ey⟩ := Option.map_eq_some_iff.mp e3
      cases ey; exact hy
    have hlen : vs.length = Δ.length := by have := g4.length; simpa using this
    refine ⟨l, vs, z, v', rfl, rfl, SqL.of g1, ?_, q v' ⟨l, vs, hv, g1, e4⟩⟩
    unfold atI
    rw [hlen, hz]
    exact e4
  · obtain ⟨l, vs, hv1, h1, h3⟩ := hv
    obtain ⟨fp, r2, hr2, hp2, kk⟩ := up' F H os σ _ S hv1
    obtain ⟨l', vs', o3, e1, e2, g1, g4⟩ := hp2
    cases e1
    rw [h1] at g1
    have ev : vs = vs' := by
      have := Option.some.inj g1
      injection this
    subst ev
    obtain ⟨o, fp', r', e3, p3, q3, k3⟩ := g4.at hj
    have eo' : o = some v := by
      rw [List.getElem?_map, h3] at e3
      exact (Option.some.inj e3).symm
    subst eo'
    subst e2
    refine ⟨fp', (l :: r') ++ r2, ?_, p3, fun F' H' fp2 s' hF hk hs' => ?_⟩
    · refine hr2.trans ?_
      have a1 : (l :: o3).Perm (fp' ++ (l :: r')) := (q3.cons l).trans List.perm_middle.symm
      have a4 := List.Perm.append_right r2 a1
      rw [List.append_assoc] at a4
      exact a4
    · obtain ⟨os', t1, t2⟩ := k3 hs' (fun s0 h0 fp0 o0 hf hp => s0.mm (hst s0 h0) hF (fun q hq => hk q (by simp [hf q hq])) hp)
      have es : (vs.map some).set j (some v) = vs.map some := by
        obtain ⟨hj', e⟩ := List.getElem?_eq_some_iff.mp e3
        rw [← e]; exact List.set_getElem_self hj'
      rw [es] at t1
      obtain ⟨os2, u1, u2⟩ := kk F' H' (l :: os') (lstS (Δ.set j s')) hF (fun q hq => hk q (by simp [hq])) ⟨l, vs, os', rfl, rfl, by rw [hk l (by simp)]; exact h1, t1⟩
      refine ⟨os2, u1, u2.trans ?_⟩
      have a1 : (l :: os').Perm (l :: (fp2 ++ r')) := t2.cons l
      have a2 : (fp2 ++ (l :: r')).Perm (l :: (fp2 ++ r')) := List.perm_middle
      have a5 := List.Perm.append_right r2 (a1.trans a2.symm)
      rw [List.append_assoc] at a5
      exact a5
theorem lcS_run {α β : Type} {xs : List α} {rs : α → Slot} {g : β → Slot} {f : α → Option (Option β)} {ys : List β} {own : List (Str × Nat)} (hz : xs.length ≤ sizeLine) (hf : fmO xs f = some ys) (hd0 : DeadAt Γ (own.map (·.2))) (hst : ∀ y, (g y).st)
    (hb : ∀ x o, x ∈ xs → f x = some o → ∃ ws Γ1, (ws.all fun j => (own.map (·.2)).contains j) = true ∧ XG (Y.blk scope) tg ws (rs x) Γ Γ1 ∧ XTs (Y.blk scope) ifs Γ1 o.isSome ∧ ∀ y, o = some y → XV (Y.blk scope) elt Γ1 (g y))
    {wi : TI} (hw : ∀ (B : Bs) (F H : Hp) (os : List Addr) (σ : List (Option V)) (R : It → Hp → Prop), In B F H os σ Γ → (∀ J F' H', Same F F' → Same H H' → Wo B F' H' os → Wk True J F' H' (xs.map rs) → R J H') → wi σ H R)
    {F H : Hp} {os : List Addr} {σ : List (Option V)} {Q : VK} (I : In B F H os σ Γ) (kk : ∀ v F' H' fp, Same F F' → Same H H' → Wo B F' H' (fp ++ os) → (lstS (ys.map g)).P F' H' fp (some v) → Q v H') :
    tLc wi (cG (Y.blk scope) tg) (cTs (Y.blk scope) ifs) (cE (Y.blk scope) elt) (own.map (·.2)) σ H Q := by
  have hd := hd0.get
  refine hw B F H os σ _ I fun J F1 H1 f1 e1 W1 wk Dl hD => ?_
  obtain ⟨_, o2, r0, hperm, S0⟩ := I
  have S1 : Slots F1 H1 o2 (wipe σ (own.map (·.2))) Γ := (S0.mono f1 e1).ext (wipe_length _ _) fun j s hs => by
    by_cases hj : j ∈ own.map (·.2)
    · left
      have := hd j hj
      rw [hs] at this; exact Option.some.inj this
    · right
      rw [wipe_get, if_neg (fun z => hj z.1)]
  refine ⟨fun n m H' => n ≤ xs.length ∧ m = xs.length - n ∧ ∃ (F' : Hp) (vs : List V) (oe : List Addr) (acc rr : List β), Wo B F' H' (Dl :: (oe ++ os)) ∧ Same F1 F' ∧ Same H1 H' ∧ H' Dl = some (.lst vs) ∧ Slots F' H' oe (vs.map some) (acc.map g) ∧ acc.length ≤ n ∧ fmO (xs.drop n) f = some rr ∧ ys = acc ++ rr,
    ⟨xs.length - 0, Nat.zero_le _, rfl, F1, [], [], [], ys, W1.newO hD, same_refl, same_upd hD, upd_same, .nil, Nat.zero_le _, by simpa using hf, rfl⟩, ?_⟩
  rintro n m H' ⟨hn, rfl, F', vs, oe, acc, rr, W', fF, fH, hDl, hp, hacc, hrr, hys⟩
  obtain ⟨w1, w2⟩ := wk F' H' fF (fun _ => fH) W'.sub
  by_cases hlt : n < xs.length
  · have hx : xs[n]? = some xs[n] := List.getElem?_eq_getElem hlt
    have hdrop : xs.drop n = xs[n] :: xs.drop (n + 1) := List.drop_eq_getElem_cons hlt
    rw [hdrop] at hrr
    unfold fmO at hrr
    obtain ⟨o, ho, hrr⟩ := Option.bind_eq_some_iff.mp hrr
    obtain ⟨r2, hr2, hrr⟩ := Option.bind_eq_some_iff.mp hrr
    obtain ⟨g1, g2⟩ := w2 n (rs xs[n]) (by rw [List.getElem?_map, hx]; rfl)
    refine .inr ⟨g1, fun H'' => n + 1 ≤ xs.length ∧ ∃ (F' : Hp) (vs : List V) (oe : List Addr) (acc rr : List β), Wo B F' H'' (Dl :: (oe ++ os)) ∧ Same F1 F' ∧ Same H1 H'' ∧ H'' Dl = some (.lst vs) ∧ Slots F' H'' oe (vs.map some) (acc.map g) ∧ acc.length ≤ n + 1 ∧ fmO (xs.drop (n + 1)) f = some rr ∧ ys = acc ++ rr, ?_, ?_⟩
    · rintro H'' ⟨hn', rest⟩
      exact ⟨xs.length - (n + 1), by omega, hn', rfl, rest⟩
    · intro v H2 y
      obtain ⟨e2, push⟩ := g2 v H2 y
      obtain ⟨F2, f2, W2, p2⟩ := push B _ W'
      obtain ⟨ws, Γ1, hws0, ⟨_, gg, pg, qg⟩, ⟨tt, ptt, rtt⟩, hel⟩ := hb xs[n] o (List.getElem_mem hlt) ho
      have hws : ∀ j ∈ ws, j ∈ own.map (·.2) := fun j hj => List.contains_iff_mem.mp (List.all_eq_true.mp hws0 j hj)
      intro j pins sh u Iv rv
      refine (pg j).run pins sh _ H2 v u _ Iv rv (qg F2 H2 [] o2 _ v _ W2.sub p2 (S1.mono (fF.trans f2) (fH.trans e2)) fun σ' os' d ⟨l', k'⟩ pp S' => ⟨wipe_eq hws l' k', ?_⟩)
      have I2 : In B F2 H2 (Dl :: (oe ++ os)) σ' Γ1 := ⟨W2, os', Dl :: (oe ++ (d ++ r0)), by
        have a1 : os.Perm ((d ++ os') ++ r0) := hperm.trans (List.Perm.append_right r0 (by simpa using pp))
        have a2 : ((d ++ os') ++ r0).Perm (os' ++ (d ++ r0)) := by rw [← List.append_assoc]; exact List.Perm.append_right r0 List.perm_append_comm
        have a3 : (oe ++ os).Perm (os' ++ (oe ++ (d ++ r0))) := (List.Perm.append_left oe (a1.trans a2)).trans (by
          rw [← List.append_assoc oe os', ← List.append_assoc os' oe]
          exact List.Perm.append_right (d ++ r0) List.perm_append_comm)
        exact (a3.cons Dl).trans List.perm_middle.symm, S'⟩
      intro j2 pins2 s2 Iv2
      refine (ptt j2).run pins2 s2 σ' H2 _ Iv2 (rtt B F2 H2 _ σ' _ I2 fun F3 H3 f3 e3 W3 => ?_)
      cases o with
      | none =>
        show n + 1 ≤ xs.length ∧ _
        refine ⟨hlt, F3, vs, oe, acc, r2, W3, (fF.trans f2).trans f3, (fH.trans e2).trans e3, e3 _ _ (e2 _ _ hDl), hp.mono (f2.trans f3) (e2.trans e3), by omega, hr2, ?_⟩
        have : r2 = rr := by simpa using hrr
        rw [hys, this]
      | some yv =>
        show cE (Y.blk scope) elt σ' H3 _
        obtain ⟨te, pte, rte⟩ := hel yv rfl
        intro j3 pins3 s3 Iv3
        refine (pte j3).run pins3 s3 σ' H3 _ Iv3 (rte B F3 H3 _ σ' _ (I2.step0 f3 e3 W3) fun yy F4 H4 fp4 f4 e4 W4 p4 => ?_)
        have hD4 : H4 Dl = some (.lst vs) := e4 _ _ (e3 _ _ (e2 _ _ hDl))
        have hlen : vs.length = acc.length := by have := hp.length; simpa using this
        have W5 : Wo B F4 H4 (Dl :: ((oe ++ fp4) ++ os)) := W4.perm (by
          have a1 : (fp4 ++ (Dl :: (oe ++ os))).Perm (Dl :: (fp4 ++ (oe ++ os))) := List.perm_middle
          refine a1.trans (List.Perm.cons Dl ?_)
          rw [← List.append_assoc]
          exact List.Perm.append_right os List.perm_append_comm)
        have nd5 := List.nodup_cons.mp W5.nd
        have hne : ∀ q ∈ oe ++ fp4, q ≠ Dl := fun q hq e => nd5.1 (by subst e; exact List.mem_append_left _ hq)
        have S4 : Slots F4 (upd H4 Dl (.lst (vs ++ [yy]))) oe (vs.map some) (acc.map g) := (hp.mono ((f2.trans f3).trans f4) ((e2.trans e3).trans e4)).mm same_refl (fun s hs => by
          obtain ⟨y', _, rfl⟩ := List.mem_map.mp hs
          exact hst y') fun q hq => upd_ne (hne q (List.mem_append_left _ hq))
        have p5 : (g yv).P F4 (upd H4 Dl (.lst (vs ++ [yy]))) fp4 (some yy) := (g yv).mm (hst yv) same_refl (fun q hq => upd_ne (hne q (List.mem_append_right _ hq))) p4
        have S5 := S4.append (Slots.cons p5 .nil)
        rw [List.append_nil, show vs.map some ++ [some yy] = (vs ++ [yy]).map some by simp, show acc.map g ++ [g yv] = (acc ++ [yv]).map g by simp] at S5
        refine ⟨vs, hD4, by omega, hlt, F4, vs ++ [yy], oe ++ fp4, acc ++ [yv], r2, W5.write List.mem_cons_self, ((fF.trans f2).trans f3).trans f4, ?_, upd_same, S5, by simp; omega, hr2, ?_⟩
        · intro z u hu
          rw [upd_ne (ne_of_none hu hD)]
          exact ((fH.trans e2).trans e3).trans e4 z u hu
        · have : [yv] ++ r2 = rr := by simpa using hrr
          rw [hys, ← this, List.append_assoc]
  · have e : n = xs.length := by omega
    subst e
    refine .inl ⟨by simpa using w1, ?_⟩
    rw [List.drop_length] at hrr
    unfold fmO at hrr
    have : rr = [] := by simpa using hrr.symm
    subst this
    rw [List.append_nil] at hys
    subst hys
    exact kk _ F' H' (Dl :: oe) (f1.trans fF) (e1.trans fH) W' ⟨Dl, vs, oe, rfl, rfl, hDl, hp⟩
/-- [elt for tg in iter if ..], what is made owned -/
theorem x_lcS {α β : Type} {xs : List α} {rs : α → Slot} {g : β → Slot} {f : α → Option (Option β)} {ys : List β} {own : List (Str × Nat)} (hi : XI Y tg iter Γ True (xs.map rs)) (L : Lc Y iter scope own) (hz : xs.length ≤ sizeLine) (hf : fmO xs f = some ys) (hd0 : DeadAt Γ (own.map (·.2))) (hst : ∀ y, (g y).st)
    (hb : ∀ x o, x ∈ xs → f x = some o → ∃ ws Γ1, (ws.all fun j => (own.map (·.2)).contains j) = true ∧ XG (Y.blk scope) tg ws (rs x) Γ Γ1 ∧ XTs (Y.blk scope) ifs Γ1 o.isSome ∧ ∀ y, o = some y → XV (Y.blk scope) elt Γ1 (g y)) (hcm : Y.cm = true := by rfl) :
    XV Y (.ListComp elt [⟨tg, iter, ifs, 0⟩] scope pos) Γ (lstS (ys.map g)) := by
  obtain ⟨wi, pi, hw⟩ := hi
  exact ⟨_, fun i => pe_lc ((Y.hC i).trans hcm) (Y.hN i) (pi i) (L.ok i) (fun s H C cl fp => pg_cG (Y := Y.blk scope) (i, s, H, C, cl, fp)) (fun s H C cl fp => pts_cTs (Y := Y.blk scope) (i, s, H, C, cl, fp)) (fun s H C cl fp => pe_cE (Y := Y.blk scope) (i, s, H, C, cl, fp)) (L.hs i), fun B F H os σ Q I kk => lcS_run hz hf hd0 hst hb hw I kk⟩
end
end Ty

/-! Ty10 -/
namespace Ty
open PySem PySem.Spec L2
open PyProof.Rows (envOfC)
theorem condT {α : Type} {c : Bool} {a b : Option α} {y : α} (hc : c = true) (h : (bif c then a else b) = some y) : a = some y := by subst hc; exact h
theorem condF {α : Type} {c : Bool} {a b : Option α} {y : α} (hc : c = false) (h : (bif c then a else b) = some y) : b = some y := by subst hc; exact h
def flK {ρ S β : Type} (o : Option (Fl ρ S)) (kn : S → Option β) (kr : ρ → Option β) : Option β := o.bind fun
  | .next s => kn s
  | .brk s => kn s
  | .ret r => kr r
theorem flK_some {ρ S β : Type} {o : Option (Fl ρ S)} {kn : S → Option β} {kr : ρ → Option β} {b : β} (h : flK o kn kr = some b) : ∃ out, o = some out ∧ (∀ s, (out = .next s ∨ out = .brk s) → kn s = some b) ∧ (∀ r, out = .ret r → kr r = some b) := by
  unfold flK at h
  obtain ⟨out, h1, h2⟩ := Option.bind_eq_some_iff.mp h
  refine ⟨out, h1, ?_, ?_⟩
  · rintro s (rfl | rfl) <;> exact h2
  · rintro r rfl; exact h2
theorem stb_map {α : Type} {g : α → Slot} (h : ∀ x, (g x).st) : ∀ xs : List α, Stb (xs.map g)
  | [] => Stb.nil
  | x :: xs => Stb.cons (h x) (stb_map h xs)
theorem stb_set {Γ : List Slot} {s : Slot} {j : Nat} (h : Stb Γ) (hs : s.st) : Stb (Γ.set j s) := fun x hx => by
  rcases List.mem_or_eq_of_mem_set hx with h1 | h1
  · exact h x h1
  · rw [h1]; exact hs
section
variable {P : Program} {w : World} {K : PySem.W.Frag} {mg : Str → Option Value} {base : Heap} {k : Nat}
variable {Y : Fa P w K mg base k} {i : Y.I} {e ea eb eo ev tg iter elt : Expr} {es ifs : List Expr} {rest body : List Stmt} {Γ Γ' Γ1 Γ2 Δ Δ' : List Slot} {a b c r s s' : Slot} {pos : Pos} {B : Bs} {D : Ends} {x f : Str} {p' : Pos} {scope : Scope}
theorem Nx.wk {σ : L2.St} {H : Hp} (h : Nx B Γ σ H) (hw : WkL Γ Γ') : Nx B Γ' σ H := h.elim fun F S => S.wk hw
theorem fi_off {σ : L2.St} {H : Hp} (h : Nx B Γ σ H) (hs : ∀ F H, s.P F H [] (some .non)) : Fi B s .non H := by
  obtain ⟨F, os, W, S⟩ := h
  exact ⟨F, [], Wo.drop (a := os) (b := []) (by simpa using W), hs F H⟩
theorem go_forK {α T ρ β : Type} {xs : List α} {rs : α → Slot} (Γf : T → List Slot) (Sr : ρ → Slot) {s0 : T} {f : α → T → Option (Fl ρ T)} {kn : T → Option β} {kr : ρ → Option β} {b : β}
    (hi : XI Y tg iter Γ False (xs.map rs)) (h0 : WkL Γ (Γf s0)) (hm : flK (forF xs s0 f) kn kr = some b)
    (hb : ∀ B1 x s out, x ∈ xs → f x s = some out → (∀ r, out = .ret r → kr r = some b) → (∀ F H os, Wo B1 F H os → Wo B F H os) → ∃ ws Γ1, XG Y tg ws (rs x) (Γf s) Γ1 ∧ Go Y i body (LE B1 Γf Sr out) B1 Γ1)
    (hr : ∀ s, kn s = some b → Go Y i rest D B (Γf s)) (hret : ∀ r, kr r = some b → ∀ v H, Fi B (Sr r) v H → D.rt v H)
    (hs : ∀ x, foldedSetIterable iter (Y.X i).env x = pure x := by intro _; rfl) (hcm : Y.cm = true := by rfl) : Go Y i (.For tg iter body [] pos :: rest) D B Γ := by
  obtain ⟨o, h1, h2, h3⟩ := flK_some hm
  exact go_for Γf hi h0 h1 (fun B1 x s out hx hf hh hl => hb B1 x s out hx hf (fun r e => h3 r (hh r e)) hl) (fun s hs => hr s (h2 s hs)) (fun r e => hret r (h3 r e)) hs hcm
theorem go_whileK {T ρ β : Type} (Γf : T → List Slot) (Sr : ρ → Slot) {n : Nat} {s0 : T} {f : T → Option (Fl ρ T)} {kn : T → Option β} {kr : ρ → Option β} {b : β}
    (h0 : WkL Γ (Γf s0)) (hm : flK (whileF n s0 f) kn kr = some b)
    (hb : ∀ B1 s out, f s = some out → (∀ r, out = .ret r → kr r = some b) → (∀ F H os, Wo B1 F H os → Wo B F H os) → ∃ z : Bool, XT Y e (Γf s) z ∧ (z = true → Go Y i body (LE B1 Γf Sr out) B1 (Γf s)) ∧ (z = false → out = .brk s))
    (hr : ∀ s, kn s = some b → Go Y i rest D B (Γf s)) (hret : ∀ r, kr r = some b → ∀ v H, Fi B (Sr r) v H → D.rt v H) : Go Y i (.While e body [] pos :: rest) D B Γ := by
  obtain ⟨o, h1, h2, h3⟩ := flK_some hm
  exact go_while Γf h0 h1 (fun B1 s out hf hh hl => hb B1 s out hf (fun r e => h3 r (hh r e)) hl) (fun s hs => hr s (h2 s (.inr hs))) (fun r e => hret r (h3 r e))
/-! ### and, or, a if c else b whose right side may fail -/
theorem xw_andP {z u : Bool} {m2 : Option Bool} (h : XT Y ea Γ z) (hu : (bif z then m2 else some false) = some u) (h2 : ∀ z', m2 = some z' → XW Y (.BoolOp .And (eb :: es) pos) Γ z') : XW Y (.BoolOp .And (ea :: eb :: es) pos) Γ u := by
  cases z with
  | true => exact xw_and h (fun _ => h2 u hu) rfl
  | false =>
    have : false = u := by simpa using hu
    subst this
    exact xw_and (z' := false) h (fun q => by cases q) rfl
theorem xw_orP {z u : Bool} {m2 : Option Bool} (h : XT Y ea Γ z) (hu : (bif z then some true else m2) = some u) (h2 : ∀ z', m2 = some z' → XW Y (.BoolOp .Or (eb :: es) pos) Γ z') : XW Y (.BoolOp .Or (ea :: eb :: es) pos) Γ u := by
  cases z with
  | false => exact xw_or h (fun _ => h2 u hu) rfl
  | true =>
    have : true = u := by simpa using hu
    subst this
    exact xw_or (z' := true) h (fun q => by cases q) rfl
theorem x_andP {z u : Bool} {m2 : Option Bool} (h : XV Y ea Γ (vBl z)) (hu : (bif z then m2 else some false) = some u) (h2 : ∀ z', m2 = some z' → XV Y (.BoolOp .And (eb :: es) pos) Γ (vBl z')) : XV Y (.BoolOp .And (ea :: eb :: es) pos) Γ (vBl u) := by
  cases z with
  | true => exact x_and h (fun _ => h2 u hu) rfl
  | false =>
    have : false = u := by simpa using hu
    subst this
    exact x_and (z' := false) h (fun q => by cases q) rfl
theorem x_orP {z u : Bool} {m2 : Option Bool} (h : XV Y ea Γ (vBl z)) (hu : (bif z then some true else m2) = some u) (h2 : ∀ z', m2 = some z' → XV Y (.BoolOp .Or (eb :: es) pos) Γ (vBl z')) : XV Y (.BoolOp .Or (ea :: eb :: es) pos) Γ (vBl u) := by
  cases z with
  | false => exact x_or h (fun _ => h2 u hu) rfl
  | true =>
    have : true = u := by simpa using hu
    subst this
    exact x_or (z' := true) h (fun q => by cases q) rfl
theorem x_iteP {α : Type} {ec : Expr} {z : Bool} {m1 m2 : Option α} {u : α} {g : α → Slot} (hc : XT Y ec Γ z) (hu : (bif z then m1 else m2) = some u) (h1 : ∀ v, m1 = some v → XV Y ea Γ (g v)) (h2 : ∀ v, m2 = some v → XV Y eb Γ (g v)) : XV Y (.IfExp ec ea eb pos) Γ (g u) :=
  x_ite hc (fun hz => h1 u (condT hz hu)) (fun hz => h2 u (condF hz hu))
/-- a op1 b op2 c, the last may fail -/
theorem x_chainP {op op' : CmpOp} {r2 r2' : R2} {ec : Expr} {z u : Bool} {m2 : Option Bool} {n : Int} (ho : ∀ i, OpR (Y.X i) (compareOp op) r2) (ho' : ∀ i, OpR (Y.X i) (compareOp op') r2') (h : Op2 r2 a (vInt n) (vBl z))
    (hu : (bif z then m2 else some false) = some u) (ha : XV Y ea Γ a) (hb : XV Y eb Γ (vInt n)) (hc : ∀ z', m2 = some z' → ∃ c, XV Y ec Γ c ∧ Op2 r2' (vInt n) c (vBl z')) (hm : lastMarks [op, op'] [eb, ec] = false := by with_unfolding_all rfl) : XV Y (.Compare ea [op, op'] [eb, ec] pos) Γ (vBl u) := by
  cases z with
  | true =>
    obtain ⟨c, h1, h2⟩ := hc u hu
    exact x_chain ho ho' h (fun _ => h2) (by simp) ha hb (fun _ => h1) hm
  | false =>
    have : false = u := by simpa using hu
    subst this
    exact x_chain (c := vInt n) (z' := false) ho ho' h (fun q => by cases q) (by simp) ha hb (fun q => by cases q) hm
theorem xt_chainP {op op' : CmpOp} {r2 r2' : R2} {ec : Expr} {z u : Bool} {m2 : Option Bool} {n : Int} (ho : ∀ i, OpR (Y.X i) (compareOp op) r2) (ho' : ∀ i, OpR (Y.X i) (compareOp op') r2') (h : Op2 r2 a (vInt n) (vBl z))
    (hu : (bif z then m2 else some false) = some u) (ha : XV Y ea Γ a) (hb : XV Y eb Γ (vInt n)) (hc : ∀ z', m2 = some z' → ∃ c, XV Y ec Γ c ∧ Op2 r2' (vInt n) c (vBl z')) (hm : lastMarks [op, op'] [eb, ec] = false := by with_unfolding_all rfl) : XT Y (.Compare ea [op, op'] [eb, ec] pos) Γ u := by
  cases z with
  | true =>
    obtain ⟨c, h1, h2⟩ := hc u hu
    exact xt_chain ho ho' h (fun _ => h2) (by simp) ha hb (fun _ => h1) hm
  | false =>
    have : false = u := by simpa using hu
    subst this
    exact xt_chain (c := vInt n) (z' := false) ho ho' h (fun q => by cases q) (by simp) ha hb (fun q => by cases q) hm
theorem x_neg {z : Int} (h : XV Y e Γ (vInt z)) : XV Y (.UnaryOp .USub e pos) Γ (vInt (-z)) := x_un (fun _ => un_neg) (fun B F H x fx os Q W p1 q => by
  obtain rfl := vint p1
  exact ⟨z, rfl, q _ F H [] same_refl same_refl W.drop ⟨rfl, _, rfl, rfl⟩⟩) h
theorem xt_of {z : Bool} (h : XW Y e Γ z) : XT Y e Γ z := xw_pt h
end
end Ty

/-! Ty11 -/
namespace Ty
open PySem PySem.Spec L2
open PyProof.Rows (envOfC)
def letO {α β : Type} (a : α) (f : α → Option β) : Option β := f a
theorem letO_some {α β : Type} {a : α} {f : α → Option β} {r : β} (h : letO a f = some r) : ∃ x, a = x ∧ f x = some r := ⟨a, rfl, h⟩
theorem WkL.at {s s' : Slot} : ∀ {Γ : List Slot} {j : Nat}, WkS s s' → Γ[j]? = some s → WkL Γ (Γ.set j s')
  | [], _, _, e => by simp at e
  | _ :: _, 0, h, e => by simp at e; subst e; exact .cons h .refl
  | _ :: _, j + 1, h, e => .cons .refl (WkL.at h (by simpa using e))
theorem le_line {n : Nat} (h : Nat.ble n 1000 = true) : n ≤ sizeLine := Nat.le_trans (Nat.le_of_ble_eq_true h) (by rw [sizeLine_eq]; decide)
section
variable {P : Program} {w : World} {K : PySem.W.Frag} {mg : Str → Option Value} {base : Heap} {k : Nat}
variable {Y : Fa P w K mg base k} {i : Y.I} {e ea eb eo ev tg iter elt : Expr} {es ifs : List Expr} {rest body : List Stmt} {Γ Γ' Γ1 Γ2 Δ Δ' : List Slot} {a b c r s s' : Slot} {pos : Pos} {B : Bs} {D : Ends} {x f : Str} {p' : Pos} {scope : Scope}
theorem XV.eqV {α : Type} {p : VP α} {a b : α} (h : XV Y e Γ (val p a)) (hx : a = b) : XV Y e Γ (val p b) := hx ▸ h
theorem XV.eqO {α : Type} {p : OP α} {a b : α} (h : XV Y e Γ (own p a)) (hx : a = b) : XV Y e Γ (own p b) := hx ▸ h
theorem XV.frz {α : Type} {p : VP α} {xs : List α} (h : XV Y e Γ (own (oL p) xs)) : XV Y e Γ (val (pL p) xs) := h.wk WkS.list
theorem lc_el {α : Type} {q : VP α} {y : α} (h : XV Y elt Γ (val q y)) : XTs Y [] Γ (some y).isSome ∧ ∀ z, some y = some z → XV Y elt Γ (val q z) := ⟨xts_nil, fun z hz => by cases hz; exact h⟩
theorem lc_elS {α : Type} {g : α → Slot} {y : α} (h : XV Y elt Γ (g y)) : XTs Y [] Γ (some y).isSome ∧ ∀ z, some y = some z → XV Y elt Γ (g z) := ⟨xts_nil, fun z hz => by cases hz; exact h⟩
theorem lc_if {α : Type} {q : VP α} {c : Bool} {m : Option (Option α)} {o : Option α} (hc : XT Y e Γ c) (hm : (bif c then m else some none) = some o) (h : m = some o → ∃ y, o = some y ∧ XV Y elt Γ (val q y)) : XTs Y [e] Γ o.isSome ∧ ∀ z, o = some z → XV Y elt Γ (val q z) := by
  cases c with
  | true =>
    obtain ⟨y, rfl, hx⟩ := h hm
    exact ⟨xts_one hc, fun z hz => by cases hz; exact hx⟩
  | false =>
    have : none = o := by simpa using hm
    subst this
    exact ⟨xts_one hc, fun z hz => by cases hz⟩
theorem c_max2 (Y : Fa P w K mg base k) (hcm : Y.cm = true := by rfl) (i : Y.I) : CallR (Y.X i) (.builtin "max") (fun xs H Q => ∃ i j, xs = [.int i, .int j] ∧ Q (.int (if j > i then j else i)) H) := call_max2 ((Y.hC i).trans hcm)
theorem c_min2 (Y : Fa P w K mg base k) (hcm : Y.cm = true := by rfl) (i : Y.I) : CallR (Y.X i) (.builtin "min") (fun xs H Q => ∃ i j, xs = [.int i, .int j] ∧ Q (.int (if j < i then j else i)) H) := call_min2 ((Y.hC i).trans hcm)
/-- x = [elt for ..], what is made owned -/
theorem go_setLcS {α β : Type} {xs : List α} {rs : α → Slot} {g : β → Slot} {f : α → Option (Option β)} {ys : List β} {own : List (Str × Nat)} (j : Nat) {py cpos : Pos} (hi : XI Y tg iter Γ True (xs.map rs)) (L : Lc Y iter scope own) (hz : xs.length ≤ sizeLine) (hf : fmO xs f = some ys) (hd0 : DeadAt Γ (own.map (·.2))) (hst : ∀ y, (g y).st)
    (hb : ∀ x o, x ∈ xs → f x = some o → ∃ ws Γ1, (ws.all fun j => (own.map (·.2)).contains j) = true ∧ XG (Y.blk scope) tg ws (rs x) Γ Γ1 ∧ XTs (Y.blk scope) ifs Γ1 o.isSome ∧ ∀ y, o = some y → XV (Y.blk scope) elt Γ1 (g y))
    (hg : Go Y i rest D B (Γ.set j (lstS (ys.map g)))) (hj : Nat.blt j Γ.length = true := by rfl) (hy : (Y.X i).N[j]? = some x := by rfl) (hyl : (Y.X i).env.scope.names.lookup x = some .local := by rfl)
    (hsw : swapsWith (.ListComp elt [⟨tg, iter, ifs, 0⟩] scope cpos) (some (.Name x py)) pos.line (Y.X i).env = pure true) (hcm : Y.cm = true := by rfl) : Go Y i (.Assign [.Name x py] (.ListComp elt [⟨tg, iter, ifs, 0⟩] scope cpos) pos :: rest) D B Γ := by
  obtain ⟨wi, pi, hw⟩ := hi
  refine go_ps (ps_setLc ((Y.hC i).trans hcm) (Y.hN i) hy hyl hsw (pi i) (L.ok i) (fun s H C cl fp => pg_cG (Y := Y.blk scope) (i, s, H, C, cl, fp)) (fun s H C cl fp => pts_cTs (Y := Y.blk scope) (i, s, H, C, cl, fp)) (fun s H C cl fp => pe_cE (Y := Y.blk scope) (i, s, H, C, cl, fp)) (L.hs i)) fun F H σ ⟨os, W, S⟩ => ?_
  refine lcS_run hz hf hd0 hst hb hw (Sta.in W S) fun v F1 H1 fp f1 e1 W1 p1 => ?_
  obtain ⟨os', d, h1, h2⟩ := (S.mono f1 e1).put p1 (Nat.le_of_ble_eq_true hj)
  exact hg F1 H1 _ ⟨os', (W1.perm h2).drop, h1⟩
theorem o_lenB {α : Type} {p : VP α} {xs : List α} : OpA (rLenK K) [bor (pL p) xs] (vInt (xs.length : Int)) := opA1 fun B F H v fx os Q W pv q => by
  obtain ⟨_, v', ev, l, vs, rfl, h1, h2⟩ := pv
  cases ev
  exact ⟨l, vs, rfl, .inl (SqL.of h1), q _ F H [] same_refl same_refl W.drop ⟨rfl, _, rfl, by show V.int _ = V.int _; rw [Paired.length h2]⟩⟩
theorem x_disp_dII {β : Type} {p : VP β} {ek : Expr} {z : Int × Int} {u : β} (hk : XV Y ek Γ (val (pT2 pInt pInt) z)) (hv : XV Y ev Γ (val p u)) : XV Y (.Dict [some ek] [ev] pos) Γ (own (oD dII p) [(z, u)]) := x_disp1T hk hv
theorem x_disp_dInts {β : Type} {p : VP β} {ek : Expr} {z : List Int} {u : β} (hk : XV Y ek Γ (val (pTup pInt) z)) (hv : XV Y ev Γ (val p u)) : XV Y (.Dict [some ek] [ev] pos) Γ (own (oD dInts p) [(z, u)]) := x_disp1T hk hv
/-- enumerate(xs), its pairs as data -/
theorem xi_enum' {α : Type} {p : VP α} {xs : List α} {p' tpos : Pos} {elts : List Expr} {kk : Nat} (hm : mg "enumerate" = none) (h : XV Y e Γ (val (pL p) xs)) (hg : ∀ i, Gl (Y.X i) "enumerate" := by intro _; rfl) (hs : ∀ i, starEach [e] (Y.X i).env = [(false, eval e (Y.X i).env)] := by intro _; rfl) :
    XI Y (.Tuple elts kk tpos) (.Call (.Name "enumerate" p') [e] [] pos) Γ False (((xs.zipIdx).map fun (x : α × Nat) => ((x.2 : Int), x.1)).map (val (pT2 pInt p))) := by
  rw [List.map_map]
  exact xi_enum hm h hg hs
end
end Ty

/-! Ty18 -/
/-! errors with fields: class X(Y), Y above ValueError, X.__init__ says super().__init__(..), then self.f = f -/
namespace Ty
open PySem PySem.Spec L2
open PyProof.Rows
/-- a field of an error -/
inductive XF where
  | i (n : Int)
  | s (x : Str)
  deriving DecidableEq
def XF.v : XF → V
  | .i n => .int n
  | .s x => .str x
abbrev veI : String := "ValueError.__init__"
/-- a def that closes over __class__, which is C -/
structure FunS (K : PySem.W.Frag) (P : Program) (x qual : Str) (st : Stmt) (f : Addr) (fd : FuncData) (C : Addr) : Prop where
  ex : ∃ (oc : Value) (od : Option Addr) (kV doc pm : Value) (an : Option Addr) (cda : Addr) (ct : Value) (osl : Array (Option Value)) (cc : Addr) (oc2 : Value) (od2 : Option Addr) (vs2 : Array Value) (sl2 : Array (Option Value)) (file : Str) (tf : Tok) (oc3 : Value) (od3 : Option Addr) (sl3 : Array (Option Value)),
    fd = PySem.W.fnX x qual (defArgs st) (defBody st) (defScope st) [("__class__", cc)] .none kV doc pm an (.ref cda) ct ∧
    K.lookup f = some ⟨oc, od, .func fd, osl⟩ ∧ PySem.W.codeIn K (.ref cda) qual = true ∧
    K.lookup cda = some ⟨oc2, od2, .fields vs2, sl2⟩ ∧ vs2[2]? = some (.str file tf) ∧ ((P.main.file : Str) == file) = true ∧
    K.lookup cc = some ⟨oc3, od3, .cell (some (.ref C)), sl3⟩
/-- what of the class and the world makes super() what it is -/
structure SupC (K : PySem.W.Frag) (P : Program) (mg : Str → Option Value) (C : Addr) : Prop where
  su : mg "super" = none
  an : PySem.W.nsIn K cStatics "thirdparty.any" = some none
  hm : PySem.W.ks_superIn K C C "__init__" = some (some (.builtin veI))
  hV : PySem.W.subIn K (.ref C) (.type "ValueError") = some true
  hs : PySem.W.mroIn K C (.ref C) = some true
  ht : (P.main.scope.names.lookup ("super" : Str)).isSome = false
structure ScS (ps : List Str) (sc : Scope) : Prop where
  kind : sc.kind = .function
  co : sc.isCoroutine = false
  gen : sc.isGenerator = false
  nd : ps.Nodup
  par : ∀ x ∈ ps, sc.names.lookup x = some .local
  nocell : ∀ x ∈ sc.names, x.2 ≠ .cell
  free : ∀ x ∈ sc.names, x.2 = .free → x.1 = "__class__"
  cls : sc.names.lookup ("__class__" : Str) = some .free
  sup : sc.names.lookup ("super" : Str) = some .globalImplicit
abbrev enS (qual : Str) (sc : Scope) (L f : Addr) (cd : Value) (cc : Addr) : Env := PySem.W.envX qual sc L f cd [("__class__", cc)]
/-- what must be seen of the text super().__init__(ej) -/
structure TxS (qual : Str) (sc : Scope) (ej : Expr) (p0 p1 p2 p3 p4 : Pos) : Prop where
  hi : ∀ L f cd cc, interactive (enS qual sc L f cd cc) = false
  hs : ∀ L f cd cc, swapsWith (.Call (.Attribute (.Call (.Name "super" p0) [] [] p1) "__init__" p2) [ej] [] p3) none p4.line (enS qual sc L f cd cc) = pure false
  he : ∀ L f cd cc, ∃ pl : Sem Bool, eval (.Call (.Attribute (.Call (.Name "super" p0) [] [] p1) "__init__" p2) [ej] [] p3) (enS qual sc L f cd cc) = (do
      let ov ← attributeBase (.Call (.Name "super" p0) [] [] p1) "__init__" (enS qual sc L f cd cc) (eval (.Call (.Name "super" p0) [] [] p1) (enS qual sc L f cd cc))
      standAt p2.atName
      let (f', first) ← holding [ov] (getMethod ov "__init__" pl)
      callWith p3 f' first (backTo p3 (starEach [ej] (enS qual sc L f cd cc))) [])
  st : ∀ L f cd cc, starEach [ej] (enS qual sc L f cd cc) = (false, eval ej (enS qual sc L f cd cc)) :: starEach [] (enS qual sc L f cd cc)
  pl : ∀ L f cd cc, (backTo p3 (starEach [] (enS qual sc L f cd cc))).any (·.1) = false
/-- the context of such a body -/
def cxS (P : Program) (w : World) (K : PySem.W.Frag) (mg : Str → Option Value) (base : Heap) (N : List Str) (qual : Str) (sc : Scope) (f : Addr) (cd : Value) (cc : Addr) (A : Around) (outer : List Env) (s : Shared) (H : Hp) : Cx :=
  let env := enS qual sc s.heap.objs.size f cd cc
  { prog := P, w := w, K := K, mg := mg, base := base, A := A.deeper env, N := N, s_0 := s, H_0 := H, env := env, outer := outer, stack := env :: outer, ex := [], fn := fun _ => false, calm := true, pn := [], xe := fun _ _ => False }
theorem zip_none {x : Str} : ∀ {P : List Str} {vs : List Value}, x ∉ P → (P.zip vs).reverse.lookup x = none
  | [], _, _ => rfl
  | _ :: _, [], _ => rfl
  | p :: P, v :: vs, h => by
    have hp : (x == p) = false := by
      rw [beq_eq_false_iff_ne]
      exact fun z => h (by rw [z]; exact List.mem_cons_self)
    rw [List.zip_cons_cons, List.reverse_cons, List.lookup_append, zip_none (fun z => h (List.mem_cons_of_mem _ z))]
    simp [List.lookup, hp]
theorem zip_get {x : Str} {v : Value} : ∀ {P : List Str} {vs : List Value} {i : Nat}, P.Nodup → P[i]? = some x → vs[i]? = some v → (P.zip vs).reverse.lookup x = some v
  | [], _, _, _, h, _ => by simp at h
  | _ :: _, [], _, _, _, h => by simp at h
  | p :: P, w :: vs, 0, nd, h1, h2 => by
    simp at h1 h2; subst h1; subst h2
    rw [List.zip_cons_cons, List.reverse_cons, List.lookup_append, zip_none (List.nodup_cons.mp nd).1]
    simp [List.lookup]
  | p :: P, w :: vs, i + 1, nd, h1, h2 => by
    rw [List.zip_cons_cons, List.reverse_cons, List.lookup_append, zip_get (i := i) (List.nodup_cons.mp nd).2 (by simpa using h1) (by simpa using h2)]
    rfl
theorem inv_startS {P : Program} {w : World} {K : PySem.W.Frag} {mg : Str → Option Value} {base : Heap} {ps : List Str} {qual : Str} {sc : Scope} {f : Addr} {cd : Value} {cc : Addr} {A : Around} {outer : List Env} {s : Shared} {H : Hp} {us : List Value} {vs : List V} {h1 : Heap} {tk : Nat}
    (S : ScS ps sc) (hd : A.handled = none) (e0 : Env0 P w K mg base A outer s H) (hl : vs.length = ps.length) (r : Vals vs us) {oc : Obj} {cv : Option Value} (hcc : base.get? cc = some oc) (hcd : oc.data = .cell cv)
    (hn : h1.Ns s.heap.objs.size (fun x => (ps.zip us).reverse.lookup x)) (k : ∀ b o, s.heap.get? b = some o → h1.get? b = some o) :
    Inv (cxS P w K mg base ps qual sc f cd cc A outer s H) [] (L2.start ps vs) H { s with heap := h1, toks := tk } := by
  have cel : ∀ x c, (cxS P w K mg base ps qual sc f cd cc A outer s H).env.cells.lookup x = some c → x = "__class__" ∧ c = cc := fun x c h => by
    have h' : ([("__class__", cc)] : List (Str × Addr)).lookup x = some c := h
    by_cases q : x = "__class__"
    · subst q
      have z : some cc = some c := h'
      cases z
      exact ⟨rfl, rfl⟩
    · have q2 : (x == ("__class__" : Str)) = false := beq_eq_false_iff_ne.mpr q
      rw [List.lookup_cons, q2] at h'
      cases h'
  have noA : ∀ b : Addr, b ∉ (cxS P w K mg base ps qual sc f cd cc A outer s H).ex := fun b z => (nomatch (show b ∈ ([] : List Addr) from z))
  have hc0 := e0.bs cc oc hcc
  refine ⟨⟨e0.mod, S.kind, rfl, rfl, Nat.le_refl _, fun y z c h1 h2 => (cel y c h1).1.trans (cel z c h2).1.symm, fun y hy => ?_, fun y c h => (nomatch h), fun _ => hd, Around.frames_deeper e0.frames, .inr ⟨rfl, rfl⟩, fun b z => absurd z (noA b), e0.bs, e0.bsz, fun b _ _ => noA b, fun b z => absurd z (noA b), e0.funs, e0.frf⟩,
    rfl, e0.bare, Un.kept k, ⟨_, hn, fun i y v h1 h2 h3 => ?_⟩, fun y c h => ?_, e0.hok.fresh (Nat.le_refl _), fun y c h => ?_, fun p hp => (nomatch (show p ∈ ([] : List (Addr × Obj)) from hp)), e0.hok.kept k, ?_⟩
  · refine ⟨cc, ?_⟩
    have q : y = "__class__" := by
      rcases hy with hy | hy
      · exact absurd rfl (S.nocell _ (PySem.mem_of_lookup hy))
      · exact S.free _ (PySem.mem_of_lookup hy) rfl
    subst q
    rfl
  · have ha : vs[i]? = some v := by
      unfold L2.start at h2
      by_cases hi : i < vs.length
      · rw [List.getElem?_append_left (by simpa using hi), List.getElem?_map] at h2
        cases e : vs[i]? with
        | none => rw [e] at h2; cases h2
        | some a => rw [e] at h2; cases h2; rfl
      · rw [List.getElem?_append_right (by simpa using hi), List.getElem?_replicate] at h2
        split at h2 <;> cases h2
    obtain ⟨u, hu, rv⟩ := r.get ha
    exact ⟨u, rv, .inl ⟨S.par y (List.mem_of_getElem? h1), zip_get S.nd h1 hu⟩⟩
  · obtain ⟨_, rfl⟩ := cel y c h
    exact ⟨cv, oc, k _ _ hc0.1, hcd⟩
  · obtain ⟨_, rfl⟩ := cel y c h
    exact hc0.2
  · unfold L2.start
    show _ = ps.length
    rw [List.length_append, List.length_map, List.length_replicate]
    omega
section
variable {X : Cx} {pins : List (Addr × Obj)} {σ : L2.St} {H : Hp} {s : Shared} {a C u : Addr} {us : List Value} {Q : Value → Shared → Prop}
/-- the built-in __init__ bound to the error at a is called: nothing of it is told -/
theorem mw_call (T : OexC X.K C) (I : Inv X pins σ H s) (e : H a = some (exo a C none)) (hu : s.heap.get? u = some (PySem.W.kxs_mw veI a)) (hl : us.length ≤ sizeLine) (h : ∀ s', Inv X pins σ H s' → Q .none s') :
    wpAny (model X.prog X.w) X.A (call (.ref u) us) Q X.xe s := by
  obtain ⟨nm, q, N, bs, bm, sn, sub, ab, col, dd, k0, k1, k2, k3, k5, hC, hbm⟩ := T.cls
  have hC' := I.kIn _ _ hC
  obtain ⟨t1, ho⟩ := exo_at I.hok e
  obtain ⟨hp, g, d, t, os⟩ := s
  have same : upd H a (exo a C none) = H := funext fun b => by
    by_cases z : b = a
    · rw [z, upd_same]; exact e.symm
    · exact upd_ne z
  have fin : ∀ h', (∀ b o, b ≠ a → hp.get? b = some o → h'.get? b = some o) → h'.get? a = some (PySem.W.excObj C hp.objs.size none .none) → h'.get? hp.objs.size = some (PySem.W.excTup us) → Q .none ⟨h', g, d, t, os⟩ := fun h' k ea _ => by
    refine h _ ?_
    have J := I.write (t' := t) (x := a) (e := a) (o := exo a C none) (by rw [e]; trivial) (Or.inl rfl) k ⟨_, ea⟩ (exo_ok ea)
    exact same ▸ J
  refine wpAny_call (codeAny_of_tree ?_)
  show wpAny _ X.A.in1 (callAny (Value.ref u) ⟨us, []⟩) _ _ _
  unfold callAny
  refine wpAny_bind (wpAny_load hu ?_)
  dsimp only [PySem.W.kxs_mw]
  refine PySem.W.KFB.if_so (by decide) ?_
  refine wpAny_bind (PySem.W.check_bound_init F.excBase_ValueError.toExcCallFacts hC' ho rfl ?_)
  refine wpAny_bind (wpAny_pure (wpAny_pure ⟨plainId_quiet F.excBase_ValueError.init.plain _, codeAny_builtin F.excBase_ValueError.initEntry ?_⟩))
  exact PySem.W.exc_init_tree (cls := .ref C) (t0 := t1) (dv := none) (c2 := .none) (c3 := .none) (b4 := .bool false) ho hl fin
end
section
variable {P : Program} {w : World} {K : PySem.W.Frag} {mg : Str → Option Value} {base : Heap}
/-- THE RULE for such an __init__ -/
theorem fnS_of {k : Nat} {f C : Addr} {x qual : Str} {st : Stmt} {fd : FuncData} {ps : List Str} {sp : Sp} {ej : Expr} {rest : List Stmt} {p0 p1 p2 p3 p4 : Pos} {ar : Arg}
    (Fn : FunS K P x qual st f fd C) (S : ScS ps (defScope st)) (U : SupC K P mg C) (O : OexC K C)
    (hb : defBody st = .Expr (.Call (.Attribute (.Call (.Name "super" p0) [] [] p1) "__init__" p2) [ej] [] p3) p4 :: rest)
    (TX : TxS qual (defScope st) ej p0 p1 p2 p3 p4) (har : ((defArgs st).posonlyargs ++ (defArgs st).args).head? = some ar) (hps : ps.head? = some ar.arg)
    (len : ∀ vs H Q E, sp vs H Q E → vs.length = ps.length)
    (body : ∀ (cda cc : Addr) (A : Around) (outer : List Env) (s : Shared) (H : Hp) (vs : List V) (Q : VK) (E : XK), sp vs H Q E →
      ∃ (a : Addr) (xs : List V) (ta : TA) (tr : TS), vs = .ref a :: xs ∧ H a = some (exo a C none) ∧
        PA (cxS P w K mg base ps qual (defScope st) f (.ref cda) cc A outer s H) [ej] ta ∧ ta (L2.start ps vs) H (fun ws H1 => H1 = H ∧ ws.length ≤ 1000) ∧
        PSs (cxS P w K mg base ps qual (defScope st) f (.ref cda) cc A outer s H) rest tr ∧ tr { nx := fun _ H' => Q .non H', rt := Q } (L2.start ps vs) H) :
    FnOk P w K mg base CX0 (k + 1) f fd ps sp := by
  obtain ⟨oc, od, kV, doc, pm, an, cda, ct, osl, cc, oc2, od2, vs2, sl2, file, tf, oc3, od3, sl3, rfl, lk, hcd, lk2, hv2, hfile, lk3⟩ := Fn.ex
  refine ⟨len, fun A outer s H args us vs Q E hr e0 hbd r hsp => ?_⟩
  obtain ⟨a, xs, ta, tr, rfl, ha, hpa, hta, hrest, htr⟩ := body cda cc A outer s H vs Q E hsp
  have KX : K.In s.heap := e0.mod.kin.keeps fun b o e => (e0.bs b o e).1
  have lim : s.heap.NoLimit := e0.mod.nolimit.keeps fun b o e => (e0.bs b o e).1
  have hl := len _ _ _ _ hsp
  have hloc : ∀ y ∈ ps.zip us, (defScope st).names.lookup y.1 = some .local := fun ⟨n, v⟩ hy => S.par n (List.of_mem_zip hy).1
  refine PySem.ks_codeAny_call_defAt (fd := PySem.W.fnX x qual (defArgs st) (defBody st) (defScope st) [("__class__", cc)] .none kV doc pm an (.ref cda) ct) (body := defBody st) (binds := ps.zip us) hr.depth (KX _ _ lk) rfl lim (PySem.W.codeRec_of KX hcd) rfl hbd S.nocell hloc (fun h1 hn hk => ?_) S.co S.gen S.kind
  have I : Inv (cxS P w K mg base ps qual (defScope st) f (.ref cda) cc A outer s H) [] (L2.start ps (.ref a :: xs)) H { s with heap := h1, toks := s.toks + (ps.zip us).length } :=
    inv_startS (oc := ⟨oc3, od3, .cell (some (.ref C)), sl3⟩) (cv := some (.ref C)) S hr.hd e0 hl r (e0.mod.kin _ _ lk3) rfl hn hk
  have X1 : K.In h1 := I.kIn
  obtain ⟨nm, q, N, bs, bm, sn, sub, ab, col, dd, k0, k1, k2, k3, k5, hC, hbm⟩ := O.cls
  have hcl : PySem.W.clsIn K C = some { name := nm, bases := bs, mro := .ref C :: bm, ns := N, qualname := q, hasDict := true, slotNames := sn, subclasses := sub, abstract := ab, collection := col, hasDel := false } := by unfold PySem.W.clsIn; rw [hC] <;> rfl
  obtain ⟨t1, ho⟩ := exo_at I.hok ha
  obtain ⟨mb, hmb, hbt⟩ := e0.mod.blt
  have hself : (ps.zip us).reverse.lookup ar.arg = some (.ref a) := by
    obtain ⟨u, hu, ru⟩ := r.get (i := 0) (x := V.ref a) rfl
    obtain rfl : u = Value.ref a := ru
    refine zip_get (i := 0) S.nd ?_ hu
    rw [← List.head?_eq_getElem?]; exact hps
  have har2 : (defScope st).names.lookup ar.arg = some .local := S.par _ (List.mem_of_mem_head? (by rw [hps]; rfl))
  have hvs2 := X1 _ _ lk2
  have hC1 := X1 _ _ hC
  show PySem.wpAt _ _ (.func (defBody st) (enS qual (defScope st) s.heap.objs.size f (.ref cda) cc)) (execs (defBody st) (enS qual (defScope st) s.heap.objs.size f (.ref cda) cc)) _ _ _
  rw [show execs (defBody st) (enS qual (defScope st) s.heap.objs.size f (.ref cda) cc) = execs (.Expr (.Call (.Attribute (.Call (.Name "super" p0) [] [] p1) "__init__" p2) [ej] [] p3) p4 :: rest) (enS qual (defScope st) s.heap.objs.size f (.ref cda) cc) from congrArg (fun b => execs b _) hb]
  obtain ⟨pl, he⟩ := TX.he s.heap.objs.size f (.ref cda) cc
  refine PySem.ks_wpAt_execs_cons ?_
  refine PySem.ks_wpAt_Expr_any (hi := TX.hi ..) (hs := TX.hs ..) ?_
  refine PySem.ks_wpAt_MethodCall (he := he) ?_
  refine PySem.ks_wpAt_super_base (env := enS qual (defScope st) s.heap.objs.size f (.ref cda) cc) S.sup S.cls (by decide) rfl (X1 _ _ lk) rfl har rfl hvs2 rfl hv2 hfile U.ht ?_
  refine PySem.W.ks_loadName_global S.kind S.sup (Calls.loadGlobal_builtin (mg := mg) (mb := mb) (v := .type "super") (I.mod.glob.keeps I.bk) U.su (hmb.keeps I.bk) ((hbt _ (by decide)).trans (by first | rfl | kernel_rfl)) ⟨rfl, ?_⟩)
  refine wpAny_loadName_free S.kind S.cls rfl ⟨_, X1 _ _ lk3, rfl⟩ ?_
  refine wpAny_loadName_local S.kind har2 hn hself ?_
  refine PySem.ks_wpAny_isType_cls hC1 rfl ⟨rfl, ?_⟩
  refine PySem.ks_wpAny_call_super hC1 rfl ho rfl (fun c z => nomatch z) (PySem.W.looks_mroIn X1 U.hs) (fun h2 e2 k2 => ?_)
  have X2 : K.In h2 := X1.keeps k2
  have hmm : PySem.W.alongIn K "__init__" (((Value.ref C :: bm).dropWhile (· != .ref C)).drop 1) = some (some (.builtin veI)) := by
    have z := U.hm
    unfold PySem.W.ks_superIn at z
    rw [hcl] at z
    exact z
  have haC : a ≠ C := fun z => by
    have e1 := hC1
    rw [← z] at e1
    have e2 := e1.symm.trans ho
    cases e2
  have J0 : PySem.W.InstAt h2 a _ C none := ⟨k2 _ _ ho, rfl, rfl, trivial⟩
  refine PySem.W.kxs_getMethod PySem.W.kxs_ValueError e2 (PySem.W.looks_opaque X2 U.an) (l₀ := Value.ref C :: bm) (fun A' Q' E' s' kq q => wpAny_bind ((PySem.W.looks_clsIn X2 hcl) A' _ E' s' kq (wpAny_pure q))) rfl X2 hmm (J0.type.andThen (PySem.W.looks_subIn X2 U.hV)) haC (by decide) ?_
  have I3 : Inv (cxS P w K mg base ps qual (defScope st) f (.ref cda) cc A outer s H) [] (L2.start ps (.ref a :: xs)) H { heap := h2.push (PySem.W.kxs_mw veI a), gens := s.gens, drawn := s.drawn, toks := s.toks + (ps.zip us).length + 1, os := s.os } :=
    I.kept (t' := s.toks + (ps.zip us).length + 1) (h' := h2.push (PySem.W.kxs_mw veI a)) fun b o z => Heap.get?_push_of_some _ (k2 b o z)
  have hu3 : (h2.push (PySem.W.kxs_mw veI a)).get? h2.objs.size = some (PySem.W.kxs_mw veI a) := Heap.get?_push_size _ rfl
  have hlt : h1.objs.size ≤ h2.objs.size := Nat.le_of_lt (Heap.lt_size e2)
  have I4 : Inv (cxS P w K mg base ps qual (defScope st) f (.ref cda) cc A outer s H) [(h2.objs.size, PySem.W.kxs_mw veI a)] (L2.start ps (.ref a :: xs)) H { heap := h2.push (PySem.W.kxs_mw veI a), gens := s.gens, drawn := s.drawn, toks := s.toks + (ps.zip us).length + 1, os := s.os } := I3.pins_of fun p hp => by
    obtain rfl := List.mem_singleton.mp hp
    exact ⟨hu3, I.hok.fresh hlt, Nat.ne_of_gt (Nat.lt_of_lt_of_le I.lt hlt), I.nofs hlt, fun v z => nomatch z⟩
  show wpAny _ _ (callWith p3 (.ref h2.objs.size) [] (backTo p3 (starEach [ej] (enS qual (defScope st) s.heap.objs.size f (.ref cda) cc))) []) _ _ _
  have hrun := hpa.run p3 _ _ _ _ _ I4 hta
  rw [show starEach [ej] (cxS P w K mg base ps qual (defScope st) f (.ref cda) cc A outer s H).env = _ from TX.st s.heap.objs.size f (.ref cda) cc] at hrun
  rw [TX.st]
  refine PySem.W.kxs_callWith (i := veI) (x := a) (by show (false || (backTo p3 (starEach [] (enS qual (defScope st) s.heap.objs.size f (.ref cda) cc))).any (·.1)) = false; rw [Bool.false_or]; exact TX.pl _ _ _ _) ?_
  refine Calls.evalArgs_plain (wpAny_mono hrun (fun ws s4 hw => ?_) fun _ _ z => z.elim)
  obtain ⟨vs', H1, I5, rv, hH, hz⟩ := hw
  rw [hH] at I5
  have I6 : Inv (cxS P w K mg base ps qual (defScope st) f (.ref cda) cc A outer s H) [] (L2.start ps (.ref a :: xs)) H s4 := I5.pins_of fun p hp => absurd hp List.not_mem_nil
  have hu4 := (I5.pin (h2.objs.size, PySem.W.kxs_mw veI a) (List.mem_append_right _ List.mem_cons_self)).1
  refine ⟨hu4, wpAny_mono (mw_call (Q := fun v s' => v = .none ∧ Inv (cxS P w K mg base ps qual (defScope st) f (.ref cda) cc A outer s H) [] (L2.start ps (.ref a :: xs)) H s') O I6 ha hu4 (by
    have z : ws.length ≤ sizeLine := by rw [← Paired.length rv, sizeLine_eq]; omega
    exact z) fun s5 I7 => ⟨rfl, I7⟩) (fun v s5 h5 => ?_) fun _ _ z => z.elim⟩
  obtain ⟨_, I7⟩ := h5
  refine wpAt_of_wpAny (wpAny_mono (hrest.run [] s5 _ H _ I7 htr) (fun fl s' hs => ?_) fun _ _ z => z.elim)
  have fin : ∀ {σ' : L2.St} {H' : Hp} {v : V} {u : Value}, Inv (cxS P w K mg base ps qual (defScope st) f (.ref cda) cc A outer s H) [] σ' H' s' → RelV v u → Q v H' → CE outer P w H s Q u s' :=
    fun {σ' H' v u} J rv q => ⟨v, H', J.os, J.bare, J.base, J.hok, rv, q⟩
  cases fl with
  | ret u =>
    obtain ⟨v, σ', H', J, rv, q⟩ := hs
    exact fin J rv q
  | next =>
    obtain ⟨σ', H', J, q⟩ := hs
    exact fin (v := V.non) (u := Value.none) J rfl q
  | brk =>
    obtain ⟨_, _, _, q⟩ := hs
    exact False.elim q
  | cont =>
    obtain ⟨_, _, _, q⟩ := hs
    exact False.elim q
end
end Ty

/-! Ty19a -/
namespace Ty
open PySem PySem.Spec L2
open PyProof.Rows
/-! ### what the __init__ of an error with fields promises -/
def XF.ok : XF → Prop
  | .i n => n.natAbs < 2 ^ 64
  | .s x => x.length ≤ 1000
instance (f : XF) : Decidable f.ok := by unfold XF.ok; cases f <;> infer_instance
/-- the dict of such an error -/
abbrev xfd (ns : List Str) (fs : List XF) : List (Str × V) := (ns.zip (fs.map XF.v)).reverse
def spE (C : Addr) (ns : List Str) : Sp := fun vs H Q _ => ∃ (a : Addr) (fs : List XF), vs = .ref a :: fs.map XF.v ∧ fs.length = ns.length ∧ (∀ f ∈ fs, f.ok) ∧ H a = some (exo a C none) ∧
  ∀ dx, H dx = none → dx ≠ a → Q .non (upd (upd H dx (exd dx (xfd ns fs))) a (exo a C (some dx)))
theorem spE_len {C : Addr} {ns : List Str} : ∀ vs H Q E, spE C ns vs H Q E → vs.length = (("self" : Str) :: ns).length := fun vs H Q E h => by
  obtain ⟨a, fs, rfl, hl, _⟩ := h
  simp [hl]
/-- a part of the message f'..': a constant, or a field's value -/
inductive FP (ns : List Str) : Expr → Prop
  | c {t : Str} {j : Nat} {p : Pos} (h : Nat.ble t.length 1000 = true) : FP ns (.Constant (.str t) j p)
  | v {x : Str} {p q : Pos} (i : Nat) (h : ns[i]? = some x) (h1 : (x == ("__debug__" : Str)) = false) (h2 : (x == ("__classdict__" : Str)) = false) : FP ns (.FormattedValue (.Name x p) (-1) none q)
inductive FPs (ns : List Str) : List Expr → Prop
  | nil : FPs ns []
  | cons {e : Expr} {es : List Expr} : FP ns e → FPs ns es → FPs ns (e :: es)
theorem log_small {n : Int} (h : n.natAbs < 2 ^ 64) : n.natAbs.log2 < 64 := by
  by_cases e : n.natAbs = 0
  · rw [e]; decide
  · exact (Nat.log2_lt e).mpr h
theorem int_text {n : Int} (h : n.natAbs < 2 ^ 64) : (Str.ofString (toString n)).length ≤ 1000 := by
  have e := int_text_length_le (k := 64) (by decide) (log_small h)
  rw [PySem.ofString_length]; omega
theorem str_app_len (x y : Str) : (x ++ y).length = x.length + y.length := by
  show (x.cps ++ y.cps).size = _
  rw [Array.size_append]; rfl
section
variable {X : Cx} {ns : List Str} {fs : List XF} {sc : Scope}
/-- the frame holds the fields -/
def Hd (fs : List XF) (σ : L2.St) : Prop := ∀ (i : Nat) (f : XF), fs[i]? = some f → σ[i + 1]? = some (some f.v)
theorem fp_run (hN : X.N = ("self" : Str) :: ns) (hv : ∀ x ∈ ns, Vis X.env.scope x) (hl : fs.length = ns.length) (hok : ∀ f ∈ fs, f.ok) {e : Expr} (h : FP ns e) : ∃ t, PE X e t ∧ ∀ (σ : L2.St) (H : Hp) (Q : VK), Hd fs σ → (∀ y : Str, y.length ≤ 1000 → Q (.str y) H) → t σ H Q := by
  cases h with
  | c h => exact ⟨_, pe_str, fun σ H Q _ k => k _ (Nat.le_of_ble_eq_true h)⟩
  | @v x p q i h h1 h2 =>
    refine ⟨_, pe_fmt (pe_var (i := i + 1) (by rw [hN]; simpa using h) (hv x (List.mem_of_getElem? h)) h1 h2), fun σ H Q hd k => ?_⟩
    have hi : i < fs.length := by rw [hl]; exact (List.getElem?_eq_some_iff.mp h).1
    have hf : fs[i]? = some fs[i] := List.getElem?_eq_getElem hi
    have ho := hok _ (List.mem_of_getElem? hf)
    refine ⟨_, hd i _ hf, ?_⟩
    cases hx : fs[i] with
    | i n =>
      rw [hx] at ho
      exact .inr ⟨n, rfl, Nat.lt_trans (log_small ho) (by decide), k _ (int_text ho)⟩
    | s y =>
      rw [hx] at ho
      exact .inl ⟨y, rfl, Nat.le_trans ho (by rw [sizeLine_eq]; decide), k _ ho⟩
theorem fps_run (hN : X.N = ("self" : Str) :: ns) (hv : ∀ x ∈ ns, Vis X.env.scope x) (hl : fs.length = ns.length) (hok : ∀ f ∈ fs, f.ok) {es : List Expr} (h : FPs ns es) : ∃ ts, PJ X es ts ∧ ∀ (acc : Str) (σ : L2.St) (H : Hp) (Q : Str → Hp → Prop), Hd fs σ → acc.length + 1000 * es.length ≤ sizeLine → (∀ out, Q out H) → tJs ts acc σ H Q := by
  induction h with
  | nil => exact ⟨[], .nil, fun acc σ H Q _ _ k => k acc⟩
  | @cons e es h r ih =>
    obtain ⟨t, ht, kt⟩ := fp_run hN hv hl hok h
    obtain ⟨ts, hts, kts⟩ := ih
    refine ⟨t :: ts, .cons ht hts, fun acc σ H Q hd hz k => kt σ H _ hd fun y hy => ?_⟩
    have e1 := str_app_len acc y
    rw [List.length_cons] at hz
    exact ⟨y, rfl, by omega, kts _ σ H Q hd (by omega) k⟩
end
section
variable {P : Program} {w : World} {K : PySem.W.Frag} {mg : Str → Option Value} {base : Heap}
/-- what must be seen of self.f = f -/
def AsOk (qual : Str) (sc : Scope) (f : Str) (r0 r1 r2 r3 : Pos) : Prop := ∀ L g cd cc, swapsWith (.Name f r2) (some (.Attribute (.Name "self" r0) f r1)) r3.line (enS qual sc L g cd cc) = pure false
theorem hd_start {ns : List Str} {fs : List XF} {a : Addr} : Hd fs (L2.start ("self" :: ns) (.ref a :: fs.map XF.v)) := fun i f h => by
  unfold L2.start
  have hi : i < fs.length := (List.getElem?_eq_some_iff.mp h).1
  rw [List.getElem?_append_left (by simpa using hi)]
  simp [h]
theorem ex1_of {k : Nat} {f C : Addr} {x qual : Str} {st : Stmt} {fd : FuncData} {n1 : Str} {v1 v2 : Expr} {vr : List Expr} {q p0 p1 p2 p3 p4 a0 a1 a2 a3 : Pos} {ar : Arg}
    (Fn : FunS K P x qual st f fd C) (S : ScS ["self", n1] (defScope st)) (U : SupC K P mg C) (O : OexC K C) (hno : PySem.W.findIn K (.ref C) n1 = some none)
    (hb : defBody st = .Expr (.Call (.Attribute (.Call (.Name "super" p0) [] [] p1) "__init__" p2) [.JoinedStr (v1 :: v2 :: vr) q] [] p3) p4 :: [.Assign [.Attribute (.Name "self" a0) n1 a1] (.Name n1 a2) a3])
    (TX : TxS qual (defScope st) (.JoinedStr (v1 :: v2 :: vr) q) p0 p1 p2 p3 p4) (har : ((defArgs st).posonlyargs ++ (defArgs st).args).head? = some ar) (hself : ar.arg = "self")
    (hp : FPs [n1] (v1 :: v2 :: vr)) (hlen : Nat.ble (v1 :: v2 :: vr).length 8 = true) (as1 : AsOk qual (defScope st) n1 a0 a1 a2 a3) (g1 : (n1 == ("__debug__" : Str)) = false) (g2 : (n1 == ("__classdict__" : Str)) = false) :
    FnOk P w K mg base CX0 (k + 1) f fd ["self", n1] (spE C [n1]) := by
  refine fnS_of Fn S U O hb TX har (by rw [hself]; rfl) spE_len fun cda cc A outer s H vs Q E h => ?_
  obtain ⟨a, fs, rfl, hl, hok, ha, hq⟩ := h
  have hv : ∀ x ∈ [n1], Vis (defScope st) x := fun y hy => .inl (S.par y (List.mem_cons_of_mem _ hy))
  obtain ⟨ts, hts, kts⟩ := fps_run (X := cxS P w K mg base ["self", n1] qual (defScope st) f (.ref cda) cc A outer s H) (ns := [n1]) rfl hv hl hok hp
  match fs, hl with
  | [f1], _ =>
    have hps := pss_one (ps_ost (X := cxS P w K mg base ["self", n1] qual (defScope st) f (.ref cda) cc A outer s H) (o := .Name "self" a0) (p' := a1) (f := n1) (e := .Name n1 a2) (pos := a3) (pe_var (i := 0) rfl (.inl (S.par _ List.mem_cons_self)) (by decide) (by decide)) (pe_var (i := 1) rfl (hv n1 List.mem_cons_self) g1 g2) (as1 ..))
    refine ⟨a, [f1.v], _, _, rfl, ha, pa_cons (pe_joined hts) pa_nil (TX.st ..), kts _ _ _ _ hd_start ?_ (fun out => ⟨rfl, Nat.le_of_ble_eq_true rfl⟩), hps, ?_⟩
    · have := Nat.le_of_ble_eq_true hlen
      rw [sizeLine_eq]
      show 0 + _ ≤ _
      omega
    exact ⟨f1.v, rfl, .ref a, rfl, a, C, rfl, O, hno, .inl ⟨ha, fun dx hd hda => hq dx hd hda⟩⟩
theorem upd_twice {H : Hp} {a dx : Addr} {o o' u : HO} (h : dx ≠ a) : upd (upd (upd H dx o) a u) dx o' = upd (upd H dx o') a u := funext fun b => by
  by_cases h1 : b = dx
  · subst h1; rw [upd_same, upd_ne h, upd_same]
  · rw [upd_ne h1]
    by_cases h2 : b = a
    · subst h2; rw [upd_same, upd_same]
    · rw [upd_ne h2, upd_ne h2, upd_ne h1, upd_ne h1]
theorem ex2_of {k : Nat} {f C : Addr} {x qual : Str} {st : Stmt} {fd : FuncData} {n1 n2 : Str} {v1 v2 : Expr} {vr : List Expr} {q p0 p1 p2 p3 p4 a0 a1 a2 a3 b0 b1 b2 b3 : Pos} {ar : Arg}
    (Fn : FunS K P x qual st f fd C) (S : ScS ["self", n1, n2] (defScope st)) (U : SupC K P mg C) (O : OexC K C) (hno : PySem.W.findIn K (.ref C) n1 = some none) (hno2 : PySem.W.findIn K (.ref C) n2 = some none)
    (hb : defBody st = .Expr (.Call (.Attribute (.Call (.Name "super" p0) [] [] p1) "__init__" p2) [.JoinedStr (v1 :: v2 :: vr) q] [] p3) p4 :: [.Assign [.Attribute (.Name "self" a0) n1 a1] (.Name n1 a2) a3, .Assign [.Attribute (.Name "self" b0) n2 b1] (.Name n2 b2) b3])
    (TX : TxS qual (defScope st) (.JoinedStr (v1 :: v2 :: vr) q) p0 p1 p2 p3 p4) (har : ((defArgs st).posonlyargs ++ (defArgs st).args).head? = some ar) (hself : ar.arg = "self")
    (hp : FPs [n1, n2] (v1 :: v2 :: vr)) (hlen : Nat.ble (v1 :: v2 :: vr).length 8 = true) (as1 : AsOk qual (defScope st) n1 a0 a1 a2 a3) (as2 : AsOk qual (defScope st) n2 b0 b1 b2 b3)
    (g1 : (n1 == ("__debug__" : Str)) = false) (g2 : (n1 == ("__classdict__" : Str)) = false) (g3 : (n2 == ("__debug__" : Str)) = false) (g4 : (n2 == ("__classdict__" : Str)) = false) :
    FnOk P w K mg base CX0 (k + 1) f fd ["self", n1, n2] (spE C [n1, n2]) := by
  refine fnS_of Fn S U O hb TX har (by rw [hself]; rfl) spE_len fun cda cc A outer s H vs Q E h => ?_
  obtain ⟨a, fs, rfl, hl, hok, ha, hq⟩ := h
  have hv : ∀ x ∈ [n1, n2], Vis (defScope st) x := fun y hy => .inl (S.par y (List.mem_cons_of_mem _ hy))
  obtain ⟨ts, hts, kts⟩ := fps_run (X := cxS P w K mg base ["self", n1, n2] qual (defScope st) f (.ref cda) cc A outer s H) (ns := [n1, n2]) rfl hv hl hok hp
  match fs, hl with
  | [f1, f2], _ =>
    have hps := pss_cons (ps_ost (X := cxS P w K mg base ["self", n1, n2] qual (defScope st) f (.ref cda) cc A outer s H) (o := .Name "self" a0) (p' := a1) (f := n1) (e := .Name n1 a2) (pos := a3) (pe_var (i := 0) rfl (.inl (S.par _ List.mem_cons_self)) (by decide) (by decide)) (pe_var (i := 1) rfl (hv n1 List.mem_cons_self) g1 g2) (as1 ..))
      (pss_one (ps_ost (X := cxS P w K mg base ["self", n1, n2] qual (defScope st) f (.ref cda) cc A outer s H) (o := .Name "self" b0) (p' := b1) (f := n2) (e := .Name n2 b2) (pos := b3) (pe_var (i := 0) rfl (.inl (S.par _ List.mem_cons_self)) (by decide) (by decide)) (pe_var (i := 2) rfl (hv n2 (List.mem_cons_of_mem _ List.mem_cons_self)) g3 g4) (as2 ..)))
    refine ⟨a, [f1.v, f2.v], _, _, rfl, ha, pa_cons (pe_joined hts) pa_nil (TX.st ..), kts _ _ _ _ hd_start ?_ (fun out => ⟨rfl, Nat.le_of_ble_eq_true rfl⟩), hps, ?_⟩
    · have := Nat.le_of_ble_eq_true hlen
      rw [sizeLine_eq]
      show 0 + _ ≤ _
      omega
    refine ⟨f1.v, rfl, .ref a, rfl, a, C, rfl, O, hno, .inl ⟨ha, fun dx hd hda => ?_⟩⟩
    refine ⟨f2.v, rfl, .ref a, rfl, a, C, rfl, O, hno2, .inr ⟨dx, [(n1, f1.v)], upd_same, by rw [upd_ne hda, upd_same], by simp, ?_⟩⟩
    have z := hq dx hd hda
    show Q .non _
    rw [upd_twice hda]
    exact z
end
end Ty

/-! Ty12 -/
namespace Ty
open PySem PySem.Spec L2
open PyProof.Rows
/-! ### defs that may raise -/
/-- an error of an own class: its name and its fields -/
abbrev Exn := String × List XF
inductive Rx (ρ : Type) where
  | ok (r : ρ)
  | ex (e : Exn)
def exK {α β : Type} (o : Option (Rx α)) (ke : Exn → Option β) (kk : α → Option β) : Option β := o.bind fun
  | .ok r => kk r
  | .ex e => ke e
theorem exK_some {α β : Type} {o : Option (Rx α)} {ke : Exn → Option β} {kk : α → Option β} {b : β} (h : exK o ke kk = some b) : (∃ e, o = some (.ex e) ∧ ke e = some b) ∨ ∃ r, o = some (.ok r) ∧ kk r = some b := by
  unfold exK at h
  obtain ⟨x, h1, h2⟩ := Option.bind_eq_some_iff.mp h
  cases x with
  | ok r => exact .inr ⟨r, h1, h2⟩
  | ex e => exact .inl ⟨e, h1, h2⟩
/-- how an error is told: its class, its dict -/
abbrev ExT := Exn → Value → Option Addr → Hp → Prop
def slRx {ρ : Type} (Sr : ρ → Slot) : Rx ρ → Slot
  | .ok r => Sr r
  | .ex _ => { P := fun _ _ _ _ => False, mono := fun _ _ h => h, st := True, mm := fun _ {_ _ _ _ _ _} _ _ h => h }
section
variable {P : Program} {w : World} {K : PySem.W.Frag} {mg : Str → Option Value} {base : Heap} {k : Nat}
def spX {ι ρ : Type} (As : ι → List Slot) (m : ι → Option (Rx ρ)) (Sr : ρ → Slot) (X : ExT) : Sp := fun vs H Q E => ∃ (z : ι) (r : Rx ρ) (F : Hp), m z = some r ∧ Same F H ∧ Slots F H [] (vs.map some) (As z) ∧
  (∀ v F' H' fp, Wo ⟨F, H, []⟩ F' H' fp → (slRx Sr r).P F' H' fp (some v) → Q v H') ∧
  ∀ e, r = .ex e → ∀ cls d F' H', Wo ⟨F, H, []⟩ F' H' [] → X e cls d F' → E cls d H'
def fbX (P : Program) (w : World) (K : PySem.W.Frag) (mg : Str → Option Value) (base : Heap) (N : List Str) (qual : Str) (st : Stmt) (f : Addr) (cdv : Value) (A : Around) (outer : List Env) (s : Shared) (H : Hp) (E : XK) (k : Nat) (hr : Room k (A.deeper (envOfC qual (defScope st) s.heap.objs.size f cdv))) (nd : N.Nodup) : Fa P w K mg base k where
  I := Unit
  X := fun _ => cxOf (L2.CX P w) P w K mg base N qual (defScope st) f cdv A outer s H E
  hP := fun _ => rfl
  hw := fun _ => rfl
  hK := fun _ => rfl
  hM := fun _ => rfl
  hB := fun _ => rfl
  cm := true
  hC := fun _ => rfl
  hR := fun _ _ => hr
  hU := fun _ => hr.units
  W := fun cls d _ H => E cls d H
  tk := fun _ => takes_of rfl rfl rfl rfl
  hN := fun _ => nd
  hO := fun _ => passes_of rfl
/-- what a body's wish of errors is: at the entry B nothing owned; r: how the def ends -/
def Wish (Wx : WX) (B : Bs) (Γ : List Slot) (X : ExT) (e : Exn) : Prop := ∀ cls d σ F H os, In B F H os σ Γ → X e cls d F → Wx cls d σ H
theorem fn_pureX {ι ρ : Type} {As : ι → List Slot} {m : ι → Option (Rx ρ)} {Sr : ρ → Slot} {EX : ExT} {x qual : Str} {st : Stmt} {f : Addr} {fd : FuncData} {N ps : List Str} (Fn : Fun K x qual st f fd) (S : FnScope N ps (defScope st)) (hlen : ∀ z, (As z).length = ps.length)
    (body : ∀ (cdv : Value) (A : Around) (outer : List Env) (s : Shared) (H : Hp) (E : XK) (hr : Room k (A.deeper (envOfC qual (defScope st) s.heap.objs.size f cdv))) (z : ι) (r : Rx ρ) (B : Bs), m z = some r →
      (∀ e, r = .ex e → ∀ Γ, Wish (fun cls d _ H => E cls d H) B Γ EX e) →
      Go (fbX P w K mg base N qual st f cdv A outer s H E k hr S.nd) () (defBody st) (DF B (slRx Sr r)) B (As z ++ List.replicate (N.length - ps.length) dead)) : FnOk P w K mg base (L2.CX P w) (k + 1) f fd ps (spX As m Sr EX) := by
  refine Fn.okX S (fun vs H Q E h => ?_) (fun cdv A outer s H vs Q E hr h => ?_)
  · obtain ⟨z, r, F, _, _, Sl, _⟩ := h
    have e := Sl.length
    rw [List.length_map] at e
    rw [e, hlen]
  · obtain ⟨z, r, F, hm, hS, Sl, q, qe⟩ := h
    refine ⟨_, pss_cont, ?_⟩
    have go := body cdv A outer s H E hr z r ⟨F, H, []⟩ hm (fun e he Γ cls d σ F' H' os hW hx => qe e he cls d F' H' (Wo.drop (a := os) (b := []) (by simpa using hW.W)) hx)
    have S0 : Sta ⟨F, H, []⟩ F H (L2.start N vs) (As z ++ List.replicate (N.length - ps.length) dead) := by
      refine ⟨[], wo_nil hS, ?_⟩
      unfold L2.start
      have e := Sl.length
      rw [List.length_map, hlen] at e
      rw [e]
      exact Slots.append Sl (slots_dead _)
    exact cont_mono (go F H _ S0) (fun σ H' ⟨F', fp, W', p'⟩ => q .non F' H' fp W' p') (fun v H' ⟨F', fp, W', p'⟩ => q v F' H' fp W' p') (fun _ _ z => z.elim) (fun _ _ z => z.elim)
variable {Y : Fa P w K mg base k} {i : Y.I} {e ea eb eo ev tg iter elt : Expr} {es ifs : List Expr} {rest body : List Stmt} {Γ Γ' Γ1 Γ2 Δ Δ' As : List Slot} {a b c r s s' : Slot} {pos : Pos} {B : Bs} {D : Ends} {x f : Str} {p' : Pos} {C : Addr} {EX : ExT} {ex : Exn}
/-- e raises ex -/
def XXe (Y : Fa P w K mg base k) (e : Expr) (Γ : List Slot) (EX : ExT) (ex : Exn) : Prop :=
  ∃ t : TE, (∀ i, PE (Y.X i) e t) ∧ ∀ (B : Bs) (F H : Hp) (os : List Addr) (σ : List (Option V)) (Q : VK), In B F H os σ Γ →
    (∀ cls d F' H' fp, Same F F' → Same H H' → Wo B F' H' (fp ++ os) → EX ex cls d F' → Y.W cls d σ H') → t σ H Q
def XAe (Y : Fa P w K mg base k) (es : List Expr) (Γ : List Slot) (EX : ExT) (ex : Exn) : Prop :=
  ∃ t : TA, (∀ i, PA (Y.X i) es t) ∧ ∀ (B : Bs) (F H : Hp) (os : List Addr) (σ : List (Option V)) (Q : List V → Hp → Prop), In B F H os σ Γ →
    (∀ cls d F' H' fp, Same F F' → Same H H' → Wo B F' H' (fp ++ os) → EX ex cls d F' → Y.W cls d σ H') → t σ H Q
theorem pa_dum {i : Y.I} : PA (Y.X i) es (fun _ _ _ => False) := ⟨fun _ _ _ _ _ _ _ h => h.elim⟩
/-- f(e, ..) of a def that may raise -/
theorem x_callX {ι ρ : Type} {As : ι → List Slot} {m : ι → Option (Rx ρ)} {Sr : ρ → Slot} {args : List Slot} {z : ι} {q : ρ} {j : Nat} {f : Addr} {fd : FuncData} {ps : List Str} (Fn : FnOk P w K mg base (L2.CX P w) j f fd ps (spX As m Sr EX)) (hj : j ≤ k) (hm : mg x = some (.ref f)) (hk : PySem.W.keepIn K (.ref f) = true) (hb : Binds K fd ps [])
    (ha : XA Y (e :: es) Γ args) (hargs : args = As z) (hno : NoOwn args) (hq : m z = some (.ok q)) (hg : ∀ i, Gl (Y.X i) x := by intro _; rfl) (hdb : (x == ("__debug__" : Str)) = false := by decide)
    (he : ∀ i, starEach (e :: es) (Y.X i).env = (false, eval e (Y.X i).env) :: starEach es (Y.X i).env := by intro _; rfl) (hpl : ∀ i, (backTo pos (starEach es (Y.X i).env)).any (·.1) = false := by intro _; rfl) (hcm : Y.cm = true := by rfl) : XV Y (.Call (.Name x p') (e :: es) [] pos) Γ (Sr q) := by
  subst hargs
  obtain ⟨t, pa, rd⟩ := ha
  have FF : ∀ i, FnOk (Y.X i).prog (Y.X i).w (Y.X i).K (Y.X i).mg (Y.X i).base (L2.CX (Y.X i).prog (Y.X i).w) j f fd ps (spX As m Sr EX) := fun i => by rw [Y.hP i, Y.hw i, Y.hK i, Y.hM i, Y.hB i]; exact Fn
  refine ⟨_, fun i => pe_callS (FF i) ((Y.hR hcm i).mono hj) (hg i) (by rw [Y.hM i]; exact hm) (by rw [Y.hK i]; exact hk) (by rw [Y.hK i]; exact hb) (E := WE Y.W) (fun σ => passAt (Y.tk i) σ) (pa i) hdb (he i) (hpl i), fun B F H os σ Q I kk => ?_⟩
  refine rd B F H os σ _ I fun vs F1 H1 fp f1 e1 W1 S1 => ?_
  obtain rfl := hno.nil S1
  refine ⟨z, .ok q, F1, hq, W1.sub, S1, fun v F2 H2 fp W2 p2 => ?_, fun e he => by cases he⟩
  obtain ⟨f2, e2, W3⟩ := W1.called W2
  exact kk v F2 H2 fp (f1.trans f2) (e1.trans e2) W3 p2
theorem xx_call {ι ρ : Type} {As : ι → List Slot} {m : ι → Option (Rx ρ)} {Sr : ρ → Slot} {args : List Slot} {z : ι} {j : Nat} {f : Addr} {fd : FuncData} {ps : List Str} (Fn : FnOk P w K mg base (L2.CX P w) j f fd ps (spX As m Sr EX)) (hj : j ≤ k) (hm : mg x = some (.ref f)) (hk : PySem.W.keepIn K (.ref f) = true) (hb : Binds K fd ps [])
    (ha : XA Y (e :: es) Γ args) (hargs : args = As z) (hno : NoOwn args) (hq : m z = some (.ex ex)) (hg : ∀ i, Gl (Y.X i) x := by intro _; rfl) (hdb : (x == ("__debug__" : Str)) = false := by decide)
    (he : ∀ i, starEach (e :: es) (Y.X i).env = (false, eval e (Y.X i).env) :: starEach es (Y.X i).env := by intro _; rfl) (hpl : ∀ i, (backTo pos (starEach es (Y.X i).env)).any (·.1) = false := by intro _; rfl) (hcm : Y.cm = true := by rfl) : XXe Y (.Call (.Name x p') (e :: es) [] pos) Γ EX ex := by
  subst hargs
  obtain ⟨t, pa, rd⟩ := ha
  have FF : ∀ i, FnOk (Y.X i).prog (Y.X i).w (Y.X i).K (Y.X i).mg (Y.X i).base (L2.CX (Y.X i).prog (Y.X i).w) j f fd ps (spX As m Sr EX) := fun i => by rw [Y.hP i, Y.hw i, Y.hK i, Y.hM i, Y.hB i]; exact Fn
  refine ⟨_, fun i => pe_callS (FF i) ((Y.hR hcm i).mono hj) (hg i) (by rw [Y.hM i]; exact hm) (by rw [Y.hK i]; exact hk) (by rw [Y.hK i]; exact hb) (E := WE Y.W) (fun σ => passAt (Y.tk i) σ) (pa i) hdb (he i) (hpl i), fun B F H os σ Q I kk => ?_⟩
  refine rd B F H os σ _ I fun vs F1 H1 fp f1 e1 W1 S1 => ?_
  obtain rfl := hno.nil S1
  refine ⟨z, .ex ex, F1, hq, W1.sub, S1, fun v F2 H2 fp W2 p2 => p2.elim, fun e he cls d F2 H2 W2 hx => ?_⟩
  cases he
  obtain ⟨f2, e2, W3⟩ := W1.called W2
  exact kk cls d F2 H2 [] (f1.trans f2) (e1.trans e2) W3 hx
/-- an error within what is written -/
theorem xae_here (h : XXe Y e Γ EX ex) (hs : ∀ i, starEach (e :: es) (Y.X i).env = (false, eval e (Y.X i).env) :: starEach es (Y.X i).env := by intro _; rfl) : XAe Y (e :: es) Γ EX ex := by
  obtain ⟨t, p, rd⟩ := h
  exact ⟨_, fun i => pa_cons (p i) pa_dum (hs i), fun B F H os σ Q I kk => rd B F H os σ _ I kk⟩
theorem xae_next (h : XV Y e Γ a) (h2 : XAe Y es Γ EX ex) (hs : ∀ i, starEach (e :: es) (Y.X i).env = (false, eval e (Y.X i).env) :: starEach es (Y.X i).env := by intro _; rfl) : XAe Y (e :: es) Γ EX ex := by
  obtain ⟨t, p, rd⟩ := h
  obtain ⟨t2, p2, rd2⟩ := h2
  refine ⟨_, fun i => pa_cons (p i) (p2 i) (hs i), fun B F H os σ Q I kk => ?_⟩
  refine rd B F H os σ _ I fun v F1 H1 fp f1 e1 W1 p1 => ?_
  refine rd2 B F1 H1 _ σ _ (I.step f1 e1 W1) fun cls d F2 H2 fp2 f2 e2 W2 hx => ?_
  exact kk cls d F2 H2 (fp2 ++ fp) (f1.trans f2) (e1.trans e2) (by rw [List.append_assoc]; exact W2) hx
theorem xx_tup {n : Nat} (h : XAe Y es Γ EX ex) : XXe Y (.Tuple es n pos) Γ EX ex := by
  obtain ⟨t, p, rd⟩ := h
  exact ⟨_, fun i => pe_tup (p i), fun B F H os σ Q I kk => rd B F H os σ _ I kk⟩
theorem xx_lst (h : XAe Y es Γ EX ex) : XXe Y (.List es pos) Γ EX ex := by
  obtain ⟨t, p, rd⟩ := h
  exact ⟨_, fun i => pe_lst (p i), fun B F H os σ Q I kk => rd B F H os σ _ I kk⟩
theorem xx_op1 {op : Operator} {r2 : R2} (ho : ∀ i, OpR (Y.X i) (binaryOp op) r2) (h : XXe Y ea Γ EX ex) : XXe Y (.BinOp ea op eb pos) Γ EX ex := by
  obtain ⟨t, p, rd⟩ := h
  exact ⟨_, fun i => pe_op (ho i) (p i) pe_dum, fun B F H os σ Q I kk => rd B F H os σ _ I kk⟩
theorem xx_op2 {op : Operator} {r2 : R2} (ho : ∀ i, OpR (Y.X i) (binaryOp op) r2) (ha : XV Y ea Γ a) (h : XXe Y eb Γ EX ex) : XXe Y (.BinOp ea op eb pos) Γ EX ex := by
  obtain ⟨t, p, rd⟩ := h
  obtain ⟨t1, p1, rd1⟩ := ha
  refine ⟨_, fun i => pe_op (ho i) (p1 i) (p i), fun B F H os σ Q I kk => ?_⟩
  refine rd1 B F H os σ _ I fun v F1 H1 fp f1 e1 W1 q1 => ?_
  refine rd B F1 H1 _ σ _ (I.step f1 e1 W1) fun cls d F2 H2 fp2 f2 e2 W2 hx => ?_
  exact kk cls d F2 H2 (fp2 ++ fp) (f1.trans f2) (e1.trans e2) (by rw [List.append_assoc]; exact W2) hx
theorem Wish.lift {Wx : WX} {B1 : Bs} (h : Wish Wx B Γ EX ex) (hB : ∀ F H os, Wo B1 F H os → Wo B F H os) : Wish Wx B1 Γ EX ex := fun cls d σ F H os I hx => h cls d σ F H os ⟨hB _ _ _ I.W, I.S⟩ hx
/-! statements whose head raises -/
theorem wish_now (hw : Wish Y.W B Γ EX ex) {F H : Hp} {os : List Addr} {σ : List (Option V)} (I : In B F H os σ Γ) : ∀ cls d F' H' fp, Same F F' → Same H H' → Wo B F' H' (fp ++ os) → EX ex cls d F' → Y.W cls d σ H' := fun cls d F' H' fp f e W hx => hw cls d σ F' H' _ (I.step f e W) hx
theorem go_setE (h : XXe Y e Γ EX ex) (hw : Wish Y.W B Γ EX ex) {py : Pos} {j : Nat} (hi : (Y.X i).N[j]? = some x := by rfl) (hx : Loc (Y.X i).env.scope x := by first | exact Or.inl rfl | exact Or.inr rfl)
    (hs : swapsWith e (some (.Name x py)) pos.line (Y.X i).env = pure false := by rfl) (hf : (Y.X i).fn x = true ∨ (Y.X i).env.scope.names.lookup x = some .local := by first | exact Or.inl rfl | exact Or.inr rfl) : Go Y i (.Assign [.Name x py] e pos :: rest) D B Γ := by
  obtain ⟨t, p, rd⟩ := h
  refine go_ps (ps_set (Y.hN i) hi hx (p i) hs hf) fun F H σ ⟨os, W, S⟩ => ?_
  exact rd B F H os σ _ (Sta.in W S) (wish_now hw (Sta.in W S))
theorem go_retE (h : XXe Y e Γ EX ex) (hw : Wish Y.W B Γ EX ex) : Go Y i (.Return (some e) pos :: rest) D B Γ := by
  obtain ⟨t, p, rd⟩ := h
  refine go_ps (ps_ret (p i)) fun F H σ ⟨os, W, S⟩ => ?_
  exact rd B F H os σ _ (Sta.in W S) (wish_now hw (Sta.in W S))
theorem go_exprE (h : XXe Y e Γ EX ex) (hw : Wish Y.W B Γ EX ex) (hs : swapsWith e none pos.line (Y.X i).env = pure false := by rfl) : Go Y i (.Expr e pos :: rest) D B Γ := by
  obtain ⟨t, p, rd⟩ := h
  refine go_ps (ps_expr (p i) hs) fun F H σ ⟨os, W, S⟩ => ?_
  exact rd B F H os σ _ (Sta.in W S) (wish_now hw (Sta.in W S))
/-- raise e -/
def XMk (Y : Fa P w K mg base k) (e : Expr) (Γ : List Slot) (EX : ExT) (ex : Exn) : Prop :=
  ∃ t : L2.St → Hp → XK → Prop, (∀ i, PMk (Y.X i) e t) ∧ ∀ (B : Bs) (F H : Hp) (os : List Addr) (σ : List (Option V)) (Q : XK), In B F H os σ Γ →
    (∀ cls d F' H' fp, Same F F' → Same H H' → Wo B F' H' (fp ++ os) → EX ex cls d F' → Q cls d H') → t σ H Q
theorem go_raise (h : XMk Y e Γ EX ex) (hw : Wish Y.W B Γ EX ex) (hcm : Y.cm = true := by rfl) : Go Y i (.Raise (some e) none pos :: rest) D B Γ := by
  obtain ⟨t, p, rd⟩ := h
  refine go_ps (ps_raise ((Y.hC i).trans hcm) (Y.tk i) (p i)) fun F H σ ⟨os, W, S⟩ => ?_
  exact rd B F H os σ _ (Sta.in W S) (wish_now hw (Sta.in W S))
/-- X('text'), X an own class without own __init__ -/
theorem xm_own {bmB : List Value} {Bn newId initId : String} {m : Str} {j : Nat} {p2 : Pos} (F : ExcBaseFacts Bn newId initId bmB) (q : PySem.W.excIn K C bmB newId = true) (gC : mg x = some (.ref C)) (kC : PySem.W.keepIn K (.ref C) = true) (h1 : PySem.W.subIn K (.ref C) (.type "BaseException") = some true) (h2 : PySem.W.typeIn K (.ref C) = some (.type "type")) (hE : ∀ F, EX ex (.ref C) none F)
    (hg : ∀ i, Gl (Y.X i) x := by intro _; rfl) (hdb : (x == ("__debug__" : Str)) = false := by decide) : XMk Y (.Call (.Name x p') [.Constant (.str m) j p2] [] pos) Γ EX ex :=
  ⟨_, fun i => pmk_own F (by rw [Y.hK i]; exact q) (by rw [Y.hM i]; exact gC) (by rw [Y.hK i]; exact kC) (raises_own (by rw [Y.hK i]; exact h1) (by rw [Y.hK i]; exact h2)) (hg i) hdb,
    fun B F H os σ Q I kk => kk _ none F H [] same_refl same_refl I.W (hE F)⟩
end
end Ty

/-! Ty13 -/
namespace Ty
open PySem PySem.Spec L2
open PyProof.Rows
section
variable {P : Program} {w : World} {K : PySem.W.Frag} {mg : Str → Option Value} {base : Heap} {k : Nat}
/-- a try's body, its wish Wt -/
def Fa.tr (Y : Fa P w K mg base k) (Wt : WX) : Fa P w K mg base k where
  I := { q : Y.I × List (Addr × Obj) × (Value → Shared → Prop) // Takes ((Y.X q.1).tr q.2.1 q.2.2) Wt ∧ PassesOwn (model (Y.X q.1).prog (Y.X q.1).w) (Y.X q.1).A (Y.X q.1).env q.2.2 }
  X := fun j => (Y.X j.1.1).tr j.1.2.1 j.1.2.2
  hP := fun j => Y.hP j.1.1
  hw := fun j => Y.hw j.1.1
  hK := fun j => Y.hK j.1.1
  hM := fun j => Y.hM j.1.1
  hB := fun j => Y.hB j.1.1
  cm := Y.cm
  hC := fun j => Y.hC j.1.1
  hR := fun h j => Y.hR h j.1.1
  hU := fun j => Y.hU j.1.1
  W := Wt
  tk := fun j => j.2.1
  hN := fun j => Y.hN j.1.1
  hO := fun j => j.2.2
/-- an except suite: the exception at a -/
def Fa.suite (Y : Fa P w K mg base k) (a : Addr) (cls : Value) (d : Option Addr) : Fa P w K mg base k where
  I := { q : Y.I × Obj × List (Addr × Obj) // Zc cls d q.2.1 ∧ ∃ vs, q.2.1.data = .fields vs }
  X := fun j => (Y.X j.1.1).suite a ((a, j.1.2.1) :: j.1.2.2)
  hP := fun j => Y.hP j.1.1
  hw := fun j => Y.hw j.1.1
  hK := fun j => Y.hK j.1.1
  hM := fun j => Y.hM j.1.1
  hB := fun j => Y.hB j.1.1
  cm := false
  hC := fun _ => rfl
  hR := fun h => by cases h
  hU := fun j => Y.hU j.1.1
  W := fun _ _ _ _ => False
  tk := fun _ => takes0
  hN := fun j => Y.hN j.1.1
  hO := fun _ => PassesOwn.never
variable {Y : Fa P w K mg base k} {i : Y.I} {e ea eb eo ev tg iter elt : Expr} {es ifs : List Expr} {rest body suite : List Stmt} {b₀ : Stmt} {Γ Γ' Γ1 Γ2 Γh Δ Δ' As : List Slot} {a b c r s s' : Slot} {pos pos' np : Pos} {B : Bs} {D : Ends} {x n f : Str} {p' : Pos} {C : Addr} {EX : ExT} {ex : Exn}
/-- the exception that a suite holds -/
def pRef (a : Addr) : VP Unit := ⟨fun _ v _ => v = .ref a, fun _ h => h⟩
abbrev exS (a : Addr) : Slot := val (pRef a) ()
def tsC (Y : Fa P w K mg base k) (i : Y.I) (sts : List Stmt) : Addr → Value → Option Addr → TS := fun a cls d D σ H => ∀ (oe : Obj) (pn : List (Addr × Obj)), Zc cls d oe → (∃ vs, oe.data = .fields vs) → cont ((Y.X i).suite a ((a, oe) :: pn)) sts D σ H
def tbC (Y : Fa P w K mg base k) (i : Y.I) (sts : List Stmt) : WX → TS := fun Wt D σ H => ∀ (pn : List (Addr × Obj)) (xe : Value → Shared → Prop), Takes ((Y.X i).tr pn xe) Wt → PassesOwn (model (Y.X i).prog (Y.X i).w) (Y.X i).A (Y.X i).env xe → cont ((Y.X i).tr pn xe) sts D σ H
/-- the ends of a suite: the exception's name goes -/
def DS (D : Ends) (jn : Nat) : Ends := { nx := fun σ H => D.nx (σ.set jn none) H, rt := D.rt, bk := fun σ H => D.bk (σ.set jn none) H, ct := fun σ H => D.ct (σ.set jn none) H }
theorem go_try_as {cv : Value} (jn : Nat) (hc : Names (Y.X i) x cv)
    (hb : ∀ j : (Y.tr (wAs K cv jn (tsC Y i (b₀ :: suite)) Y.W { D with nx := cont (Y.X i) rest D })).I, j.1.1 = i → Go (Y.tr (wAs K cv jn (tsC Y i (b₀ :: suite)) Y.W { D with nx := cont (Y.X i) rest D })) j body { D with nx := cont (Y.X i) rest D } B Γ)
    (hs : (Y.X i).stack = (Y.X i).env :: (Y.X i).outer := by rfl) (hf : (Y.X i).env.frame = some (Y.X i).env.locals := by rfl) (hi : (Y.X i).N[jn]? = some n := by rfl) (hln : (Y.X i).env.kindOf n = some .local := by rfl) :
    Go Y i (.Try body [.ExceptHandler (some (.Name x np)) (some n) (b₀ :: suite) pos'] [] [] pos :: rest) D B Γ := by
  refine go_ps (ps_try_as (tb := tbC Y i body) (ts := tsC Y i (b₀ :: suite)) hs hf (Y.hN i) hi hln hc (Y.tk i) (fun W pn xe tk po => ⟨fun pins s σ H D I h => h pn xe tk po pins s I⟩) (fun a oe cls d pn hz hf => ⟨fun pins s σ H D I h => h oe pn hz hf pins s I⟩)) fun F H σ S => ?_
  rw [Y.hK i]
  intro pn xe tk po
  exact hb ⟨(i, pn, xe), tk, po⟩ rfl F H σ S
theorem go_try_only {cv : Value} (hc : Names (Y.X i) x cv)
    (hb : ∀ j : (Y.tr (wOnly K cv (tsC Y i (b₀ :: suite)) Y.W { D with nx := cont (Y.X i) rest D })).I, j.1.1 = i → Go (Y.tr (wOnly K cv (tsC Y i (b₀ :: suite)) Y.W { D with nx := cont (Y.X i) rest D })) j body { D with nx := cont (Y.X i) rest D } B Γ)
    (hs : (Y.X i).stack = (Y.X i).env :: (Y.X i).outer := by rfl) (hf : (Y.X i).env.frame = some (Y.X i).env.locals := by rfl) :
    Go Y i (.Try body [.ExceptHandler (some (.Name x np)) none (b₀ :: suite) pos'] [] [] pos :: rest) D B Γ := by
  refine go_ps (ps_try_only (tb := tbC Y i body) (ts := tsC Y i (b₀ :: suite)) hs hf hc (Y.tk i) (fun W pn xe tk po => ⟨fun pins s σ H D I h => h pn xe tk po pins s I⟩) (fun a oe cls d pn hz hf => ⟨fun pins s σ H D I h => h oe pn hz hf pins s I⟩)) fun F H σ S => ?_
  rw [Y.hK i]
  intro pn xe tk po
  exact hb ⟨(i, pn, xe), tk, po⟩ rfl F H σ S
/-- a state read otherwise: what was frozen stays -/
theorem Sta.wkF {F H : Hp} {σ : L2.St} (S : Sta B F H σ Γ) (w : WkL Γ Γ') : ∃ F', Same F F' ∧ Sta B F' H σ Γ' := by
  obtain ⟨os, W, S1⟩ := S
  obtain ⟨x, y, e, kk⟩ := S1.wk W.sub w
  obtain ⟨F', W', hF, hx⟩ := (W.perm e).freeze
  exact ⟨F', hF, y, W', kk F' hF W'.sub hx⟩
/-- the error is caught: from there the suite -/
theorem wish_as {cv : Value} {jn : Nat} {sts : List Stmt} {Wout : WX} {Γd : List Slot} (hex : ∀ cls d F, EX ex cls d F → PySem.W.exmOne K cls cv = some true) (hw : WkL Γ Γd) (hj : Nat.blt jn Γd.length = true)
    (h : ∀ a cls d F, EX ex cls d F → ∃ p : VP Unit, p.R F (.ref a) () ∧ ∀ j : (Y.suite a cls d).I, j.1.1 = i → Go (Y.suite a cls d) j sts (DS D jn) B (Γd.set jn (val p ()))) : Wish (wAs K cv jn (tsC Y i sts) Wout D) B Γ EX ex := by
  rintro cls d σ F H os ⟨W, o2, r0, hp, S⟩ hx
  refine ⟨true, hex cls d F hx, fun _ a ha oe pn hz hf => ?_, fun z => by cases z⟩
  have S0 : Sta B F H σ Γ := ⟨o2, (W.perm hp).dropR, S⟩
  obtain ⟨F', hF, o3, W3, S3⟩ := S0.wkF hw
  obtain ⟨p, hpR, hgo⟩ := h a cls d F hx
  obtain ⟨o4, d4, S4, p4⟩ := S3.put (r := val p ()) (fp := []) (o := some (.ref a)) ⟨rfl, _, rfl, p.mono hF hpR⟩ (Nat.le_of_ble_eq_true hj)
  exact hgo ⟨(i, oe, pn), hz, hf⟩ rfl F' H _ ⟨o4, (W3.perm (by simpa using p4)).drop, S4⟩
theorem wish_as_no {cv : Value} {jn : Nat} {sts : List Stmt} {Wout : WX} (hex : ∀ cls d F, EX ex cls d F → PySem.W.exmOne K cls cv = some false) (h : Wish Wout B Γ EX ex) : Wish (wAs K cv jn (tsC Y i sts) Wout D) B Γ EX ex :=
  fun cls d σ F H os I hx => ⟨false, hex cls d F hx, (fun z => by cases z), fun _ => h cls d σ F H os I hx⟩
theorem wish_only {cv : Value} {sts : List Stmt} {Wout : WX} {Γd : List Slot} (hex : ∀ cls d F, EX ex cls d F → PySem.W.exmOne K cls cv = some true) (hw : WkL Γ Γd)
    (h : ∀ a cls d F (j : (Y.suite a cls d).I), EX ex cls d F → j.1.1 = i → Go (Y.suite a cls d) j sts D B Γd) : Wish (wOnly K cv (tsC Y i sts) Wout D) B Γ EX ex := by
  rintro cls d σ F H os ⟨W, o2, r0, hp, S⟩ hx
  refine ⟨true, hex cls d F hx, fun _ a ha oe pn hz hf => ?_, fun z => by cases z⟩
  have S0 : Sta B F H σ Γ := ⟨o2, (W.perm hp).dropR, S⟩
  obtain ⟨F', S3⟩ := S0.wk hw
  exact h a cls d F ⟨(i, oe, pn), hz, hf⟩ hx rfl F' H _ S3
theorem wish_only_no {cv : Value} {sts : List Stmt} {Wout : WX} (hex : ∀ cls d F, EX ex cls d F → PySem.W.exmOne K cls cv = some false) (h : Wish Wout B Γ EX ex) : Wish (wOnly K cv (tsC Y i sts) Wout D) B Γ EX ex :=
  fun cls d σ F H os I hx => ⟨false, hex cls d F hx, (fun z => by cases z), fun _ => h cls d σ F H os I hx⟩
/-- behind the try's body: what follows the try -/
theorem go_end {Y2 : Fa P w K mg base k} {j : Y2.I} (h : Go Y i rest D B Γ) : Go Y2 j [] { D with nx := cont (Y.X i) rest D } B Γ := go_nil fun σ H ⟨F, S⟩ => h F H σ S
/-- behind a suite -/
theorem go_endS {Y2 : Fa P w K mg base k} {j : Y2.I} {jn : Nat} (h : Go Y i rest D B (Γ.set jn dead)) (hj : Nat.blt jn Γ.length = true := by rfl) : Go Y2 j [] (DS { D with nx := cont (Y.X i) rest D } jn) B Γ := go_nil fun σ H ⟨F, os, W, S⟩ => by
  obtain ⟨o4, d4, S4, p4⟩ := S.put (r := dead) (fp := []) (o := none) rfl (Nat.le_of_ble_eq_true hj)
  exact h F H _ ⟨o4, (W.perm (by simpa using p4)).drop, S4⟩
/-- an own class's name as a value -/
theorem x_cls (hm : mg x = some (.ref C)) (hg : ∀ i, Gl (Y.X i) x := by intro _; rfl) (hd : (x == ("__debug__" : Str)) = false := by decide) : XV Y (.Name x pos) Γ (val (pRef C) ()) :=
  x_glob (v := .ref C) hm rfl (fun _ => rfl) hg hd
/-- isinstance(e, X), e what the suite holds, without a dict -/
theorem x_isE {a Dc : Addr} {b : Bool} (hm : mg "isinstance" = none) (hE : ExcC K Dc) (hk : PySem.W.kitOne K (.ref Dc) (.ref C) = some b) (h1 : XV (Y.suite a (.ref Dc) none) ea Γ (exS a)) (h2 : XV (Y.suite a (.ref Dc) none) eb Γ (val (pRef C) ()))
    (hg : ∀ i, Gl ((Y.suite a (.ref Dc) none).X i) "isinstance" := by intro _; rfl)
    (hs2 : ∀ i, starEach [eb] ((Y.suite a (.ref Dc) none).X i).env = (false, eval eb ((Y.suite a (.ref Dc) none).X i).env) :: starEach [] ((Y.suite a (.ref Dc) none).X i).env := by intro _; rfl)
    (hs : ∀ i, starEach [ea, eb] ((Y.suite a (.ref Dc) none).X i).env = (false, eval ea ((Y.suite a (.ref Dc) none).X i).env) :: starEach [eb] ((Y.suite a (.ref Dc) none).X i).env := by intro _; rfl)
    (hpl : ∀ i, (backTo pos (starEach [eb] ((Y.suite a (.ref Dc) none).X i).env)).any (·.1) = false := by intro _; rfl) : XV (Y.suite a (.ref Dc) none) (.Call (.Name "isinstance" p') [ea, eb] [] pos) Γ (vBl b) := by
  have hc : ∀ j, CallR ((Y.suite a (.ref Dc) none).X j) (.builtin "isinstance") (rIsE K Dc a) := fun j => by
    have h := call_isE (X := Y.X j.1.1) (a := a) (D := Dc) (pn := j.1.2.2) (by rw [Y.hK]; exact hE) j.2.1 j.2.2
    rw [Y.hK] at h
    exact h
  refine x_callB hc hm (by decide +kernel) (c := vBl b) (opA2 fun B F H x y fx fy os Q W p1 p2 q => ?_) (xa2 h1 h2 hs2 hs) hg (he := hs) (hpl := hpl)
  obtain ⟨_, r1⟩ := val_P p1
  obtain ⟨_, r2⟩ := val_P p2
  cases r1; cases r2
  exact ⟨.ref C, .ref C, b, rfl, fun u hu => hu, hk, q _ F H [] same_refl same_refl W.drop.drop ⟨rfl, _, rfl, rfl⟩⟩
end
end Ty

/-! Ty14 -/
namespace Ty
open PySem PySem.Spec L2
open PyProof.Rows
section
variable {P : Program} {w : World} {K : PySem.W.Frag} {mg : Str → Option Value} {base : Heap} {k : Nat}
variable {Y : Fa P w K mg base k} {i : Y.I} {e ea eb eo ev tg iter elt : Expr} {es ifs : List Expr} {rest body suite : List Stmt} {Γ Γ' As : List Slot} {a b c r s s' : Slot} {pos kpos : Pos} {B : Bs} {D : Ends} {x n f : Str} {p' : Pos} {C : Addr} {EX : ExT} {ex : Exn} {kws : List Keyword}
/-! ### keywords -/
def XK' (Y : Fa P w K mg base k) (kws : List Keyword) (Γ As : List Slot) : Prop :=
  ∃ t : TA, (∀ i, PK (Y.X i) kws t) ∧ ∀ (B : Bs) (F H : Hp) (os : List Addr) (σ : List (Option V)) (Q : List V → Hp → Prop), In B F H os σ Γ →
    (∀ vs F' H' fp, Same F F' → Same H H' → Wo B F' H' (fp ++ os) → Slots F' H' fp (vs.map some) As → Q vs H') → t σ H Q
theorem xk_nil : XK' Y [] Γ [] := ⟨_, fun _ => pk_nil, fun B F H os σ Q I q => q [] F H [] same_refl same_refl I.W .nil⟩
theorem xk_cons {nm : Option Str} (h : XV Y e Γ a) (hr : XK' Y kws Γ As) : XK' Y (⟨nm, e, kpos⟩ :: kws) Γ (a :: As) := by
  obtain ⟨t, p, rd⟩ := h
  obtain ⟨t2, p2, rd2⟩ := hr
  refine ⟨_, fun i => pk_cons (p i) (p2 i), fun B F H os σ Q I q => ?_⟩
  refine rd B F H os σ _ I fun v F1 H1 fp f1 e1 W1 p1 => ?_
  refine rd2 B F1 H1 _ σ _ (I.step f1 e1 W1) fun vs F2 H2 fp2 f2 e2 W2 S2 => ?_
  refine q (v :: vs) F2 H2 (fp ++ fp2) (f1.trans f2) (e1.trans e2) (W2.perm ?_) (.cons (a.mono f2 e2 p1) S2)
  rw [← List.append_assoc]
  exact List.Perm.append_right os List.perm_append_comm
/-- the positional values, then the keywords' in the order of the parameters -/
def gK (n m : Nat) : List Value → List Value → List Value := fun us ws => if us.length = n ∧ ws.length = m then us ++ ws else []
def gKV (n m : Nat) : List V → List V → List V := fun us ws => if us.length = n ∧ ws.length = m then us ++ ws else []
theorem kbinds_of {fd : FuncData} {ps ks : List Str} {n m : Nat} (h0 : Nat.blt 0 ps.length = true) (h : ∀ us ws : List Value, us.length = n → ws.length = m → bindArgs fd ⟨us, ks.zip ws⟩ = pure (ps.zip (us ++ ws))) : KBinds K fd ps ks (gK n m) (gKV n m) := by
  refine ⟨fun s us ws _ hl => ?_, fun {vs us zs ws} r1 r2 => ?_⟩
  · unfold gK at hl ⊢
    by_cases hc : us.length = n ∧ ws.length = m
    · rw [if_pos hc]; exact .of_eq (h us ws hc.1 hc.2)
    · rw [if_neg hc] at hl
      have := Nat.le_of_ble_eq_true h0
      simp at hl; omega
  · unfold gK gKV
    rw [← r1.length, ← r2.length]
    by_cases hc : vs.length = n ∧ zs.length = m
    · rw [if_pos hc, if_pos hc]; exact r1.append r2
    · rw [if_neg hc, if_neg hc]; exact .nil
theorem run_kwS {X : Cx} {CX : CXT} {j : Nat} {f : Addr} {fd : FuncData} {ps ks : List Str} {sp : Sp} {na nb : Nat} {E : L2.St → XK} {pins : List (Addr × Obj)} {σ : L2.St} {H : Hp} {s : Shared} {Q : VK} {us ws : List Value} {vs zs : List V} (Fn : FnOk X.prog X.w X.K X.mg X.base CX j f fd ps sp) (hr : Room j X.A) (hb : KBinds X.K fd ps ks (gK na nb) (gKV na nb)) (hx : PassesAt CX X σ (E σ))
    (I : Inv X pins σ H s) (r : Vals vs us) (rz : Vals zs ws) (h : sp (gKV na nb vs zs) H Q (E σ)) : wpAny (model X.prog X.w) X.A (call (.ref f) us (ks.zip ws)) (EP X pins σ Q) X.xe s := by
  have q2 := hb.rel r rz
  have lens : (gK na nb us ws).length = ps.length := q2.length.symm.trans (Fn.len _ _ _ _ h)
  refine wpAny_call (codeAny_mono (Fn.run X.A X.stack s H ⟨us, ks.zip ws⟩ (gK na nb us ws) (gKV na nb vs zs) Q (E σ) hr I.env0 (hb.to s us ws I.kIn lens) q2 h) fun o t' hq => ?_)
  match o, hq with
  | .error ev, hq => exact hx pins H s ev t' I hq
  | .ok (.ret _), hq => exact I.after hq
  | .ok .next, hq => exact False.elim hq
  | .ok .brk, hq => exact False.elim hq
  | .ok .cont, hq => exact False.elim hq
def tCallKS (na nb : Nat) (sp : Sp) (E : L2.St → XK) (t tk : TA) : TE := fun σ H Q => t σ H fun vs H1 => tk σ H1 fun zs H2 => sp (gKV na nb vs zs) H2 Q (E σ)
theorem pe_callKS {X : Cx} {CX : CXT} {j : Nat} {f : Addr} {fd : FuncData} {ps ks : List Str} {sp : Sp} {na nb : Nat} {E : L2.St → XK} {t tk : TA} (Fn : FnOk X.prog X.w X.K X.mg X.base CX j f fd ps sp) (hr : Room j X.A) (hg : Gl X x) (hm : X.mg x = some (.ref f)) (hk : PySem.W.keepIn X.K (.ref f) = true) (hb : KBinds X.K fd ps ks (gK na nb) (gKV na nb)) (hx : ∀ σ, PassesAt CX X σ (E σ))
    (ha : PA X (e :: es) t) (hkw : PK X kws tk) (hall : (backToKw pos (keywordEach kws X.env)).all (·.1.isSome) = true) (hks : (backToKw pos (keywordEach kws X.env)).filterMap (·.1) = ks)
    (hdb : (x == ("__debug__" : Str)) = false) (he : starEach (e :: es) X.env = (false, eval e X.env) :: starEach es X.env)
    (hpl : ((backTo pos (starEach (e :: es) X.env)).any (·.1) || (backToKw pos (keywordEach kws X.env)).any (·.1.isNone)) = false) : PE X (.Call (.Name x p') (e :: es) kws pos) (tCallKS na nb sp E t tk) := by
  constructor
  intro pins s0 σ H Q I0 hh
  apply wpAny_Call_Name_kw
  refine ld_glob I0 hg hm ?_ hdb
  refine PySem.W.callWith_KW (h₀ := X.base) I0.ok.mod.kin hk hall ?_ hpl he
  refine thn (ha.run pos pins s0 σ H _ I0 hh) ?_
  rintro us sa ⟨vs, Ha, Ia, ra, qa⟩
  refine thn (hkw.run pos pins sa σ Ha _ Ia qa) ?_
  rintro ws sb ⟨zs, Hb, Ib, rb, qb⟩
  refine ⟨Ib.kIn, ?_⟩
  rw [hks]
  exact run_kwS Fn hr hb (hx σ) Ib ra rb qb
theorem x_callXK {ι ρ : Type} {As : ι → List Slot} {m : ι → Option (Rx ρ)} {Sr : ρ → Slot} {args kargs : List Slot} {z : ι} {q : ρ} {j : Nat} {f : Addr} {fd : FuncData} {ps ks : List Str} (Fn : FnOk P w K mg base (L2.CX P w) j f fd ps (spX As m Sr EX)) (hj : j ≤ k) (hm : mg x = some (.ref f)) (hk : PySem.W.keepIn K (.ref f) = true) {na nb : Nat} (hb : KBinds K fd ps ks (gK na nb) (gKV na nb))
    (ha : XA Y (e :: es) Γ args) (hkw : XK' Y kws Γ kargs) (hargs : args ++ kargs = As z) (hno : NoOwn args) (hno2 : NoOwn kargs) (hq : m z = some (.ok q)) (hn1 : args.length = na := by rfl) (hn2 : kargs.length = nb := by rfl) (hall : ∀ i, (backToKw pos (keywordEach kws (Y.X i).env)).all (·.1.isSome) = true := by intro _; rfl) (hks : ∀ i, (backToKw pos (keywordEach kws (Y.X i).env)).filterMap (·.1) = ks := by intro _; rfl)
    (hg : ∀ i, Gl (Y.X i) x := by intro _; rfl) (hdb : (x == ("__debug__" : Str)) = false := by decide)
    (he : ∀ i, starEach (e :: es) (Y.X i).env = (false, eval e (Y.X i).env) :: starEach es (Y.X i).env := by intro _; rfl) (hpl : ∀ i, ((backTo pos (starEach (e :: es) (Y.X i).env)).any (·.1) || (backToKw pos (keywordEach kws (Y.X i).env)).any (·.1.isNone)) = false := by intro _; rfl) (hcm : Y.cm = true := by rfl) : XV Y (.Call (.Name x p') (e :: es) kws pos) Γ (Sr q) := by
  obtain ⟨t, pa, rd⟩ := ha
  obtain ⟨tk, pk, rdk⟩ := hkw
  have FF : ∀ i, FnOk (Y.X i).prog (Y.X i).w (Y.X i).K (Y.X i).mg (Y.X i).base (L2.CX (Y.X i).prog (Y.X i).w) j f fd ps (spX As m Sr EX) := fun i => by rw [Y.hP i, Y.hw i, Y.hK i, Y.hM i, Y.hB i]; exact Fn
  refine ⟨_, fun i => pe_callKS (FF i) ((Y.hR hcm i).mono hj) (hg i) (by rw [Y.hM i]; exact hm) (by rw [Y.hK i]; exact hk) (by rw [Y.hK i]; exact hb) (E := WE Y.W) (fun σ => passAt (Y.tk i) σ) (pa i) (pk i) (hall i) (hks i) hdb (he i) (hpl i), fun B F H os σ Q I kk => ?_⟩
  refine rd B F H os σ _ I fun vs F1 H1 fp f1 e1 W1 S1 => ?_
  obtain rfl := hno.nil S1
  refine rdk B F1 H1 os σ _ (I.step0 f1 e1 W1) fun zs F2 H2 fp f2 e2 W2 S2 => ?_
  obtain rfl := hno2.nil S2
  have S3 : Slots F2 H2 [] ((gKV na nb vs zs).map some) (As z) := by
    have l1 := S1.length
    have l2 := S2.length
    rw [List.length_map] at l1 l2
    unfold gKV
    rw [if_pos ⟨l1.trans hn1, l2.trans hn2⟩, ← hargs, List.map_append]
    exact Slots.append (S1.mono f2 e2) S2
  refine ⟨z, .ok q, F2, hq, W2.sub, S3, fun v F3 H3 fp W3 p3 => ?_, fun e he => by cases he⟩
  obtain ⟨f3, e3, W4⟩ := W2.called W3
  exact kk v F3 H3 fp ((f1.trans f2).trans f3) ((e1.trans e2).trans e3) W4 p3
theorem xx_callK {ι ρ : Type} {As : ι → List Slot} {m : ι → Option (Rx ρ)} {Sr : ρ → Slot} {args kargs : List Slot} {z : ι} {j : Nat} {f : Addr} {fd : FuncData} {ps ks : List Str} (Fn : FnOk P w K mg base (L2.CX P w) j f fd ps (spX As m Sr EX)) (hj : j ≤ k) (hm : mg x = some (.ref f)) (hk : PySem.W.keepIn K (.ref f) = true) {na nb : Nat} (hb : KBinds K fd ps ks (gK na nb) (gKV na nb))
    (ha : XA Y (e :: es) Γ args) (hkw : XK' Y kws Γ kargs) (hargs : args ++ kargs = As z) (hno : NoOwn args) (hno2 : NoOwn kargs) (hq : m z = some (.ex ex)) (hn1 : args.length = na := by rfl) (hn2 : kargs.length = nb := by rfl) (hall : ∀ i, (backToKw pos (keywordEach kws (Y.X i).env)).all (·.1.isSome) = true := by intro _; rfl) (hks : ∀ i, (backToKw pos (keywordEach kws (Y.X i).env)).filterMap (·.1) = ks := by intro _; rfl)
    (hg : ∀ i, Gl (Y.X i) x := by intro _; rfl) (hdb : (x == ("__debug__" : Str)) = false := by decide)
    (he : ∀ i, starEach (e :: es) (Y.X i).env = (false, eval e (Y.X i).env) :: starEach es (Y.X i).env := by intro _; rfl) (hpl : ∀ i, ((backTo pos (starEach (e :: es) (Y.X i).env)).any (·.1) || (backToKw pos (keywordEach kws (Y.X i).env)).any (·.1.isNone)) = false := by intro _; rfl) (hcm : Y.cm = true := by rfl) : XXe Y (.Call (.Name x p') (e :: es) kws pos) Γ EX ex := by
  obtain ⟨t, pa, rd⟩ := ha
  obtain ⟨tk, pk, rdk⟩ := hkw
  have FF : ∀ i, FnOk (Y.X i).prog (Y.X i).w (Y.X i).K (Y.X i).mg (Y.X i).base (L2.CX (Y.X i).prog (Y.X i).w) j f fd ps (spX As m Sr EX) := fun i => by rw [Y.hP i, Y.hw i, Y.hK i, Y.hM i, Y.hB i]; exact Fn
  refine ⟨_, fun i => pe_callKS (FF i) ((Y.hR hcm i).mono hj) (hg i) (by rw [Y.hM i]; exact hm) (by rw [Y.hK i]; exact hk) (by rw [Y.hK i]; exact hb) (E := WE Y.W) (fun σ => passAt (Y.tk i) σ) (pa i) (pk i) (hall i) (hks i) hdb (he i) (hpl i), fun B F H os σ Q I kk => ?_⟩
  refine rd B F H os σ _ I fun vs F1 H1 fp f1 e1 W1 S1 => ?_
  obtain rfl := hno.nil S1
  refine rdk B F1 H1 os σ _ (I.step0 f1 e1 W1) fun zs F2 H2 fp f2 e2 W2 S2 => ?_
  obtain rfl := hno2.nil S2
  have S3 : Slots F2 H2 [] ((gKV na nb vs zs).map some) (As z) := by
    have l1 := S1.length
    have l2 := S2.length
    rw [List.length_map] at l1 l2
    unfold gKV
    rw [if_pos ⟨l1.trans hn1, l2.trans hn2⟩, ← hargs, List.map_append]
    exact Slots.append (S1.mono f2 e2) S2
  refine ⟨z, .ex ex, F2, hq, W2.sub, S3, fun v F3 H3 fp W3 p3 => p3.elim, fun e he cls d F3 H3 W3 hx => ?_⟩
  cases he
  obtain ⟨f3, e3, W4⟩ := W2.called W3
  exact kk cls d F3 H3 [] ((f1.trans f2).trans f3) ((e1.trans e2).trans e3) W4 hx
end
end Ty

/-! Ty15 -/
/-! set(xs) of a list of ints, sorted of it -/
namespace Ty
section
open PySem PySem.W PySem.Calls PySem.Spec L2 PyProof.Rows
variable {P : Program} {w : World} {A : Around} {E : Value → Shared → Prop} {s : Shared}
abbrev nSet (w : World) : Obj := { cls := .type "set", dict := none, data := .set #[] 0 (.fresh 0 0 (!w.params.followText "set-order")) }
theorem call_setL {l : Addr} {items : Array Value} (ns : List Int) {Q : Value → Shared → Prop} (hh : A.handled = none) (hl : s.heap.IsList l items) (hit : IntsAre items.toList ns) (hb : ns.length + 1 < scanBound)
    (h : ∀ (h' : Heap) (tk c : Nat), SetR w h' s.heap.objs.size (fun j => decide (j ∈ ns)) c → c ≤ ns.length → (∀ b o, s.heap.get? b = some o → h'.get? b = some o) → Q (.ref s.heap.objs.size) { s with heap := h', toks := tk }) :
    wpAny (model P w) A (call (.type "set") [.ref l]) Q E s := by
  have szl : items.size = ns.length := by have q := IntsAre.length hit; rwa [Array.length_toList] at q
  obtain ⟨c, tl, mro⟩ := F.called_set.mro
  have a1 := F.called_set.made; have a2 := F.called_set.sub; have a3 := F.called_set.notType; have a4 := F.called_set.canCreate; have a5 := F.typeCall_set_1 (.ref l)
  refine wpAny_call (codeAny_of_tree ?_); show wpAny _ _ (callAny (.type "set") _) _ _ _
  refine wpAny_pure ⟨Code.quiet_builtin _ (by decide +kernel), codeAny_builtin F.entry_type_call ?_⟩; rw [Around.under_plain (weight_type_call_type "set" [.ref l] []) rfl]
  repeat (any_goals (first | assumption | wp_step))
  have S0 : (s.heap.push (nSet w)).get? s.heap.objs.size = some (nSet w) := Heap.get?_push_size _ rfl
  refine codeAny_mono (code_set_led1 (.ref l) (E := E) (Q₁ := fun ob t => ob = .ref s.heap.objs.size ∧ t = { s with heap := s.heap.push (nSet w) }) ⟨rfl, rfl⟩) fun r s₁ hr => ?_
  match r, hr with
  | .error e, hr => exact hr
  | .ok .next, hr => exact hr.elim
  | .ok .brk, hr => exact hr.elim
  | .ok .cont, hr => exact hr.elim
  | .ok (.ret ob), hr =>
    obtain ⟨rfl, rfl⟩ := hr
    have T0 : Shared.TypeIs { s with heap := s.heap.push (nSet w) } (.ref s.heap.objs.size) "set" := ⟨_, S0, rfl⟩
    have b1 := F.called_set.init.lookup; have b2 := F.called_set.init.bind (.ref s.heap.objs.size)
    repeat (any_goals (first | assumption | wp_step))
    refine codeAny_mono (codeAny_call_builtin (R := wants (fun r t => r = .none ∧ ∃ h' tk c, t = { s with heap := h', toks := tk } ∧ SetR w h' s.heap.objs.size (fun j => decide (j ∈ ns)) c ∧ c ≤ ns.length ∧ ∀ b o, s.heap.get? b = some o → h'.get? b = some o) E) F.called_set.init.plain F.entry_set_init (check_set_init_1 T0 ?_)) fun r₂ s₂ hr₂ => ?_
    · obtain ⟨⟨oc, od, odt, osl⟩, ho, hc, nl, hd⟩ := hl
      simp only at hc hd; subst hc; subst hd
      have ho1 : (s.heap.push (nSet w)).get? l = some { cls := .type "list", dict := od, data := .seq items nl, slots := osl } := Heap.get?_push_of_some _ ho
      have d1 := F.sub_list_set; have d2 := F.sub_list_frozenset
      have d3 : (Value.type "list" == Value.type "dict") = false := by decide
      have L1 : (s.heap.push (nSet w)).IsList l items := ⟨_, ho1, rfl, nl, rfl⟩
      unfold Builtin.«set.__init__» noKeywords Builtin.Frozenset.updateFrom; generalize hPI : pyIter = PI
      wp_walk
      subst hPI
      refine wpAny_pyIter_list L1 (wpAny_bind (wpAny_runValue ?_))
      have lt0 : l < s.heap.objs.size := Heap.lt_size ho
      have hh3 : A.in1.in1.in1.handled = none := by simp [hh]
      have ne1 : l ≠ (s.heap.push (nSet w)).objs.size := by rw [Heap.size_push]; exact Nat.ne_of_lt (Nat.lt_succ_of_lt lt0)
      have ne2 : s.heap.objs.size ∉ [(s.heap.push (nSet w)).objs.size, l] := by
        rw [Heap.size_push]; simp only [List.mem_cons, List.mem_singleton, List.not_mem_nil, or_false, not_or]; exact ⟨Nat.ne_of_lt (Nat.lt_succ_self _), Nat.ne_of_gt lt0⟩
      have vals : ∀ (i : Nat) (v : Value), items[i]? = some v → ∃ k t, ns[i]? = some k ∧ v = .int k t := fun i v hv => by
        have hi : i < ns.length := by rw [← szl]; exact (Array.getElem?_eq_some_iff.mp hv).1
        obtain ⟨t, e⟩ := IntsAre.int_at hit i v (by rw [Array.getElem?_toList]; exact hv)
        exact ⟨ns[i], t, List.getElem?_eq_getElem hi, by rw [e, List.getD_eq_getElem?_getD, List.getElem?_eq_getElem hi] <;> rfl⟩
      refine set_update_ints ((Walks.list hh3 _ l ne1 items).toS) s.heap.objs.size ne2 ns szl hb vals (items.size - 0) 0 _ (by omega) (Nat.zero_le _) ⟨⟨_, Heap.get?_push_size _ rfl, rfl, rfl⟩, L1.push _⟩ ⟨0, Nat.le_refl 0, setR_new_at (Heap.get?_push_of_some _ S0)⟩ fun t c2 mv hc2 hS2 => ?_
      obtain ⟨h2, g2, d2', tk2, os2⟩ := t
      obtain rfl : g2 = s.gens := mv.gens
      obtain rfl : d2' = s.drawn := mv.drawn
      obtain rfl : os2 = s.os := mv.os
      show wpAny _ _ _ _ _ _
      refine wpAny_pure ?_; show wpAny _ _ (ret Value.none) _ _ _
      refine wpAny_pure ⟨rfl, h2, tk2, c2, rfl, hS2, by rw [← szl]; exact hc2, fun b o e => ?_⟩
      have lb : b < s.heap.objs.size := Heap.lt_size e
      refine mv.heap b o ?_ (Heap.get?_push_of_some _ (Heap.get?_push_of_some _ e))
      simp only [List.mem_cons, List.mem_singleton, List.not_mem_nil, or_false, not_or]
      refine ⟨Nat.ne_of_lt lb, ?_⟩
      rw [Heap.size_push]; exact Nat.ne_of_lt (Nat.lt_succ_of_lt lb)
    · match r₂, hr₂ with
      | .error e, hr₂ => exact hr₂
      | .ok .next, hr₂ => exact hr₂.elim
      | .ok .brk, hr₂ => exact hr₂.elim
      | .ok .cont, hr₂ => exact hr₂.elim
      | .ok (.ret r), hr₂ =>
        obtain ⟨rfl, h2, tk2, c2, rfl, hS2, hc2, k2⟩ := hr₂
        repeat (any_goals (first | assumption | wp_step))
        exact h _ _ _ hS2 hc2 k2
end
end Ty

/-! Ty16 -/
namespace Ty
open PySem PySem.Spec L2
/-! ### ints in order, each once -/
def insD (k : Int) : List Int → List Int
  | [] => [k]
  | x :: r => if k < x then k :: x :: r else if k = x then x :: r else x :: insD k r
def sortD (xs : List Int) : List Int := xs.foldr insD []
theorem mem_insD {k y : Int} : ∀ {l : List Int}, y ∈ insD k l ↔ y = k ∨ y ∈ l
  | [] => by simp [insD]
  | x :: r => by
    unfold insD
    by_cases h1 : k < x
    · rw [if_pos h1]; simp
    · rw [if_neg h1]
      by_cases h2 : k = x
      · rw [if_pos h2]; subst h2; simp
      · rw [if_neg h2, List.mem_cons, mem_insD, List.mem_cons]
        constructor
        · rintro (h | h | h)
          · exact .inr (.inl h)
          · exact .inl h
          · exact .inr (.inr h)
        · rintro (h | h | h)
          · exact .inr (.inl h)
          · exact .inl h
          · exact .inr (.inr h)
theorem pw_insD {k : Int} : ∀ {l : List Int}, l.Pairwise (· < ·) → (insD k l).Pairwise (· < ·)
  | [], _ => by simp [insD]
  | x :: r, h => by
    obtain ⟨h1, h2⟩ := List.pairwise_cons.mp h
    unfold insD
    by_cases g1 : k < x
    · rw [if_pos g1]
      refine List.pairwise_cons.mpr ⟨fun y hy => ?_, h⟩
      rcases List.mem_cons.mp hy with rfl | hy
      · exact g1
      · exact Int.lt_trans g1 (h1 y hy)
    · rw [if_neg g1]
      by_cases g2 : k = x
      · rw [if_pos g2]; exact h
      · rw [if_neg g2]
        refine List.pairwise_cons.mpr ⟨fun y hy => ?_, pw_insD h2⟩
        rcases mem_insD.mp hy with rfl | hy
        · omega
        · exact h1 y hy
theorem mem_sortD {y : Int} : ∀ {xs : List Int}, y ∈ sortD xs ↔ y ∈ xs
  | [] => by simp [sortD]
  | x :: xs => by
    show y ∈ insD x (sortD xs) ↔ _
    rw [mem_insD, mem_sortD, List.mem_cons]
theorem pw_sortD : ∀ xs : List Int, (sortD xs).Pairwise (· < ·)
  | [] => List.Pairwise.nil
  | x :: xs => pw_insD (pw_sortD xs)
theorem pw_unique : ∀ {l l' : List Int}, l.Pairwise (· < ·) → l'.Pairwise (· < ·) → (∀ y, y ∈ l ↔ y ∈ l') → l = l'
  | [], [], _, _, _ => rfl
  | [], x :: r, _, _, h => absurd ((h x).mpr List.mem_cons_self) (by simp)
  | x :: r, [], _, _, h => absurd ((h x).mp List.mem_cons_self) (by simp)
  | x :: r, z :: q, h1, h2, h => by
    obtain ⟨a1, a2⟩ := List.pairwise_cons.mp h1
    obtain ⟨b1, b2⟩ := List.pairwise_cons.mp h2
    have e : x = z := by
      have c1 := (h x).mp List.mem_cons_self
      have c2 := (h z).mpr List.mem_cons_self
      rcases List.mem_cons.mp c1 with e | c1
      · exact e
      · rcases List.mem_cons.mp c2 with e | c2
        · exact e.symm
        · have d1 := b1 x c1
          have d2 := a1 z c2
          omega
    subst e
    congr 1
    refine pw_unique a2 b2 fun y => ⟨fun hy => ?_, fun hy => ?_⟩
    · rcases List.mem_cons.mp ((h y).mp (List.mem_cons_of_mem _ hy)) with e | hy'
      · subst e; exact absurd (a1 y hy) (Int.lt_irrefl _)
      · exact hy'
    · rcases List.mem_cons.mp ((h y).mpr (List.mem_cons_of_mem _ hy)) with e | hy'
      · subst e; exact absurd (b1 y hy) (Int.lt_irrefl _)
      · exact hy'
section
variable {P : Program} {w : World} {K : PySem.W.Frag} {mg : Str → Option Value} {base : Heap} {k : Nat}
variable {Y : Fa P w K mg base k} {i : Y.I} {e ea eb eo ev tg iter elt : Expr} {Γ : List Slot} {s : Slot} {ns : List Int}
def rSetI (K : PySem.W.Frag) (w : World) : List V → Hp → VK → Prop := fun xs H Q => ∃ (l : Addr) (ns : List Int), xs = [.ref l] ∧ SqL K H l (ns.map V.int) ∧ ns.length < 64 ∧ ∀ p n, H p = none → n ≤ ns.length → Q (.ref p) (upd H p (SetO w p (fun j => decide (j ∈ ns)) n))
theorem cr_setI {X : Cx} (hc : X.calm = true) : CallR X (.type "set") (rSetI X.K X.w) := by
  intro pins s σ H xs us Q I r h
  obtain ⟨l, ns, rfl, hs, h64, q⟩ := h
  obtain ⟨its, rv, pl, hz⟩ := I.list hs
  rw [Vals.ref1 r]
  refine call_setL ns (I.ok.hd hc) pl.isList (by simpa using rv.ints) (by unfold scanBound; omega) fun h' tk c R hc' kp => ?_
  exact ⟨.ref _, upd H s.heap.objs.size (SetO X.w s.heap.objs.size (fun j => decide (j ∈ ns)) c), I.laid (t' := tk) (fun b u e => kp b u e) (Nat.le_refl _) (setO_new R), rfl, q _ c (I.hok.fresh (Nat.le_refl _)) hc'⟩
theorem c_setI (Y : Fa P w K mg base k) (hcm : Y.cm = true := by rfl) (i : Y.I) : CallR (Y.X i) (.type "set") (rSetI K w) := by have h := cr_setI (X := Y.X i) ((Y.hC i).trans hcm); rw [Y.hK i, Y.hw i] at h; exact h
theorem c_sortSet (Y : Fa P w K mg base k) (hcm : Y.cm = true := by rfl) (i : Y.I) : CallR (Y.X i) (.builtin "sorted") (rSortedSet w) := by have h := cr_sortedSet (X := Y.X i) ((Y.hC i).trans hcm); rw [Y.hw i] at h; exact h
/-- a set of ints, owned -/
def setS (w : World) (ns : List Int) : Slot where
  P := fun F H fp o => ∃ a n, o = some (.ref a) ∧ fp = [a] ∧ H a = some (SetO w a (fun j => decide (j ∈ ns)) n) ∧ n < 64
  mono := fun _ hH h => let ⟨a, n, e1, e2, h1, h2⟩ := h; ⟨a, n, e1, e2, hH _ _ h1, h2⟩
  st := True
  mm := fun _ {_ _ _ _ _ _} _ hH h => let ⟨a, n, e1, e2, h1, h2⟩ := h; ⟨a, n, e1, e2, by rw [hH a (by rw [e2]; simp)]; exact h1, h2⟩
theorem o_setI (hs : SV K s pInt ns) (hz : ns.length < 64) : OpA (rSetI K w) [s] (setS w ns) := opA1 fun B F H v fx os Q W pv q => by
  obtain ⟨l, vs, ev, h1, h2⟩ := hs F H fx _ W.sub pv
  cases ev
  have e := map_int_of h2
  subst e
  exact ⟨l, ns, rfl, h1, hz, fun p n hp hn => q _ F _ [p] same_refl (same_upd hp) (W.drop.newO hp) ⟨p, n, rfl, rfl, upd_same, by omega⟩⟩
theorem o_sortSet : OpA (rSortedSet w) [setS w ns] (own (oL pInt) (sortD ns)) := opA1 fun B F H v fx os Q W pv q => by
  obtain ⟨a, n, ev, ef, h1, h2⟩ := pv
  cases ev
  refine ⟨a, _, n, rfl, h1, h2, fun ms p hpw hm hl hp => ?_⟩
  have e : ms = sortD ns := pw_unique hpw (pw_sortD ns) fun y => by rw [hm y, mem_sortD]; simp
  subst e
  exact newL W.drop hp (paired_map_int _) q
end
end Ty

/-! Ty17 -/
namespace Ty
open PySem PySem.Spec L2
section
variable {P : Program} {w : World} {K : PySem.W.Frag} {mg : Str → Option Value} {base : Heap} {k : Nat}
variable {Y : Fa P w K mg base k} {i : Y.I} {e ea eb eo ev tg iter elt : Expr} {Γ : List Slot} {s : Slot} {pos p1 p2 : Pos}
theorem exm_mk {C : Addr} {cls : Value} {b : Bool} (h1 : PySem.W.subIn K (.ref C) (.type "BaseException") = some true) (hi : PySem.W.isClsIn K C = true) (ht : PySem.W.typeIn K (.ref C) = some (.type "type")) (hs : PySem.W.subIn K cls (.ref C) = some b) : PySem.W.exmOne K cls (.ref C) = some b := by
  unfold PySem.W.isClsIn at hi
  unfold PySem.W.exmOne PySem.W.kitCls
  rw [h1]
  show (if ((PySem.W.clsIn K C).isSome && PySem.W.typeIn K (.ref C) == some (.type "type")) = true then PySem.W.subIn K cls (.ref C) else none) = some b
  rw [hi, ht, hs]; rfl
theorem kit_mk {C Dc : Addr} {b : Bool} (hne : (Value.ref Dc == Value.ref C) = false) (hi : PySem.W.isClsIn K C = true) (ht : PySem.W.typeIn K (.ref C) = some (.type "type")) (hs : PySem.W.subIn K (.ref Dc) (.ref C) = some b) : PySem.W.kitOne K (.ref Dc) (.ref C) = some b := by
  unfold PySem.W.isClsIn at hi
  unfold PySem.W.kitOne PySem.W.kitCls
  rw [hne]
  show (if ((PySem.W.clsIn K C).isSome && PySem.W.typeIn K (.ref C) == some (.type "type")) = true then PySem.W.subIn K (.ref Dc) (.ref C) else none) = some b
  rw [hi, ht, hs]; rfl
/-! ### list(range(..)), tuple(range(..)) -/
theorem paired_rg {F : Hp} (a b : Int) : Paired (pInt.R F) (rgV a b) (rangeL a b) := by
  unfold rgV rangeL
  generalize List.range (b - a).toNat = l
  induction l with
  | nil => exact .nil
  | cons x l ih => exact .cons rfl ih
theorem x_tupRg {n : Int} (h : XV Y e Γ (vInt n)) (hn : RgOk 0 n) (hm : mg "tuple" = none) (hm2 : mg "range" = none) (hg : ∀ i, Gl (Y.X i) "tuple" := by intro _; rfl) (hg2 : ∀ i, Gl (Y.X i) "range" := by intro _; rfl) (hcm : Y.cm = true := by rfl)
    (na : ∀ i, starEach [e] (Y.X i).env = (false, eval e (Y.X i).env) :: starEach [] (Y.X i).env := by intro _; rfl)
    (nb : ∀ i, starEach [.Call (.Name "range" p2) [e] [] p1] (Y.X i).env = (false, eval (.Call (.Name "range" p2) [e] [] p1) (Y.X i).env) :: starEach [] (Y.X i).env := by intro _; rfl) {p3 : Pos} : XV Y (.Call (.Name "tuple" p3) [.Call (.Name "range" p2) [e] [] p1] [] pos) Γ (val (pTup pInt) (rangeL 0 n)) := by
  obtain ⟨t, pe, rd⟩ := h
  refine ⟨_, fun i => pe_tupRg ((Y.hC i).trans hcm) (hg i) (by rw [Y.hM]; exact hm) (prg_1 (hg2 i) (by rw [Y.hM]; exact hm2) (pe i) (na i)) (nb i), fun B F H os σ Q I kk => ?_⟩
  refine rd B F H os σ _ I fun v F1 H1 fp f1 e1 W1 q1 => ?_
  obtain rfl := vint q1
  exact ⟨n, rfl, hn, fun l hl => newF (r := val (pTup pInt) (rangeL 0 n)) W1.drop hl (fun F' f e => ⟨rfl, _, rfl, l, _, rfl, e, paired_rg 0 n⟩) fun v F' H' fp' f2 e2 => kk v F' H' fp' (f1.trans f2) (e1.trans e2)⟩
theorem x_lstRg {n : Int} (h : XV Y e Γ (vInt n)) (hn : RgOk 0 n) (hm : mg "list" = none) (hm2 : mg "range" = none) (hg : ∀ i, Gl (Y.X i) "list" := by intro _; rfl) (hg2 : ∀ i, Gl (Y.X i) "range" := by intro _; rfl) (hcm : Y.cm = true := by rfl)
    (na : ∀ i, starEach [e] (Y.X i).env = (false, eval e (Y.X i).env) :: starEach [] (Y.X i).env := by intro _; rfl)
    (nb : ∀ i, starEach [.Call (.Name "range" p2) [e] [] p1] (Y.X i).env = (false, eval (.Call (.Name "range" p2) [e] [] p1) (Y.X i).env) :: starEach [] (Y.X i).env := by intro _; rfl) {p3 : Pos} : XV Y (.Call (.Name "list" p3) [.Call (.Name "range" p2) [e] [] p1] [] pos) Γ (own (oL pInt) (rangeL 0 n)) := by
  obtain ⟨t, pe, rd⟩ := h
  refine ⟨_, fun i => pe_listRg ((Y.hC i).trans hcm) (hg i) (by rw [Y.hM]; exact hm) (prg_1 (hg2 i) (by rw [Y.hM]; exact hm2) (pe i) (na i)) (nb i), fun B F H os σ Q I kk => ?_⟩
  refine rd B F H os σ _ I fun v F1 H1 fp f1 e1 W1 q1 => ?_
  obtain rfl := vint q1
  exact ⟨n, rfl, hn, fun l hl => newL W1.drop hl (paired_rg 0 n) fun v F' H' fp' f2 e2 => kk v F' H' fp' (f1.trans f2) (e1.trans e2)⟩
theorem x_lstRg2 {m n : Int} (ha : XV Y ea Γ (vInt m)) (hb : XV Y eb Γ (vInt n)) (hn : RgOk m n) (hm : mg "list" = none) (hm2 : mg "range" = none) (hg : ∀ i, Gl (Y.X i) "list" := by intro _; rfl) (hg2 : ∀ i, Gl (Y.X i) "range" := by intro _; rfl) (hcm : Y.cm = true := by rfl)
    (na : ∀ i, starEach [ea, eb] (Y.X i).env = (false, eval ea (Y.X i).env) :: starEach [eb] (Y.X i).env := by intro _; rfl) (na2 : ∀ i, starEach [eb] (Y.X i).env = (false, eval eb (Y.X i).env) :: starEach [] (Y.X i).env := by intro _; rfl)
    (nc : ∀ i, (backTo p1 (starEach [eb] (Y.X i).env)).any (·.1) = false := by intro _; rfl)
    (nb : ∀ i, starEach [.Call (.Name "range" p2) [ea, eb] [] p1] (Y.X i).env = (false, eval (.Call (.Name "range" p2) [ea, eb] [] p1) (Y.X i).env) :: starEach [] (Y.X i).env := by intro _; rfl) {p3 : Pos} : XV Y (.Call (.Name "list" p3) [.Call (.Name "range" p2) [ea, eb] [] p1] [] pos) Γ (own (oL pInt) (rangeL m n)) := by
  obtain ⟨t, pe, rd⟩ := ha
  obtain ⟨t2, pe2, rd2⟩ := hb
  refine ⟨_, fun i => pe_listRg ((Y.hC i).trans hcm) (hg i) (by rw [Y.hM]; exact hm) (prg_2 (hg2 i) (by rw [Y.hM]; exact hm2) (pe i) (pe2 i) (na i) (na2 i) (nc i)) (nb i), fun B F H os σ Q I kk => ?_⟩
  refine rd B F H os σ _ I fun v F1 H1 fp f1 e1 W1 q1 => ?_
  obtain rfl := vint q1
  refine rd2 B F1 H1 os σ _ (I.step0 f1 e1 W1.drop) fun v2 F2 H2 fp2 f2 e2 W2 q2 => ?_
  obtain rfl := vint q2
  exact ⟨m, n, rfl, rfl, hn, fun l hl => newL W2.drop hl (paired_rg m n) fun v F' H' fp' f3 e3 => kk v F' H' fp' ((f1.trans f2).trans f3) ((e1.trans e2).trans e3)⟩
/-! ### values of any make -/
def pDa (K : PySem.W.Frag) : VP PyData := ⟨fun F v d => Dp K F v d, fun hF h => Dp.mono hF h⟩
theorem XV.data {α : Type} [DecidableEq α] {p : VP α} {ok : α → Prop} {u : α} (E : DE p ok) (h : XV Y e Γ (val p u)) : XV Y e Γ (val (pDa K) (E.enc u)) := h.as fun F H fp o _ ⟨e1, v, e2, r⟩ => ⟨e1, v, e2, E.dp K F v u r⟩
theorem dpAll_paired {F : Hp} : ∀ {vs : List V} {ds : List PyData}, Paired ((pDa K).R F) vs ds → DpAll K F vs ds
  | _, _, .nil => .nil
  | _, _, .cons r t => .cons r (dpAll_paired t)
theorem paired_dpAll {F : Hp} : ∀ {vs : List V} {ds : List PyData}, DpAll K F vs ds → Paired ((pDa K).R F) vs ds
  | _, _, .nil => .nil
  | _, _, .cons r t => .cons r (paired_dpAll t)
theorem x_lstD {es : List Expr} {ds : List PyData} (ha : XA Y es Γ (ds.map (val (pDa K)))) (hz : ds.length ≤ sizeLine) : XV Y (.List es pos) Γ (val (pDa K) (.list ds)) :=
  ((x_lst (p := pDa K) ha hz).wk WkS.list).as fun F H fp o _ ⟨e1, v, e2, l, vs, ev, h1, h2⟩ => ⟨e1, v, e2, by subst ev; exact .lst (SqL.of h1) (dpAll_paired h2)⟩
/-- an item of such a list -/
def pdIx : PyData → Int → Option PyData
  | .list ds, z => atI ds z
  | _, _ => none
def pdLen : PyData → Option Int
  | .list ds => some (ds.length : Int)
  | _ => none
theorem SV.data {ds : List PyData} : SV K (Ty.val (pDa K) (.list ds)) (pDa K) ds := fun F H fp o hS h => by
  obtain ⟨_, v, e, r⟩ := h
  cases (show Dp K F v (.list ds) from r) with
  | lst h1 h2 => exact ⟨_, _, e, Same.seq hS h1, paired_dpAll h2⟩
theorem x_ixD {d u : PyData} {z : Int} (ha : XV Y ea Γ (val (pDa K) d)) (hb : XV Y eb Γ (vInt z)) (hz : pdIx d z = some u) (hx : PlainIx eb := by exact fun _ _ => rfl) : XV Y (.Subscript ea eb pos) Γ (val (pDa K) u) := by
  cases d with
  | list ds => exact x_ix ha SV.data hb hz hx
  | _ => cases hz
theorem o_lenD {d : PyData} {n : Int} (hz : pdLen d = some n) : OpA (rLenK K) [val (pDa K) d] (vInt n) := by
  cases d with
  | list ds => cases hz; exact o_lenL SV.data
  | _ => cases hz
theorem o_eqP {a b : Slot} {u v : PyData} (ha : Vw a (pDa K) u) (hb : Vw b (pDa K) v) (h1 : SeqAt.shaped u = true) (h2 : SeqAt.shaped v = true) : Op2 (rEqD K) a b (vBl (PyData.eqv u v)) := fun B F H x y fx fy os Q W p1 p2 q => by
  obtain ⟨x', ex, rx⟩ := ha F H fx _ W.sub p1
  obtain ⟨y', ey, ry⟩ := hb F H fy _ W.sub p2
  cases ex; cases ey
  exact ⟨u, v, rx, ry, h1, h2, q _ F H [] same_refl same_refl W.drop.drop ⟨rfl, _, rfl, rfl⟩⟩
theorem o_neP {a b : Slot} {u v : PyData} (ha : Vw a (pDa K) u) (hb : Vw b (pDa K) v) (h1 : SeqAt.shaped u = true) (h2 : SeqAt.shaped v = true) : Op2 (rNeD K) a b (vBl (!PyData.eqv u v)) := fun B F H x y fx fy os Q W p1 p2 q => by
  obtain ⟨x', ex, rx⟩ := ha F H fx _ W.sub p1
  obtain ⟨y', ey, ry⟩ := hb F H fy _ W.sub p2
  cases ex; cases ey
  exact ⟨u, v, rx, ry, h1, h2, q _ F H [] same_refl same_refl W.drop.drop ⟨rfl, _, rfl, rfl⟩⟩
/-- what isinstance(d, list) says -/
def pdTy : PyData → Option String
  | .none => some "NoneType"
  | .bool _ => some "bool"
  | .int _ => some "int"
  | .str _ => some "str"
  | .list _ => some "list"
  | .tuple _ => some "tuple"
  | _ => none
theorem TyV.data {d : PyData} {T : String} (h : pdTy d = some T) : TyV K (Ty.val (pDa K) d) T := fun F H fp o hS hp => by
  obtain ⟨_, v, e, r⟩ := hp
  refine ⟨v, e, ?_⟩
  have r2 : Dp K H v d := Dp.mono hS r
  cases r2 with
  | non => cases h; exact .base .non
  | bl b => cases h; exact .base (.bl b)
  | int b => cases h; exact .base (.int b)
  | str b => cases h; exact .base (.str b)
  | lst h1 h2 =>
    cases h
    rcases h1 with (h1 | ⟨o, h1⟩) | ⟨o, its, n, h1, h3, _⟩
    · exact .base (.lst h1)
    · exact .base (.frz h1)
    · exact .kList h1 h3
  | tup h1 h2 =>
    cases h
    rcases h1 with (h1 | ⟨o, h1⟩) | ⟨o, its, n, h1, h3, _⟩
    · exact .base (.tup h1)
    · exact .fTuple h1
    · exact .kTuple h1 h3
end
end Ty

/-! Ty19 -/
namespace Ty
open PySem PySem.Spec L2
open PyProof.Rows
def XF.slot : XF → Slot
  | .i n => vInt n
  | .s x => vStr x
theorem XF.of_slot {F H : Hp} : ∀ {fs : List XF} {fp : List Addr} {vs : List V}, Slots F H fp (vs.map some) (fs.map XF.slot) → vs = fs.map XF.v ∧ fp = []
  | [], _, [], S => by cases S; exact ⟨rfl, rfl⟩
  | [], _, _ :: _, S => by have e := S.length; simp at e
  | _ :: _, _, [], S => by have e := S.length; simp at e
  | f :: fs, _, v :: vs, S => by
    obtain ⟨f1, f2, rfl, h1, h2⟩ := S.cons_inv
    obtain ⟨rfl, rfl⟩ := XF.of_slot h2
    cases f with
    | i n =>
      obtain ⟨rfl, w, e, r⟩ := h1
      cases e; cases r; exact ⟨rfl, rfl⟩
    | s n =>
      obtain ⟨rfl, w, e, r⟩ := h1
      cases e; cases r; exact ⟨rfl, rfl⟩
/-- an error of the class at C with these fields: how it is told -/
def exFd (C : Addr) (ns : List Str) (e : Exn) (cls : Value) (d : Option Addr) (F : Hp) : Prop := cls = .ref C ∧ ∃ dd, d = some dd ∧ F dd = some (.xd (xfd ns e.2))
section
variable {P : Program} {w : World} {K : PySem.W.Frag} {mg : Str → Option Value} {base : Heap} {k : Nat}
variable {Y : Fa P w K mg base k} {i : Y.I} {e ea eb eo ev tg iter elt : Expr} {es ifs : List Expr} {rest body suite : List Stmt} {b₀ : Stmt} {Γ Γ' Γ1 Γ2 Γh Δ Δ' As : List Slot} {a b c r s s' : Slot} {pos pos' np : Pos} {B : Bs} {D : Ends} {x n f : Str} {p' : Pos} {C : Addr} {EX : ExT} {ex : Exn}
/-- raise C(e, ..), C an error with fields -/
theorem xm_init {ns : List Str} {fs : List XF} {args : List Slot} {fI : Addr} {fd : FuncData} {j : Nat} (O : OexC K C) (iC : PySem.W.findIn K (.ref C) "__init__" = some (some (.ref fI))) (tI : PySem.W.typeIn K (.ref fI) = some (.type "function"))
    (Fn : FnOk P w K mg base CX0 j fI fd ("self" :: ns) (spE C ns)) (hj : j + 1 ≤ k) (hb : Binds K fd ("self" :: ns) []) (hm : mg x = some (.ref C)) (ha : XA Y (e :: es) Γ args) (hargs : args = fs.map XF.slot) (hl : fs.length = ns.length) (hok : ∀ f ∈ fs, f.ok)
    (hE : ∀ dd F, F dd = some (.xd (xfd ns fs)) → EX ex (.ref C) (some dd) F)
    (hg : ∀ i, Gl (Y.X i) x := by intro _; rfl) (hdb : (x == ("__debug__" : Str)) = false := by decide) (hnl : Nat.blt ns.length 900 = true := by rfl)
    (he : ∀ i, starEach (e :: es) (Y.X i).env = (false, eval e (Y.X i).env) :: starEach es (Y.X i).env := by intro _; rfl) (hpl : ∀ i, (backTo pos (starEach es (Y.X i).env)).any (·.1) = false := by intro _; rfl) (hcm : Y.cm = true := by rfl) : XMk Y (.Call (.Name x p') (e :: es) [] pos) Γ EX ex := by
  subst hargs
  obtain ⟨t, pa, rd⟩ := ha
  have FF : ∀ i, FnOk (Y.X i).prog (Y.X i).w (Y.X i).K (Y.X i).mg (Y.X i).base CX0 j fI fd ("self" :: ns) (spE C ns) := fun i => by rw [Y.hP i, Y.hw i, Y.hK i, Y.hM i, Y.hB i]; exact Fn
  refine ⟨_, fun i => pmk_oex (by rw [Y.hK i]; exact O) (by rw [Y.hK i]; exact iC) (by rw [Y.hK i]; exact tI) (FF i) ((Y.hR hcm i).mono hj) (by rw [Y.hK i]; exact hb) .nil pass0 (hg i) (by rw [Y.hM i]; exact hm) (pa i) hdb (he i) (hpl i), fun B F H os σ Q I kk => ?_⟩
  refine rd B F H os σ _ I fun vs F1 H1 fp f1 e1 W1 S1 => ?_
  obtain ⟨rfl, rfl⟩ := XF.of_slot S1
  have hlen : (fs.map XF.v).length ≤ 1000 := by
    have := Nat.le_of_ble_eq_true hnl
    rw [List.length_map]; omega
  refine ⟨hlen, fun a hn => ?_⟩
  refine ⟨a, fs, by rw [List.append_nil], hl, hok, upd_same, fun dx hd hda => ⟨rfl, dx, xfd ns fs, upd_same, by rw [upd_ne hda, upd_same], by rw [upd_ne hda] at hd; exact hd, ?_⟩⟩
  have hd1 : H1 dx = none := by rw [upd_ne hda] at hd; exact hd
  have eq : upd (del (upd (upd (upd H1 a (exo a C none)) dx (exd dx (xfd ns fs))) a (exo a C (some dx))) a) dx (.xd (xfd ns fs)) = upd H1 dx (.xd (xfd ns fs)) := funext fun b => by
    by_cases h1 : b = dx
    · subst h1; rw [upd_same, upd_same]
    · rw [upd_ne h1, upd_ne h1]
      by_cases h2 : b = a
      · subst h2; rw [del_same]; exact hn.symm
      · rw [del_ne h2, upd_ne h2, upd_ne h1, upd_ne h2]
  rw [eq]
  have W2 := W1.newF (o := .xd (xfd ns fs)) hd1
  exact kk _ _ _ _ [] (f1.trans (same_upd (W1.free hd1).1)) (e1.trans (same_upd hd1)) W2 (hE dx _ upd_same)
/-- what a suite holds: an error with a dict -/
def pExc (a dd : Addr) (fs : List (Str × V)) : VP Unit := ⟨fun F v _ => v = .ref a ∧ F dd = some (.xd fs), fun hF h => ⟨h.1, hF _ _ h.2⟩⟩
/-- n.f in the suite -/
theorem x_efld {α : Type} {p : VP α} {u : α} {ad dd : Addr} {fs : List (Str × V)} {v : V} (T : XfC K C) (hno : PySem.W.findIn K (.ref C) n = some none) (h1 : XV (Y.suite ad (.ref C) (some dd)) e Γ (val (pExc ad dd fs) ())) (hl : fs.lookup n = some v) (hp : ∀ F, p.R F v u)
    (hb : ∀ i, attributeBase e n ((Y.suite ad (.ref C) (some dd)).X i).env (eval e ((Y.suite ad (.ref C) (some dd)).X i).env) = eval e ((Y.suite ad (.ref C) (some dd)).X i).env := by intro _; rfl) : XV (Y.suite ad (.ref C) (some dd)) (.Attribute e n pos) Γ (val p u) := by
  obtain ⟨t, pe, rd⟩ := h1
  refine ⟨_, fun j => pe_xf (X := Y.X j.1.1) (a := ad) (cls := .ref C) (d := some dd) (oe := j.1.2.1) (pn := j.1.2.2) (by rw [Y.hK]; exact T) (by rw [Y.hK]; exact hno) j.2.1 j.2.2 (pe j) (hb j), fun B F H os σ Q I kk => ?_⟩
  refine rd B F H os σ _ I fun x F1 H1 fp f1 e1 W1 p1 => ?_
  obtain ⟨rfl, r1, r2⟩ := val_P p1
  exact ⟨r1, rfl, dd, fs, v, rfl, W1.sub _ _ r2, hl, kk v F1 H1 [] f1 e1 W1.drop ⟨rfl, v, rfl, hp F1⟩⟩
/-- isinstance(n, c) in the suite, n with a dict -/
def rIsD (K : PySem.W.Frag) (Dc a dd : Addr) : List V → Hp → VK → Prop := fun xs H Q => ∃ (c : V) (cv : Value) (b : Bool) (fs : List (Str × V)), xs = [.ref a, c] ∧ (∀ u, RelV c u → u = cv) ∧ PySem.W.kitOne K (.ref Dc) cv = some b ∧ H dd = some (.xd fs) ∧ Q (.bl b) H
theorem call_isD {X : Cx} {a Dc dd : Addr} {oe : Obj} {pn : List (Addr × Obj)} (T : ExcC X.K Dc) (hz : Zc (.ref Dc) (some dd) oe) (hf : ∃ vs, oe.data = .fields vs) : CallR (X.suite a ((a, oe) :: pn)) (.builtin "isinstance") (rIsD X.K Dc a dd) := by
  intro pins s σ H xs us Q I r h
  obtain ⟨c, cv, b, fs, rfl, hcv, e, hdd, q⟩ := h
  match us, r with
  | [_, _], .cons rx (.cons rt .nil) =>
    cases rx
    have ec := hcv _ rt
    subst ec
    obtain ⟨hget, _⟩ := I.pin (a, oe) (List.mem_append.mpr (.inl List.mem_cons_self))
    obtain ⟨vs, hv⟩ := hf
    have hx : ObjOk X.prog X.w H s.heap dd (.xd fs) := I.hok dd _ hdd
    obtain ⟨mA, hns, _⟩ := hx
    obtain ⟨od, ho, _⟩ := lookIn_ns hns
    have J : PySem.W.InstAt s.heap a oe Dc (some od) := ⟨hget, hz.1, by unfold PySem.W.notCls; rw [hv] <;> rfl, by rw [hz.2]; exact ho⟩
    have hcl : (PySem.W.clsIn X.K Dc).isSome = true := by
      have z := T.hd
      unfold PySem.W.hasDictIn at z
      cases hq : PySem.W.clsIn X.K Dc with
      | none => rw [hq] at z; simp at z
      | some _ => rfl
    exact PySem.W.kia_one (PySem.W.kitx_exc hcl T.hg T.hk T.hs T.ha T.hn T.ht T.hm) I.kIn J e (fun z => nomatch z) fun tk => ⟨.bl b, H, I.kept (t' := tk) fun _ _ z => z, rfl, q⟩
theorem x_isED {ad dd Dc : Addr} {fs : List (Str × V)} {α : Type} {q : VP α} {u : α} {cv : Value} {b : Bool} (hm : mg "isinstance" = none) (hE : ExcC K Dc) (hk : PySem.W.kitOne K (.ref Dc) cv = some b) (h1 : XV (Y.suite ad (.ref Dc) (some dd)) ea Γ (val (pExc ad dd fs) ())) (h2 : XV (Y.suite ad (.ref Dc) (some dd)) eb Γ (val q u)) (hq : ∀ F v, q.R F v u → ∀ z, RelV v z → z = cv)
    (hg : ∀ i, Gl ((Y.suite ad (.ref Dc) (some dd)).X i) "isinstance" := by intro _; rfl)
    (hs2 : ∀ i, starEach [eb] ((Y.suite ad (.ref Dc) (some dd)).X i).env = (false, eval eb ((Y.suite ad (.ref Dc) (some dd)).X i).env) :: starEach [] ((Y.suite ad (.ref Dc) (some dd)).X i).env := by intro _; rfl)
    (hs : ∀ i, starEach [ea, eb] ((Y.suite ad (.ref Dc) (some dd)).X i).env = (false, eval ea ((Y.suite ad (.ref Dc) (some dd)).X i).env) :: starEach [eb] ((Y.suite ad (.ref Dc) (some dd)).X i).env := by intro _; rfl)
    (hpl : ∀ i, (backTo pos (starEach [eb] ((Y.suite ad (.ref Dc) (some dd)).X i).env)).any (·.1) = false := by intro _; rfl) : XV (Y.suite ad (.ref Dc) (some dd)) (.Call (.Name "isinstance" p') [ea, eb] [] pos) Γ (vBl b) := by
  have hc : ∀ j, CallR ((Y.suite ad (.ref Dc) (some dd)).X j) (.builtin "isinstance") (rIsD K Dc ad dd) := fun j => by
    have h := call_isD (X := Y.X j.1.1) (a := ad) (Dc := Dc) (dd := dd) (pn := j.1.2.2) (by rw [Y.hK]; exact hE) j.2.1 j.2.2
    rw [Y.hK] at h
    exact h
  refine x_callB hc hm (by decide +kernel) (c := vBl b) (opA2 fun B F H x y fx fy os Q W p1 p2 kk => ?_) (xa2 h1 h2 hs2 hs) hg (he := hs) (hpl := hpl)
  obtain ⟨_, r1, r3⟩ := val_P p1
  obtain ⟨_, r2⟩ := val_P p2
  cases r1
  exact ⟨y, cv, b, fs, rfl, hq F y r2, hk, W.sub _ _ r3, kk _ F H [] same_refl same_refl W.drop.drop ⟨rfl, _, rfl, rfl⟩⟩
theorem pRef_is {C : Addr} : ∀ (F : Hp) v, (pRef C).R F v () → ∀ z, RelV v z → z = .ref C := fun F v h z r => by cases h; exact r
theorem pTy_is {T : String} : ∀ (F : Hp) v, pTy.R F v T → ∀ z, RelV v z → z = .type T := fun F v h z r => by cases h; exact r
theorem kit_mkT {Dc : Addr} {T : String} {b : Bool} (hk : PySem.W.kitMeta T = true) (hs : PySem.W.subIn K (.ref Dc) (.type T) = some b) : PySem.W.kitOne K (.ref Dc) (.type T) = some b := by
  unfold PySem.W.kitOne PySem.W.kitCls
  rw [show (Value.ref Dc == Value.type T) = false from rfl]
  show (if PySem.W.kitMeta T = true then PySem.W.subIn K (.ref Dc) (.type T) else none) = some b
  rw [hk, hs]; rfl
end
end Ty

/-! Ty20 -/
/-! expressions that change a place: xs.pop(), xs.pop(i); xs.extend(ys), xs.index(x); an owned local handed on; properties -/
namespace Ty
open PySem PySem.Spec L2
section
variable {P : Program} {w : World} {K : PySem.W.Frag} {mg : Str → Option Value} {base : Heap} {k : Nat}
variable {Y : Fa P w K mg base k} {i : Y.I} {e ea eb eo ev tg iter elt : Expr} {es ifs : List Expr} {rest body : List Stmt} {Γ Γ' Γ1 Γ2 Δ Δ' As : List Slot} {a b c r s s' : Slot} {pos pos' : Pos} {B : Bs} {D : Ends} {x f : Str} {p' : Pos} {C : Addr} {ns : List Str} {α : Type} {p : VP α} {xs : List α}
/-- e gives a value told by r and leads from Γ to Γ' -/
def XM (Y : Fa P w K mg base k) (e : Expr) (Γ : List Slot) (r : Slot) (Γ' : List Slot) : Prop :=
  ∃ t : TE, (∀ i, PE (Y.X i) e t) ∧ ∀ (B : Bs) (F H : Hp) (os : List Addr) (σ : List (Option V)) (Q : VK), Wo B F H os → Slots F H os σ Γ →
    (∀ v F' H' fp os', Wo B F' H' (fp ++ os') → Slots F' H' os' σ Γ' → r.P F' H' fp (some v) → Q v H') → t σ H Q
theorem XM.of (h : XV Y e Γ r) : XM Y e Γ r Γ := by
  obtain ⟨t, p, rd⟩ := h
  exact ⟨t, p, fun B F H os σ Q W S kk => rd B F H os σ Q (Sta.in W S) fun v F' H' fp f1 e1 W1 p1 => kk v F' H' fp os W1 (S.mono f1 e1) p1⟩
theorem go_setM (j : Nat) {py : Pos} (he : XM Y e Γ r Γ') (hg : Go Y i rest D B (Γ'.set j r)) (hj : Nat.blt j Γ'.length = true := by rfl) (hi : (Y.X i).N[j]? = some x := by rfl) (hx : Loc (Y.X i).env.scope x := by first | exact Or.inl rfl | exact Or.inr rfl)
    (hs : swapsWith e (some (.Name x py)) pos.line (Y.X i).env = pure false := by rfl) (hf : (Y.X i).fn x = true ∨ (Y.X i).env.scope.names.lookup x = some .local := by first | exact Or.inl rfl | exact Or.inr rfl) : Go Y i (.Assign [.Name x py] e pos :: rest) D B Γ := by
  obtain ⟨t, p, rd⟩ := he
  refine go_ps (ps_set (Y.hN i) hi hx (p i) hs hf) fun F H σ ⟨os, W, S⟩ => ?_
  refine rd B F H os σ _ W S fun v F1 H1 fp os1 W1 S1 p1 => ?_
  obtain ⟨os', d, h1, h2⟩ := S1.put p1 (Nat.le_of_ble_eq_true hj)
  exact hg F1 H1 _ ⟨os', (W1.perm h2).drop, h1⟩
/-- target = e -/
theorem go_asgM {ws : List Nat} (he : XM Y e Γ r Γ1) (ht : XG Y tg ws r Γ1 Γ') (hg : Go Y i rest D B Γ') (hs : swapsWithSole [tg] e pos.line (Y.X i).env = pure false := by rfl) (hw : swappedStores [tg] e (Y.X i).env = pure none := by rfl) (h1 : (assignEach [tg] (Y.X i).env).map (·.2) = [assign tg (Y.X i).env] := by rfl) :
    Go Y i (.Assign [tg] e pos :: rest) D B Γ := by
  obtain ⟨t, p, rd⟩ := he
  obtain ⟨_, g, hp, rg⟩ := ht
  refine go_ps (ps_asg (p i) (hp i) hs hw h1) fun F H σ ⟨os, W, S⟩ => ?_
  refine rd B F H os σ _ W S fun v F1 H1 fp os1 W1 S1 p1 => ?_
  exact rg F1 H1 fp os1 σ v _ W1.sub p1 S1 fun σ' os' d _ hpm S2 => hg F1 H1 σ' ⟨os', (W1.perm hpm).drop, S2⟩
/-- e as a statement -/
theorem go_exprM (he : XM Y e Γ r Γ') (hg : Go Y i rest D B Γ') (hs : swapsWith e none pos.line (Y.X i).env = pure false := by rfl) : Go Y i (.Expr e pos :: rest) D B Γ := by
  obtain ⟨t, p, rd⟩ := he
  refine go_ps (ps_expr (p i) hs) fun F H σ ⟨os, W, S⟩ => ?_
  exact rd B F H os σ _ W S fun v F1 H1 fp os1 W1 S1 p1 => hg F1 H1 σ ⟨os1, W1.drop, S1⟩
/-- what must be seen of the text of a call o.m() -/
structure Bm0 (X : Cx) (o : Expr) (name : Str) (apos cpos : Pos) : Prop where
  base : attributeBase o name X.env (eval o X.env) = eval o X.env
  line : (apos.endLine == cpos.line) = true
theorem paired_dropLast {α β : Type} {G : α → β → Prop} : ∀ {xs : List α} {ys : List β}, Paired G xs ys → Paired G xs.dropLast ys.dropLast
  | _, _, .nil => .nil
  | _, _, .cons r .nil => .nil
  | _, _, .cons r (.cons r2 t) => .cons r (paired_dropLast (.cons r2 t))
theorem paired_erase {α β : Type} {G : α → β → Prop} : ∀ {xs : List α} {ys : List β} (n : Nat), Paired G xs ys → Paired G (xs.eraseIdx n) (ys.eraseIdx n)
  | _, _, _, .nil => .nil
  | _, _, 0, .cons _ t => t
  | _, _, n + 1, .cons r t => .cons r (paired_erase n t)
/-- the place itself changes, a frozen value comes out -/
theorem pl_writeM {F H : Hp} {os rr : List Addr} {σ : List (Option V)} {l : Addr} {u : HO} {s' : Slot} {v : V} {up : Slot → List Slot} (W : Wo B F H os) (hp : os.Perm ([l] ++ rr)) (hs' : s'.P F (upd H l u) [l] (some v))
    (kk : ∀ (F' H' : Hp) (fp' : List Addr) (s' : Slot), Same F F' → (∀ q ∈ rr, H' q = H q) → s'.P F' H' fp' (some v) → ∃ os', Slots F' H' os' σ (up s') ∧ os'.Perm (fp' ++ rr)) : ∃ os', Wo B F (upd H l u) os' ∧ Slots F (upd H l u) os' σ (up s') :=
  let ⟨os', W', S'⟩ := pl_write (fy := []) W hp hs' kk
  ⟨os', W', S'⟩
theorem x_pop {up : Slot → List Slot} {apos cpos : Pos} {u : α} (ho : PL Y eo Γ (own (oL p) xs) up) (hz : xs.getLast? = some u) (hb : ∀ i, Bm0 (Y.X i) eo "pop" apos cpos := by exact fun _ => ⟨rfl, rfl⟩) :
    XM Y (.Call (.Attribute eo "pop" apos) [] [] cpos) Γ (val p u) (up (own (oL p) xs.dropLast)) := by
  obtain ⟨t, Pv, pe, pst, rd, up'⟩ := ho
  refine ⟨_, fun i => by have h := pe_bm0 PySem.F.plainAttrs_list PySem.F.slot_list_pop PySem.F.type_list_pop mt_pop (pe i) (hb i).base (hb i).line; rw [Y.hK i] at h; exact h, fun B F H os σ Q W S kk => ?_⟩
  refine rd B F H os σ _ (Sta.in W S) fun v hv => ?_
  obtain ⟨fp, rr, hr, hp, kk1⟩ := up' F H os σ v S hv
  obtain ⟨v0, ev, l, vs, el, ef, h1, h2⟩ := hp
  cases ev; subst el; subst ef
  refine ⟨.inl ⟨rfl, vs, SqL.of h1⟩, ?_⟩
  rw [List.getLast?_eq_getElem?] at hz
  rw [← Paired.length h2] at hz
  obtain ⟨y, hy, ry⟩ := paired_at' h2 hz
  refine ⟨l, vs, y, rfl, rfl, h1, hy, ?_⟩
  obtain ⟨os', W', S'⟩ := pl_writeM (s' := own (oL p) xs.dropLast) (u := .lst vs.dropLast) W hr ⟨_, rfl, l, _, rfl, rfl, upd_same, paired_dropLast h2⟩ kk1
  exact kk y F _ [] os' W' S' ⟨rfl, y, rfl, ry⟩
theorem x_popAt {up : Slot → List Slot} {apos cpos : Pos} {u : α} {z : Int} {n : Nat} (ho : PL Y eo Γ (own (oL p) xs) up) (he : XV Y e Γ (vInt z)) (hn : ixN xs.length z = some n) (hz : xs[n]? = some u) (hlt : xs.length < 2 ^ 62) (hb : ∀ i, Bm1 (Y.X i) eo "pop" apos e cpos := by exact fun _ => ⟨rfl, rfl, rfl, rfl, rfl⟩) :
    XM Y (.Call (.Attribute eo "pop" apos) [e] [] cpos) Γ (val p u) (up (own (oL p) (xs.eraseIdx n))) := by
  obtain ⟨t, Pv, pe, pst, rd, up'⟩ := ho
  obtain ⟨t2, pe2, rd2⟩ := he
  refine ⟨_, fun i => by have h := pe_bm PySem.F.plainAttrs_list PySem.F.slot_list_pop PySem.F.type_list_pop mt_popAt (pe i) (pa_cons (pe2 i) pa_nil (hb i).st) (hb i).base (hb i).few (hb i).line (hb i).st (hb i).pl; rw [Y.hK i] at h; exact h, fun B F H os σ Q W S kk => ?_⟩
  refine rd B F H os σ _ (Sta.in W S) fun v hv => ?_
  obtain ⟨fp, rr, hr, hp, kk1⟩ := up' F H os σ v S hv
  obtain ⟨v0, ev, l, vs, el, ef, h1, h2⟩ := hp
  cases ev; subst el; subst ef
  refine ⟨.inl ⟨rfl, vs, SqL.of h1⟩, rd2 B F H os σ _ (Sta.in W S) fun y0 F1 H1 fy f1 e1 W1 p1 => ?_⟩
  obtain ⟨rfl, rfl⟩ := val_P p1
  obtain ⟨fp1, rr1, hr1, hp1, kk2⟩ := up' F1 H1 os σ _ (S.mono f1 e1) (pst _ _ _ _ e1 hv)
  obtain ⟨v1, ev1, l1, vs1, el1, ef1, g1, g2⟩ := hp1
  cases ev1; cases el1; subst ef1
  obtain ⟨q1, q2, q3, q4⟩ := ixN_seq hn
  obtain ⟨y, hy, ry⟩ := paired_at' g2 hz
  refine ⟨l, vs1, z, n, y, rfl, rfl, g1, by omega, by omega, by rw [Paired.length g2]; exact q1, hy, ?_⟩
  obtain ⟨os', W', S'⟩ := pl_writeM (s' := own (oL p) (xs.eraseIdx n)) (u := .lst (vs1.eraseIdx n)) W1.drop hr1 ⟨_, rfl, l, _, rfl, rfl, upd_same, paired_erase n g2⟩ kk2
  exact kk y F1 _ [] os' W' S' ⟨rfl, y, rfl, ry⟩
/-- xs.append(e), xs a name, e an expression that changes another place -/
theorem go_appM (j : Nat) {apos cpos p0 : Pos} {u : α} (he : XM Y e Γ (val p u) Γ1) (hs0 : Γ[j]? = some (own (oL p) xs)) (hs1 : Γ1[j]? = some (own (oL p) xs)) (hz : xs.length < sizeLine) (hst : Stb Γ1) (hg : Go Y i rest D B (Γ1.set j (own (oL p) (xs ++ [u]))))
    (hN : ∀ i, (Y.X i).N[j]? = some x := by intro _; rfl) (hv : Vis (Y.X i).env.scope x := by first | exact Or.inl rfl | exact Or.inr (Or.inl rfl)) (hb : Bm1 (Y.X i) (.Name x p0) "append" apos e cpos := by exact ⟨rfl, rfl, rfl, rfl, rfl⟩)
    (hd : (x == ("__debug__" : Str)) = false := by decide) (hcd : (x == ("__classdict__" : Str)) = false := by decide)
    (hs : swapsWith (.Call (.Attribute (.Name x p0) "append" apos) [e] [] cpos) none pos.line (Y.X i).env = pure false := by rfl) : Go Y i (.Expr (.Call (.Attribute (.Name x p0) "append" apos) [e] [] cpos) pos :: rest) D B Γ := by
  obtain ⟨t2, pe2, rd2⟩ := he
  refine go_ps (ps_expr (pe_bm PySem.F.plainAttrs_list PySem.F.slot_list_append PySem.F.type_list_append mt_append (pe_var (hN i) hv hd hcd) (pa_cons (pe2 i) pa_nil hb.st) hb.base hb.few hb.line hb.st hb.pl) hs) fun F H σ ⟨os, W, S⟩ => ?_
  obtain ⟨o, fp, rr, e1, h0, hp, _⟩ := S.at hs0
  obtain ⟨v0, ev, l, vs, el, ef, h1, h2⟩ := h0
  subst ev; subst el
  refine ⟨.ref l, e1, .inl ⟨rfl, vs, SqL.of h1⟩, ?_⟩
  refine rd2 B F H os σ _ W S fun y F1 H1 fy os1 W1 S1 p1 => ?_
  obtain ⟨o', fp', rr', e1', h0', hp', hk'⟩ := S1.at hs1
  obtain ⟨v1, ev1, l1, vs1, el1, ef1, g1, g2⟩ := h0'
  rw [e1] at e1'
  cases e1'; cases ev1; cases el1; subst ef1
  obtain ⟨rfl, ry⟩ := val_P p1
  refine ⟨l, vs1, y, rfl, rfl, g1, by rw [Paired.length g2]; exact hz, ?_⟩
  have W2 : Wo B F1 H1 ([l] ++ rr') := Wo.perm W1 hp'
  have nr : ∀ q ∈ rr', q ≠ l := fun q hq z => (List.nodup_append.mp W2.nd).2.2 l (by simp) q hq z.symm
  obtain ⟨os2, S2, hp2⟩ := hk' (F' := F1) (H' := upd H1 l (.lst (vs1 ++ [y]))) (fp' := [l]) (o' := some (.ref l)) (s' := own (oL p) (xs ++ [u])) ⟨_, rfl, l, _, rfl, rfl, upd_same, Paired.app g2 (.cons ry .nil)⟩ (fun s0 hs0 fp0 o0 hf q => s0.mm (hst s0 hs0) same_refl (fun z hz => upd_ne (nr z (hf z hz))) q)
  have es : σ.set j (some (.ref l)) = σ := by
    obtain ⟨hj, z⟩ := List.getElem?_eq_some_iff.mp e1
    rw [← z]; exact List.set_getElem_self hj
  rw [es] at S2
  exact hg F1 _ σ ⟨os2, (W2.write (by simp)).perm hp2.symm, S2⟩
/-- an owned local handed back -/
theorem go_retV (j : Nat) (hs : Γ[j]? = some s) (hso : ∀ F H fp o, s.P F H fp o → ∃ v, o = some v) (hd : ∀ v H, Fi B s v H → D.rt v H) (hN : ∀ i, (Y.X i).N[j]? = some x := by intro _; rfl) (hv : Vis (Y.X i).env.scope x := by first | exact Or.inl rfl | exact Or.inr (Or.inl rfl))
    (hdb : (x == ("__debug__" : Str)) = false := by decide) (hcd : (x == ("__classdict__" : Str)) = false := by decide) : Go Y i (.Return (some (.Name x p')) pos :: rest) D B Γ := by
  refine go_ps (ps_ret (pe_var (hN i) hv hdb hcd)) fun F H σ ⟨os, W, S⟩ => ?_
  obtain ⟨o, fp, rr, e1, h0, hp, _⟩ := S.at hs
  obtain ⟨v, rfl⟩ := hso F H fp o h0
  exact ⟨v, e1, hd v H ⟨F, fp, (W.perm hp).dropR, h0⟩⟩
/-- y = x, x owned: x is not looked at again -/
theorem x_move (j : Nat) (hs : Γ[j]? = some s) (hso : ∀ F H fp o, s.P F H fp o → ∃ v, o = some v) (hst : Stb Γ) (hN : ∀ i, (Y.X i).N[j]? = some x := by intro _; rfl) (hv : ∀ i, Vis (Y.X i).env.scope x := by intro _; first | exact Or.inl rfl | exact Or.inr (Or.inl rfl) | exact Or.inr (Or.inr rfl))
    (hdb : (x == ("__debug__" : Str)) = false := by decide) (hcd : (x == ("__classdict__" : Str)) = false := by decide) : XM Y (.Name x pos) Γ s (Γ.set j dead) := by
  refine ⟨_, fun i => pe_var (hN i) (hv i) hdb hcd, fun B F H os σ Q W S kk => ?_⟩
  obtain ⟨o, fp, rr, e1, h0, hp, hk⟩ := S.at hs
  obtain ⟨v, rfl⟩ := hso F H fp o h0
  refine ⟨v, e1, ?_⟩
  obtain ⟨os', S2, hp2⟩ := hk (F' := F) (H' := H) (fp' := []) (o' := some v) (s' := dead) rfl (fun _ _ _ _ _ q => q)
  have es : σ.set j (some v) = σ := by
    obtain ⟨hj, z⟩ := List.getElem?_eq_some_iff.mp e1
    rw [← z]; exact List.set_getElem_self hj
  rw [es] at S2
  exact kk v F H fp os' (W.perm (hp.trans (List.Perm.append_left fp (by simpa using hp2.symm)))) S2 h0
/-- xs.extend(ys), ys a list -/
theorem go_extend {up : Slot → List Slot} {apos cpos : Pos} {ys : List α} (ho : PL Y eo Γ (own (oL p) xs) up) (he : XV Y e Γ s) (hs' : LV s p ys) (hz : xs.length + ys.length ≤ sizeLine) (hg : Go Y i rest D B (up (own (oL p) (xs ++ ys))))
    (hb : Bm1 (Y.X i) eo "extend" apos e cpos := by exact ⟨rfl, rfl, rfl, rfl, rfl⟩)
    (hs : swapsWith (.Call (.Attribute eo "extend" apos) [e] [] cpos) none pos.line (Y.X i).env = pure false := by rfl) : Go Y i (.Expr (.Call (.Attribute eo "extend" apos) [e] [] cpos) pos :: rest) D B Γ := by
  obtain ⟨t, Pv, pe, pst, rd, up'⟩ := ho
  obtain ⟨t2, pe2, rd2⟩ := he
  refine go_ps (ps_expr (pe_bm PySem.F.plainAttrs_list PySem.F.slot_list_extend PySem.F.type_list_extend mt_extend (pe i) (pa_cons (pe2 i) pa_nil hb.st) hb.base hb.few hb.line hb.st hb.pl) hs) fun F H σ ⟨os, W, S⟩ => ?_
  refine rd B F H os σ _ (Sta.in W S) fun v hv => ?_
  obtain ⟨fp, rr, hr, hp, _⟩ := up' F H os σ v S hv
  obtain ⟨v0, ev, l, vs, el, ef, h1, h2⟩ := hp
  cases ev; subst el; subst ef
  refine ⟨.inl ⟨rfl, vs, SqL.of h1⟩, rd2 B F H os σ _ (Sta.in W S) fun y F1 H1 fy f1 e1 W1 p1 => ?_⟩
  obtain ⟨fp1, r1, hr1, hp1, kk1⟩ := up' F1 H1 os σ _ (S.mono f1 e1) (pst _ _ _ _ e1 hv)
  obtain ⟨v1, ev1, l1, vs1, el1, ef1, g1, g2⟩ := hp1
  cases ev1; cases el1; subst ef1
  obtain ⟨m, ws, ey, k1, k2⟩ := hs' F1 H1 fy _ W1.sub p1
  cases ey
  refine ⟨l, m, vs1, ws, rfl, rfl, g1, k1, by rw [Paired.length g2, Paired.length k2]; exact hz, ?_⟩
  exact hg F1 _ σ (pl_write W1 hr1 ⟨_, rfl, l, _, rfl, rfl, upd_same, Paired.app g2 k2⟩ kk1)
/-- the first place of u -/
def idxL [DecidableEq α] (xs : List α) (u : α) : Option Nat := xs.findIdx? fun x => decide (x = u)
theorem idxL_at [DecidableEq α] : ∀ {xs : List α} {u : α} {n : Nat}, idxL xs u = some n → xs[n]? = some u ∧ ∀ (m : Nat) z, m < n → xs[m]? = some z → z ≠ u := fun {xs u n} h => by
  unfold idxL at h
  rw [List.findIdx?_eq_some_iff_getElem] at h
  obtain ⟨h1, h2, h3⟩ := h
  have e := of_decide_eq_true h2
  refine ⟨by rw [List.getElem?_eq_getElem h1, e], fun m z hm hz => ?_⟩
  have hm' : m < xs.length := Nat.lt_trans hm h1
  rw [List.getElem?_eq_getElem hm'] at hz
  cases hz
  have := h3 m hm
  simpa using this
theorem x_indexI {ys : List Int} {apos cpos : Pos} {u : Int} {n : Nat} (ho : XV Y eo Γ s) (hs : SV K s pInt ys) (he : XV Y e Γ (vInt u)) (hz : idxL ys u = some n) (hb : ∀ i, Bm1 (Y.X i) eo "index" apos e cpos := by exact fun _ => ⟨rfl, rfl, rfl, rfl, rfl⟩) : XV Y (.Call (.Attribute eo "index" apos) [e] [] cpos) Γ (vInt (n : Int)) := by
  obtain ⟨t, pe, rd⟩ := ho
  obtain ⟨t2, pe2, rd2⟩ := he
  refine ⟨_, fun i => by have h := pe_bm PySem.F.plainAttrs_list PySem.F.slot_list_index PySem.F.type_list_index mt_index (pe i) (pa_cons (pe2 i) pa_nil (hb i).st) (hb i).base (hb i).few (hb i).line (hb i).st (hb i).pl; rw [Y.hK i] at h; exact h, fun B F H os σ Q I q => ?_⟩
  refine rd B F H os σ _ I fun v F1 H1 fp f1 e1 W1 p1 => ?_
  obtain ⟨l, vs, ev, h1, h2⟩ := hs F1 H1 fp _ W1.sub p1
  cases ev
  refine ⟨.inl ⟨rfl, vs, h1⟩, rd2 B F1 H1 _ σ _ (I.step f1 e1 W1) fun y F2 H2 fy f2 e2 W2 p2 => ?_⟩
  obtain ⟨rfl, rfl⟩ := val_P p2
  obtain ⟨l', vs', ev', h1', h2'⟩ := hs F2 H2 fp _ W2.sub (s.mono f2 e2 p1)
  cases ev'
  obtain rfl := map_int_of h2'
  obtain ⟨g1, g2⟩ := idxL_at hz
  refine ⟨l, ys.map V.int, .int u, n, .int u, rfl, rfl, h1', rfl, ?_, by rw [List.getElem?_map, g1]; rfl, ?_, fun m z' hm hz' => ?_, ?_⟩
  · rw [List.all_eq_true]; intro z hz; obtain ⟨q, _, rfl⟩ := List.mem_map.mp hz; rfl
  · show decide (u = u) = true; simp
  · rw [List.getElem?_map] at hz'
    cases hq : ys[m]? with
    | none => rw [hq] at hz'; cases hz'
    | some q =>
      rw [hq] at hz'; cases hz'
      have := g2 m q hm hq
      show decide (q = u) = false
      simpa using this
  · exact q _ F2 H2 [] (f1.trans f2) (e1.trans e2) W2.drop.drop ⟨rfl, _, rfl, rfl⟩
/-- o.f, a property of a frozen instance -/
theorem x_prop {β ρ : Type} {pa : VP β} {m : β → Option ρ} {Sr : ρ → Slot} {z : β} {q : ρ} {j : Nat} {pp g : Addr} {fd : FuncData} {ps : List Str} (Fn : FnOk P w K mg base CX0 j g fd ps (spP (fun z => [val pa z]) m Sr)) (hj : j + 1 ≤ k) (hc : Cls K C) (hp : PropOf K C f pp g) (hb : Binds K fd ps [])
    (he : XV Y e Γ (val pa z)) (hpo : ∀ F v, pa.R F v z → ∃ x dx fs, v = .ref x ∧ F x = some (.ins C dx fs)) (hq : m z = some q) (hab : ∀ i, attributeBase e f (Y.X i).env (eval e (Y.X i).env) = eval e (Y.X i).env := by intro _; rfl) (hcm : Y.cm = true := by rfl) : XV Y (.Attribute e f pos) Γ (Sr q) := by
  obtain ⟨t, pe, rd⟩ := he
  have FF : ∀ i, FnOk (Y.X i).prog (Y.X i).w (Y.X i).K (Y.X i).mg (Y.X i).base CX0 j g fd ps (spP (fun z => [val pa z]) m Sr) := fun i => by rw [Y.hP i, Y.hw i, Y.hK i, Y.hM i, Y.hB i]; exact Fn
  refine ⟨_, fun i => pe_prop (pe i) (by rw [Y.hK]; exact hc) (by rw [Y.hK]; exact hp) (FF i) ((Y.hR hcm i).mono hj) (by rw [Y.hK i]; exact hb) .nil (pass0 (X := (Y.X i).nox)) (hab i), fun B F H os σ Q I kk => ?_⟩
  refine rd B F H os σ _ I fun v F1 H1 fp f1 e1 W1 p1 => ?_
  obtain ⟨rfl, hR⟩ := val_P p1
  obtain ⟨x, dx, fs, rfl, hx⟩ := hpo F1 v hR
  refine ⟨x, dx, fs, rfl, W1.sub _ _ hx, z, q, F1, hq, W1.sub, Slots.cons (fp := []) ⟨rfl, _, rfl, hR⟩ .nil, fun v2 F2 H2 fp2 W2 p2 => ?_⟩
  obtain ⟨f2, e2, W3⟩ := Wo.called (os := os) W1 W2
  exact kk v2 F2 H2 fp2 (f1.trans f2) (e1.trans e2) W3 p2
theorem pObj_ref {β : Type} {sl : β → List Slot} {z : β} : ∀ (F : Hp) v, (pObj C ns sl).R F v z → ∃ x dx fs, v = .ref x ∧ F x = some (.ins C dx fs) := fun F v h => let ⟨x, dx, vs, e1, h1, _⟩ := h; ⟨x, dx, _, e1, h1⟩
end
end Ty

/-! Ty21 -/
/-! min(xs), max(xs), min(xs, default=d), max(xs, default=d) of a list of ints -/
namespace Ty
open PySem PySem.Spec L2
open PyProof.Rows

section
variable {prog : Program} {w : World} {A : Around} {E : Value → Shared → Prop} {R : Result → Shared → Prop} {it0 : Addr} {fps wrs : List Addr} {cnt : Nat} {Pi : Nat → Value → Prop} {Si : Nat → Heap → Prop} {kws : List (Str × Value)}
theorem min_name : (toString "min" ++ toString ".loop" : String) = "min.loop" := by decide
theorem min_turns (hw : Walks prog w A.in1 it0 fps wrs cnt Pi Si) (better : Nat → Nat → Bool) (hc : CmpOf prog w A.in1 .Lt Pi better) (best : Addr) (nb : best ∉ fps) :
    ∀ (left i : Nat) (st : Shared) (v0 : Value) (n0 : Nat), cnt - (i + 1) = left → i + 1 ≤ cnt → Si (i + 1) st.heap → Pi (argBest better i) v0 →
    st.heap.get? best = some { cls := .type "list", dict := none, data := .seq #[v0, v0] n0, slots := #[] } →
    (∀ v h2 tk, Pi (argBest better (cnt - 1)) v → (∀ b o, b ∉ wrs → b ≠ best → st.heap.get? b = some o → h2.get? b = some o) → R (.ok (.ret v)) { st with heap := h2, toks := tk }) →
    codeAny (model prog w) A (.builtin "min.loop" ⟨[.ref it0, .none, .ref best], kws⟩) R st := by
  have nbw : best ∉ wrs := fun h => nb (hw.sub _ h)
  intro left
  induction left with
  | zero =>
    intro i st v0 n0 hl hi hs hp hb k
    have hin : i + 1 = cnt := by omega
    refine codeAny_builtin F.entry_min_loop ?_
    rw [Around.under_plainId F.plain_min_loop]
    show wpAny _ A.in1 (seqItems? (Value.ref best) >>= _) _ _ st
    refine wpAny_bind (wpAny_seqItems hb rfl ?_)
    show wpAny _ A.in1 (tryCatch (pyNext (Value.ref it0)) _ >>= _) _ _ st
    refine wpAny_bind (wpAny_tryCatch (hw.done st _ _ (hin ▸ hs) fun h2 tk k2 => ?_))
    have hb2 := k2 best _ nbw hb
    show wpAny _ A.in1 (updateSeq best (fun _ => #[]) >>= _) _ _ _
    refine wpAny_bind (wpAny_updateSeq hb2 rfl (wpAny_bind (wpAny_letGo (wpAny_pure ?_))))
    exact k v0 _ tk (by rw [← hin]; exact hp) fun b o z1 z2 e => (Heap.get?_update_other _ _ (Ne.symm z2)).trans (k2 b o z1 e)
  | succ left ih =>
    intro i st v0 n0 hl hi hs hp hb k
    have hlt : i + 1 < cnt := by omega
    refine codeAny_builtin F.entry_min_loop ?_
    rw [Around.under_plainId F.plain_min_loop]
    show wpAny _ A.in1 (seqItems? (Value.ref best) >>= _) _ _ st
    refine wpAny_bind (wpAny_seqItems hb rfl ?_)
    show wpAny _ A.in1 (tryCatch (pyNext (Value.ref it0)) _ >>= _) _ _ st
    refine wpAny_bind (wpAny_tryCatch (hw.item (i + 1) st _ _ hlt hs fun v h2 tk hv hs2 k2 => ?_))
    have hb2 := k2 best _ nbw hb
    show wpAny _ A.in1 (tryCatch (holding [v, v] (richCompare .Lt v v0 >>= _)) _ >>= _) _ _ _
    refine wpAny_bind (wpAny_tryCatch (wpAny_holding (wpAny_bind (hc (i + 1) (argBest better i) v v0 _ _ _ hv hp ?_))))
    refine wpAny_bind (wpAny_holding (wpAny_truthy_bool (wpAny_bind (wpAny_letGo (wpAny_pure ?_)))))
    cases hq : better (i + 1) (argBest better i) with
    | true =>
      simp only [if_true]
      refine wpAny_bind ?_
      refine wpAny_updateSeq hb2 rfl (wpAny_bind (wpAny_letGo ?_))
      rw [min_name]
      refine wpAny_pure ⟨plainId_quiet F.plain_min_loop _, ih (i + 1) _ v _ (by omega) hlt (hw.frame _ _ _ hs2 fun b hbf o e => (Heap.get?_update_other _ _ (fun z : best = b => nb (by rw [z]; exact hbf))).trans e) (by simp only [argBest, hq, if_true]; exact hv) (Heap.get?_update_self _ hb2 rfl) fun v' h3 tk3 hv' k3 => ?_⟩
      exact k v' h3 tk3 hv' fun b o z1 z2 e => k3 b o z1 z2 ((Heap.get?_update_other _ _ (Ne.symm z2)).trans (k2 b o z1 e))
    | false =>
      simp only [Bool.false_eq_true, if_false]
      refine wpAny_bind (wpAny_letGo ?_)
      rw [min_name]
      refine wpAny_pure ⟨plainId_quiet F.plain_min_loop _, ih (i + 1) _ v0 n0 (by omega) hlt hs2 (by simp only [argBest, hq, Bool.false_eq_true, if_false]; exact hp) hb2 fun v' h3 tk3 hv' k3 => ?_⟩
      exact k v' h3 tk3 hv' fun b o z1 z2 e => k3 b o z1 z2 (k2 b o z1 e)
theorem min_begin (hw : Walks prog w A.in1 it0 fps wrs cnt Pi Si) (better : Nat → Nat → Bool) (hc : CmpOf prog w A.in1 .Lt Pi better) (best : Addr) (nb : best ∉ fps) (hn : 0 < cnt) {st : Shared} {n0 : Nat} (hs : Si 0 st.heap)
    (hb : st.heap.get? best = some { cls := .type "list", dict := none, data := .seq #[] n0, slots := #[] })
    (k : ∀ v h2 tk, Pi (argBest better (cnt - 1)) v → (∀ b o, b ∉ wrs → b ≠ best → st.heap.get? b = some o → h2.get? b = some o) → R (.ok (.ret v)) { st with heap := h2, toks := tk }) :
    codeAny (model prog w) A (.builtin "min.loop" ⟨[.ref it0, .none, .ref best], kws⟩) R st := by
  have nbw : best ∉ wrs := fun h => nb (hw.sub _ h)
  refine codeAny_builtin F.entry_min_loop ?_
  rw [Around.under_plainId F.plain_min_loop]
  show wpAny _ A.in1 (seqItems? (Value.ref best) >>= _) _ _ st
  refine wpAny_bind (wpAny_seqItems hb rfl ?_)
  show wpAny _ A.in1 (tryCatch (pyNext (Value.ref it0)) _ >>= _) _ _ st
  refine wpAny_bind (wpAny_tryCatch (hw.item 0 st _ _ hn hs fun v h2 tk hv hs2 k2 => ?_))
  have hb2 := k2 best _ nbw hb
  show wpAny _ A.in1 (updateSeq best (fun _ => #[v, v]) >>= _) _ _ _
  refine wpAny_bind ?_
  refine wpAny_updateSeq hb2 rfl ?_
  rw [min_name]
  refine wpAny_pure ⟨plainId_quiet F.plain_min_loop _, min_turns hw better hc best nb _ 0 _ v _ rfl hn (hw.frame _ _ _ hs2 fun b hbf o e => (Heap.get?_update_other _ _ (fun z : best = b => nb (by rw [z]; exact hbf))).trans e) hv (Heap.get?_update_self _ hb2 rfl) fun v' h3 tk3 hv' k3 => ?_⟩
  exact k v' h3 tk3 hv' fun b o z1 z2 e => k3 b o z1 z2 ((Heap.get?_update_other _ _ (Ne.symm z2)).trans (k2 b o z1 e))
theorem min_none (hw : Walks prog w A.in1 it0 fps wrs 0 Pi Si) (best : Addr) (nb : best ∉ fps) {st : Shared} {n0 : Nat} {d : Value} (hs : Si 0 st.heap)
    (hb : st.heap.get? best = some { cls := .type "list", dict := none, data := .seq #[] n0, slots := #[] })
    (k : ∀ h2 tk, (∀ b o, b ∉ wrs → st.heap.get? b = some o → h2.get? b = some o) → R (.ok (.ret d)) { st with heap := h2, toks := tk }) :
    codeAny (model prog w) A (.builtin "min.loop" ⟨[.ref it0, .none, .ref best], [("default", d)]⟩) R st := by
  refine codeAny_builtin F.entry_min_loop ?_
  rw [Around.under_plainId F.plain_min_loop]
  show wpAny _ A.in1 (seqItems? (Value.ref best) >>= _) _ _ st
  refine wpAny_bind (wpAny_seqItems hb rfl ?_)
  show wpAny _ A.in1 (tryCatch (pyNext (Value.ref it0)) _ >>= _) _ _ st
  refine wpAny_bind (wpAny_tryCatch (hw.done st _ _ hs fun h2 tk k2 => ?_))
  show wpAny _ A.in1 (rule _ >>= _) _ _ _
  refine wpAny_bind ?_
  wp_walk
  exact k h2 tk k2
theorem min_args (a v : Value) : argsOk "min" ⟨[a], [(Str.ofString "default", v)]⟩ := by unfold argsOk; kernel_rfl
theorem min_bind (d : Value) : Builtin.Builtins.bindParams "min" ["key", "default"] 0 ⟨[], [("default", d)]⟩ = pure [none, some d] := by first | rfl | kernel_rfl
theorem min_call {l : Addr} {its : List Value} {nums : List Int} {d : Value} {Q : Value → Shared → Prop} {st : Shared} (hh : A.handled = none) (hl : st.heap.IsList l its.toArray) (hi : IntsAre its nums)
    (k0 : nums = [] → ∀ h2 tk, (∀ b o, st.heap.get? b = some o → h2.get? b = some o) → Q d { st with heap := h2, toks := tk })
    (k1 : ∀ h2 tk m tm, (∀ b o, st.heap.get? b = some o → h2.get? b = some o) → m ∈ nums → (∀ y, y ∈ nums → m ≤ y) → Q (.int m tm) { st with heap := h2, toks := tk }) :
    wpAny (model prog w) A (call (.builtin "min") [.ref l] [("default", d)]) Q E st := by
  obtain ⟨xs, e⟩ := hi.allInts.items
  have hn : numsOf (intItems xs).toList = nums := by rw [← e]; exact hi.numsOf
  rw [nums_intItems] at hn
  subst hn
  rw [e] at hl
  refine kmk_tree F.kind_min F.plain_min F.entry_min (min_args _ _) ?_
  show wpAny _ A.in1 (Builtin.Builtins.bindParams "min" ["key", "default"] 0 ⟨[], [("default", d)]⟩ >>= _) _ _ st
  refine wpAny_bind (wpAny_of_eq (min_bind d) ?_)
  refine wpAny_bind (wpAny_pure ?_)
  refine wpAny_bind (iter_intList hl fun s₂ e2 stl hfp hlI => ?_)
  subst e2
  have hw := Walks.list (prog := prog) (w := w) (A := A.in1) hh _ l hlI (intItems xs)
  refine wpAny_bind (wpAny_newObj_type ?_)
  rw [min_name]
  by_cases hz : 0 < xs.size
  · refine wpAny_pure ⟨plainId_quiet F.plain_min_loop _, min_begin (kws := [("default", d)]) hw _ (CmpOf.ints_lt (numAt xs) (fun _ _ => intItems_at)) _ (fun hm => Nat.lt_irrefl _ (hfp _ hm)) (by simpa [intItems] using hz) (hw.frame _ _ _ stl fun b _ o z => Heap.get?_push_of_some _ z) (Heap.get?_push_size _ rfl) fun v h2 tk hv k2 => ?_⟩
    have hv' : (intItems xs)[argBest (fun i j => decide (numAt xs i < numAt xs j)) (xs.size - 1)]? = some v := by simpa [intItems] using hv
    obtain ⟨t, rfl⟩ := intItems_at hv'
    obtain ⟨h1, h3⟩ := argBest_lt (numAt xs) (xs.size - 1)
    refine k1 h2 tk _ t (fun b o z => k2 b o (fun hm => ?_) (fun hm => ?_) ?_) ?_ fun a ha => ?_
    · have q := List.mem_singleton.mp hm
      subst q
      exact absurd (Heap.lt_size z) (Nat.lt_irrefl _)
    · exact absurd (Heap.lt_size z) (Nat.not_lt.mpr (by rw [hm]; show _ ≤ (st.heap.push _).objs.size; rw [Heap.size_push]; exact Nat.le_succ _))
    · exact Heap.get?_push_of_some _ (Heap.get?_push_of_some _ z)
    · rw [numAt_eq]; exact PySem.getD_mem (by rw [List.length_map, Array.length_toList]; omega)
    · obtain ⟨j, hj, rfl⟩ := mem_getD ha
      rw [List.length_map, Array.length_toList] at hj
      rw [← numAt_eq]; exact h3 j (by omega)
  · have hx : xs = #[] := Array.eq_empty_of_size_eq_zero (by omega)
    subst hx
    have e0 : (intItems #[]).size = 0 := by simp [intItems]
    have hw0 := hw
    rw [e0] at hw0
    refine wpAny_pure ⟨plainId_quiet F.plain_min_loop _, min_none hw0 _ (fun hm => Nat.lt_irrefl _ (hfp _ hm)) (hw0.frame _ _ _ stl fun b _ o z => Heap.get?_push_of_some _ z) (Heap.get?_push_size _ rfl) fun h2 tk k2 => ?_⟩
    refine k0 rfl h2 tk fun b o z => k2 b o (fun hm => ?_) (Heap.get?_push_of_some _ (Heap.get?_push_of_some _ z))
    have q := List.mem_singleton.mp hm
    subst q
    exact absurd (Heap.lt_size z) (Nat.lt_irrefl _)
end

section
variable {prog : Program} {w : World} {A : Around} {E : Value → Shared → Prop} {R : Result → Shared → Prop} {it0 : Addr} {fps wrs : List Addr} {cnt : Nat} {Pi : Nat → Value → Prop} {Si : Nat → Heap → Prop} {kws : List (Str × Value)}
theorem max_name : (toString "max" ++ toString ".loop" : String) = "max.loop" := by decide
theorem max_turns (hw : Walks prog w A.in1 it0 fps wrs cnt Pi Si) (better : Nat → Nat → Bool) (hc : CmpOf prog w A.in1 .Gt Pi better) (best : Addr) (nb : best ∉ fps) :
    ∀ (left i : Nat) (st : Shared) (v0 : Value) (n0 : Nat), cnt - (i + 1) = left → i + 1 ≤ cnt → Si (i + 1) st.heap → Pi (argBest better i) v0 →
    st.heap.get? best = some { cls := .type "list", dict := none, data := .seq #[v0, v0] n0, slots := #[] } →
    (∀ v h2 tk, Pi (argBest better (cnt - 1)) v → (∀ b o, b ∉ wrs → b ≠ best → st.heap.get? b = some o → h2.get? b = some o) → R (.ok (.ret v)) { st with heap := h2, toks := tk }) →
    codeAny (model prog w) A (.builtin "max.loop" ⟨[.ref it0, .none, .ref best], kws⟩) R st := by
  have nbw : best ∉ wrs := fun h => nb (hw.sub _ h)
  intro left
  induction left with
  | zero =>
    intro i st v0 n0 hl hi hs hp hb k
    have hin : i + 1 = cnt := by omega
    refine codeAny_builtin F.entry_max_loop ?_
    rw [Around.under_plainId F.plain_max_loop]
    show wpAny _ A.in1 (seqItems? (Value.ref best) >>= _) _ _ st
    refine wpAny_bind (wpAny_seqItems hb rfl ?_)
    show wpAny _ A.in1 (tryCatch (pyNext (Value.ref it0)) _ >>= _) _ _ st
    refine wpAny_bind (wpAny_tryCatch (hw.done st _ _ (hin ▸ hs) fun h2 tk k2 => ?_))
    have hb2 := k2 best _ nbw hb
    show wpAny _ A.in1 (updateSeq best (fun _ => #[]) >>= _) _ _ _
    refine wpAny_bind (wpAny_updateSeq hb2 rfl (wpAny_bind (wpAny_letGo (wpAny_pure ?_))))
    exact k v0 _ tk (by rw [← hin]; exact hp) fun b o z1 z2 e => (Heap.get?_update_other _ _ (Ne.symm z2)).trans (k2 b o z1 e)
  | succ left ih =>
    intro i st v0 n0 hl hi hs hp hb k
    have hlt : i + 1 < cnt := by omega
    refine codeAny_builtin F.entry_max_loop ?_
    rw [Around.under_plainId F.plain_max_loop]
    show wpAny _ A.in1 (seqItems? (Value.ref best) >>= _) _ _ st
    refine wpAny_bind (wpAny_seqItems hb rfl ?_)
    show wpAny _ A.in1 (tryCatch (pyNext (Value.ref it0)) _ >>= _) _ _ st
    refine wpAny_bind (wpAny_tryCatch (hw.item (i + 1) st _ _ hlt hs fun v h2 tk hv hs2 k2 => ?_))
    have hb2 := k2 best _ nbw hb
    show wpAny _ A.in1 (tryCatch (holding [v, v] (richCompare .Gt v v0 >>= _)) _ >>= _) _ _ _
    refine wpAny_bind (wpAny_tryCatch (wpAny_holding (wpAny_bind (hc (i + 1) (argBest better i) v v0 _ _ _ hv hp ?_))))
    refine wpAny_bind (wpAny_holding (wpAny_truthy_bool (wpAny_bind (wpAny_letGo (wpAny_pure ?_)))))
    cases hq : better (i + 1) (argBest better i) with
    | true =>
      simp only [if_true]
      refine wpAny_bind ?_
      refine wpAny_updateSeq hb2 rfl (wpAny_bind (wpAny_letGo ?_))
      rw [max_name]
      refine wpAny_pure ⟨plainId_quiet F.plain_max_loop _, ih (i + 1) _ v _ (by omega) hlt (hw.frame _ _ _ hs2 fun b hbf o e => (Heap.get?_update_other _ _ (fun z : best = b => nb (by rw [z]; exact hbf))).trans e) (by simp only [argBest, hq, if_true]; exact hv) (Heap.get?_update_self _ hb2 rfl) fun v' h3 tk3 hv' k3 => ?_⟩
      exact k v' h3 tk3 hv' fun b o z1 z2 e => k3 b o z1 z2 ((Heap.get?_update_other _ _ (Ne.symm z2)).trans (k2 b o z1 e))
    | false =>
      simp only [Bool.false_eq_true, if_false]
      refine wpAny_bind (wpAny_letGo ?_)
      rw [max_name]
      refine wpAny_pure ⟨plainId_quiet F.plain_max_loop _, ih (i + 1) _ v0 n0 (by omega) hlt hs2 (by simp only [argBest, hq, Bool.false_eq_true, if_false]; exact hp) hb2 fun v' h3 tk3 hv' k3 => ?_⟩
      exact k v' h3 tk3 hv' fun b o z1 z2 e => k3 b o z1 z2 (k2 b o z1 e)
theorem max_begin (hw : Walks prog w A.in1 it0 fps wrs cnt Pi Si) (better : Nat → Nat → Bool) (hc : CmpOf prog w A.in1 .Gt Pi better) (best : Addr) (nb : best ∉ fps) (hn : 0 < cnt) {st : Shared} {n0 : Nat} (hs : Si 0 st.heap)
    (hb : st.heap.get? best = some { cls := .type "list", dict := none, data := .seq #[] n0, slots := #[] })
    (k : ∀ v h2 tk, Pi (argBest better (cnt - 1)) v → (∀ b o, b ∉ wrs → b ≠ best → st.heap.get? b = some o → h2.get? b = some o) → R (.ok (.ret v)) { st with heap := h2, toks := tk }) :
    codeAny (model prog w) A (.builtin "max.loop" ⟨[.ref it0, .none, .ref best], kws⟩) R st := by
  have nbw : best ∉ wrs := fun h => nb (hw.sub _ h)
  refine codeAny_builtin F.entry_max_loop ?_
  rw [Around.under_plainId F.plain_max_loop]
  show wpAny _ A.in1 (seqItems? (Value.ref best) >>= _) _ _ st
  refine wpAny_bind (wpAny_seqItems hb rfl ?_)
  show wpAny _ A.in1 (tryCatch (pyNext (Value.ref it0)) _ >>= _) _ _ st
  refine wpAny_bind (wpAny_tryCatch (hw.item 0 st _ _ hn hs fun v h2 tk hv hs2 k2 => ?_))
  have hb2 := k2 best _ nbw hb
  show wpAny _ A.in1 (updateSeq best (fun _ => #[v, v]) >>= _) _ _ _
  refine wpAny_bind ?_
  refine wpAny_updateSeq hb2 rfl ?_
  rw [max_name]
  refine wpAny_pure ⟨plainId_quiet F.plain_max_loop _, max_turns hw better hc best nb _ 0 _ v _ rfl hn (hw.frame _ _ _ hs2 fun b hbf o e => (Heap.get?_update_other _ _ (fun z : best = b => nb (by rw [z]; exact hbf))).trans e) hv (Heap.get?_update_self _ hb2 rfl) fun v' h3 tk3 hv' k3 => ?_⟩
  exact k v' h3 tk3 hv' fun b o z1 z2 e => k3 b o z1 z2 ((Heap.get?_update_other _ _ (Ne.symm z2)).trans (k2 b o z1 e))
theorem max_none (hw : Walks prog w A.in1 it0 fps wrs 0 Pi Si) (best : Addr) (nb : best ∉ fps) {st : Shared} {n0 : Nat} {d : Value} (hs : Si 0 st.heap)
    (hb : st.heap.get? best = some { cls := .type "list", dict := none, data := .seq #[] n0, slots := #[] })
    (k : ∀ h2 tk, (∀ b o, b ∉ wrs → st.heap.get? b = some o → h2.get? b = some o) → R (.ok (.ret d)) { st with heap := h2, toks := tk }) :
    codeAny (model prog w) A (.builtin "max.loop" ⟨[.ref it0, .none, .ref best], [("default", d)]⟩) R st := by
  refine codeAny_builtin F.entry_max_loop ?_
  rw [Around.under_plainId F.plain_max_loop]
  show wpAny _ A.in1 (seqItems? (Value.ref best) >>= _) _ _ st
  refine wpAny_bind (wpAny_seqItems hb rfl ?_)
  show wpAny _ A.in1 (tryCatch (pyNext (Value.ref it0)) _ >>= _) _ _ st
  refine wpAny_bind (wpAny_tryCatch (hw.done st _ _ hs fun h2 tk k2 => ?_))
  show wpAny _ A.in1 (rule _ >>= _) _ _ _
  refine wpAny_bind ?_
  wp_walk
  exact k h2 tk k2
theorem max_args (a v : Value) : argsOk "max" ⟨[a], [(Str.ofString "default", v)]⟩ := by unfold argsOk; kernel_rfl
theorem max_bind (d : Value) : Builtin.Builtins.bindParams "max" ["key", "default"] 0 ⟨[], [("default", d)]⟩ = pure [none, some d] := by first | rfl | kernel_rfl
theorem max_call {l : Addr} {its : List Value} {nums : List Int} {d : Value} {Q : Value → Shared → Prop} {st : Shared} (hh : A.handled = none) (hl : st.heap.IsList l its.toArray) (hi : IntsAre its nums)
    (k0 : nums = [] → ∀ h2 tk, (∀ b o, st.heap.get? b = some o → h2.get? b = some o) → Q d { st with heap := h2, toks := tk })
    (k1 : ∀ h2 tk m tm, (∀ b o, st.heap.get? b = some o → h2.get? b = some o) → m ∈ nums → (∀ y, y ∈ nums → y ≤ m) → Q (.int m tm) { st with heap := h2, toks := tk }) :
    wpAny (model prog w) A (call (.builtin "max") [.ref l] [("default", d)]) Q E st := by
  obtain ⟨xs, e⟩ := hi.allInts.items
  have hn : numsOf (intItems xs).toList = nums := by rw [← e]; exact hi.numsOf
  rw [nums_intItems] at hn
  subst hn
  rw [e] at hl
  refine kmk_tree F.kind_max F.plain_max F.entry_max (max_args _ _) ?_
  show wpAny _ A.in1 (Builtin.Builtins.bindParams "max" ["key", "default"] 0 ⟨[], [("default", d)]⟩ >>= _) _ _ st
  refine wpAny_bind (wpAny_of_eq (max_bind d) ?_)
  refine wpAny_bind (wpAny_pure ?_)
  refine wpAny_bind (iter_intList hl fun s₂ e2 stl hfp hlI => ?_)
  subst e2
  have hw := Walks.list (prog := prog) (w := w) (A := A.in1) hh _ l hlI (intItems xs)
  refine wpAny_bind (wpAny_newObj_type ?_)
  rw [max_name]
  by_cases hz : 0 < xs.size
  · refine wpAny_pure ⟨plainId_quiet F.plain_max_loop _, max_begin (kws := [("default", d)]) hw _ (CmpOf.ints_gt (numAt xs) (fun _ _ => intItems_at)) _ (fun hm => Nat.lt_irrefl _ (hfp _ hm)) (by simpa [intItems] using hz) (hw.frame _ _ _ stl fun b _ o z => Heap.get?_push_of_some _ z) (Heap.get?_push_size _ rfl) fun v h2 tk hv k2 => ?_⟩
    have hv' : (intItems xs)[argBest (fun i j => decide (numAt xs i > numAt xs j)) (xs.size - 1)]? = some v := by simpa [intItems] using hv
    obtain ⟨t, rfl⟩ := intItems_at hv'
    obtain ⟨h1, h3⟩ := argBest_gt (numAt xs) (xs.size - 1)
    refine k1 h2 tk _ t (fun b o z => k2 b o (fun hm => ?_) (fun hm => ?_) ?_) ?_ fun a ha => ?_
    · have q := List.mem_singleton.mp hm
      subst q
      exact absurd (Heap.lt_size z) (Nat.lt_irrefl _)
    · exact absurd (Heap.lt_size z) (Nat.not_lt.mpr (by rw [hm]; show _ ≤ (st.heap.push _).objs.size; rw [Heap.size_push]; exact Nat.le_succ _))
    · exact Heap.get?_push_of_some _ (Heap.get?_push_of_some _ z)
    · rw [numAt_eq]; exact PySem.getD_mem (by rw [List.length_map, Array.length_toList]; omega)
    · obtain ⟨j, hj, rfl⟩ := mem_getD ha
      rw [List.length_map, Array.length_toList] at hj
      rw [← numAt_eq]; exact h3 j (by omega)
  · have hx : xs = #[] := Array.eq_empty_of_size_eq_zero (by omega)
    subst hx
    have e0 : (intItems #[]).size = 0 := by simp [intItems]
    have hw0 := hw
    rw [e0] at hw0
    refine wpAny_pure ⟨plainId_quiet F.plain_max_loop _, max_none hw0 _ (fun hm => Nat.lt_irrefl _ (hfp _ hm)) (hw0.frame _ _ _ stl fun b _ o z => Heap.get?_push_of_some _ z) (Heap.get?_push_size _ rfl) fun h2 tk k2 => ?_⟩
    refine k0 rfl h2 tk fun b o z => k2 b o (fun hm => ?_) (Heap.get?_push_of_some _ (Heap.get?_push_of_some _ z))
    have q := List.mem_singleton.mp hm
    subst q
    exact absurd (Heap.lt_size z) (Nat.lt_irrefl _)
end
end Ty

/-! Ty22 -/
namespace Ty
open PySem PySem.Spec L2
def mnL : List Int → Option Int
  | [] => none
  | x :: r => some (r.foldl (fun a b => if b < a then b else a) x)
def mxL : List Int → Option Int
  | [] => none
  | x :: r => some (r.foldl (fun a b => if a < b then b else a) x)
theorem mn_fold (r : List Int) : ∀ x : Int, (r.foldl (fun a b => if b < a then b else a) x = x ∨ r.foldl (fun a b => if b < a then b else a) x ∈ r) ∧ r.foldl (fun a b => if b < a then b else a) x ≤ x ∧ ∀ y ∈ r, r.foldl (fun a b => if b < a then b else a) x ≤ y := by
  induction r with
  | nil => intro x; simp
  | cons z r ih =>
    intro x
    obtain ⟨h1, h2, h3⟩ := ih (if z < x then z else x)
    rw [List.foldl_cons]
    generalize List.foldl (fun a b => if b < a then b else a) (if z < x then z else x) r = m at *
    by_cases h : z < x
    · rw [if_pos h] at h1 h2
      refine ⟨.inr ?_, by omega, fun y hy => ?_⟩
      · rcases h1 with h1 | h1
        · rw [h1]; exact List.mem_cons_self
        · exact List.mem_cons_of_mem _ h1
      · rcases List.mem_cons.mp hy with rfl | hy
        · exact h2
        · exact h3 y hy
    · rw [if_neg h] at h1 h2
      refine ⟨?_, h2, fun y hy => ?_⟩
      · rcases h1 with h1 | h1
        · exact .inl h1
        · exact .inr (List.mem_cons_of_mem _ h1)
      · rcases List.mem_cons.mp hy with rfl | hy
        · omega
        · exact h3 y hy
theorem mx_fold (r : List Int) : ∀ x : Int, (r.foldl (fun a b => if a < b then b else a) x = x ∨ r.foldl (fun a b => if a < b then b else a) x ∈ r) ∧ x ≤ r.foldl (fun a b => if a < b then b else a) x ∧ ∀ y ∈ r, y ≤ r.foldl (fun a b => if a < b then b else a) x := by
  induction r with
  | nil => intro x; simp
  | cons z r ih =>
    intro x
    obtain ⟨h1, h2, h3⟩ := ih (if x < z then z else x)
    rw [List.foldl_cons]
    generalize List.foldl (fun a b => if a < b then b else a) (if x < z then z else x) r = m at *
    by_cases h : x < z
    · rw [if_pos h] at h1 h2
      refine ⟨.inr ?_, by omega, fun y hy => ?_⟩
      · rcases h1 with h1 | h1
        · rw [h1]; exact List.mem_cons_self
        · exact List.mem_cons_of_mem _ h1
      · rcases List.mem_cons.mp hy with rfl | hy
        · exact h2
        · exact h3 y hy
    · rw [if_neg h] at h1 h2
      refine ⟨?_, h2, fun y hy => ?_⟩
      · rcases h1 with h1 | h1
        · exact .inl h1
        · exact .inr (List.mem_cons_of_mem _ h1)
      · rcases List.mem_cons.mp hy with rfl | hy
        · omega
        · exact h3 y hy
theorem mnL_spec {xs : List Int} {m : Int} (h : mnL xs = some m) : m ∈ xs ∧ ∀ y ∈ xs, m ≤ y := by
  cases xs with
  | nil => cases h
  | cons x r =>
    cases h
    obtain ⟨h1, h2, h3⟩ := mn_fold r x
    refine ⟨?_, fun y hy => ?_⟩
    · rcases h1 with h1 | h1
      · rw [h1]; exact List.mem_cons_self
      · exact List.mem_cons_of_mem _ h1
    · rcases List.mem_cons.mp hy with rfl | hy
      · exact h2
      · exact h3 y hy
theorem mxL_spec {xs : List Int} {m : Int} (h : mxL xs = some m) : m ∈ xs ∧ ∀ y ∈ xs, y ≤ m := by
  cases xs with
  | nil => cases h
  | cons x r =>
    cases h
    obtain ⟨h1, h2, h3⟩ := mx_fold r x
    refine ⟨?_, fun y hy => ?_⟩
    · rcases h1 with h1 | h1
      · rw [h1]; exact List.mem_cons_self
      · exact List.mem_cons_of_mem _ h1
    · rcases List.mem_cons.mp hy with rfl | hy
      · exact h2
      · exact h3 y hy
theorem mnL_of {xs : List Int} {m : Int} (h : m ∈ xs) (h2 : ∀ y ∈ xs, m ≤ y) : mnL xs = some m := by
  cases e : mnL xs with
  | none => cases xs with
    | nil => cases h
    | cons x r => cases e
  | some q =>
    obtain ⟨a, b⟩ := mnL_spec e
    have := h2 q a
    have := b m h
    congr 1; omega
theorem mxL_of {xs : List Int} {m : Int} (h : m ∈ xs) (h2 : ∀ y ∈ xs, y ≤ m) : mxL xs = some m := by
  cases e : mxL xs with
  | none => cases xs with
    | nil => cases h
    | cons x r => cases e
  | some q =>
    obtain ⟨a, b⟩ := mxL_spec e
    have := h2 q a
    have := b m h
    congr 1; omega
theorem mnL_none {xs : List Int} : mnL xs = none ↔ xs = [] := by cases xs <;> simp [mnL]
theorem mxL_none {xs : List Int} : mxL xs = none ↔ xs = [] := by cases xs <;> simp [mxL]
/-- the readings -/
def rMnD (K : PySem.W.Frag) : List V → List V → Hp → VK → Prop := fun vs zs H Q => ∃ (a : Addr) (ns : List Int) (d : V), vs = [V.ref a] ∧ zs = [d] ∧ SqL K H a (ns.map V.int) ∧ (ns = [] → Q d H) ∧ ∀ m, mnL ns = some m → Q (.int m) H
def rMxD (K : PySem.W.Frag) : List V → List V → Hp → VK → Prop := fun vs zs H Q => ∃ (a : Addr) (ns : List Int) (d : V), vs = [V.ref a] ∧ zs = [d] ∧ SqL K H a (ns.map V.int) ∧ (ns = [] → Q d H) ∧ ∀ m, mxL ns = some m → Q (.int m) H
section
variable {X : Cx}
theorem cr_mnD (hc : X.calm = true) : CallRK X (.builtin "min") ["default"] (rMnD X.K) := by
  intro pins s σ H xs zs us ws Q I r rz h
  obtain ⟨a, ns, d, rfl, rfl, hs, q0, q1⟩ := h
  obtain ⟨its, rv, hl, _⟩ := I.list hs
  rw [Vals.ref1 r]
  obtain ⟨u, rfl, ru⟩ := rz.one
  exact min_call (I.ok.hd hc) hl.isList rv.ints (fun e h2 tk kp => ⟨d, H, I.kept kp, ru, q0 e⟩) (fun h2 tk m tm kp h1 h3 => ⟨.int m, H, I.kept kp, ⟨_, rfl⟩, q1 m (mnL_of h1 h3)⟩)
theorem cr_mxD (hc : X.calm = true) : CallRK X (.builtin "max") ["default"] (rMxD X.K) := by
  intro pins s σ H xs zs us ws Q I r rz h
  obtain ⟨a, ns, d, rfl, rfl, hs, q0, q1⟩ := h
  obtain ⟨its, rv, hl, _⟩ := I.list hs
  rw [Vals.ref1 r]
  obtain ⟨u, rfl, ru⟩ := rz.one
  exact max_call (I.ok.hd hc) hl.isList rv.ints (fun e h2 tk kp => ⟨d, H, I.kept kp, ru, q0 e⟩) (fun h2 tk m tm kp h1 h3 => ⟨.int m, H, I.kept kp, ⟨_, rfl⟩, q1 m (mxL_of h1 h3)⟩)
end
section
variable {P : Program} {w : World} {K : PySem.W.Frag} {mg : Str → Option Value} {base : Heap} {k : Nat}
variable {Y : Fa P w K mg base k} {i : Y.I} {e ea eb eo ev tg iter elt : Expr} {es ifs : List Expr} {rest body : List Stmt} {Γ Γ' Γ1 Γ2 Δ Δ' As : List Slot} {a b c r s s' : Slot} {pos pos' kpos p2 : Pos} {B : Bs} {D : Ends} {x f : Str} {p' : Pos} {C : Addr} {ns : List Int} {α : Type} {p : VP α} {xs : List α}
/-- a built-in called with keywords -/
theorem x_callBK {id : String} {ks : List Str} {rr : List V → List V → Hp → VK → Prop} {kws : List Keyword} {kargs : List Slot} (hc : ∀ i, CallRK (Y.X i) (.builtin id) ks rr) (hm : mg x = none) (hv : bootBuiltins x = some (.builtin id)) (ha : XA Y (e :: es) Γ As) (hk : XK' Y kws Γ kargs)
    (h : ∀ (B : Bs) (F H : Hp) (vs zs : List V) (f1 f2 os : List Addr) (Q : VK), Wo B F H (f2 ++ (f1 ++ os)) → Slots F H f1 (vs.map some) As → Slots F H f2 (zs.map some) kargs → (∀ v F' H' fp, Same F F' → Same H H' → Wo B F' H' (fp ++ os) → c.P F' H' fp (some v) → Q v H') → rr vs zs H Q)
    (hg : ∀ i, Gl (Y.X i) x := by intro _; rfl) (hn : x ≠ "__name__" := by decide) (hdb : (x == ("__debug__" : Str)) = false := by decide)
    (he : ∀ i, backTo pos (starEach (e :: es) (Y.X i).env) = (false, eval e (Y.X i).env) :: backTo pos (starEach es (Y.X i).env) := by intro _; rfl) (hpl : ∀ i, (backTo pos (starEach (e :: es) (Y.X i).env)).any (·.1) = false := by intro _; rfl)
    (hall : ∀ i, (backToKw pos (keywordEach kws (Y.X i).env)).all (·.1.isSome) = true := by intro _; rfl) (hnone : ∀ i, (backToKw pos (keywordEach kws (Y.X i).env)).any (·.1.isNone) = false := by intro _; rfl) (hks : ∀ i, (backToKw pos (keywordEach kws (Y.X i).env)).filterMap (·.1) = ks := by intro _; rfl) :
    XV Y (.Call (.Name x p') (e :: es) kws pos) Γ c := by
  obtain ⟨t, pa, rd⟩ := ha
  obtain ⟨tk, pk, rdk⟩ := hk
  refine ⟨_, fun i => pe_callBK (hc i) (hg i) (by rw [Y.hM]; exact hm) hv (pa i) (pk i) hn hdb (he i) (hpl i) (hall i) (hnone i) (hks i), fun B F H os σ Q I q => ?_⟩
  refine rd B F H os σ _ I fun vs F1 H1 fp f1 e1 W1 S1 => ?_
  refine rdk B F1 H1 _ σ _ (I.step f1 e1 W1) fun zs F2 H2 fp2 f2 e2 W2 S2 => ?_
  exact h B F2 H2 vs zs fp fp2 os Q W2 (S1.mono f2 e2) S2 fun v F3 H3 fp3 f3 e3 W3 p3 => q v F3 H3 fp3 ((f1.trans f2).trans f3) ((e1.trans e2).trans e3) W3 p3
theorem one_slot {F H : Hp} {fp : List Addr} {vs : List V} (S : Slots F H fp (vs.map some) [a]) : ∃ v, vs = [v] ∧ a.P F H fp (some v) := by
  match vs, S with
  | [], S => have e := S.length; simp at e
  | [v], S =>
    obtain ⟨f1, f2, rfl, p, S2⟩ := Slots.cons_inv S
    cases S2
    exact ⟨v, rfl, by rw [List.append_nil]; exact p⟩
  | _ :: _ :: _, S => have e := S.length; simp at e
theorem c_mnD (Y : Fa P w K mg base k) (hcm : Y.cm = true := by rfl) (i : Y.I) : CallRK (Y.X i) (.builtin "min") ["default"] (rMnD K) := by have h := cr_mnD (X := Y.X i) ((Y.hC i).trans hcm); rw [Y.hK i] at h; exact h
theorem c_mxD (Y : Fa P w K mg base k) (hcm : Y.cm = true := by rfl) (i : Y.I) : CallRK (Y.X i) (.builtin "max") ["default"] (rMxD K) := by have h := cr_mxD (X := Y.X i) ((Y.hC i).trans hcm); rw [Y.hK i] at h; exact h
/-- min(xs, default=None) -/
theorem x_minN (hm : mg "min" = none) (h : XV Y e Γ s) (hs : SV K s pInt ns) (hd : XV Y eb Γ vNon) (hcm : Y.cm = true := by rfl) (hg : ∀ i, Gl (Y.X i) "min" := by intro _; rfl)
    (hs1 : ∀ i, starEach [e] (Y.X i).env = (false, eval e (Y.X i).env) :: starEach [] (Y.X i).env := by intro _; rfl)
    (he : ∀ i, backTo pos (starEach [e] (Y.X i).env) = (false, eval e (Y.X i).env) :: backTo pos (starEach [] (Y.X i).env) := by intro _; rfl) (hpl : ∀ i, (backTo pos (starEach [e] (Y.X i).env)).any (·.1) = false := by intro _; rfl)
    (hall : ∀ i, (backToKw pos (keywordEach [⟨some "default", eb, kpos⟩] (Y.X i).env)).all (·.1.isSome) = true := by intro _; rfl) (hnone : ∀ i, (backToKw pos (keywordEach [⟨some "default", eb, kpos⟩] (Y.X i).env)).any (·.1.isNone) = false := by intro _; rfl) (hks : ∀ i, (backToKw pos (keywordEach [⟨some "default", eb, kpos⟩] (Y.X i).env)).filterMap (·.1) = [("default" : Str)] := by intro _; rfl) :
    XV Y (.Call (.Name "min" p') [e] [⟨some "default", eb, kpos⟩] pos) Γ (val (pOpt pInt) (mnL ns)) := by
  refine x_callBK (c_mnD Y hcm) hm (by decide +kernel) (xa1 h hs1) (xk_cons hd xk_nil) (fun B F H vs zs f1 f2 os Q W S1 S2 kk => ?_) hg (by decide) (by decide) he hpl hall hnone hks
  obtain ⟨v, rfl, p1⟩ := one_slot S1
  obtain ⟨d, rfl, p2⟩ := one_slot S2
  obtain ⟨rfl, rd⟩ := val_P p2
  cases rd
  obtain ⟨l, vs, ev, h1, h2⟩ := hs F H f1 _ W.sub p1
  cases ev
  obtain rfl := map_int_of h2
  refine ⟨l, ns, .non, rfl, rfl, h1, fun e0 => ?_, fun m hm => ?_⟩
  · subst e0
    exact kk _ F H [] same_refl same_refl W.drop.drop ⟨rfl, _, rfl, rfl⟩
  · rw [hm] at kk
    exact kk _ F H [] same_refl same_refl W.drop.drop ⟨rfl, _, rfl, rfl, fun z => nomatch z⟩
/-- max(xs, default=n) -/
theorem x_maxI {n : Int} (hm : mg "max" = none) (h : XV Y e Γ s) (hs : SV K s pInt ns) (hd : XV Y eb Γ (vInt n)) (hcm : Y.cm = true := by rfl) (hg : ∀ i, Gl (Y.X i) "max" := by intro _; rfl)
    (hs1 : ∀ i, starEach [e] (Y.X i).env = (false, eval e (Y.X i).env) :: starEach [] (Y.X i).env := by intro _; rfl)
    (he : ∀ i, backTo pos (starEach [e] (Y.X i).env) = (false, eval e (Y.X i).env) :: backTo pos (starEach [] (Y.X i).env) := by intro _; rfl) (hpl : ∀ i, (backTo pos (starEach [e] (Y.X i).env)).any (·.1) = false := by intro _; rfl)
    (hall : ∀ i, (backToKw pos (keywordEach [⟨some "default", eb, kpos⟩] (Y.X i).env)).all (·.1.isSome) = true := by intro _; rfl) (hnone : ∀ i, (backToKw pos (keywordEach [⟨some "default", eb, kpos⟩] (Y.X i).env)).any (·.1.isNone) = false := by intro _; rfl) (hks : ∀ i, (backToKw pos (keywordEach [⟨some "default", eb, kpos⟩] (Y.X i).env)).filterMap (·.1) = [("default" : Str)] := by intro _; rfl) :
    XV Y (.Call (.Name "max" p') [e] [⟨some "default", eb, kpos⟩] pos) Γ (vInt ((mxL ns).getD n)) := by
  refine x_callBK (c_mxD Y hcm) hm (by decide +kernel) (xa1 h hs1) (xk_cons hd xk_nil) (fun B F H vs zs f1 f2 os Q W S1 S2 kk => ?_) hg (by decide) (by decide) he hpl hall hnone hks
  obtain ⟨v, rfl, p1⟩ := one_slot S1
  obtain ⟨d, rfl, p2⟩ := one_slot S2
  obtain ⟨rfl, rd⟩ := val_P p2
  cases rd
  obtain ⟨l, vs, ev, h1, h2⟩ := hs F H f1 _ W.sub p1
  cases ev
  obtain rfl := map_int_of h2
  refine ⟨l, ns, .int n, rfl, rfl, h1, fun e0 => ?_, fun m hm => ?_⟩
  · subst e0
    exact kk _ F H [] same_refl same_refl W.drop.drop ⟨rfl, _, rfl, rfl⟩
  · rw [hm] at kk
    exact kk _ F H [] same_refl same_refl W.drop.drop ⟨rfl, _, rfl, rfl⟩
theorem c_max1 (Y : Fa P w K mg base k) (hcm : Y.cm = true := by rfl) (i : Y.I) : CallR (Y.X i) (.builtin "max") (rMax K) := by have h := cr_max (X := Y.X i) ((Y.hC i).trans hcm); rw [Y.hK i] at h; exact h
theorem c_min1 (Y : Fa P w K mg base k) (hcm : Y.cm = true := by rfl) (i : Y.I) : CallR (Y.X i) (.builtin "min") (rMin K) := by have h := cr_min (X := Y.X i) ((Y.hC i).trans hcm); rw [Y.hK i] at h; exact h
theorem o_max1 {m : Int} (hs : SV K s pInt ns) (hz : mxL ns = some m) : OpA (rMax K) [s] (vInt m) := opA1 fun B F H v fx os Q W pv q => by
  obtain ⟨l, vs, ev, h1, h2⟩ := hs F H fx _ W.sub pv
  cases ev
  obtain rfl := map_int_of h2
  refine ⟨l, ns, rfl, h1, ?_, fun m' h3 h4 => ?_⟩
  · cases ns with
    | nil => cases hz
    | cons _ _ => exact Nat.succ_pos _
  · rw [mxL_of h3 h4] at hz; cases hz
    exact q _ F H [] same_refl same_refl W.drop ⟨rfl, _, rfl, rfl⟩
theorem o_min1 {m : Int} (hs : SV K s pInt ns) (hz : mnL ns = some m) : OpA (rMin K) [s] (vInt m) := opA1 fun B F H v fx os Q W pv q => by
  obtain ⟨l, vs, ev, h1, h2⟩ := hs F H fx _ W.sub pv
  cases ev
  obtain rfl := map_int_of h2
  refine ⟨l, ns, rfl, h1, ?_, fun m' h3 h4 => ?_⟩
  · cases ns with
    | nil => cases hz
    | cons _ _ => exact Nat.succ_pos _
  · rw [mnL_of h3 h4] at hz; cases hz
    exact q _ F H [] same_refl same_refl W.drop ⟨rfl, _, rfl, rfl⟩
/-! ### slices -/
def cutL (xs : List α) (lo hi : Option Int) : List α := (xs.drop (HT.sIx xs.length 0 lo)).take (HT.sIx xs.length xs.length hi - HT.sIx xs.length 0 lo)
def XO (Y : Fa P w K mg base k) (e : Option Expr) (Γ : List Slot) (o : Option Int) : Prop :=
  ∃ t : TO, (∀ i, PO (Y.X i) e t) ∧ ∀ (B : Bs) (F H : Hp) (os : List Addr) (σ : List (Option V)) (Q : Option Int → Hp → Prop), In B F H os σ Γ → (∀ F' H', Same F F' → Same H H' → Wo B F' H' os → Q o H') → t σ H Q
theorem xo_none : XO Y none Γ none := ⟨_, fun _ => po_none, fun B F H os σ Q I q => q F H same_refl same_refl I.W⟩
theorem xo_some {z : Int} (h : XV Y e Γ (vInt z)) : XO Y (some e) Γ (some z) := by
  obtain ⟨t, p, rd⟩ := h
  refine ⟨_, fun i => po_some (p i), fun B F H os σ Q I q => ?_⟩
  refine rd B F H os σ _ I fun v F1 H1 fp f1 e1 W1 p1 => ?_
  obtain ⟨rfl, rv⟩ := val_P p1
  cases rv
  exact ⟨z, rfl, q F1 H1 f1 e1 W1⟩
theorem paired_cut {β γ : Type} {G : β → γ → Prop} : ∀ {xs : List β} {ys : List γ} (m n : Nat), Paired G xs ys → Paired G ((xs.drop m).take n) ((ys.drop m).take n)
  | _, _, m, n, .nil => by simp only [List.drop_nil, List.take_nil]; exact .nil
  | _ :: xs, _ :: ys, 0, 0, .cons r t => by simp only [List.take_zero]; exact .nil
  | _ :: xs, _ :: ys, 0, n + 1, .cons r t => by
    have h := paired_cut 0 n t
    rw [List.drop_zero, List.drop_zero] at h
    exact .cons r h
  | _ :: xs, _ :: ys, m + 1, n, .cons r t => paired_cut m n t
theorem x_slc {lo hi : Option Expr} {l h' : Option Int} (he : XV Y e Γ s) (hs : SV K s p xs) (hl : XO Y lo Γ l) (hh : XO Y hi Γ h') : XV Y (.Subscript e (.Slice lo hi none p2) pos) Γ (own (oL p) (cutL xs l h')) := by
  obtain ⟨t, pe, rd⟩ := he
  obtain ⟨tl, pl, rdl⟩ := hl
  obtain ⟨th, ph, rdh⟩ := hh
  refine ⟨_, fun i => pe_slice (by have z := sl_list (X := Y.X i); rw [Y.hK i] at z; exact z) (pe i) (pl i) (ph i), fun B F H os σ Q I q => ?_⟩
  refine rd B F H os σ _ I fun v F1 H1 fp f1 e1 W1 p1 => ?_
  refine rdl B F1 H1 _ σ _ (I.step f1 e1 W1) fun F2 H2 f2 e2 W2 => ?_
  refine rdh B F2 H2 _ σ _ ((I.step f1 e1 W1).step0 f2 e2 W2) fun F3 H3 f3 e3 W3 => ?_
  obtain ⟨a, vs, ev, h1, h2⟩ := hs F3 H3 fp _ W3.sub (s.mono (f2.trans f3) (e2.trans e3) p1)
  cases ev
  refine ⟨a, vs, rfl, h1, fun n hn => ?_⟩
  refine q _ F3 _ [n] ((f1.trans f2).trans f3) (((e1.trans e2).trans e3).trans (same_upd hn)) (W3.drop.newO hn) ⟨_, rfl, n, _, rfl, rfl, upd_same, ?_⟩
  unfold cutV cutL
  rw [Paired.length h2]
  exact paired_cut _ _ h2
theorem x_slcS {lo hi : Option Expr} {l h' : Option Int} {z : Str} (he : XV Y e Γ (vStr z)) (hz : z.length ≤ sizeLine) (hl : XO Y lo Γ l) (hh : XO Y hi Γ h') : XV Y (.Subscript e (.Slice lo hi none p2) pos) Γ (vStr (cutS z l h')) := by
  obtain ⟨t, pe, rd⟩ := he
  obtain ⟨tl, pl, rdl⟩ := hl
  obtain ⟨th, ph, rdh⟩ := hh
  refine ⟨_, fun i => pe_slice (sl_str (X := Y.X i)) (pe i) (pl i) (ph i), fun B F H os σ Q I q => ?_⟩
  refine rd B F H os σ _ I fun v F1 H1 fp f1 e1 W1 p1 => ?_
  refine rdl B F1 H1 _ σ _ (I.step f1 e1 W1) fun F2 H2 f2 e2 W2 => ?_
  refine rdh B F2 H2 _ σ _ ((I.step f1 e1 W1).step0 f2 e2 W2) fun F3 H3 f3 e3 W3 => ?_
  obtain ⟨rfl, rv⟩ := val_P p1
  cases rv
  exact ⟨z, rfl, hz, q _ F3 H3 [] ((f1.trans f2).trans f3) ((e1.trans e2).trans e3) W3 ⟨rfl, _, rfl, rfl⟩⟩
/-! ### texts -/
theorem x_ixS {z : Str} {n : Int} {c : Nat} (ha : XV Y ea Γ (vStr z)) (hb : XV Y eb Γ (vInt n)) (hl : z.length ≤ sizeLine) (hz : atI z.cps.toList n = some c) (hx : PlainIx eb := by exact fun _ _ => rfl) : XV Y (.Subscript ea eb pos) Γ (vStr ⟨#[c]⟩) := by
  obtain ⟨ta, pa, ra⟩ := ha
  obtain ⟨tb, pb, rb⟩ := hb
  refine ⟨_, fun i => pe_ix (ix_str (X := Y.X i)) (pa i) (pb i) hx, fun B F H os σ Q I q => ?_⟩
  refine two (Q := fun _ _ => True) I ra rb fun x y F2 H2 fx fy f2 e2 W2 p1 p2 => ?_
  obtain rfl := vint p2
  obtain ⟨_, r1⟩ := val_P p1
  cases r1
  exact ⟨z, n, c, rfl, rfl, hl, hz, q _ F2 H2 [] f2 e2 W2.drop.drop ⟨rfl, _, rfl, rfl⟩⟩
theorem o_strI {n : Int} (h : n.natAbs < 2 ^ 64) : OpA (fun xs H Q => ∃ i : Int, xs = [.int i] ∧ i.natAbs.log2 < 1920 ∧ Q (.str (toString i)) H) [vInt n] (vStr (Str.ofString (toString n))) := opA1 fun B F H v fx os Q W pv q => by
  obtain ⟨_, r1⟩ := val_P pv
  cases r1
  exact ⟨n, rfl, Nat.lt_trans (log_small h) (by decide), q _ F H [] same_refl same_refl W.drop ⟨rfl, _, rfl, rfl⟩⟩
theorem o_addS {z y : Str} (h : z.length + y.length ≤ sizeLine) : Op2 (fun x y H Q => ∃ i j : Str, x = .str i ∧ y = .str j ∧ i.length + j.length ≤ sizeLine ∧ Q (.str (i ++ j)) H) (vStr z) (vStr y) (vStr (z ++ y)) := fun B F H x1 y1 fx fy os Q W p1 p2 q => by
  obtain ⟨_, r1⟩ := val_P p1
  obtain ⟨_, r2⟩ := val_P p2
  cases r1; cases r2
  exact ⟨z, y, rfl, rfl, h, q _ F H [] same_refl same_refl W.drop.drop ⟨rfl, _, rfl, rfl⟩⟩
end
end Ty

/-! Ty23 -/
namespace Ty
open PySem PySem.Spec L2
section
variable {P : Program} {w : World} {K : PySem.W.Frag} {mg : Str → Option Value} {base : Heap} {k : Nat}
variable {Y : Fa P w K mg base k} {i : Y.I} {e ea eb eo ev tg iter elt : Expr} {Γ Γ' : List Slot} {a b c r s s' : Slot} {pos p1 p2 : Pos}
theorem rangeL_rev_at {lo hi : Int} {n : Nat} {x : Int} (h : (rangeL lo hi).reverse[n]? = some x) : n < (hi - lo).toNat ∧ x = lo + (((hi - lo).toNat : Nat) : Int) - 1 + (n : Int) * (-1) := by
  have hl : (rangeL lo hi).length = (hi - lo).toNat := by simp [rangeL]
  have hn : n < (hi - lo).toNat := by
    have := (List.getElem?_eq_some_iff.mp h).1
    rw [List.length_reverse, hl] at this; exact this
  refine ⟨hn, ?_⟩
  rw [List.getElem?_reverse (by rw [hl]; exact hn), hl] at h
  unfold rangeL at h
  rw [List.getElem?_map, List.getElem?_range (by omega)] at h
  cases h
  show lo + (((hi - lo).toNat - 1 - n : Nat) : Int) = _
  omega
theorem wk_revRg {ro : Prop} {F H : Hp} {lo hi : Int} : Wk ro (Itc (lo + (((hi - lo).toNat : Nat) : Int) - 1) (-1) (hi - lo).toNat) F H ((rangeL lo hi).reverse.map (val pInt)) := by
  intro F1 H1 _ _ _
  refine ⟨by show (hi - lo).toNat ≤ _; simp [rangeL], fun n r hr => ?_⟩
  rw [List.getElem?_map] at hr
  obtain ⟨x, ex, er⟩ := Option.map_eq_some_iff.mp hr
  obtain ⟨hn, hx⟩ := rangeL_rev_at ex
  refine ⟨hn, fun u H2 y => ?_⟩
  obtain ⟨e1, e2⟩ := y
  subst e1; subst er
  exact ⟨same_refl, fun B os W => ⟨F1, same_refl, W, rfl, _, rfl, by rw [e2, hx]; rfl⟩⟩
theorem xi_revR1 {n : Int} (hm : mg "reversed" = none) (hm2 : mg "range" = none) (h : XV Y e Γ (vInt n)) (hn : -(2 ^ 62) ≤ n ∧ n < 2 ^ 62) (hg : ∀ i, Gl (Y.X i) "reversed" := by intro _; rfl) (hg2 : ∀ i, Gl (Y.X i) "range" := by intro _; rfl)
    (hs : ∀ i, starEach [.Call (.Name "range" p1) [e] [] p2] (Y.X i).env = (false, eval (.Call (.Name "range" p1) [e] [] p2) (Y.X i).env) :: starEach [] (Y.X i).env := by intro _; rfl)
    (hs2 : ∀ i, starEach [e] (Y.X i).env = (false, eval e (Y.X i).env) :: starEach [] (Y.X i).env := by intro _; rfl) {p' : Pos} : XI Y tg (.Call (.Name "reversed" p') [.Call (.Name "range" p1) [e] [] p2] [] pos) Γ False ((rangeL 0 n).reverse.map (val pInt)) := by
  obtain ⟨t, pe, rd⟩ := h
  refine ⟨_, fun i => pi_revR (hg i) (by rw [Y.hM]; exact hm) (prg_1 (hg2 i) (by rw [Y.hM]; exact hm2) (pe i) (hs2 i)) (hs i), fun B F H os σ R I kk => ?_⟩
  refine rd B F H os σ _ I fun v F1 H1 fp f1 e1 W1 q1 => ?_
  obtain rfl := vint q1
  exact ⟨n, rfl, by omega, by omega, hn.1, hn.2, kk _ F1 H1 f1 e1 W1.drop wk_revRg⟩
theorem xi_revR2 {m n : Int} (hm : mg "reversed" = none) (hm2 : mg "range" = none) (ha : XV Y ea Γ (vInt m)) (hb : XV Y eb Γ (vInt n)) (hn : -(2 ^ 62) ≤ m ∧ m < 2 ^ 62 ∧ -(2 ^ 62) ≤ n ∧ n < 2 ^ 62) (hg : ∀ i, Gl (Y.X i) "reversed" := by intro _; rfl) (hg2 : ∀ i, Gl (Y.X i) "range" := by intro _; rfl)
    (hs : ∀ i, starEach [.Call (.Name "range" p1) [ea, eb] [] p2] (Y.X i).env = (false, eval (.Call (.Name "range" p1) [ea, eb] [] p2) (Y.X i).env) :: starEach [] (Y.X i).env := by intro _; rfl)
    (hs2 : ∀ i, starEach [ea, eb] (Y.X i).env = (false, eval ea (Y.X i).env) :: starEach [eb] (Y.X i).env := by intro _; rfl)
    (hs3 : ∀ i, starEach [eb] (Y.X i).env = (false, eval eb (Y.X i).env) :: starEach [] (Y.X i).env := by intro _; rfl) (hpl : ∀ i, (backTo p2 (starEach [eb] (Y.X i).env)).any (·.1) = false := by intro _; rfl) {p' : Pos} : XI Y tg (.Call (.Name "reversed" p') [.Call (.Name "range" p1) [ea, eb] [] p2] [] pos) Γ False ((rangeL m n).reverse.map (val pInt)) := by
  obtain ⟨t, pe, rd⟩ := ha
  obtain ⟨t2, pe2, rd2⟩ := hb
  refine ⟨_, fun i => pi_revR (hg i) (by rw [Y.hM]; exact hm) (prg_2 (hg2 i) (by rw [Y.hM]; exact hm2) (pe i) (pe2 i) (hs2 i) (hs3 i) (hpl i)) (hs i), fun B F H os σ R I kk => ?_⟩
  refine rd B F H os σ _ I fun v F1 H1 fp f1 e1 W1 q1 => ?_
  obtain rfl := vint q1
  refine rd2 B F1 H1 os σ _ (I.step0 f1 e1 W1.drop) fun v2 F2 H2 fp2 f2 e2 W2 q2 => ?_
  obtain rfl := vint q2
  exact ⟨m, n, rfl, rfl, hn.1, hn.2.1, hn.2.2.1, hn.2.2.2, kk _ F2 H2 (f1.trans f2) (e1.trans e2) W2.drop wk_revRg⟩
end
/-! ### an error's fields read -/
def xfI (e : Exn) (n : Nat) : Option Int := match e.2[n]? with | some (.i z) => some z | _ => none
def xfS (e : Exn) (n : Nat) : Option Str := match e.2[n]? with | some (.s z) => some z | _ => none
theorem xfI_some {e : Exn} {n : Nat} {z : Int} (h : xfI e n = some z) : e.2[n]? = some (.i z) := by
  unfold xfI at h
  split at h
  · cases h; assumption
  · cases h
theorem xfS_some {e : Exn} {n : Nat} {z : Str} (h : xfS e n = some z) : e.2[n]? = some (.s z) := by
  unfold xfS at h
  split at h
  · cases h; assumption
  · cases h
theorem vzip_none {x : Str} : ∀ {P : List Str} {vs : List V}, x ∉ P → (P.zip vs).reverse.lookup x = none
  | [], _, _ => rfl
  | _ :: _, [], _ => rfl
  | p :: P, v :: vs, h => by
    have hp : (x == p) = false := by
      rw [beq_eq_false_iff_ne]
      exact fun z => h (by rw [z]; exact List.mem_cons_self)
    rw [List.zip_cons_cons, List.reverse_cons, List.lookup_append, vzip_none (fun z => h (List.mem_cons_of_mem _ z))]
    simp [List.lookup, hp]
theorem vzip_get {x : Str} {v : V} : ∀ {P : List Str} {vs : List V} {i : Nat}, P.Nodup → P[i]? = some x → vs[i]? = some v → (P.zip vs).reverse.lookup x = some v
  | [], _, _, _, h, _ => by simp at h
  | _ :: _, [], _, _, _, h => by simp at h
  | p :: P, w :: vs, 0, nd, h1, h2 => by
    simp at h1 h2; subst h1; subst h2
    rw [List.zip_cons_cons, List.reverse_cons, List.lookup_append, vzip_none (List.nodup_cons.mp nd).1]
    simp [List.lookup]
  | p :: P, w :: vs, i + 1, nd, h1, h2 => by
    rw [List.zip_cons_cons, List.reverse_cons, List.lookup_append, vzip_get (i := i) (List.nodup_cons.mp nd).2 (by simpa using h1) (by simpa using h2)]
    rfl
theorem xfd_I {ns : List Str} {e : Exn} {n : Nat} {z : Int} {x : Str} (h : xfI e n = some z) (hn : ns[n]? = some x) (nd : ns.Nodup := by decide) : (xfd ns e.2).lookup x = some (.int z) :=
  vzip_get nd hn (by rw [List.getElem?_map, xfI_some h]; rfl)
theorem xfd_S {ns : List Str} {e : Exn} {n : Nat} {z : Str} {x : Str} (h : xfS e n = some z) (hn : ns[n]? = some x) (nd : ns.Nodup := by decide) : (xfd ns e.2).lookup x = some (.str z) :=
  vzip_get nd hn (by rw [List.getElem?_map, xfS_some h]; rfl)
theorem xfC {K : PySem.W.Frag} {C : Addr} (h : ExcC K C) : XfC K C := ⟨h.hg, h.hk, h.hs, h.hd⟩
theorem ok1 {f : XF} (h : f.ok) : ∀ x ∈ [f], x.ok := fun x hx => by rw [List.mem_singleton.mp hx]; exact h
theorem ok2 {f g : XF} (h : f.ok) (h2 : g.ok) : ∀ x ∈ [f, g], x.ok := fun x hx => by
  rcases List.mem_cons.mp hx with rfl | hx
  · exact h
  · rw [List.mem_singleton.mp hx]; exact h2
end Ty
namespace Ty
open PySem PySem.Spec L2
section
variable {P : Program} {w : World} {K : PySem.W.Frag} {mg : Str → Option Value} {base : Heap} {k : Nat}
variable {Y : Fa P w K mg base k} {ev : Expr} {Γ : List Slot} {pos : Pos}
/-- {k: v}, the key an int -/
theorem x_disp_dInt {β : Type} {p : VP β} {ek : Expr} {z : Int} {u : β} (hk : XV Y ek Γ (vInt z)) (hv : XV Y ev Γ (val p u)) : XV Y (.Dict [some ek] [ev] pos) Γ (own (oD dInt p) [(z, u)]) := by
  obtain ⟨ta, pa, ra⟩ := hk
  obtain ⟨tb, pb, rb⟩ := hv
  refine ⟨_, fun i => pe_disp (pps_cons (pa i) (pb i) pps_nil) (by rfl) (by rfl) (fun z => by cases z) (Nat.le_of_ble_eq_true rfl), fun B F H os σ Q I kk l hl => ?_⟩
  have I1 : In B F (upd H l (.dK [])) ([l] ++ os) σ Γ := I.step same_refl (same_upd hl) (I.W.newO hl)
  refine ra B F _ _ σ _ I1 fun x F1 H1 fx f1 e1 W1 p1 => ?_
  obtain ⟨rfl, rx⟩ := val_P p1
  cases rx
  have I2 : In B F1 H1 ([l] ++ os) σ Γ := I1.step0 f1 e1 W1
  refine rb B F1 H1 _ σ _ I2 fun y F2 H2 fy f2 e2 W2 p2 => ?_
  obtain ⟨rfl, ry⟩ := val_P p2
  have hl2 : H2 l = some (.dK []) := e2 _ _ (e1 _ _ upd_same)
  refine ⟨hl2, [(.inl z, y)], rfl, Nat.le_of_ble_eq_true rfl, ?_⟩
  have W3 : Wo B F2 H2 ([l] ++ os) := W2
  refine kk _ F2 _ [l] (f1.trans f2) (fun q u hq => ?_) (W3.write (by simp)) ⟨_, rfl, l, [(.inl z, y)], rfl, rfl, upd_same, .cons ⟨rfl, ry⟩ .nil⟩
  rw [upd_ne (ne_of_none hq hl)]
  exact e2 _ _ (e1 _ _ (same_upd hl _ _ hq))
end
end Ty

/-! Ty24 -/
/-! owned things handed on: within displays, to a def that changes them; lists of things of several kinds; xs.insert; texts walked; pairs walked -/
namespace Ty
open PySem PySem.Spec L2
open PyProof.Rows (envOfC)
section
variable {P : Program} {w : World} {K : PySem.W.Frag} {mg : Str → Option Value} {base : Heap} {k : Nat}
variable {Y : Fa P w K mg base k} {i : Y.I} {e ea eb eo ev tg iter elt : Expr} {es ifs : List Expr} {rest body : List Stmt} {Γ Γ' Γ1 Γ2 Δ Δ' As : List Slot} {a b c r s s' : Slot} {pos pos' : Pos} {B : Bs} {D : Ends} {x f : Str} {p' p2 : Pos} {C : Addr} {ns : List Str} {α β : Type} {p : VP α} {q : VP β} {xs : List α}
/-! ### what may be handed on -/
def XN (Y : Fa P w K mg base k) (e : Expr) (Γ : List Slot) (r : Slot) (Γ' : List Slot) : Prop :=
  ∃ t : TE, (∀ i, PE (Y.X i) e t) ∧ ∀ (B : Bs) (F H : Hp) (os rr : List Addr) (σ : List (Option V)) (Q : VK), Wo B F H (rr ++ os) → Slots F H os σ Γ →
    (∀ v F' H' fp os', Same F F' → Same H H' → Wo B F' H' (fp ++ (rr ++ os')) → Slots F' H' os' σ Γ' → r.P F' H' fp (some v) → Q v H') → t σ H Q
def XNA (Y : Fa P w K mg base k) (es : List Expr) (Γ As Γ' : List Slot) : Prop :=
  ∃ t : TA, (∀ i, PA (Y.X i) es t) ∧ ∀ (B : Bs) (F H : Hp) (os rr : List Addr) (σ : List (Option V)) (Q : List V → Hp → Prop), Wo B F H (rr ++ os) → Slots F H os σ Γ →
    (∀ vs F' H' fp os', Same F F' → Same H H' → Wo B F' H' (fp ++ (rr ++ os')) → Slots F' H' os' σ Γ' → Slots F' H' fp (vs.map some) As → Q vs H') → t σ H Q
theorem XN.of (h : XV Y e Γ r) : XN Y e Γ r Γ := by
  obtain ⟨t, p, rd⟩ := h
  exact ⟨t, p, fun B F H os rr σ Q W S kk => rd B F H _ σ Q ⟨W, os, rr, List.perm_append_comm, S⟩ fun v F' H' fp f1 e1 W1 p1 => kk v F' H' fp os f1 e1 W1 (S.mono f1 e1) p1⟩
theorem XN.m (h : XN Y e Γ r Γ') : XM Y e Γ r Γ' := by
  obtain ⟨t, p, rd⟩ := h
  exact ⟨t, p, fun B F H os σ Q W S kk => rd B F H os [] σ Q W S fun v F' H' fp os' _ _ W1 S1 p1 => kk v F' H' fp os' W1 S1 p1⟩
theorem xn_move (j : Nat) (hs : Γ[j]? = some s) (hso : ∀ F H fp o, s.P F H fp o → ∃ v, o = some v) (hN : ∀ i, (Y.X i).N[j]? = some x := by intro _; rfl) (hv : ∀ i, Vis (Y.X i).env.scope x := by intro _; first | exact Or.inl rfl | exact Or.inr (Or.inl rfl) | exact Or.inr (Or.inr rfl))
    (hdb : (x == ("__debug__" : Str)) = false := by decide) (hcd : (x == ("__classdict__" : Str)) = false := by decide) : XN Y (.Name x pos) Γ s (Γ.set j dead) := by
  refine ⟨_, fun i => pe_var (hN i) (hv i) hdb hcd, fun B F H os rr σ Q W S kk => ?_⟩
  obtain ⟨o, fp, r, e1, h0, hp, hk⟩ := S.at hs
  obtain ⟨v, rfl⟩ := hso F H fp o h0
  refine ⟨v, e1, ?_⟩
  obtain ⟨os', S2, hp2⟩ := hk (F' := F) (H' := H) (fp' := []) (o' := some v) (s' := dead) rfl (fun _ _ _ _ _ q => q)
  have es : σ.set j (some v) = σ := by
    obtain ⟨hj, z⟩ := List.getElem?_eq_some_iff.mp e1
    rw [← z]; exact List.set_getElem_self hj
  rw [es] at S2
  refine kk v F H fp os' same_refl same_refl (W.perm ?_) S2 h0
  refine (List.Perm.append_left rr (hp.trans (List.Perm.append_left fp (by simpa using hp2.symm)))).trans ?_
  rw [← List.append_assoc, ← List.append_assoc]
  exact List.Perm.append_right os' List.perm_append_comm
theorem xna_nil : XNA Y [] Γ [] Γ := ⟨_, fun _ => pa_nil, fun B F H os rr σ Q W S kk => kk [] F H [] os same_refl same_refl W S .nil⟩
theorem xna_cons (he : XN Y e Γ s Γ1) (ha : XNA Y es Γ1 As Γ2) (hs : ∀ i, starEach (e :: es) (Y.X i).env = (false, eval e (Y.X i).env) :: starEach es (Y.X i).env := by intro _; rfl) : XNA Y (e :: es) Γ (s :: As) Γ2 := by
  obtain ⟨t, p, rd⟩ := he
  obtain ⟨ta, pa, ra⟩ := ha
  refine ⟨_, fun i => pa_cons (p i) (pa i) (hs i), fun B F H os rr σ Q W S kk => ?_⟩
  refine rd B F H os rr σ _ W S fun v F1 H1 fp os1 f1 e1 W1 S1 p1 => ?_
  rw [← List.append_assoc] at W1
  refine ra B F1 H1 os1 (fp ++ rr) σ _ W1 S1 fun vs F2 H2 fq os2 f2 e2 W2 S2 A2 => ?_
  refine kk (v :: vs) F2 H2 (fp ++ fq) os2 (f1.trans f2) (e1.trans e2) (W2.perm ?_) S2 ?_
  · rw [← List.append_assoc, ← List.append_assoc, ← List.append_assoc]
    exact List.Perm.append_right os2 (List.Perm.append_right rr List.perm_append_comm)
  · rw [List.map_cons]; exact Slots.cons (s.mono f2 e2 p1) A2
/-- [e, ..], of things of several kinds -/
theorem xn_lst (ha : XNA Y es Γ As Γ') (hz : As.length ≤ sizeLine) : XN Y (.List es pos) Γ (lstS As) Γ' := by
  obtain ⟨t, pa, rd⟩ := ha
  refine ⟨_, fun i => pe_lst (pa i), fun B F H os rr σ Q W S kk => ?_⟩
  refine rd B F H os rr σ _ W S fun vs F1 H1 fp os1 f1 e1 W1 S1 A1 => ?_
  refine ⟨by have := A1.length; rw [List.length_map] at this; rw [this]; exact hz, fun n hn => ?_⟩
  refine kk _ F1 _ (n :: fp) os1 f1 (e1.trans (same_upd hn)) (W1.newO hn) (S1.mono same_refl (same_upd hn)) ⟨n, vs, fp, rfl, rfl, upd_same, A1.mono same_refl (same_upd hn)⟩
/-- e handed back -/
theorem go_retXM (he : XM Y e Γ s Γ') (hd : ∀ v H, Fi B s v H → D.rt v H) : Go Y i (.Return (some e) pos :: rest) D B Γ := by
  obtain ⟨t, pe, rd⟩ := he
  refine go_ps (ps_ret (pe i)) fun F H σ ⟨os, W, S⟩ => ?_
  exact rd B F H os σ _ W S fun v F1 H1 fp os1 W1 S1 p1 => hd v H1 ⟨F1, fp, W1.dropR, p1⟩
/-! ### a def that is handed owned things -/
def spO {ι ρ : Type} (As : ι → List Slot) (m : ι → Option ρ) (Sr : ρ → Slot) : Sp := fun vs H Q _ => ∃ (z : ι) (r : ρ) (F : Hp) (fp : List Addr), m z = some r ∧ Wo ⟨F, H, fp⟩ F H fp ∧ Slots F H fp (vs.map some) (As z) ∧
  ∀ v F' H' f2, Wo ⟨F, H, fp⟩ F' H' f2 → (Sr r).P F' H' f2 (some v) → Q v H'
theorem fn_own {ι ρ : Type} {As : ι → List Slot} {m : ι → Option ρ} {Sr : ρ → Slot} {x qual : Str} {st : Stmt} {f : Addr} {fd : FuncData} {N ps : List Str} (Fn : Fun K x qual st f fd) (S : FnScope N ps (defScope st)) (hlen : ∀ z, (As z).length = ps.length)
    (body : ∀ (cdv : Value) (A : Around) (outer : List Env) (s : Shared) (H : Hp) (E : XK) (hr : Room k (A.deeper (envOfC qual (defScope st) s.heap.objs.size f cdv))) (z : ι) (r : ρ) (B : Bs), m z = some r →
      Go (fb P w K mg base N qual st f cdv A outer s H E k hr S.nd) () (defBody st) (DF B (Sr r)) B (As z ++ List.replicate (N.length - ps.length) dead)) : FnOk P w K mg base CX0 (k + 1) f fd ps (spO As m Sr) := by
  refine Fn.ok S (fun vs H Q E h => ?_) (fun cdv A outer s H vs Q E hr h => ?_)
  · obtain ⟨z, r, F, fp, _, _, Sl, _⟩ := h
    have e := Sl.length
    rw [List.length_map] at e
    rw [e, hlen]
  · obtain ⟨z, r, F, fp, hm, hW, Sl, q⟩ := h
    refine ⟨_, pss_cont, ?_⟩
    have go := body cdv A outer s H E hr z r ⟨F, H, fp⟩ hm
    have S0 : Sta ⟨F, H, fp⟩ F H (L2.start N vs) (As z ++ List.replicate (N.length - ps.length) dead) := by
      refine ⟨fp, hW, ?_⟩
      unfold L2.start
      have e := Sl.length
      rw [List.length_map, hlen] at e
      rw [e]
      have := Slots.append Sl (slots_dead (F := F) (H := H) (N.length - ps.length))
      rw [List.append_nil] at this
      exact this
    exact cont_mono (go F H _ S0) (fun σ H' ⟨F', fp, W', p'⟩ => q .non F' H' fp W' p') (fun v H' ⟨F', fp, W', p'⟩ => q v F' H' fp W' p') (fun _ _ z => z.elim) (fun _ _ z => z.elim)
theorem x_callO {ι ρ : Type} {As : ι → List Slot} {m : ι → Option ρ} {Sr : ρ → Slot} {args : List Slot} {z : ι} {q : ρ} {j : Nat} {f : Addr} {fd : FuncData} {ps : List Str} (Fn : FnOk P w K mg base CX0 j f fd ps (spO As m Sr)) (hj : j ≤ k) (hm : mg x = some (.ref f)) (hk : PySem.W.keepIn K (.ref f) = true) (hb : Binds K fd ps [])
    (ha : XNA Y (e :: es) Γ args Γ') (hargs : args = As z) (hst : Stb Γ') (hq : m z = some q) (hg : ∀ i, Gl (Y.X i) x := by intro _; rfl) (hdb : (x == ("__debug__" : Str)) = false := by decide)
    (he : ∀ i, starEach (e :: es) (Y.X i).env = (false, eval e (Y.X i).env) :: starEach es (Y.X i).env := by intro _; rfl) (hpl : ∀ i, (backTo pos (starEach es (Y.X i).env)).any (·.1) = false := by intro _; rfl) (hcm : Y.cm = true := by rfl) : XM Y (.Call (.Name x p') (e :: es) [] pos) Γ (Sr q) Γ' := by
  subst hargs
  obtain ⟨t, pa, rd⟩ := ha
  have FF : ∀ i, FnOk (Y.X i).prog (Y.X i).w (Y.X i).K (Y.X i).mg (Y.X i).base CX0 j f fd ps (spO As m Sr) := fun i => by rw [Y.hP i, Y.hw i, Y.hK i, Y.hM i, Y.hB i]; exact Fn
  refine ⟨_, fun i => pe_call (FF i) ((Y.hR hcm i).mono hj) (hg i) (by rw [Y.hM i]; exact hm) (by rw [Y.hK i]; exact hk) (by rw [Y.hK i]; exact hb) .nil pass0 (pa i) hdb (he i) (hpl i), fun B F H os σ Q W S kk => ?_⟩
  refine rd B F H os [] σ _ W S fun vs F1 H1 fp os1 f1 e1 W1 S1 A1 => ?_
  rw [List.append_nil]
  refine ⟨z, q, F1, fp, hq, Wo.here (r := os1) W1 (.refl _), A1, fun v F2 H2 f2 W2 p2 => ?_⟩
  obtain ⟨c1, c2, W3⟩ := Wo.calledM W1 (.refl _) W2
  exact kk v F2 H2 f2 os1 W3 (S1.mm c1 hst c2) p2
/-! ### a list of things of several kinds, frozen -/
def pH (sl : α → List Slot) : VP α where
  R := fun F v z => ∃ l vs, v = .ref l ∧ F l = some (.lst vs) ∧ Slots F F [] (vs.map some) (sl z)
  mono := fun hF h => let ⟨l, vs, e1, h1, h2⟩ := h; ⟨l, vs, e1, hF _ _ h1, h2.mono hF hF⟩
theorem WkS.lstH {sl : α → List Slot} {z : α} (hw : WkL Δ (sl z)) (hv : AllV (sl z)) : WkS (Ty.lstS Δ) (Ty.val (pH sl) z) := fun F H fp o hS hp => by
  obtain ⟨l, vs, os, e1, e2, h1, h2⟩ := hp
  obtain ⟨xx, yy, hperm, kk⟩ := h2.wk hS hw
  obtain ⟨rfl, _⟩ := hv.no (kk H hS same_refl fun _ _ => rfl)
  subst e2
  refine ⟨l :: os, [], by simp, fun F' hF hs hx => ⟨rfl, _, e1, l, vs, rfl, by rw [hx l (by simp)]; exact h1, (hv.no (kk F' hF hs fun q hq => hx q ?_)).2⟩⟩
  have := hperm.mem_iff.mpr (by simpa using hq)
  simp [this]
theorem ixN_lit {n : Nat} {m : Nat} (h : m < n) : ixN n (m : Int) = some m := by
  unfold ixN
  by_cases hh : (m : Int) < 0
  · omega
  · simp [h]
theorem Slots.nilAt {F H : Hp} : ∀ {vs : List V} {Δ : List Slot} {n : Nat} {s : Slot}, Slots F H [] (vs.map some) Δ → Δ[n]? = some s → ∃ v, vs[n]? = some v ∧ s.P F H [] (some v)
  | [], [], n, s, _, e => by simp at e
  | [], _ :: _, _, _, S, _ => by have e := S.length; simp at e
  | _ :: _, [], _, _, S, _ => by have e := S.length; simp at e
  | v :: vs, s0 :: Δ, 0, s, S, e => by
    rw [List.map_cons] at S
    simp at e; subst e
    exact ⟨v, rfl, (S.one rfl).1⟩
  | v :: vs, s0 :: Δ, n + 1, s, S, e => by
    rw [List.map_cons] at S
    exact Slots.nilAt (n := n) (S.one rfl).2 (by simpa using e)
theorem atI_nat {γ : Type} {xs : List γ} {n : Nat} {v : γ} (h : xs[n]? = some v) : atI xs (n : Int) = some v := by
  have hl := (List.getElem?_eq_some_iff.mp h).1
  unfold atI
  rw [ixN_lit hl]
  exact h
/-- its n-th thing -/
theorem x_ixH {sl : α → List Slot} {z : α} (n : Nat) (ha : XV Y ea Γ (val (pH sl) z)) (hb : XV Y eb Γ (vInt (n : Int))) (hs : (sl z)[n]? = some s) (hx : PlainIx eb := by exact fun _ _ => rfl) : XV Y (.Subscript ea eb pos) Γ s := by
  obtain ⟨ta, pa, ra⟩ := ha
  obtain ⟨tb, pb, rb⟩ := hb
  refine ⟨_, fun i => by have h := ix_list (X := Y.X i); rw [Y.hK i] at h; exact pe_ix h (pa i) (pb i) hx, fun B F H os σ Q I q => ?_⟩
  refine two (Q := fun _ _ => True) I ra rb fun x y F2 H2 fx fy f2 e2 W2 p1 p2 => ?_
  obtain rfl := vint p2
  obtain ⟨_, l, vs, rfl, h1, h2⟩ := val_P p1
  obtain ⟨v, hv, sv⟩ := h2.nilAt hs
  exact ⟨l, vs, n, v, rfl, rfl, SqL.of (W2.sub _ _ h1), atI_nat hv, q v F2 H2 [] f2 e2 W2.drop.drop (s.mono same_refl W2.sub sv)⟩
/-- .. of what is looked at -/
theorem x_ixHB {γ : Type} {pu : VP γ} {u : γ} {sl : α → List Slot} {z : α} (n : Nat) (ha : XV Y ea Γ (bor (pH sl) z)) (hb : XV Y eb Γ (vInt (n : Int))) (hs : (sl z)[n]? = some (val pu u)) (hx : PlainIx eb := by exact fun _ _ => rfl) : XV Y (.Subscript ea eb pos) Γ (bor pu u) := by
  obtain ⟨ta, pa, ra⟩ := ha
  obtain ⟨tb, pb, rb⟩ := hb
  refine ⟨_, fun i => by have h := ix_list (X := Y.X i); rw [Y.hK i] at h; exact pe_ix h (pa i) (pb i) hx, fun B F H os σ Q I q => ?_⟩
  refine two (Q := fun _ _ => True) I ra rb fun x y F2 H2 fx fy f2 e2 W2 p1 p2 => ?_
  obtain rfl := vint p2
  obtain ⟨_, v0, ev, l, vs, rfl, h1, h2⟩ := p1
  cases ev
  obtain ⟨v, hv, _, v', ev', rv⟩ := h2.nilAt hs
  cases ev'
  exact ⟨l, vs, n, v, rfl, rfl, SqL.of h1, atI_nat hv, q v F2 H2 [] f2 e2 W2.drop.drop ⟨rfl, _, rfl, rv⟩⟩
/-- looked at as data -/
inductive VwL : List Slot → List Slot → Prop
  | nil : VwL [] []
  | cons {γ : Type} {s : Slot} {p : VP γ} {u : γ} {As Bs : List Slot} : Vw s p u → VwL As Bs → VwL (s :: As) (val p u :: Bs)
theorem VwL.to {As Cs : List Slot} (h : VwL As Cs) : ∀ F H os (vs : List V), Same F H → Slots F H os (vs.map some) As → Slots H H [] (vs.map some) Cs := by
  induction h with
  | nil =>
    intro F H os vs hS Sl
    have e := Sl.length
    cases vs with
    | nil => exact .nil
    | cons v vs => simp at e
  | @cons γ s p u As Cs hv _ ih =>
    intro F H os vs hS Sl
    have e := Sl.length
    cases vs with
    | nil => simp at e
    | cons v vs =>
      rw [List.map_cons] at Sl
      obtain ⟨f1, f2, rfl, hp, hr⟩ := Slots.cons_inv Sl
      have i1 := ih F H f2 vs hS hr
      obtain ⟨v', ev, rv⟩ := hv F H f1 _ hS hp
      cases ev
      exact Slots.cons (fp := []) ⟨rfl, v, rfl, rv⟩ i1
theorem Vw.lstH {sl : α → List Slot} {z : α} (h : VwL Δ (sl z)) : Vw (Ty.lstS Δ) (pH sl) z := fun F H fp o hS hp => by
  obtain ⟨l, vs, os, e1, e2, h1, h2⟩ := hp
  exact ⟨_, e1, l, vs, rfl, h1, h.to F H os vs hS h2⟩
/-! ### xs.insert(n, e) -/
structure Bm2 (X : Cx) (o : Expr) (name : Str) (apos : Pos) (e e2 : Expr) (cpos : Pos) : Prop where
  base : attributeBase o name X.env (eval o X.env) = eval o X.env
  few : ((backTo cpos (starEach [e, e2] X.env)).all (fun x => !x.1) && (backToKw cpos (keywordEach [] X.env)).all (fun x => x.1.isSome) && decide (([e, e2] : List Expr).length + ([] : List Keyword).length + (if ([] : List Keyword).isEmpty then 0 else 1) < 30)) = true
  line : (apos.endLine == cpos.line) = true
  st : starEach [e, e2] X.env = (false, eval e X.env) :: starEach [e2] X.env
  st2 : starEach [e2] X.env = (false, eval e2 X.env) :: starEach [] X.env
  pl : (backTo cpos (starEach [e2] X.env)).any (·.1) = false
theorem go_insert {up : Slot → List Slot} {apos cpos : Pos} {u : α} {n : Int} (ho : PL Y eo Γ (own (oL p) xs) up) (he : XV Y ea Γ (vInt n)) (he2 : XV Y eb Γ (val p u)) (hz : xs.length < sizeLine) (hn : 0 ≤ n ∧ n < 2 ^ 63) (hg : Go Y i rest D B (up (own (oL p) (xs.take n.toNat ++ [u] ++ xs.drop n.toNat))))
    (hb : Bm2 (Y.X i) eo "insert" apos ea eb cpos := by exact ⟨rfl, rfl, rfl, rfl, rfl, rfl⟩)
    (hs : swapsWith (.Call (.Attribute eo "insert" apos) [ea, eb] [] cpos) none pos.line (Y.X i).env = pure false := by rfl) : Go Y i (.Expr (.Call (.Attribute eo "insert" apos) [ea, eb] [] cpos) pos :: rest) D B Γ := by
  obtain ⟨t, Pv, pe, pst, rd, up'⟩ := ho
  obtain ⟨t1, pe1, rd1⟩ := he
  obtain ⟨t2, pe2, rd2⟩ := he2
  refine go_ps (ps_expr (pe_bm PySem.F.plainAttrs_list PySem.F.slot_list_insert PySem.F.type_list_insert mt_insert (pe i) (pa_cons (pe1 i) (pa_cons (pe2 i) pa_nil hb.st2) hb.st) hb.base hb.few hb.line hb.st hb.pl) hs) fun F H σ ⟨os, W, S⟩ => ?_
  refine rd B F H os σ _ (Sta.in W S) fun v hv => ?_
  obtain ⟨fp, rr, hr, hp, _⟩ := up' F H os σ v S hv
  obtain ⟨v0, ev, l, vs, el, ef, h1, h2⟩ := hp
  cases ev; subst el; subst ef
  refine ⟨.inl ⟨rfl, vs, SqL.of h1⟩, rd1 B F H os σ _ (Sta.in W S) fun y0 F1 H1 fy f1 e1 W1 p1 => ?_⟩
  obtain ⟨rfl, rfl⟩ := val_P p1
  refine rd2 B F1 H1 _ σ _ ((Sta.in W S).step f1 e1 W1) fun y F2 H2 fz f2 e2 W2 p2 => ?_
  obtain ⟨fp1, r1, hr1, hp1, kk1⟩ := up' F2 H2 os σ _ (S.mono (f1.trans f2) (e1.trans e2)) (pst _ _ _ _ (e1.trans e2) hv)
  obtain ⟨v1, ev1, l1, vs1, el1, ef1, g1, g2⟩ := hp1
  cases ev1; cases el1; subst ef1
  obtain ⟨rfl, ry⟩ := val_P p2
  refine ⟨l, vs1, n, y, rfl, rfl, g1, by rw [Paired.length g2]; exact hz, hn.1, hn.2, ?_⟩
  refine hg F2 _ σ (pl_write (fy := []) (W2.drop.drop) hr1 ⟨_, rfl, l, _, rfl, rfl, upd_same, ?_⟩ kk1)
  have t1 := paired_cut 0 n.toNat g2
  have t2 := paired_cut n.toNat vs1.length g2
  rw [List.drop_zero, List.drop_zero] at t1
  rw [List.take_of_length_le (by rw [List.length_drop]; omega), List.take_of_length_le (by rw [List.length_drop, Paired.length g2]; omega)] at t2
  exact Paired.app (Paired.app t1 (.cons ry .nil)) t2
/-! ### texts -/
theorem o_lenS {z : Str} (h : z.length ≤ sizeLine) : OpA (fun xs H Q => ∃ z, xs = [.str z] ∧ z.length ≤ sizeLine ∧ Q (.int z.length) H) [vStr z] (vInt (z.length : Int)) := opA1 fun B F H v fx os Q W pv q => by
  obtain ⟨_, r1⟩ := val_P pv
  cases r1
  exact ⟨z, rfl, h, q _ F H [] same_refl same_refl W.drop ⟨rfl, _, rfl, rfl⟩⟩
theorem in_sign (z : Str) (c : Nat) : (!(Builtin.Str.occurrences z ⟨#[c]⟩ 0 z.length 1).isEmpty) = decide (c ∈ z.cps.toList) := StrLaws.found_one z c
theorem o_inS {z : Str} {c : Nat} : Op2 (fun x y H Q => ∃ i j, x = .str i ∧ y = .str j ∧ Q (.bl (!(Builtin.Str.occurrences j i 0 j.length 1).isEmpty)) H) (vStr ⟨#[c]⟩) (vStr z) (vBl (decide (c ∈ z.cps.toList))) := fun B F H x1 y1 fx fy os Q W p1 p2 q => by
  obtain ⟨_, r1⟩ := val_P p1
  obtain ⟨_, r2⟩ := val_P p2
  cases r1; cases r2
  refine ⟨⟨#[c]⟩, z, rfl, rfl, ?_⟩
  rw [in_sign]
  exact q _ F H [] same_refl same_refl W.drop.drop ⟨rfl, _, rfl, rfl⟩
theorem o_ninS {z : Str} {c : Nat} : Op2 (fun x y H Q => ∃ i j, x = .str i ∧ y = .str j ∧ Q (.bl (!(!(Builtin.Str.occurrences j i 0 j.length 1).isEmpty))) H) (vStr ⟨#[c]⟩) (vStr z) (vBl (!(decide (c ∈ z.cps.toList)))) := fun B F H x1 y1 fx fy os Q W p1 p2 q => by
  obtain ⟨_, r1⟩ := val_P p1
  obtain ⟨_, r2⟩ := val_P p2
  cases r1; cases r2
  refine ⟨⟨#[c]⟩, z, rfl, rfl, ?_⟩
  rw [in_sign]
  exact q _ F H [] same_refl same_refl W.drop.drop ⟨rfl, _, rfl, rfl⟩
/-- a text of one sign -/
def pSg : VP Nat := ⟨fun _ v c => v = .str ⟨#[c]⟩, fun _ h => h⟩
theorem xi_str {z : Str} (h : XV Y iter Γ (vStr z)) : XI Y tg iter Γ False (z.cps.toList.map fun c => vStr ⟨#[c]⟩) := by
  obtain ⟨t, pe, rd⟩ := h
  refine ⟨_, fun i => pi_str (X := Y.X i) (tg := tg) (pe i), fun B F H os σ R I kk => ?_⟩
  refine rd B F H os σ _ I fun v F1 H1 fp f1 e1 W1 p1 => ?_
  obtain ⟨_, r1⟩ := val_P p1
  cases r1
  refine ⟨z, rfl, kk _ F1 H1 f1 e1 W1.drop ?_⟩
  intro F2 H2 a _ c
  refine ⟨by show _ ≤ _; simp, fun n r hr => ?_⟩
  rw [List.getElem?_map] at hr
  obtain ⟨x, ex, er⟩ := Option.map_eq_some_iff.mp hr
  have hx : z.cps[n]? = some x := by rw [← Array.getElem?_toList]; exact ex
  subst er
  refine ⟨?_, fun u H3 y => ?_⟩
  · exact (Array.getElem?_eq_some_iff.mp hx).1
  · obtain ⟨e1, c', h1, h2⟩ := y
    subst e1
    refine ⟨fun _ _ h => h, fun B os W => ⟨F2, same_refl, W, ?_⟩⟩
    rw [hx] at h1
    cases h1
    exact ⟨rfl, _, rfl, h2⟩
/-- a pair walked -/
theorem xi_t2 {y : α × α} (h : XV Y iter Γ (val (pT2 p p) y)) : XI Y tg iter Γ False ([y.1, y.2].map (val p)) := by
  refine xi_tup (p := p) (xs := [y.1, y.2]) (h.as fun F H fp o _ hp => ?_)
  obtain ⟨e1, v, e2, l, a, b, ev, h1, r1, r2⟩ := hp
  exact ⟨e1, v, e2, l, [a, b], ev, h1, .cons r1 (.cons r2 .nil)⟩
theorem Eqv.bl : Eqv pBl := fun F v a h => by
  cases h
  refine ⟨rfl, fun F' v' a' h' => ?_⟩
  cases h'
  cases a <;> cases a' <;> rfl
theorem non_isN {u : Unit} : ∀ (F : Hp) v, pNon.R F v u → decide (v = .non) = true := fun F v h => by cases h; rfl
end
end Ty

/-! Ty25 -/
/-! an __init__ that may raise; methods that read ints of an instance that is not yet whole; tuples of things of several kinds -/
namespace Ty
open PySem PySem.Spec L2
open PyProof.Rows
section
variable {X : Cx} {CX : CXT} {k : Nat} {f C : Addr} {fd : FuncData} {ps : List Str} {sp : Sp} {E : L2.St → XK} {x m : Str} {p pos apos : Pos} {e o : Expr} {es : List Expr} {ta : TE} {t : TA}
theorem run_makeS {pins : List (Addr × Obj)} {σ : L2.St} {H : Hp} {s : Shared} {Q : VK} {us : List Value} {vs : List V} (M : Mk X.K C f) (F : FnOk X.prog X.w X.K X.mg X.base CX k f fd ps sp) (hr : Room (k + 1) X.A) (hb : Binds X.K fd ps [])
    (hx : PassesAt CX X σ (E σ)) (I : Inv X pins σ H s) (r : Vals vs us)
    (h : ∀ x dx, H x = none → H dx = none → dx ≠ x → sp (.ref x :: vs) (upd (upd H dx (.own x)) x (.ins C dx [])) (fun v H2 => v = .non ∧ Q (.ref x) H2) (E σ)) :
    wpAny (model X.prog X.w) X.A (call (.ref C) us) (EP X pins σ Q) X.xe s := by
  have hq := h (s.heap.objs.size + 1) s.heap.objs.size (I.hok.fresh (Nat.le_succ _)) (I.hok.fresh (Nat.le_refl _)) (Nat.ne_of_lt (Nat.lt_succ_self _))
  have I2 := Inv.made (C := C) I
  have r2 : Vals (V.ref (s.heap.objs.size + 1) :: vs) (Value.ref (s.heap.objs.size + 1) :: us) := .cons rfl r
  have hl : (Value.ref (s.heap.objs.size + 1) :: us ++ []).length = ps.length := by
    have e := r2.length
    rw [F.len _ _ _ _ hq] at e
    rw [List.append_nil]
    exact e.symm
  have hb' := hb _ (Value.ref (s.heap.objs.size + 1) :: us) I2.kIn hl
  rw [List.append_nil] at hb'
  refine wpAny_call (make_map (f := f) I.kIn M.makes M.init (beq_iff_eq.mp M.fn) (codeAny_mono (F.run _ X.stack _ _ ⟨Value.ref (s.heap.objs.size + 1) :: us, []⟩ (Value.ref (s.heap.objs.size + 1) :: us) _ _ (E σ) (hr.make C us [])
    (I2.env0.make C us []) hb' r2 hq) fun r s' hq' => ?_))
  cases r with
  | error e => exact hx pins _ _ e s' I2 hq'
  | ok fl =>
    cases fl with
    | ret u =>
      obtain ⟨v, H', I3, rv, ev, q3⟩ := I2.after hq'
      subst ev
      exact ⟨rv, ⟨V.ref (s.heap.objs.size + 1), H', I3, rfl, q3⟩⟩
    | next => exact False.elim hq'
    | brk => exact False.elim hq'
    | cont => exact False.elim hq'
def tMakeS (C : Addr) (sp : Sp) (E : L2.St → XK) (t : TA) : TE := fun σ H Q => t σ H fun vs H1 => ∀ x dx, H1 x = none → H1 dx = none → dx ≠ x →
  sp (.ref x :: vs) (upd (upd H1 dx (.own x)) x (.ins C dx [])) (fun v H2 => v = .non ∧ Q (.ref x) H2) (E σ)
theorem pe_makeS (M : Mk X.K C f) (F : FnOk X.prog X.w X.K X.mg X.base CX k f fd ps sp) (hr : Room (k + 1) X.A) (hg : Gl X x) (hm : X.mg x = some (.ref C)) (hb : Binds X.K fd ps []) (hx : ∀ σ, PassesAt CX X σ (E σ))
    (ha : PA X (e :: es) t) (hdb : (x == ("__debug__" : Str)) = false := by decide) (he : starEach (e :: es) X.env = (false, eval e X.env) :: starEach es X.env := by rfl) (hpl : (backTo pos (starEach es X.env)).any (·.1) = false := by rfl) :
    PE X (.Call (.Name x p) (e :: es) [] pos) (tMakeS C sp E t) := by
  refine ⟨fun pins s σ H Q I h => ?_⟩
  refine wpAny_Call_Name_kw (ld_glob I hg hm ?_ hdb)
  refine PySem.W.callWith_K (h₀ := X.base) I.ok.mod.kin M.kp (thn (ha.run pos pins s σ H _ I h) fun us s1 ⟨vs, H1, I1, r, q⟩ => ⟨I1.kIn, ?_⟩) he hpl
  exact run_makeS M F hr hb (hx σ) I1 r q
end
/-- nothing is so -/
def noS : Slot := { P := fun _ _ _ _ => False, mono := fun _ _ h => h, st := True, mm := fun _ {_ _ _ _ _ _} _ _ h => h }
theorem no_noS {B : Bs} {v : V} {H : Hp} (h : Fi B noS v H) : False := let ⟨_, _, _, h⟩ := h; h
section
variable {P : Program} {w : World} {K : PySem.W.Frag} {mg : Str → Option Value} {base : Heap} {k : Nat}
/-- an __init__ that may raise -/
def spMX {ι μ : Type} (C : Addr) (As : ι → List Slot) (m : ι → Option (Rx (μ × Unit))) (s1 : μ → Slot) (X : ExT) : Sp := fun vs H Q E => ∃ (z : ι) (r : Rx (μ × Unit)) (F : Hp) (fp : List Addr) (v0 : V) (ws : List V), vs = v0 :: ws ∧ m z = some r ∧ Wo ⟨F, H, fp⟩ F H fp ∧ (obj C [] []).P F H fp (some v0) ∧ Slots F H [] (ws.map some) (As z) ∧
  (∀ q, r = .ok q → ∀ F' H' f1, Wo ⟨F, H, fp⟩ F' H' f1 → (s1 q.1).P F' H' f1 (some v0) → Q .non H') ∧ ∀ e, r = .ex e → ∀ cls d F' H', Wo ⟨F, H, fp⟩ F' H' [] → X e cls d F' → E cls d H'
@[reducible] def DMX {μ : Type} (B : Bs) (v0 : V) (s1 : μ → Slot) (r : Rx (μ × Unit)) : Ends where
  nx := fun _ H => ∃ q F f1, r = .ok q ∧ Wo B F H f1 ∧ (s1 q.1).P F H f1 (some v0)
  rt := fun _ _ => False
theorem fn_mutX {ι μ : Type} {C : Addr} {As : ι → List Slot} {m : ι → Option (Rx (μ × Unit))} {s1 : μ → Slot} {EX : ExT} {x qual : Str} {st : Stmt} {f : Addr} {fd : FuncData} {N ps : List Str} (Fn : Fun K x qual st f fd) (S : FnScope N ps (defScope st)) (hlen : ∀ z, (As z).length + 1 = ps.length)
    (body : ∀ (cdv : Value) (A : Around) (outer : List Env) (s : Shared) (H : Hp) (E : XK) (hr : Room k (A.deeper (envOfC qual (defScope st) s.heap.objs.size f cdv))) (z : ι) (r : Rx (μ × Unit)) (v0 : V) (B : Bs), m z = some r →
      (∀ e, r = .ex e → ∀ Γ, Wish (fun cls d _ H => E cls d H) B Γ EX e) →
      Go (fbX P w K mg base N qual st f cdv A outer s H E k hr S.nd) () (defBody st) (DMX B v0 s1 r) B (hold (obj C [] []) v0 :: As z ++ List.replicate (N.length - ps.length) dead)) : FnOk P w K mg base (L2.CX P w) (k + 1) f fd ps (spMX C As m s1 EX) := by
  refine Fn.okX S (fun vs H Q E h => ?_) (fun cdv A outer s H vs Q E hr h => ?_)
  · obtain ⟨z, r, F, fp, v0, ws, rfl, _, _, _, Sl, _⟩ := h
    have e := Sl.length
    rw [List.length_map] at e
    rw [List.length_cons, e, hlen]
  · obtain ⟨z, r, F, fp, v0, ws, rfl, hm, hW, hp, Sl, q, qe⟩ := h
    refine ⟨_, pss_cont, ?_⟩
    have go := body cdv A outer s H E hr z r v0 ⟨F, H, fp⟩ hm (fun e he Γ cls d σ F' H' os hI hx => qe e he cls d F' H' (Wo.drop (a := os) (b := []) (by simpa using hI.W)) hx)
    have S0 : Sta ⟨F, H, fp⟩ F H (L2.start N (v0 :: ws)) (hold (obj C [] []) v0 :: As z ++ List.replicate (N.length - ps.length) dead) := by
      refine ⟨fp, hW, ?_⟩
      unfold L2.start
      have e := Sl.length
      rw [List.length_map] at e
      rw [List.length_cons, e, hlen]
      have e1 := Slots.cons (s := hold (obj C [] []) v0) ⟨rfl, hp⟩ (Slots.append Sl (slots_dead (F := F) (H := H) (N.length - ps.length)))
      simpa using e1
    exact cont_mono (go F H _ S0) (fun σ H' ⟨qq, F', f1, er, W', p'⟩ => q qq er F' H' f1 W' p') (fun v H' z => z.elim) (fun _ _ z => z.elim) (fun _ _ z => z.elim)
variable {Y : Fa P w K mg base k} {i : Y.I} {e ea eb eo ev tg iter elt : Expr} {es ifs : List Expr} {rest body : List Stmt} {Γ Γ' Γ1 Γ2 Δ Δ' As : List Slot} {a b c r s s' : Slot} {pos pos' : Pos} {B : Bs} {D : Ends} {x f : Str} {p' p2 : Pos} {C : Addr} {ns : List Str} {α β : Type} {p : VP α} {q : VP β} {xs : List α} {EX : ExT} {ex : Exn}
theorem go_nilMX {μ : Type} {v0 : V} {s1 : μ → Slot} {u : μ × Unit} (hs : Γ[0]? = some (hold (s1 u.1) v0) := by rfl) : Go Y i [] (DMX B v0 s1 (.ok u)) B Γ :=
  go_nil fun σ H ⟨F, os, W, S⟩ => by
    obtain ⟨o, fp, r', e, p, q, _⟩ := S.at hs
    obtain ⟨rfl, p⟩ := p
    exact ⟨u, F, fp, rfl, (W.perm q).dropR, p⟩
/-- C(e, ..): a new instance, of an __init__ that may raise -/
theorem x_makeX {ι μ : Type} {As : ι → List Slot} {m : ι → Option (Rx (μ × Unit))} {s1 : μ → Slot} {args : List Slot} {z : ι} {q : μ × Unit} {j : Nat} {g : Addr} {fd : FuncData} {ps : List Str}
    (Fn : FnOk P w K mg base (L2.CX P w) j g fd ps (spMX C As m s1 EX)) (hj : j + 1 ≤ k) (M : Mk K C g) (hm : mg x = some (.ref C)) (hb : Binds K fd ps []) (ha : XA Y (e :: es) Γ args) (hargs : args = As z) (hno : NoOwn args) (hq : m z = some (.ok q))
    (hg : ∀ i, Gl (Y.X i) x := by intro _; rfl) (hdb : (x == ("__debug__" : Str)) = false := by decide)
    (he : ∀ i, starEach (e :: es) (Y.X i).env = (false, eval e (Y.X i).env) :: starEach es (Y.X i).env := by intro _; rfl) (hpl : ∀ i, (backTo pos (starEach es (Y.X i).env)).any (·.1) = false := by intro _; rfl) (hcm : Y.cm = true := by rfl) : XV Y (.Call (.Name x p') (e :: es) [] pos) Γ (s1 q.1) := by
  subst hargs
  obtain ⟨t, pa, rd⟩ := ha
  have FF : ∀ i, FnOk (Y.X i).prog (Y.X i).w (Y.X i).K (Y.X i).mg (Y.X i).base (L2.CX (Y.X i).prog (Y.X i).w) j g fd ps (spMX C As m s1 EX) := fun i => by rw [Y.hP i, Y.hw i, Y.hK i, Y.hM i, Y.hB i]; exact Fn
  refine ⟨_, fun i => pe_makeS (by rw [Y.hK i]; exact M) (FF i) ((Y.hR hcm i).mono hj) (hg i) (by rw [Y.hM i]; exact hm) (by rw [Y.hK i]; exact hb) (E := WE Y.W) (fun σ => passAt (Y.tk i) σ) (pa i) hdb (he i) (hpl i), fun B F H os σ Q I kk => ?_⟩
  refine rd B F H os σ _ I fun vs F1 H1 fp f1 e1 W1 S1 => ?_
  obtain rfl := hno.nil S1
  intro a dx ha hdx hne
  have hdx' : (upd H1 dx (.own a)) a = none := by rw [upd_ne (fun z => hne z.symm)]; exact ha
  have W1' : Wo B F1 H1 os := W1
  have W2 : Wo B F1 (upd (upd H1 dx (.own a)) a (.ins C dx [])) (a :: dx :: os) := (W1'.newO hdx).newO hdx'
  have e3 : Same H1 (upd (upd H1 dx (.own a)) a (.ins C dx [])) := (same_upd hdx).trans (same_upd hdx')
  refine ⟨z, .ok q, F1, [a, dx], .ref a, vs, rfl, hq, W2.here (fp := [a, dx]) (r := os) (.refl _), ?_, S1.mono same_refl e3, fun q' eq F2 H2 fp1 W3 p2 => ?_, fun e he => by cases he⟩
  · exact ⟨a, dx, [], [], rfl, rfl, upd_same, by rw [upd_ne hne]; exact upd_same, rfl, .nil⟩
  · cases eq
    refine ⟨rfl, ?_⟩
    obtain ⟨c1, c2, W4⟩ := Wo.calledM (os := a :: dx :: os) (fp := [a, dx]) (r := os) W2 (.refl _) W3
    refine kk _ F2 H2 fp1 (f1.trans c1) (e1.trans ?_) W4 p2
    intro b u hb
    refine W3.bH b u (e3 b u hb) ?_
    intro hm
    rcases List.mem_cons.mp hm with rfl | hm
    · rw [ha] at hb; cases hb
    · obtain rfl := List.mem_singleton.mp hm
      rw [hdx] at hb; cases hb
theorem xx_make {ι μ : Type} {As : ι → List Slot} {m : ι → Option (Rx (μ × Unit))} {s1 : μ → Slot} {args : List Slot} {z : ι} {j : Nat} {g : Addr} {fd : FuncData} {ps : List Str}
    (Fn : FnOk P w K mg base (L2.CX P w) j g fd ps (spMX C As m s1 EX)) (hj : j + 1 ≤ k) (M : Mk K C g) (hm : mg x = some (.ref C)) (hb : Binds K fd ps []) (ha : XA Y (e :: es) Γ args) (hargs : args = As z) (hno : NoOwn args) (hq : m z = some (.ex ex))
    (hg : ∀ i, Gl (Y.X i) x := by intro _; rfl) (hdb : (x == ("__debug__" : Str)) = false := by decide)
    (he : ∀ i, starEach (e :: es) (Y.X i).env = (false, eval e (Y.X i).env) :: starEach es (Y.X i).env := by intro _; rfl) (hpl : ∀ i, (backTo pos (starEach es (Y.X i).env)).any (·.1) = false := by intro _; rfl) (hcm : Y.cm = true := by rfl) : XXe Y (.Call (.Name x p') (e :: es) [] pos) Γ EX ex := by
  subst hargs
  obtain ⟨t, pa, rd⟩ := ha
  have FF : ∀ i, FnOk (Y.X i).prog (Y.X i).w (Y.X i).K (Y.X i).mg (Y.X i).base (L2.CX (Y.X i).prog (Y.X i).w) j g fd ps (spMX C As m s1 EX) := fun i => by rw [Y.hP i, Y.hw i, Y.hK i, Y.hM i, Y.hB i]; exact Fn
  refine ⟨_, fun i => pe_makeS (by rw [Y.hK i]; exact M) (FF i) ((Y.hR hcm i).mono hj) (hg i) (by rw [Y.hM i]; exact hm) (by rw [Y.hK i]; exact hb) (E := WE Y.W) (fun σ => passAt (Y.tk i) σ) (pa i) hdb (he i) (hpl i), fun B F H os σ Q I kk => ?_⟩
  refine rd B F H os σ _ I fun vs F1 H1 fp f1 e1 W1 S1 => ?_
  obtain rfl := hno.nil S1
  intro a dx ha hdx hne
  have hdx' : (upd H1 dx (.own a)) a = none := by rw [upd_ne (fun z => hne z.symm)]; exact ha
  have W1' : Wo B F1 H1 os := W1
  have W2 : Wo B F1 (upd (upd H1 dx (.own a)) a (.ins C dx [])) (a :: dx :: os) := (W1'.newO hdx).newO hdx'
  have e3 : Same H1 (upd (upd H1 dx (.own a)) a (.ins C dx [])) := (same_upd hdx).trans (same_upd hdx')
  refine ⟨z, .ex ex, F1, [a, dx], .ref a, vs, rfl, hq, W2.here (fp := [a, dx]) (r := os) (.refl _), ?_, S1.mono same_refl e3, fun q' eq => (by cases eq), fun e he cls d F2 H2 W3 hx => ?_⟩
  · exact ⟨a, dx, [], [], rfl, rfl, upd_same, by rw [upd_ne hne]; exact upd_same, rfl, .nil⟩
  · cases he
    obtain ⟨c1, c2, W4⟩ := Wo.calledM (os := a :: dx :: os) (fp := [a, dx]) (r := os) W2 (.refl _) W3
    refine kk cls d F2 H2 [] (f1.trans c1) (e1.trans ?_) W4 hx
    intro b u hb
    refine W3.bH b u (e3 b u hb) ?_
    intro hm
    rcases List.mem_cons.mp hm with rfl | hm
    · rw [ha] at hb; cases hb
    · obtain rfl := List.mem_singleton.mp hm
      rw [hdx] at hb; cases hb
/-! ### ints of an instance -/
def pFl (C : Addr) (fs : List Str) : VP (List Int) where
  R := fun F v z => ∃ (x dx : Addr) (ps : List (Str × V)), v = .ref x ∧ F x = some (.ins C dx ps) ∧ ∀ (i : Nat) f n, fs[i]? = some f → z[i]? = some n → ps.lookup f = some (.int n)
  mono := fun hF h => let ⟨x, dx, ps, e1, h1, h2⟩ := h; ⟨x, dx, ps, e1, hF _ _ h1, h2⟩
theorem x_fldF {fs : List Str} {z : List Int} {n : Int} (j : Nat) (he : XV Y e Γ (val (pFl C fs) z)) (hA : At K C f) (hn : fs[j]? = some f := by rfl) (hz : z[j]? = some n := by rfl) (hb : ∀ i, attributeBase e f (Y.X i).env (eval e (Y.X i).env) = eval e (Y.X i).env := by intro _; rfl) : XV Y (.Attribute e f pos) Γ (vInt n) := by
  obtain ⟨t, pe, rd⟩ := he
  refine ⟨_, fun i => by have h := pe_fld (pos := pos) (pe i) (hb i); rw [Y.hK i] at h; exact h, fun B F H os σ Q I q => ?_⟩
  refine rd B F H os σ _ I fun v F1 H1 fp f1 e1 W1 p1 => ?_
  obtain ⟨rfl, x, dx, ps, rfl, h1, h2⟩ := val_P p1
  exact ⟨x, C, dx, _, .int n, rfl, W1.sub _ _ h1, hA.cl, hA.no, h2 j f n hn hz, q _ F1 H1 [] f1 e1 W1 ⟨rfl, _, rfl, rfl⟩⟩
inductive FlS (ns : List Str) (Δ : List Slot) : List Str → List Int → Prop
  | nil : FlS ns Δ [] []
  | cons {f : Str} {n : Int} {fs : List Str} {z : List Int} (j : Nat) (h1 : ns[j]? = some f) (h2 : Δ[j]? = some (vInt n)) (t : FlS ns Δ fs z) : FlS ns Δ (f :: fs) (n :: z)
theorem FlS.look {ns : List Str} {Δ : List Slot} {fs : List Str} {z : List Int} {F H : Hp} {os : List Addr} {vs : List V} (h : FlS ns Δ fs z) (nd : ns.Nodup) (hl : vs.length = ns.length) (S : Slots F H os (vs.map some) Δ) : ∀ (i : Nat) f n, fs[i]? = some f → z[i]? = some n → (ns.zip vs).lookup f = some (.int n) := by
  induction h with
  | nil => intro i f n e; simp at e
  | @cons f0 n0 fs z j h1 h2 t ih =>
    intro i f n e1 e2
    cases i with
    | succ i => exact ih i f n (by simpa using e1) (by simpa using e2)
    | zero =>
      simp at e1 e2
      subst e1; subst e2
      obtain ⟨o, fp, r, e3, p3, _, _⟩ := S.at h2
      obtain ⟨_, v', ev, rv⟩ := p3
      subst ev
      cases rv
      rw [List.getElem?_map] at e3
      obtain ⟨y, hy, ey⟩ := Option.map_eq_some_iff.mp e3
      cases ey
      exact zip_lookup nd hl h1 hy
/-- o.m(e, ..) of a method that reads ints of o only, the answer without heap -/
theorem x_methF {ι ρ : Type} {As : ι → List Slot} {m : ι → Option ρ} {pr : VP ρ} {args Cs : List Slot} {z : ι} {u : ρ} {j : Nat} {g : Addr} {fd : FuncData} {ps fs : List Str} {zs : List Int} {apos : Pos} {pl : Y.I → Sem Bool}
    (Fn : FnOk P w K mg base CX0 j g fd ps (spP As m (val pr))) (hfl : Flat pr) (hj : j ≤ k) (hc : Cls K C) (hm : Meth K C f g) (hb : Binds K fd ps []) (ho : XV Y eo Γ s) (hov : OV s C ns Δ) (hF : FlS ns Δ fs zs) (ha : XA Y (e :: es) Γ args) (hargs : ∀ F H (vs : List V), Same F H → Slots F H [] (vs.map some) args → Slots H H [] (vs.map some) Cs) (hno : NoOwn args) (hAs : As z = val (pFl C fs) zs :: Cs) (hq : m z = some u) (hns : ns.contains f = false := by decide +kernel) (nd : ns.Nodup := by decide +kernel)
    (hst : ∀ i, starEach (e :: es) (Y.X i).env = (false, eval e (Y.X i).env) :: starEach es (Y.X i).env := by intro _; rfl) (hpl : ∀ i, (backTo pos (starEach es (Y.X i).env)).any (·.1) = false := by intro _; rfl)
    (ht : ∀ i, eval (.Call (.Attribute eo f apos) (e :: es) [] pos) (Y.X i).env = (do
      let ov ← eval eo (Y.X i).env
      standAt apos.atName
      let (f, first) ← holding [ov] (getMethod ov f (pl i))
      callWith pos f first (backTo pos (starEach (e :: es) (Y.X i).env)) (backToKw pos (keywordEach [] (Y.X i).env))) := by intro _; rfl) (hcm : Y.cm = true := by rfl) : XV Y (.Call (.Attribute eo f apos) (e :: es) [] pos) Γ (val pr u) := by
  obtain ⟨to, po, ro⟩ := ho
  obtain ⟨t, pa, rd⟩ := ha
  have FF : ∀ i, FnOk (Y.X i).prog (Y.X i).w (Y.X i).K (Y.X i).mg (Y.X i).base CX0 j g fd ps (spP As m (val pr)) := fun i => by rw [Y.hP i, Y.hw i, Y.hK i, Y.hM i, Y.hB i]; exact Fn
  refine ⟨_, fun i => pe_meth (pl := pl i) (po i) (by rw [Y.hK i]; exact hc) (by rw [Y.hK i]; exact hm) (FF i) ((Y.hR hcm i).mono hj) (by rw [Y.hK i]; exact hb) .nil pass0 (pa i) (hst i) (hpl i) (ht i), fun B F H os σ Q I kk => ?_⟩
  refine ro B F H os σ _ I fun v0 F1 H1 fp0 f1 e1 W1 p1 => ?_
  obtain ⟨x, dx, vs, o2, ev, h1, h3, h4⟩ := hov F1 H1 fp0 _ W1.sub p1
  cases ev
  refine ⟨x, dx, _, rfl, h1, lookup_no hns, ?_⟩
  refine rd B F1 H1 _ σ _ (I.step f1 e1 W1) fun ws F2 H2 fp f2 e2 W2 S2 => ?_
  obtain rfl := hno.nil S2
  rw [List.append_nil]
  have W2' : Wo B F2 H2 (fp0 ++ os) := W2
  refine ⟨z, u, H2, hq, same_refl, ?_, fun v F3 H3 fp W3 p3 => ?_⟩
  · rw [hAs]
    exact Slots.cons (fp := []) ⟨rfl, _, rfl, x, dx, _, rfl, e2 _ _ h1, hF.look nd h3 h4⟩ (hargs F2 H2 ws W2'.sub S2)
  · have hH : Same H2 H3 := fun a o e => W3.bH a o e (by simp)
    have W := W2'.drop
    have W4 : Wo B F2 H3 os := ⟨W.sub.trans hH, W.nd, W.oF, fun a ha => let ⟨o, ho⟩ := W.oH a ha; ⟨o, hH a o ho⟩, W.bF, fun a o e hb => hH a o (W.bH a o e hb), W.bN, W.bO⟩
    exact kk v F2 H3 [] (f1.trans f2) ((e1.trans e2).trans hH) W4 ⟨rfl, v, rfl, hfl _ _ _ _ (val_P p3).2⟩
/-! ### tuples of things of several kinds -/
def pHT (sl : α → List Slot) : VP α where
  R := fun F v z => ∃ l vs, v = .ref l ∧ F l = some (.tup vs) ∧ Slots F F [] (vs.map some) (sl z)
  mono := fun hF h => let ⟨l, vs, e1, h1, h2⟩ := h; ⟨l, vs, e1, hF _ _ h1, h2.mono hF hF⟩
theorem x_tupH {sl : α → List Slot} {z : α} {n : Nat} (ha : XA Y es Γ (sl z)) (hv : AllV (sl z)) (hz : (sl z).length ≤ sizeLine) : XV Y (.Tuple es n pos) Γ (val (pHT sl) z) := by
  obtain ⟨t, pa, rd⟩ := ha
  refine ⟨_, fun i => pe_tup (pa i), fun B F H os σ Q I kk => ?_⟩
  refine rd B F H os σ _ I fun vs F1 H1 fp f1 e1 W1 S1 => ?_
  obtain ⟨rfl, S2⟩ := hv.no S1
  refine ⟨by have := S1.length; rw [List.length_map] at this; rw [this]; exact hz, fun p' hl => newF (r := val (pHT sl) z) W1 hl (fun F' f e => ⟨rfl, _, rfl, p', vs, rfl, e, S2.mono f f⟩) fun v F' H' fp' f2 e2 => kk v F' H' fp' (f1.trans f2) (e1.trans e2)⟩
theorem x_ixHT {sl : α → List Slot} {z : α} (n : Nat) (ha : XV Y ea Γ (val (pHT sl) z)) (hb : XV Y eb Γ (vInt (n : Int))) (hs : (sl z)[n]? = some s) (hx : PlainIx eb := by exact fun _ _ => rfl) : XV Y (.Subscript ea eb pos) Γ s := by
  obtain ⟨ta, pa, ra⟩ := ha
  obtain ⟨tb, pb, rb⟩ := hb
  refine ⟨_, fun i => by have h := ix_tup (X := Y.X i); rw [Y.hK i] at h; exact pe_ix h (pa i) (pb i) hx, fun B F H os σ Q I q => ?_⟩
  refine two (Q := fun _ _ => True) I ra rb fun x y F2 H2 fx fy f2 e2 W2 p1 p2 => ?_
  obtain rfl := vint p2
  obtain ⟨_, l, vs, rfl, h1, h2⟩ := val_P p1
  obtain ⟨v, hv, sv⟩ := h2.nilAt hs
  exact ⟨l, vs, n, v, rfl, rfl, SqT.of (W2.sub _ _ h1), atI_nat hv, q v F2 H2 [] f2 e2 W2.drop.drop (s.mono same_refl W2.sub sv)⟩
end
end Ty

/-! Ty26 -/
/-! several except clauses that name the error -/
namespace Ty
open PySem PySem.Spec L2 PyProof.Rows
abbrev TsH := Addr → Value → Option Addr → TS
/-- clauses 'except x as n: ..' one after the other, with what they wish -/
inductive ClsAs (X : Cx) (D : Ends) (Wo : WX) : List ExceptHandler → WX → Prop
  | nil : ClsAs X D Wo [] Wo
  | cons {x n : Str} {c : Value} {i : Nat} {ts : TsH} {b₀ : Stmt} {suite : List Stmt} {np q : Pos} {hs : List ExceptHandler} {W : WX} (hc : Names X x c) (hi : X.N[i]? = some n) (hl : X.env.kindOf n = some .local)
      (hsu : ∀ (a : Addr) (oe : Obj) (cls : Value) (d : Option Addr) (pn : List (Addr × Obj)), Zc cls d oe → (∃ vs, oe.data = .fields vs) → PSs (X.suite a ((a, oe) :: pn)) (b₀ :: suite) (ts a cls d)) (r : ClsAs X D Wo hs W) :
      ClsAs X D Wo (.ExceptHandler (some (.Name x np)) (some n) (b₀ :: suite) q :: hs) (wAs X.K c i ts W D)
section
variable {X : Cx} {body : List Stmt} {h0 : ExceptHandler} {hr : List ExceptHandler} {pos : Pos} {tb : WX → TS} {Wout : WX} {Wf : Ends → WX}
theorem ps_try_asL (sk : X.stack = X.env :: X.outer) (fr : X.env.frame = some X.env.locals) (nd : X.N.Nodup) (tk : Takes X Wout)
    (hbody : ∀ (W : WX) (pn : List (Addr × Obj)) (xe : Value → Shared → Prop), Takes (X.tr pn xe) W → PassesOwn (model X.prog X.w) X.A X.env xe → PSs (X.tr pn xe) body (tb W))
    (cl : ∀ D, ClsAs X D Wout (h0 :: hr) (Wf D)) : PS X (.Try body (h0 :: hr) [] [] pos) (fun D σ H => tb (Wf D) D σ H) := by
  refine ⟨fun pins s σ H D J0 want => ?_⟩
  have okX := J0.ok
  have frs0 : X.A.frames = some (X.env :: X.outer) := by rw [okX.frames, sk]
  refine wpAny_Try_except ?_
  refine wpAny_mono ((hbody (Wf D) (X.pn ++ pins) (fun e t1 => wpAny (model X.prog X.w) X.A (noteFrame e X.env) (fun _ t2 => wpAny (model X.prog X.w) X.A (setFlight e none) (fun _ t3 =>
    wpAny (model X.prog X.w) X.A (handleBy e X.env (h0 :: hr)) (SP X pins D) X.xe t3) X.xe t2) X.xe t1) (fun u t0 caught => ?_) PassesOwn.looking).run [] s σ H D (J0.toTry _) want) (fun fl t1 done => ?_) (fun e t1 he => he)
  · obtain ⟨a, B, sI, pins', σ1, H1, cls, d, rfl, Jt, nb, up, sky0, na, os, ag, wished⟩ := caught
    have J1 : Inv X pins σ1 H1 sI := Jt.ofTry okX
    have sky1 : Sky B (X.env :: X.outer) a (Zc cls d) X.env.locals t0.heap := by rw [← sk]; exact sky0
    show wpAny (model X.prog X.w) X.A (noteFrame (.ref a) X.env) _ _ _
    refine Sky.land Zc.steady frs0 fr sky1 fun g3 land3 up3 => ?_
    have J3 : Inv X pins σ1 H1 { t0 with heap := g3 } := J1.landed nb land3.1 (up.trans up3) os ag
    obtain ⟨o3, v3, get3, zc3, dat3⟩ := land3.there
    have noFrame : ∀ {h : Heap} {o : Obj} {vs : Array Value}, h.FunFrames B (X.env :: X.outer) → h.get? a = some o → o.data = .fields vs → a ∉ frs (X.env :: X.outer) := fun {h o vs} ff e dd hm => by
      obtain ⟨_, ob, eb, isn⟩ := ff.mem hm
      rw [e] at eb; cases eb
      exact isn _ dd
    have na1 := noFrame land3.2.2.1 get3 dat3
    have aL : a ≠ X.env.locals := fun z => na1 (List.mem_filterMap.mpr ⟨X.env, List.mem_cons_self, by rw [fr, z]⟩)
    have aF : a ∉ X.fs := fun hm => by
      obtain ⟨e, he, q⟩ := List.mem_filterMap.mp hm
      exact na1 (List.mem_filterMap.mpr ⟨e, List.mem_cons_of_mem _ he, q⟩)
    have Q3 := J3.suite get3 dat3 na aL aF
    have each : ∀ {hs2 : List ExceptHandler} {W2 : WX}, ClsAs X D Wout hs2 W2 → W2 cls d σ1 H1 → wpAny (model X.prog X.w) X.A (handleBy (.ref a) X.env hs2) (SP X pins D) X.xe { t0 with heap := g3 } := by
      intro hs2 W2 hk
      induction hk with
      | nil =>
        intro w
        refine wpAny_handleBy_nil ?_
        obtain ⟨_, _, _, ob, vs, T, oT, tT, gob, zob, dob, fob, _⟩ := id land3
        unfold PySem.passOn
        refine wpAny_bind (wpAny_field gob dob fob ?_)
        rw [if_neg (show ¬ ((Value.ref T == Value.none) = true) by simp)]
        have last : wpAny (model X.prog X.w) X.A (setFlight (.ref a) X.env.frame) (fun _ t4 => wpAny (model X.prog X.w) X.A (throw (.ref a) : Sem Flow) (SP X pins D) X.xe t4) X.xe { t0 with heap := g3 } := by
          rw [fr]
          refine HandSPX.setFlight_upZ land3 fun g4 in4 up4 => wpAny_throw (tk _ _ ?_)
          exact ⟨a, B, sI, pins, σ1, H1, cls, d, rfl, J1, nb, (up.trans up3).trans up4, .inr (.inr (by rw [sk]; exact in4)), na, os, ag, w⟩
        first
          | exact wpAny_bind (wpAny_pure (wpAny_bind last))
          | exact wpAny_bind last
      | @cons x n c i ts b₀ suite np q hs3 W3 hc hi hl hsu _ ih =>
        rintro ⟨b, isx, yes, no⟩
        refine wpAny_handleBy_cons (codeAny_handlers_test ?_) (by intro q; cases q)
        have kindA : PySem.W.Looks (model X.prog X.w) g3 (typeOf (.ref a)) cls := fun A Q E s k q => wpAny_typeOf_ref (k _ _ get3) (by rw [zc3.1]; exact q)
        have matchA := PySem.W.exm_one (M := model X.prog X.w) (J3.kIn) kindA isx
        have named : ∀ {Q : Value → Shared → Prop} {E : Value → Shared → Prop}, Q c { t0 with heap := g3 } → wpAny (model X.prog X.w) (X.A.mark (some (.ref a))) (eval (.Name x np) X.env) Q E { t0 with heap := g3 } := fun {Q E} q => by
          obtain ⟨g1, g2, m1 | ⟨m1, m2, m3⟩⟩ := hc
          · exact ld_glob (X := X.suite a ((a, o3) :: (X.pn ++ pins))) Q3 g1 m1 q g2
          · exact ld_blt (X := X.suite a ((a, o3) :: (X.pn ++ pins))) Q3 g1 m1 m2 q m3 g2
        refine named (matchA.here ?_)
        cases b with
        | false =>
          show wpAny _ X.A (handleBy (.ref a) X.env hs3) _ _ _
          exact ih (no rfl)
        | true =>
          refine codeAny_handlers_suite_as ?_
          refine HandSPX.lands_againZ land3 fun g4 land4 up4 => ?_
          have J4 : Inv X pins σ1 H1 { t0 with heap := g4 } := J1.landed nb land4.1 ((up.trans up3).trans up4) os ag
          obtain ⟨o4, v4, get4, zc4, dat4⟩ := land4.there
          have Q4 := J4.suite get4 dat4 na aL aF
          refine store_ok (X := X.suite a ((a, o4) :: (X.pn ++ pins))) (v := .ref a) Q4 nd hi (.inl hl) rfl (fun t5 Q5 => ?_) (.inr hl)
          refine wpAny_mono ((hsu a o4 cls d (X.pn ++ pins) zc4 ⟨_, dat4⟩).run [] t5 _ H1 _ Q5 (yes rfl a na)) (fun fl t6 ends => ?_) (fun _ _ z => False.elim z)
          have away : ∀ {σ6 : L2.St} {H6 : Hp} {Q : Shared → Prop}, Inv (X.suite a ((a, o4) :: (X.pn ++ pins))) [] σ6 H6 t6 → (∀ t7, Inv X pins (σ6.set i none) H6 t7 → Q t7) →
              wpAny (model X.prog X.w) X.A (do bindName X.env n .none; unbindBehindTheSuite X.env n q) (fun _ t7 => Q t7) X.xe t6 := fun {σ6 H6 Q} Q6 hq => gone_ok (Q6.unsuite okX) nd hi hl hq
          cases fl with
          | next =>
            obtain ⟨_, _, Q6, q6⟩ := ends
            exact away Q6 fun t7 J7 => ⟨_, _, J7, q6⟩
          | brk =>
            obtain ⟨_, _, Q6, q6⟩ := ends
            exact away Q6 fun t7 J7 => ⟨_, _, J7, q6⟩
          | cont =>
            obtain ⟨_, _, Q6, q6⟩ := ends
            exact away Q6 fun t7 J7 => ⟨_, _, J7, q6⟩
          | ret u =>
            obtain ⟨_, _, _, Q6, r6, q6⟩ := ends
            exact away Q6 fun t7 J7 => ⟨_, _, _, J7, r6, q6⟩
    exact each (cl D) wished
  · cases fl with
    | next =>
      obtain ⟨_, _, Jd, q⟩ := done
      exact wpAny_execs_nil ⟨_, _, Jd.ofTry okX, q⟩
    | brk =>
      obtain ⟨_, _, Jd, q⟩ := done
      exact ⟨_, _, Jd.ofTry okX, q⟩
    | cont =>
      obtain ⟨_, _, Jd, q⟩ := done
      exact ⟨_, _, Jd.ofTry okX, q⟩
    | ret u =>
      obtain ⟨_, _, _, Jd, r, q⟩ := done
      exact ⟨_, _, _, Jd.ofTry okX, r, q⟩
end
section
variable {P : Program} {w : World} {K : PySem.W.Frag} {mg : Str → Option Value} {base : Heap} {k : Nat}
variable {Y : Fa P w K mg base k} {i : Y.I} {rest body s1 s2 : List Stmt} {b1 b2 : Stmt} {Γ : List Slot} {pos q1 q2 np1 np2 : Pos} {B : Bs} {D : Ends} {x1 x2 n1 n2 : Str}
/-- the wish of a try of two clauses -/
abbrev W2 (Y : Fa P w K mg base k) (i : Y.I) (c1 c2 : Value) (j1 j2 : Nat) (t1 t2 : List Stmt) (D : Ends) : WX := wAs K c1 j1 (tsC Y i t1) (wAs K c2 j2 (tsC Y i t2) Y.W D) D
theorem go_try_as2 {c1 c2 : Value} (j1 j2 : Nat) (h1 : Names (Y.X i) x1 c1) (h2 : Names (Y.X i) x2 c2)
    (hb : ∀ j : (Y.tr (W2 Y i c1 c2 j1 j2 (b1 :: s1) (b2 :: s2) { D with nx := cont (Y.X i) rest D })).I, j.1.1 = i → Go (Y.tr (W2 Y i c1 c2 j1 j2 (b1 :: s1) (b2 :: s2) { D with nx := cont (Y.X i) rest D })) j body { D with nx := cont (Y.X i) rest D } B Γ)
    (sk : (Y.X i).stack = (Y.X i).env :: (Y.X i).outer := by rfl) (fr : (Y.X i).env.frame = some (Y.X i).env.locals := by rfl) (hi1 : (Y.X i).N[j1]? = some n1 := by rfl) (hl1 : (Y.X i).env.kindOf n1 = some .local := by rfl) (hi2 : (Y.X i).N[j2]? = some n2 := by rfl) (hl2 : (Y.X i).env.kindOf n2 = some .local := by rfl) :
    Go Y i (.Try body [.ExceptHandler (some (.Name x1 np1)) (some n1) (b1 :: s1) q1, .ExceptHandler (some (.Name x2 np2)) (some n2) (b2 :: s2) q2] [] [] pos :: rest) D B Γ := by
  refine go_ps (ps_try_asL (tb := tbC Y i body) (Wf := fun D => W2 Y i c1 c2 j1 j2 (b1 :: s1) (b2 :: s2) D) sk fr (Y.hN i) (Y.tk i) (fun W pn xe tk po => ⟨fun pins s σ H D I h => h pn xe tk po pins s I⟩) (fun D => ?_)) fun F H σ S => ?_
  · have r2 := ClsAs.cons (X := Y.X i) (D := D) (Wo := Y.W) (ts := tsC Y i (b2 :: s2)) (np := np2) (q := q2) h2 hi2 hl2 (fun a oe cls d pn hz hf => ⟨fun pins s σ H D I h => h oe pn hz hf pins s I⟩) .nil
    have r1 := ClsAs.cons (X := Y.X i) (D := D) (Wo := Y.W) (ts := tsC Y i (b1 :: s1)) (np := np1) (q := q1) h1 hi1 hl1 (fun a oe cls d pn hz hf => ⟨fun pins s σ H D I h => h oe pn hz hf pins s I⟩) r2
    rw [Y.hK i] at r1
    exact r1
  · intro pn xe tk po
    exact hb ⟨(i, pn, xe), tk, po⟩ rfl F H σ S
end
end Ty

/-! Ty27 -/
/-! == and != by an own __eq__; isinstance with an own class -/
namespace Ty
open PySem PySem.Spec L2 PyProof.Rows
section
variable {X : Cx} {CX : CXT} {n : Nat} {f C : Addr} {fd : FuncData} {ps : List Str} {sp : Sp} {E : XK} {pins : List (Addr × Obj)} {σ : L2.St} {H : Hp} {s : Shared}
/-- what an instance of C is compared with -/
inductive Oth (K : PySem.W.Frag) (C : Addr) (H : Hp) : V → Prop
  | ins {a dx : Addr} {fs : List (Str × V)} (h : H a = some (.ins C dx fs)) : Oth K C H (.ref a)
  | int {i : Int} (h : PySem.W.subIn K (.type "int") (.ref C) = some false) : Oth K C H (.int i)
theorem Oth.looks (I : Inv X pins σ H s) {y : V} {u : Value} (o : Oth X.K C H y) (r : RelV y u) : ∃ tb, PySem.W.Looks (model X.prog X.w) s.heap (typeOf u) tb ∧ PySem.W.notFirst X.K C tb = true := by
  cases o with
  | ins h =>
    cases r
    obtain ⟨mB, J, _⟩ := ins_get I.hok h
    obtain ⟨od, J, _⟩ := J.look
    exact ⟨_, J.type, by simp [PySem.W.notFirst]⟩
  | int h =>
    obtain ⟨t, rfl⟩ := r
    exact ⟨.type "int", fun A Q E s k q => wpAny_typeOf (show s.TypeIs (.int _ t) "int" from rfl) q, by simp [PySem.W.notFirst, h]⟩
/-- the own == is asked -/
theorem own_call {A : Around} (F : FnOk X.prog X.w X.K X.mg X.base CX n f fd ps sp) (hb : Binds X.K fd ps []) (hx : Passes CX X E) (sb : Sub X n A) (I : Inv X pins σ H s) {a : Addr} {y : V} {u : Value} (ry : RelV y u) {Q : VK}
    (h : sp [.ref a, y] H (fun v H' => ∃ b, v = .bl b ∧ Q (.bl b) H') E) : wpAny (model X.prog X.w) A (call (.ref f) [.ref a, u]) (fun v s' => ∃ b H', v = .bool b ∧ Inv X pins σ H' s' ∧ Q (.bl b) H') X.xe s := by
  have e0 : Env0 X.prog X.w X.K X.mg X.base A X.stack s H := by
    have e := I.env0
    exact ⟨(by rw [sb.fr]; exact e.frames), e.mod, e.bs, e.bsz, e.funs, e.frf, e.hok, e.bare⟩
  have hl := F.len _ _ _ _ h
  have r2 : Vals [V.ref a, y] [Value.ref a, u] := .cons rfl (.cons ry .nil)
  have hb' := hb s [.ref a, u] I.kIn (by simpa using hl)
  rw [List.append_nil] at hb'
  refine wpAny_call (codeAny_mono (F.run A X.stack s H ⟨[.ref a, u], []⟩ [.ref a, u] [.ref a, y] _ E sb.room e0 hb' r2 h) fun r s' hq => ?_)
  cases r with
  | error e => exact hx pins σ H s e s' I hq
  | ok fl =>
    cases fl with
    | ret w =>
      obtain ⟨z, H', I', rz, b, ez, q⟩ := I.after hq
      subst ez
      cases rz
      exact ⟨b, H', rfl, I', q⟩
    | next => exact False.elim hq
    | brk => exact False.elim hq
    | cont => exact False.elim hq
def rOwn (K : PySem.W.Frag) (C : Addr) (sp : Sp) (E : XK) (g : Bool → Bool) : R2 := fun x y H Q => ∃ (a dx : Addr) (fs : List (Str × V)), x = .ref a ∧ H a = some (.ins C dx fs) ∧ Oth K C H y ∧ sp [x, y] H (fun v H' => ∃ b, v = .bl b ∧ Q (.bl (g b)) H') E
theorem op_ownEq (F : FnOk X.prog X.w X.K X.mg X.base CX n f fd ps sp) (hs : PySem.W.findIn X.K (.ref C) "__eq__" = some (some (.ref f))) (hf : PySem.W.isFn X.K (.ref f) = true) (hb : Binds X.K fd ps []) (hx : Passes CX X E) (hr : Room n X.A) :
    OpR X (compareOp .Eq) (rOwn X.K C sp E id) := by
  intro pins s σ H x y v u Q I rx ry hq
  obtain ⟨a, dx, fs, rfl, ha, oy, h⟩ := hq
  cases rx
  obtain ⟨mA, J, _⟩ := ins_get I.hok ha
  obtain ⟨od, J, _⟩ := J.look
  obtain ⟨m, hF⟩ := I.fr
  obtain ⟨tb, hT, hn⟩ := oy.looks I ry
  show wpAny (model X.prog X.w) X.A (richCompare .Eq (.ref a) u) (EP X pins σ Q) X.xe s
  refine PySem.W.cmp_K (op := .Eq) hr.units0 hF I.ok.mod.kin J hT hn hs hf ?_
  refine wpAny_mono (own_call F hb hx ⟨hr, rfl⟩ I ry h) (fun w s' z => ?_) fun _ _ e => e
  obtain ⟨b, H', rfl, I', q⟩ := z
  exact ⟨.bl b, H', I', rfl, q⟩
section
variable {M : Model} {prog : Program} {w : World} {A : Around} {E : Value → Shared → Prop} {s : Shared} {K : PySem.W.Frag} {x C f : Addr} {ox : Obj} {od : Option Obj} {b : Value}
theorem ifBound_ne {args : List Value} {Q : Option Value → Shared → Prop} (X : K.In s.heap) (I : PySem.W.InstAt s.heap x ox C od) (hs : PySem.W.findIn K (.ref C) "__ne__" = some (some (.builtin "object.__ne__")))
    (h : wpAny M A (call (.builtin "object.__ne__") (.ref x :: args)) (fun v => Q (some v)) E s) : wpAny M A (callSpecialIfBound? (.ref x) "__ne__" args) Q E s := by
  simp only [callSpecialIfBound?, bindSpecialIfBound?]
  refine wpAny_holding (wpAny_bind (wpAny_bind (wpAny_bind (I.type.here ((PySem.W.looks_findIn X hs).here ?_)))))
  refine wpAny_bind (wpAny_askSetting (wpAny_ite ?_))
  have last : wpAny M A (call (.builtin "object.__ne__") ([.ref x] ++ args) >>= fun v => pure (some v)) Q E s := wpAny_bind (wpAny_mono h (fun v s' h' => wpAny_pure h') fun _ _ h' => h')
  split
  · exact wpAny_bind (wpAny_of_eq (F.cmp_object.ne.bind _) (wpAny_pure (by exact last)))
  · exact wpAny_tryCatch (wpAny_bind (wpAny_of_eq (F.cmp_object.ne.bind _) (wpAny_pure (by exact last))))
theorem entry_ne {Q : Fin → Shared → Prop} (hu : A.units < cLine) (X : K.In s.heap) (I : PySem.W.InstAt s.heap x ox C od) (hs : PySem.W.findIn K (.ref C) "__eq__" = some (some (.ref f))) (hf : PySem.W.isFn K (.ref f) = true)
    (h : wpAny (model prog w) A (call (.ref f) [.ref x, b]) (fun v s' => ∃ z, v = .bool z ∧ Q (.done (.ret (.bool (!z)))) s') E s) : wpAny (model prog w) A (Builtin.«object.__ne__» ⟨[.ref x, b], []⟩) Q E s := by
  unfold Builtin.«object.__ne__»
  repeat (first
    | with_reducible refine wpAny_cRoomFor hu ?_
    | (refine wpAny_bind (m := callSpecialIfBound? (.ref x) (Str.ofString "__eq__") [b]) (PySem.W.ifBound_K X I hs hf (wpAny_mono h (fun r s' hr => by
          obtain ⟨z, rfl, hq⟩ := hr
          repeat (first | exact hq | exact wpAny_pure hq | exact wpAny_truthy_bool hq | (refine wpAny_bind (m := truthy (.bool _)) (wpAny_truthy_bool ?_)) | wp_step)) fun _ _ e => e)))
    | wp_step)
end
theorem op_ownNe (Fn : FnOk X.prog X.w X.K X.mg X.base CX n f fd ps sp) (hs : PySem.W.findIn X.K (.ref C) "__eq__" = some (some (.ref f))) (hf : PySem.W.isFn X.K (.ref f) = true) (hne : PySem.W.findIn X.K (.ref C) "__ne__" = some (some (.builtin "object.__ne__"))) (hm : PySem.W.mroIn X.K C (.type "object") = some true)
    (hb : Binds X.K fd ps []) (hx : Passes CX X E) (hr : Room (n + 1) X.A) (hsp : ∀ vs H (Q Q' : VK), sp vs H Q E → (∀ v H', Q v H' → Q' v H') → sp vs H Q' E) : OpR X (compareOp .NotEq) (rOwn X.K C sp E not) := by
  intro pins s σ H x y v u Q I rx ry hq
  obtain ⟨a, dx, fs, rfl, ha, oy, h⟩ := hq
  cases rx
  obtain ⟨mA, J, _⟩ := ins_get I.hok ha
  obtain ⟨od, J, _⟩ := J.look
  obtain ⟨tb, hT, hn⟩ := oy.looks I ry
  have h' : sp [.ref a, y] H (fun v H' => ∃ b, v = .bl b ∧ ∃ b', (V.bl b) = .bl b' ∧ Q (.bl (!b')) H') E := hsp _ _ _ _ h fun v H' ⟨b, e, q⟩ => ⟨b, e, b, rfl, q⟩
  have one : wpAny (model X.prog X.w) X.A (tryCompare (.ref a) "__ne__" u) (fun r s' => ∃ z H', r = some (.bool (!z)) ∧ Inv X pins σ H' s' ∧ Q (.bl (!z)) H') X.xe s := by
    unfold tryCompare
    refine wpAny_bind (ifBound_ne I.kIn J hne (wpAny_call (codeAny_call_builtin F.cmp_object.ne.plain F.cmpEntry_ne (PySem.W.check_slot F.cmpKind_ne F.cmpSplit_ne (J.type.andThen (PySem.W.looks_mroIn I.kIn hm)) (F.cmpArgs_ne _ _) (entry_ne hr.in1.units0 I.kIn J hs hf ?_)))))
    refine wpAny_mono (own_call (Q := fun v H' => ∃ b, v = .bl b ∧ Q (.bl (!b)) H') Fn hb hx ⟨hr.in1, rfl⟩ I ry h') (fun w s' z => ?_) fun _ _ e => e
    obtain ⟨b, H', rfl, I', b', eb, q⟩ := z
    cases eb
    first
      | exact ⟨b, rfl, wpAny_pure ⟨b, H', rfl, I', q⟩⟩
      | exact ⟨b, rfl, wpAny_pure (wpAny_pure ⟨b, H', rfl, I', q⟩)⟩
      | exact ⟨b, rfl, b, H', rfl, I', q⟩
  show wpAny (model X.prog X.w) X.A (richCompare .NotEq (.ref a) u) (EP X pins σ Q) X.xe s
  unfold richCompare
  simp only [oneThing_ref]
  refine wpAny_holding (wpAny_bind (wpAny_cRoomFor hr.units0 ?_))
  refine wpAny_bind (J.type.here (wpAny_bind (hT.here ?_)))
  split
  · rename_i z
    have e : PySem.W.subIn X.K tb (.ref C) = some false := by
      rcases Bool.or_eq_true_iff.mp hn with e | e
      · rw [beq_iff_eq.mp e] at z; simp at z
      · exact beq_iff_eq.mp e
    refine wpAny_bind ((PySem.W.looks_subIn I.kIn e).here ?_)
    simp only [Bool.false_eq_true, if_false]
    refine wpAny_bind (wpAny_mono one (fun r s' z => ?_) fun _ _ e => e)
    obtain ⟨z, H', rfl, I', q⟩ := z
    exact wpAny_pure ⟨.bl (!z), H', I', rfl, q⟩
  · refine wpAny_bind (wpAny_pure ?_)
    simp only [Bool.false_eq_true, if_false]
    refine wpAny_bind (wpAny_mono one (fun r s' z => ?_) fun _ _ e => e)
    obtain ⟨z, H', rfl, I', q⟩ := z
    exact wpAny_pure ⟨.bl (!z), H', I', rfl, q⟩
end
section
variable {P : Program} {w : World} {K : PySem.W.Frag} {mg : Str → Option Value} {base : Heap} {k : Nat}
variable {Y : Fa P w K mg base k} {Γ : List Slot} {a b s : Slot} {C C' : Addr} {ns : List Str} {α β : Type} {q : VP β} {f : Addr} {fd : FuncData} {ps : List Str} {As : α × β → List Slot} {m : α × β → Option Bool} {j : Nat}
abbrev E0' : XK := fun _ _ _ => False
theorem c_ownEq (Fn : FnOk P w K mg base CX0 j f fd ps (spP As m (val pBl))) (hj : j ≤ k) (hs : PySem.W.findIn K (.ref C) "__eq__" = some (some (.ref f))) (hf : PySem.W.isFn K (.ref f) = true) (hb : Binds K fd ps []) (hcm : Y.cm = true := by rfl) :
    ∀ i, OpR (Y.X i) (compareOp .Eq) (rOwn K C (spP As m (val pBl)) E0' id) := fun i => by
  have FF : FnOk (Y.X i).prog (Y.X i).w (Y.X i).K (Y.X i).mg (Y.X i).base CX0 j f fd ps (spP As m (val pBl)) := by rw [Y.hP i, Y.hw i, Y.hK i, Y.hM i, Y.hB i]; exact Fn
  have h := op_ownEq (C := C) (E := E0') FF (by rw [Y.hK i]; exact hs) (by rw [Y.hK i]; exact hf) (by rw [Y.hK i]; exact hb) pass0 ((Y.hR hcm i).mono hj)
  rw [Y.hK i] at h
  exact h
theorem c_ownNe (Fn : FnOk P w K mg base CX0 j f fd ps (spP As m (val pBl))) (hj : j + 1 ≤ k) (hs : PySem.W.findIn K (.ref C) "__eq__" = some (some (.ref f))) (hf : PySem.W.isFn K (.ref f) = true) (hne : PySem.W.findIn K (.ref C) "__ne__" = some (some (.builtin "object.__ne__"))) (hm : PySem.W.mroIn K C (.type "object") = some true) (hb : Binds K fd ps []) (hcm : Y.cm = true := by rfl) :
    ∀ i, OpR (Y.X i) (compareOp .NotEq) (rOwn K C (spP As m (val pBl)) E0' not) := fun i => by
  have FF : FnOk (Y.X i).prog (Y.X i).w (Y.X i).K (Y.X i).mg (Y.X i).base CX0 j f fd ps (spP As m (val pBl)) := by rw [Y.hP i, Y.hw i, Y.hK i, Y.hM i, Y.hB i]; exact Fn
  have h := op_ownNe (C := C) (E := E0') FF (by rw [Y.hK i]; exact hs) (by rw [Y.hK i]; exact hf) (by rw [Y.hK i]; exact hne) (by rw [Y.hK i]; exact hm) (by rw [Y.hK i]; exact hb) pass0 ((Y.hR hcm i).mono hj) fun vs H Q Q' hq imp => by
    obtain ⟨z, r, F, h1, h2, h3, h4⟩ := hq
    exact ⟨z, r, F, h1, h2, h3, fun v F' H' fp W p => imp v H' (h4 v F' H' fp W p)⟩
  rw [Y.hK i] at h
  exact h
/-- what may stand on the right -/
def OthV (K : PySem.W.Frag) (C : Addr) (q : VP β) (z : β) : Prop := ∀ H v, q.R H v z → Oth K C H v
theorem OthV.obj {sl : β → List Slot} {z : β} : OthV K C (pObj C ns sl) z := fun H v h => by
  obtain ⟨x, dx, vs, rfl, h1, _⟩ := h
  exact .ins h1
theorem OthV.int {z : Int} (h : PySem.W.subIn K (.type "int") (.ref C) = some false) : OthV K C pInt z := fun H v e => by
  cases e
  exact .int h
theorem o_own {g : Bool → Bool} {sl : α → List Slot} {z : α × β} {r : Bool} (hA : As z = [val (pObj C ns sl) z.1, val q z.2]) (ha : Vw a (pObj C ns sl) z.1) (hb : Vw b q z.2) (ho : OthV K C q z.2) (hm : m z = some r) : Op2 (rOwn K C (spP As m (val pBl)) E0' g) a b (vBl (g r)) := fun B F H x y fx fy os Q W p1 p2 kk => by
  obtain ⟨x', ex, rx⟩ := ha F H fx _ W.sub p1
  obtain ⟨y', ey, ry⟩ := hb F H fy _ W.sub p2
  cases ex; cases ey
  obtain ⟨xa, dx, vs, rfl, h1, h3, h4⟩ := id rx
  refine ⟨xa, dx, _, rfl, h1, ho H y ry, z, r, H, hm, same_refl, ?_, fun v F2 H2 fp W2 p2 => ?_⟩
  · rw [hA]
    exact Slots.cons (fp := []) ⟨rfl, _, rfl, rx⟩ (Slots.cons (fp := []) ⟨rfl, _, rfl, ry⟩ .nil)
  · have hH : Same H H2 := fun a o e => W2.bH a o e (by simp)
    have W0 := W.drop.drop
    have W3 : Wo B F H2 os := ⟨W0.sub.trans hH, W0.nd, W0.oF, fun a ha => let ⟨o, ho⟩ := W0.oH a ha; ⟨o, hH a o ho⟩, W0.bF, fun a o e hb => hH a o (W0.bH a o e hb), W0.bN, W0.bO⟩
    obtain ⟨_, rv⟩ := val_P p2
    cases rv
    exact ⟨r, rfl, kk _ F H2 [] same_refl hH W3 ⟨rfl, _, rfl, rfl⟩⟩
/-! ### isinstance with an own class -/
def TyX' (K : PySem.W.Frag) (s : Slot) (t : Value) : Prop := ∀ F H fp o, Same F H → s.P F H fp o → ∃ v, o = some v ∧ TyX K H v t
structure IsC (K : PySem.W.Frag) (C : Addr) : Prop where
  cl : Cls K C
  ha : PySem.W.findIn K (.ref C) "__class__" = some (some (.builtin "object.__class__"))
  hn : PySem.W.specialIn K (.builtin "object.__class__") "__get__" = some (some (.builtin "getset_descriptor.__get__"))
  ht : PySem.W.takesIn K (.builtin "object.__class__") = some true
  hm : PySem.W.mroIn K C (.type "object") = some true
theorem TyX'.obj (c : IsC K C) {sl : α → List Slot} {z : α} : TyX' K (val (pObj C ns sl) z) (.ref C) := fun F H fp o hS h => by
  obtain ⟨_, v, e, x, dx, vs, rfl, h1, _⟩ := h
  exact ⟨_, e, .base (.ins (hS _ _ h1) c.cl c.ha c.hn c.ht c.hm)⟩
theorem TyX'.bobj (c : IsC K C) {Δ : List Slot} : TyX' K (bobj C ns Δ) (.ref C) := fun F H fp o hS h => by
  obtain ⟨_, x, dx, vs, os, e, h1, _⟩ := h
  exact ⟨_, e, .base (.ins h1 c.cl c.ha c.hn c.ht c.hm)⟩
theorem TyX'.of {T : String} (h : TyV K s T) : TyX' K s (.type T) := h
theorem o_isiC {t : Value} {z : Bool} (hs : TyX' K s t) (hz : PySem.W.kitOne K t (.ref C) = some z) : OpA (rIsi K) [s, val (pRef C) ()] (vBl z) := opA2 fun B F H x y fx fy os Q W p1 p2 kk => by
  obtain ⟨v, ev, ty⟩ := hs F H fx _ W.sub p1
  cases ev
  obtain ⟨_, r2⟩ := val_P p2
  cases r2
  exact ⟨x, _, t, .ref C, z, rfl, .own C, ty, hz, kk _ F H [] same_refl same_refl W.drop.drop ⟨rfl, _, rfl, rfl⟩⟩
theorem kit_self : PySem.W.kitOne K (.ref C) (.ref C) = some true := by
  unfold PySem.W.kitOne
  rw [if_pos (by simp)]
theorem kit_int {T : String} {z : Bool} (hi : PySem.W.isClsIn K C = true) (ht : PySem.W.typeIn K (.ref C) = some (.type "type")) (hs : PySem.W.subIn K (.type T) (.ref C) = some z) : PySem.W.kitOne K (.type T) (.ref C) = some z := by
  unfold PySem.W.isClsIn at hi
  unfold PySem.W.kitOne PySem.W.kitCls
  rw [if_neg (by simp)]
  show (if ((PySem.W.clsIn K C).isSome && PySem.W.typeIn K (.ref C) == some (.type "type")) = true then PySem.W.subIn K (.type T) (.ref C) else none) = some z
  rw [hi, ht, hs]; rfl
end
end Ty

/-! Ty28 -/
/-! lists of several kinds unpacked; data of any make walked and displayed; wide division; errors within subscripts -/
namespace Ty
open PySem PySem.Spec L2
section
variable {P : Program} {w : World} {K : PySem.W.Frag} {mg : Str → Option Value} {base : Heap} {k : Nat}
variable {Y : Fa P w K mg base k} {i : Y.I} {e ea eb eo ev tg iter elt : Expr} {es ifs : List Expr} {rest body : List Stmt} {Γ Γ' Γ1 Γ2 Δ Δ' As : List Slot} {a b c r s s' : Slot} {pos pos' : Pos} {B : Bs} {D : Ends} {x f : Str} {p' p2 : Pos} {C : Addr} {ns : List Str} {α β : Type} {p : VP α} {q : VP β} {xs : List α} {EX : ExT} {ex : Exn}
/-- [e, ..] of things of several kinds, none handed on -/
theorem x_lstA (ha : XA Y es Γ As) (hz : As.length ≤ sizeLine) : XV Y (.List es pos) Γ (lstS As) := by
  obtain ⟨t, pa, rd⟩ := ha
  refine ⟨_, fun i => pe_lst (pa i), fun B F H os σ Q I kk => ?_⟩
  refine rd B F H os σ _ I fun vs F1 H1 fp f1 e1 W1 A1 => ?_
  refine ⟨by have := A1.length; rw [List.length_map] at this; rw [this]; exact hz, fun n hn => ?_⟩
  exact kk _ F1 _ (n :: fp) f1 (e1.trans (same_upd hn)) (W1.newO hn) ⟨n, vs, fp, rfl, rfl, upd_same, A1.mono same_refl (same_upd hn)⟩
theorem slots_nil {F H : Hp} {vs : List V} {Δ : List Slot} (S : Slots F H [] (vs.map some) Δ) : vs.length = Δ.length := by
  have := S.length
  rw [List.length_map] at this
  exact this
/-- a, b, .. = such a list, frozen -/
theorem xg_lstH {sl : α → List Slot} {z : α} {n : Nat} {ws : List Nat} (h : XGs Y es ws (sl z) Γ Γ') (hn : ∀ i, (assignEach es (Y.X i).env).length = (sl z).length := by intro _; rfl) (hst : ∀ i, (assignEach es (Y.X i).env).findIdx? (·.1) = none := by intro _; rfl) (hcm : Y.cm = true := by rfl) :
    XG Y (.Tuple es n pos) ws (val (pH sl) z) Γ Γ' := by
  obtain ⟨kk, g, pp, qq⟩ := h
  refine ⟨kk, _, fun i => by have := pg_lst (X := Y.X i) (k := n) (pos := pos) ((Y.hC i).trans hcm) (pp i) (hn i) (hst i); rw [Y.hK i] at this; exact this, fun F H fp os σ v Q hS pv S q => ?_⟩
  obtain ⟨rfl, l, vs, ev, h1, h2⟩ := val_P pv
  subst ev
  exact ⟨l, vs, rfl, SqL.of (hS _ _ h1), slots_nil h2, qq F H [] os σ vs Q hS (h2.mono same_refl hS) S q⟩
/-! ### data -/
theorem x_tupD {n : Nat} {ds : List PyData} (ha : XA Y es Γ (ds.map (val (pDa K)))) (hz : ds.length ≤ sizeLine) : XV Y (.Tuple es n pos) Γ (val (pDa K) (.tuple ds)) :=
  (x_tupN (p := pDa K) ha hz).as fun F H fp o _ ⟨e1, v, e2, l, vs, ev, h1, h2⟩ => ⟨e1, v, e2, by subst ev; exact .tup (SqT.of h1) (dpAll_paired h2)⟩
def pdItems : PyData → Option (List PyData)
  | .list ds => some ds
  | _ => none
theorem xi_data {d : PyData} {ds : List PyData} (h : XV Y iter Γ (val (pDa K) d)) (hd : pdItems d = some ds) : XI Y tg iter Γ False (ds.map (val (pDa K))) := by
  cases d with
  | list ds' =>
    cases hd
    obtain ⟨t, pe, rd⟩ := h
    refine ⟨_, fun i => by have := pi_list (X := Y.X i) (tg := tg) (pe i); rw [Y.hK i] at this; exact this, fun B F H os σ R I kk => ?_⟩
    refine rd B F H os σ _ I fun v F1 H1 fp f1 e1 W1 p1 => ?_
    obtain ⟨rfl, r⟩ := val_P p1
    cases (show Dp K F1 v (.list ds) from r) with
    | lst h1 h2 => exact ⟨_, rfl, ⟨_, Same.seq W1.sub h1⟩, kk _ F1 H1 f1 e1 W1 (wk_list (fun F2 H2 a _ c => Same.seq c (Same.seq a h1)) (paired_dpAll h2))⟩
  | _ => cases hd
/-- an item of a list or of a tuple -/
def pdAt : PyData → Int → Option PyData
  | .list ds, z => atI ds z
  | .tuple ds, z => atI ds z
  | _, _ => none
def pdIsT : PyData → Bool
  | .tuple _ => true
  | _ => false
theorem sameT {H H' : Hp} {a : Addr} {vs : List V} (e : Same H H') (h : SqT K H a vs) : SqT K H' a vs := by
  rcases h with h | h
  · refine .inl ?_
    rcases h with h | ⟨o, h⟩
    · exact .inl (e _ _ h)
    · exact .inr ⟨o, e _ _ h⟩
  · exact .inr h
theorem TV.data {ds : List PyData} : ∀ F H fp o, Same F H → (Ty.val (pDa K) (.tuple ds)).P F H fp o → ∃ l vs, o = some (.ref l) ∧ SqT K H l vs ∧ Paired ((pDa K).R F) vs ds := fun F H fp o hS h => by
  obtain ⟨_, v, e, r⟩ := h
  cases (show Dp K F v (.tuple ds) from r) with
  | tup h1 h2 => exact ⟨_, _, e, sameT hS h1, paired_dpAll h2⟩
theorem x_ixDT {d u : PyData} {z : Int} (ht : pdIsT d = true) (ha : XV Y ea Γ (val (pDa K) d)) (hb : XV Y eb Γ (vInt z)) (hz : pdAt d z = some u) (hx : PlainIx eb := by exact fun _ _ => rfl) : XV Y (.Subscript ea eb pos) Γ (val (pDa K) u) := by
  cases d with
  | tuple ds =>
    obtain ⟨ta, pa, ra⟩ := ha
    obtain ⟨tb, pb, rb⟩ := hb
    refine ⟨_, fun i => by have h := ix_tup (X := Y.X i); rw [Y.hK i] at h; exact pe_ix h (pa i) (pb i) hx, fun B F H os σ Q I q => ?_⟩
    refine two (Q := fun _ _ => True) I ra rb fun x y F2 H2 fx fy f2 e2 W2 p1 p2 => ?_
    obtain rfl := vint p2
    obtain ⟨rfl, _⟩ := val_P p1
    obtain ⟨l, vs, ev, h1, h2⟩ := TV.data F2 H2 _ _ W2.sub p1
    cases ev
    obtain ⟨v, hv, rv⟩ := paired_atI h2 hz
    exact ⟨l, vs, z, v, rfl, rfl, h1, hv, q v F2 H2 [] f2 e2 W2.drop ⟨rfl, _, rfl, rv⟩⟩
  | _ => cases ht
theorem x_ixDA {d u : PyData} {z : Int} (ha : XV Y ea Γ (val (pDa K) d)) (hb : XV Y eb Γ (vInt z)) (hz : pdAt d z = some u) (hx : PlainIx eb := by exact fun _ _ => rfl) : XV Y (.Subscript ea eb pos) Γ (val (pDa K) u) := by
  cases d with
  | list ds => exact x_ixD ha hb hz hx
  | tuple ds => exact x_ixDT rfl ha hb hz hx
  | _ => cases hz
/-! ### errors within -/
theorem xx_ix1 (h : XXe Y ea Γ EX ex) (hx : PlainIx eb := by exact fun _ _ => rfl) : XXe Y (.Subscript ea eb pos) Γ EX ex := by
  obtain ⟨t, p, rd⟩ := h
  exact ⟨_, fun i => by have h := ix_list (X := Y.X i); rw [Y.hK i] at h; exact pe_ix h (p i) pe_dum hx, fun B F H os σ Q I kk => rd B F H os σ _ I kk⟩
/-! ### // by great numbers -/
theorem div_wide {m n : Int} (h : 0 < n ∧ n < 2 ^ 200) : CDivW m n := wide_div (b := 200) h.1 (by
  have e : ((n.natAbs : Nat) : Int) = n := Int.natAbs_of_nonneg (by omega)
  have h2 : ((n.natAbs : Nat) : Int) < ((2 ^ 200 : Nat) : Int) := by rw [e]; exact h.2
  exact Int.ofNat_lt.mp h2) (by decide) (by decide)
end
end Ty

/-! Ty29 -/
/-! lending: an owned list is handed to a def that only looks at it, and is owned again behind the call -/
namespace Ty
open PySem PySem.Spec L2
open PyProof.Rows (envOfC)
/-- all of F but its lists is in F' -/
def Kp (F F' : Hp) : Prop := ∀ a o, F a = some o → (∀ vs, o ≠ .lst vs) → F' a = some o
/-- what leans on no frozen list -/
def NLp {α : Type} (p : VP α) : Prop := ∀ F F' v a, Kp F F' → p.R F v a → p.R F' v a
def NLs (s : Slot) : Prop := ∀ F F' H fp o, Kp F F' → s.P F H fp o → s.P F' H fp o
def NLl (Γ : List Slot) : Prop := ∀ s ∈ Γ, NLs s
theorem NLp.flat {α : Type} {p : VP α} (h : Flat p) : NLp p := fun F F' v a _ r => h F F' v a r
theorem NLp.int : NLp pInt := .flat Flat.int
theorem NLp.bl : NLp pBl := .flat Flat.bl
theorem NLp.str : NLp pStr := .flat Flat.str
theorem paired_nl {α : Type} {p : VP α} {F F' : Hp} (h : NLp p) (k : Kp F F') : ∀ {vs : List V} {xs : List α}, Paired (p.R F) vs xs → Paired (p.R F') vs xs
  | _, _, .nil => .nil
  | _, _, .cons r t => .cons (h F F' _ _ k r) (paired_nl h k t)
theorem NLp.tup {α : Type} {p : VP α} (h : NLp p) : NLp (pTup p) := fun F F' v a k ⟨l, vs, e, h1, h2⟩ => ⟨l, vs, e, k _ _ h1 (by intro _ z; cases z), paired_nl h k h2⟩
theorem NLp.t2 {α β : Type} {p : VP α} {q : VP β} (h : NLp p) (h' : NLp q) : NLp (pT2 p q) := fun F F' v a k ⟨l, x, y, e, h1, h2, h3⟩ => ⟨l, x, y, e, k _ _ h1 (by intro _ z; cases z), h _ _ _ _ k h2, h' _ _ _ _ k h3⟩
theorem NLp.t3 {α β γ : Type} {p : VP α} {q : VP β} {r : VP γ} (h : NLp p) (h' : NLp q) (h'' : NLp r) : NLp (pT3 p q r) := fun F F' v a k ⟨l, x, y, z, e, h1, h2, h3, h4⟩ => ⟨l, x, y, z, e, k _ _ h1 (by intro _ z; cases z), h _ _ _ _ k h2, h' _ _ _ _ k h3, h'' _ _ _ _ k h4⟩
theorem NLs.val {α : Type} {p : VP α} {a : α} (h : NLp p) : NLs (Ty.val p a) := fun F F' H fp o k ⟨e, v, ev, r⟩ => ⟨e, v, ev, h _ _ _ _ k r⟩
theorem NLs.oL {α : Type} {p : VP α} {xs : List α} (h : NLp p) : NLs (own (Ty.oL p) xs) := fun F F' H fp o k ⟨v, ev, l, vs, e, ef, h1, h2⟩ => ⟨v, ev, l, vs, e, ef, h1, paired_nl h k h2⟩
theorem NLl.nil : NLl [] := fun _ h => nomatch h
theorem NLl.cons {s : Slot} {Γ : List Slot} (h : NLs s) (r : NLl Γ) : NLl (s :: Γ) := fun x hx => by
  rcases List.mem_cons.mp hx with rfl | hx
  · exact h
  · exact r x hx
theorem NLl.map {α : Type} {g : α → Slot} {xs : List α} (h : ∀ x, NLs (g x)) : NLl (xs.map g) := fun s hs => by
  obtain ⟨x, _, rfl⟩ := List.mem_map.mp hs
  exact h x
theorem NLl.slots {F F' H : Hp} (k : Kp F F') {os : List Addr} {σ : List (Option V)} {Γ : List Slot} (S : Slots F H os σ Γ) : NLl Γ → Slots F' H os σ Γ := by
  induction S with
  | nil => exact fun _ => .nil
  | cons p _ ih => exact fun h => .cons (h _ List.mem_cons_self _ _ _ _ _ k p) (ih fun s hs => h s (List.mem_cons_of_mem _ hs))
theorem NLs.lst {Δ : List Slot} (h : NLl Δ) : NLs (lstS Δ) := fun F F' H fp o k ⟨l, vs, os, e1, e2, h1, h2⟩ => ⟨l, vs, os, e1, e2, h1, h.slots k h2⟩
theorem NLs.obj {C : Addr} {ns : List Str} {Δ : List Slot} (h : NLl Δ) : NLs (Ty.obj C ns Δ) := fun F F' H fp o k ⟨x, dx, vs, os, e1, e2, h1, h2, h3, h4⟩ => ⟨x, dx, vs, os, e1, e2, h1, h2, h3, h.slots k h4⟩
/-- what is owned is lists alone -/
def OnlyL (s : Slot) : Prop := ∀ F H fp o, s.P F H fp o → ∀ a ∈ fp, ∃ vs, H a = some (.lst vs)
theorem OnlyL.oL {α : Type} {p : VP α} {xs : List α} : OnlyL (own (Ty.oL p) xs) := fun F H fp o ⟨v, ev, l, vs, e, ef, h1, h2⟩ a ha => by
  rw [ef] at ha
  rw [List.mem_singleton.mp ha]
  exact ⟨vs, h1⟩
theorem onlyL_slots {F H : Hp} {os : List Addr} {σ : List (Option V)} {Γ : List Slot} (S : Slots F H os σ Γ) : (∀ s ∈ Γ, OnlyL s) → ∀ a ∈ os, ∃ vs, H a = some (.lst vs) := by
  induction S with
  | nil => exact fun _ a ha => nomatch ha
  | cons p _ ih =>
    intro h a ha
    rcases List.mem_append.mp ha with ha | ha
    · exact h _ List.mem_cons_self _ _ _ _ p a ha
    · exact ih (fun s hs => h s (List.mem_cons_of_mem _ hs)) a ha
theorem OnlyL.lst {Δ : List Slot} (h : ∀ s ∈ Δ, OnlyL s) : OnlyL (lstS Δ) := fun F H fp o ⟨l, vs, os, e1, e2, h1, h2⟩ a ha => by
  rw [e2] at ha
  rcases List.mem_cons.mp ha with rfl | ha
  · exact ⟨vs, h1⟩
  · exact onlyL_slots h2 h a ha
theorem OnlyL.map {α : Type} {g : α → Slot} {xs : List α} (h : ∀ x, OnlyL (g x)) : ∀ s ∈ xs.map g, OnlyL s := fun s hs => by
  obtain ⟨x, _, rfl⟩ := List.mem_map.mp hs
  exact h x
def EXL (EX : ExT) : Prop := ∀ ex cls d F F', Kp F F' → EX ex cls d F → EX ex cls d F'
/-- owned objects become frozen, and nothing else -/
theorem Wo.freeze2 {B : Bs} {F H : Hp} {a b : List Addr} (W : Wo B F H (a ++ b)) : ∃ F', Wo B F' H b ∧ Same F F' ∧ (∀ x ∈ a, F' x = H x) ∧ ∀ x o, F' x = some o → x ∈ a ∨ F x = some o := by
  classical
  have nd := List.nodup_append.mp W.nd
  refine ⟨fun x => if x ∈ a then H x else F x, ⟨fun x o e => ?_, nd.2.1, fun x hx => ?_, fun x hx => W.oH x (List.mem_append_right _ hx), fun x o e => ?_, W.bH, fun x o e => ?_, fun x hx => W.bO x (List.mem_append_right _ hx)⟩, fun x o e => ?_, fun x hx => if_pos hx, fun x o e => ?_⟩
  · by_cases q : x ∈ a
    · simp only [q, if_true] at e; exact e
    · simp only [q, if_false] at e; exact W.sub x o e
  · have q : x ∉ a := fun q => (nd.2.2 x q x hx) rfl
    simp only [q, if_false]; exact W.oF x (List.mem_append_right _ hx)
  · have q : x ∉ a := fun q => by
      have z := W.oF x (List.mem_append_left _ q)
      rw [W.bF x o e] at z; cases z
    simp only [q, if_false]; exact W.bF x o e
  · by_cases q : x ∈ a
    · exact .inr (W.bO x (List.mem_append_left _ q))
    · simp only [q, if_false] at e; exact W.bN x o e
  · have q : x ∉ a := fun q => by
      have z := W.oF x (List.mem_append_left _ q)
      rw [e] at z; cases z
    simp only [q, if_false]; exact e
  · by_cases q : x ∈ a
    · exact .inl q
    · simp only [q, if_false] at e; exact .inr e
/-- what was frozen for a while is owned again -/
theorem Wo.thaw {B : Bs} {F F1 F2 H H2 : Hp} {a b os2 : List Addr} (W : Wo B F H (a ++ b)) (hF : Same F F1) (hx : ∀ x ∈ a, F1 x = H x) (hl : ∀ x ∈ a, ∃ vs, H x = some (.lst vs)) (ho : ∀ x o, F1 x = some o → x ∈ a ∨ F x = some o) (W2 : Wo ⟨F1, H, b⟩ F2 H2 os2) :
    ∃ F3, Wo B F3 H2 (a ++ os2) ∧ Same F F3 ∧ Kp F2 F3 ∧ Same F3 F2 := by
  classical
  have nd := List.nodup_append.mp W.nd
  have hm : ∀ x ∈ a, ∃ vs, F2 x = some (.lst vs) := fun x hq => by
    obtain ⟨vs, e⟩ := hl x hq
    exact ⟨vs, W2.bF x _ ((hx x hq).trans e)⟩
  have hS : Same F (fun x => if x ∈ a then none else F2 x) := fun x o e => by
    have q : x ∉ a := fun q => by rw [W.oF x (List.mem_append_left _ q)] at e; cases e
    show (if x ∈ a then none else F2 x) = _
    rw [if_neg q]
    exact W2.bF x o (hF x o e)
  have dj : ∀ x ∈ os2, x ∉ a := fun x hx2 q => by
    obtain ⟨vs, e⟩ := hm x q
    rw [W2.oF x hx2] at e; cases e
  have inv : ∀ x o, (if x ∈ a then none else F2 x) = some o → x ∉ a ∧ F2 x = some o := fun x o e => by
    by_cases q : x ∈ a
    · rw [if_pos q] at e; cases e
    · rw [if_neg q] at e; exact ⟨q, e⟩
  have bo : ∀ x ∈ b, B.H x = none ∨ x ∈ B.os := fun x hx => W.bO x (List.mem_append_right _ hx)
  refine ⟨fun x => if x ∈ a then none else F2 x, ⟨fun x o e => W2.sub x o (inv x o e).2, List.nodup_append.mpr ⟨nd.1, W2.nd, fun x h1 y h2 e => dj y h2 (e ▸ h1)⟩, fun x hx2 => ?_, fun x hx2 => ?_, W.bF.trans hS, fun x o e hb => ?_, fun x o e => ?_, fun x hx2 => ?_⟩, hS, fun x o e hn => ?_, fun x o e => (inv x o e).2⟩
  · show (if x ∈ a then none else F2 x) = none
    rcases List.mem_append.mp hx2 with q | q
    · rw [if_pos q]
    · rw [if_neg (dj x q)]; exact W2.oF x q
  · rcases List.mem_append.mp hx2 with q | q
    · obtain ⟨vs, e⟩ := hm x q
      exact ⟨_, W2.sub x _ e⟩
    · exact W2.oH x q
  · refine W2.bH x o (W.bH x o e hb) fun q => ?_
    rcases bo x q with z | z
    · rw [z] at e; cases e
    · exact hb z
  · obtain ⟨q, e⟩ := inv x o e
    rcases W2.bN x o e with z | z | z
    · rcases ho x o z with z | z
      · exact absurd z q
      · exact W.bN x o z
    · exact .inr (W.bFree z)
    · exact .inr (bo x z)
  · rcases List.mem_append.mp hx2 with q | q
    · exact W.bO x (List.mem_append_left _ q)
    · rcases W2.bO x q with z | z
      · exact W.bFree z
      · exact bo x z
  · have q : x ∉ a := fun q => by
      obtain ⟨vs, e2⟩ := hm x q
      rw [e] at e2; cases e2
      exact hn vs rfl
    show (if x ∈ a then none else F2 x) = _
    rw [if_neg q]; exact e
section
variable {P : Program} {w : World} {K : PySem.W.Frag} {mg : Str → Option Value} {base : Heap} {k : Nat}
variable {Y : Fa P w K mg base k} {e : Expr} {es : List Expr} {Γ : List Slot} {s s' r : Slot} {EX : ExT} {ex : Exn}
/-- where the slot j stands lent -/
theorem In.lend {B : Bs} {F H : Hp} {os : List Addr} {σ : List (Option V)} {j : Nat} (I : In B F H os σ Γ) (hs : Γ[j]? = some s) (hw : WkS s s') (hl : OnlyL s) :
    ∃ F1 x b, Same F F1 ∧ os.Perm (x ++ b) ∧ In ⟨F1, H, b⟩ F1 H b σ (Γ.set j s') ∧ ∀ F2 H2 fp, Same H H2 → Wo ⟨F1, H, b⟩ F2 H2 (fp ++ b) → ∃ F3, Wo B F3 H2 (fp ++ os) ∧ Same F F3 ∧ Kp F2 F3 := by
  obtain ⟨o2, r1, p, S⟩ := I.S
  obtain ⟨o, fp, r2, eσ, q, p2, kk⟩ := S.at hs
  obtain ⟨x, y, rfl, wk⟩ := hw F H fp o I.W.sub q
  have hp : os.Perm (x ++ (y ++ r2 ++ r1)) := by
    refine p.trans ((List.Perm.append_right r1 p2).trans ?_)
    rw [List.append_assoc, List.append_assoc, List.append_assoc]
  have W1 := I.W.perm hp
  obtain ⟨F1, W2, hF, hx, ho⟩ := W1.freeze2
  have hxl : ∀ z ∈ x, ∃ vs, H z = some (.lst vs) := fun z hz => hl F H _ o q z (List.mem_append_left _ hz)
  refine ⟨F1, x, y ++ r2 ++ r1, hF, hp, ⟨W2.self, ?_⟩, fun F2 H2 fp hH W3 => ?_⟩
  · obtain ⟨os', S', p3⟩ := kk (F' := F1) (H' := H) (fp' := y) (o' := o) (wk F1 hF W2.sub hx) fun s0 _ fp0 o0 _ h0 => s0.mono hF same_refl h0
    have es : σ.set j o = σ := by
      refine List.ext_getElem? fun m => ?_
      rw [List.getElem?_set]
      split
      · rename_i h; subst h
        split
        · exact eσ.symm
        · rename_i h2
          rw [List.getElem?_eq_none (by omega)]
      · rfl
    rw [es] at S'
    exact ⟨os', r1, List.Perm.append_right r1 p3.symm, S'⟩
  · obtain ⟨F3, W4, h1, h2, _⟩ := W1.thaw hF hx hxl ho W3
    refine ⟨F3, W4.perm ?_, h1, h2⟩
    refine List.Perm.trans ?_ (List.Perm.append_left fp hp.symm)
    rw [← List.append_assoc x fp, ← List.append_assoc fp x]
    exact List.Perm.append_right _ List.perm_append_comm
theorem x_lend (j : Nat) (hs : Γ[j]? = some s) (hw : WkS s s') (hl : OnlyL s) (hr : NLs r) (h : XV Y e (Γ.set j s') r) : XV Y e Γ r := by
  obtain ⟨t, p, rd⟩ := h
  refine ⟨t, p, fun B F H os σ Q I kk => ?_⟩
  obtain ⟨F1, x, b, hF, hp, I1, th⟩ := I.lend hs hw hl
  refine rd _ F1 H b σ Q I1 fun v F2 H2 fp f2 e2 W2 q => ?_
  obtain ⟨F3, W3, h1, h2⟩ := th F2 H2 fp e2 W2
  exact kk v F3 H2 fp h1 e2 W3 (hr _ _ _ _ _ h2 q)
theorem xx_lend (j : Nat) (hs : Γ[j]? = some s) (hw : WkS s s') (hl : OnlyL s) (hr : EXL EX) (h : XXe Y e (Γ.set j s') EX ex) : XXe Y e Γ EX ex := by
  obtain ⟨t, p, rd⟩ := h
  refine ⟨t, p, fun B F H os σ Q I kk => ?_⟩
  obtain ⟨F1, x, b, hF, hp, I1, th⟩ := I.lend hs hw hl
  refine rd _ F1 H b σ Q I1 fun cls d F2 H2 fp f2 e2 W2 q => ?_
  obtain ⟨F3, W3, h1, h2⟩ := th F2 H2 fp e2 W2
  exact kk cls d F3 H2 fp h1 e2 W3 (hr _ _ _ _ _ h2 q)
end
end Ty

/-! Ty30 -/
/-! a loop over an owned list of owned lists that changes each of them -/
namespace Ty
open PySem PySem.Spec L2
open PyProof.Rows (envOfC)
/-- an owned list of owned things, its address and theirs known -/
def lstAt (l : Addr) (vs : List V) (Γs : List Slot) : Slot where
  P := fun F H fp o => ∃ os, o = some (.ref l) ∧ fp = l :: os ∧ H l = some (.lst vs) ∧ Slots F H os (vs.map some) Γs
  mono := fun hF hH h => let ⟨os, e1, e2, h1, h2⟩ := h; ⟨os, e1, e2, hH _ _ h1, h2.mono hF hH⟩
  st := Stb Γs
  mm := fun hs {_ _ _ _ _ _} hF hH h => let ⟨os, e1, e2, h1, h2⟩ := h
    ⟨os, e1, e2, by rw [hH l (by rw [e2]; simp)]; exact h1, h2.mm hF hs fun q hq => hH q (by rw [e2]; simp [hq])⟩
theorem set_self {α : Type} {σ : List α} {j : Nat} {o : α} (h : σ[j]? = some o) : σ.set j o = σ := by
  refine List.ext_getElem? fun m => ?_
  rw [List.getElem?_set]
  split
  · rename_i e; subst e
    split
    · exact h.symm
    · rename_i h2
      rw [List.getElem?_eq_none (by omega)]
  · rfl
section
variable {P : Program} {w : World} {K : PySem.W.Frag} {mg : Str → Option Value} {base : Heap} {k : Nat}
variable {Y : Fa P w K mg base k} {i : Y.I} {e ea eb eo ev tg iter elt : Expr} {es ifs : List Expr} {rest body : List Stmt} {Γ Γ' Γ1 Γ2 Δ Δ' : List Slot} {a b c r s s' : Slot} {pos : Pos} {B : Bs} {D : Ends} {x g f : Str} {p' : Pos}
/-- the loop's name is one of the list -/
theorem pl_alias {l : Addr} {vs : List V} {v0 : V} {n : Nat} (jg jx : Nat) (hst : Stb Γ) (hg : Γ[jg]? = some (lstAt l vs Δ)) (hs : Γ[jx]? = some (hold dead v0)) (hv0 : vs[n]? = some v0) (hn : Δ[n]? = some s) (hso : ∀ F H fp o, s.P F H fp o → ∃ v, o = some v) (hsd : Stb Δ) (hN : ∀ i, (Y.X i).N[jx]? = some x := by intro _; rfl)
    (hv : ∀ i, Vis (Y.X i).env.scope x := by intro _; first | exact Or.inl rfl | exact Or.inr (Or.inl rfl) | exact Or.inr (Or.inr rfl)) (hd : (x == ("__debug__" : Str)) = false := by decide) (hcd : (x == ("__classdict__" : Str)) = false := by decide) : PL Y (.Name x pos) Γ s (fun s' => Γ.set jg (lstAt l vs (Δ.set n s'))) := by
  refine ⟨_, fun σ H v => σ[jx]? = some (some v) ∧ v = v0, fun i => pe_var (hN i) (hv i) hd hcd, fun σ H H' v _ h => h, fun B F H os σ Q I q => ?_, fun F H os σ v S hv => ?_⟩
  · obtain ⟨o, fp, e, h⟩ := I.slot hs
    obtain ⟨rfl, _⟩ := h
    exact ⟨v0, e, q v0 ⟨e, rfl⟩⟩
  · obtain ⟨hv, rfl⟩ := hv
    obtain ⟨o, fpg, rg, e, pg, q, kk⟩ := S.at hg
    obtain ⟨osl, rfl, rfl, hl, SD⟩ := pg
    obtain ⟨o1, fp1, r1, e1, p1, q1, kk1⟩ := SD.at hn
    have eo1 : o1 = some v := by
      rw [List.getElem?_map, hv0] at e1
      exact (Option.some.inj e1).symm
    subst eo1
    refine ⟨fp1, l :: (r1 ++ rg), ?_, p1, fun F' H' fp' s' hF hk hs' => ?_⟩
    · refine q.trans ?_
      refine ((q1.cons l).append_right rg).trans ?_
      refine List.Perm.trans ?_ (List.perm_middle (a := l) (l₁ := fp1) (l₂ := r1 ++ rg)).symm
      rw [← List.append_assoc]
      exact .refl _
    · obtain ⟨osl', S1, q2⟩ := kk1 (F' := F') (H' := H') (s' := s') (o' := some v) (fp' := fp') hs' (fun s0 h0 fp0 o0 hf hp => s0.mm (hsd s0 h0) hF (fun z hz => hk z (by simp [hf z hz])) hp)
      rw [set_self e1] at S1
      obtain ⟨os', h1, h2⟩ := kk (F' := F') (H' := H') (s' := lstAt l vs (Δ.set n s')) (fp' := l :: osl') (o' := some (.ref l)) ⟨osl', rfl, rfl, by rw [hk l (by simp)]; exact hl, S1⟩ (fun s0 h0 fp0 o0 hf hp => s0.mm (hst s0 h0) hF (fun z hz => hk z (by simp [hf z hz])) hp)
      rw [set_self e] at h1
      refine ⟨os', h1, h2.trans ?_⟩
      refine ((q2.cons l).append_right rg).trans ?_
      refine List.Perm.trans ?_ (List.perm_middle (a := l) (l₁ := fp') (l₂ := r1 ++ rg)).symm
      rw [← List.append_assoc]
      exact .refl _
/-- for x in g: what changes each of an owned list of owned lists -/
theorem go_forA {α : Type} {p : VP α} {xss : List (List α)} (h : List α → List α) (jg jx : Nat) {s2 : Slot} {gp xp : Pos}
    (hst : Stb Γ) (hg : Γ[jg]? = some (lstS (xss.map fun y => own (oL p) y))) (hx : Γ[jx]? = some s2) (hne : jg ≠ jx)
    (hb : ∀ B1 l vs n v0 y Δ, y ∈ xss → Δ[n]? = some (own (oL p) y) → vs[n]? = some v0 → Stb Δ → Go Y i body (LE B1 (fun _ : Unit => (Γ.set jx dead).set jg (lstAt l vs (Δ.set n (own (oL p) (h y))))) (fun _ : Unit => dead) (.next ())) B1 ((Γ.set jg (lstAt l vs Δ)).set jx (hold dead v0)))
    (hr : Go Y i rest D B ((Γ.set jx dead).set jg (lstS ((xss.map h).map fun y => own (oL p) y))))
    (hNx : ∀ i, (Y.X i).N[jx]? = some x := by intro _; rfl) (hLx : ∀ i, Loc (Y.X i).env.scope x := by intro _; first | exact Or.inl rfl | exact Or.inr rfl)
    (hfx : ∀ i, (Y.X i).fn x = true ∨ (Y.X i).env.scope.names.lookup x = some .local := by intro _; first | exact Or.inl rfl | exact Or.inr rfl)
    (hN : ∀ i, (Y.X i).N[jg]? = some g := by intro _; rfl)
    (hv : ∀ i, Vis (Y.X i).env.scope g := by intro _; first | exact Or.inl rfl | exact Or.inr (Or.inl rfl) | exact Or.inr (Or.inr rfl)) (hd : (g == ("__debug__" : Str)) = false := by decide) (hcd : (g == ("__classdict__" : Str)) = false := by decide)
    (hs : ∀ x, foldedSetIterable (.Name g gp) (Y.X i).env x = pure x := by intro _; rfl) (hcm : Y.cm = true := by rfl) : Go Y i (.For (.Name x xp) (.Name g gp) body [] pos :: rest) D B Γ := by
  have pi := pi_list (X := Y.X i) (tg := .Name x xp) (pe_var (pos := gp) (hN i) (hv i) hd hcd)
  rw [Y.hK i] at pi
  refine go_ps (ps_for (Y.hO i) ((Y.hC i).trans hcm) pi pg_contG pss_cont hs) fun F H σ ⟨os0, W0, S0⟩ => ?_
  obtain ⟨o, fp, r1, eg, pg, q1, kk⟩ := S0.at hg
  obtain ⟨l, vs, osl, rfl, rfl, hl, SD⟩ := pg
  have hlen : vs.length = xss.length := by have := SD.length; simpa using this
  refine ⟨_, eg, l, rfl, ⟨vs, SqL.of hl⟩, ?_⟩
  -- the state behind n turns
  refine ⟨fun n m σ' H' => n ≤ xss.length ∧ m = xss.length - n ∧ ∃ F', Sta B F' H' σ' ((Γ.set jx dead).set jg (lstAt l vs (((xss.take n).map h ++ xss.drop n).map fun y => own (oL p) y))), ⟨xss.length - 0, Nat.zero_le _, rfl, ?_⟩, ?_⟩
  · obtain ⟨os', h1, h2⟩ := kk (F' := F) (H' := H) (s' := lstAt l vs (xss.map fun y => own (oL p) y)) (fp' := l :: osl) (o' := some (.ref l)) ⟨osl, rfl, rfl, hl, SD⟩ (fun _ _ _ _ _ hp => hp)
    rw [set_self eg] at h1
    have S1 : Sta B F H σ (Γ.set jg (lstAt l vs (xss.map fun y => own (oL p) y))) := ⟨os', W0.perm (q1.trans h2.symm), h1⟩
    obtain ⟨F2, S2⟩ := S1.wk (WkL.at (j := jx) (s := s2) WkS.dead (by rw [List.getElem?_set_ne hne]; exact hx))
    refine ⟨F2, ?_⟩
    rw [List.set_comm _ _ hne] at S2
    simpa using S2
  · rintro n m σ' H' ⟨hn, rfl, F', S'⟩
    obtain ⟨o4, W4, S4⟩ := S'
    have hjg : jg < Γ.length := (List.getElem?_eq_some_iff.mp hg).1
    have hjx : jx < Γ.length := (List.getElem?_eq_some_iff.mp hx).1
    have hq : H' l = some (.lst vs) := by
      obtain ⟨o, fp, _, _, ⟨os, _, _, hl, _⟩, _⟩ := S4.at (i := jg) (s := lstAt l vs (((xss.take n).map h ++ xss.drop n).map fun y => own (oL p) y)) (by rw [List.getElem?_set_self (by rw [List.length_set]; exact hjg)])
      exact hl
    by_cases hlt : n < xss.length
    · have hv0 : vs[n]? = some (vs[n]'(by omega)) := List.getElem?_eq_getElem (by omega)
      generalize hvn : (vs[n]'(by omega)) = v0 at hv0
      have hy : xss[n]? = some xss[n] := List.getElem?_eq_getElem hlt
      have hD : (((xss.take n).map h ++ xss.drop n).map fun y => own (oL p) y)[n]? = some (own (oL p) xss[n]) := by
        rw [List.getElem?_map, List.getElem?_append_right (by simp; omega)]
        simp [Nat.min_eq_left hn, hy]
      have hDn : (((xss.take n).map h ++ xss.drop n).map fun y => own (oL p) y).set n (own (oL p) (h xss[n])) = (((xss.take (n + 1)).map h ++ xss.drop (n + 1)).map fun y => own (oL p) y) := by
        have e1 : ((xss.take n).map h).length = n := by rw [List.length_map, List.length_take]; omega
        rw [show xss.drop n = xss[n] :: xss.drop (n + 1) from List.drop_eq_getElem_cons hlt, List.take_succ, hy, List.map_append, List.map_append, List.map_append, List.map_append, List.map_cons, List.set_append_right _ _ (by rw [List.length_map, e1]; exact Nat.le_refl _), List.length_map, e1, Nat.sub_self, List.set_cons_zero, List.append_assoc]
        rfl
      refine .inr ⟨⟨vs, v0, SqL.of hq, hv0⟩, fun σ2 H2 => ∃ s' : Unit, Fl.next (ρ := Unit) () = .next s' ∧ Nx B ((Γ.set jx dead).set jg (lstAt l vs (((xss.take (n + 1)).map h ++ xss.drop (n + 1)).map fun y => own (oL p) y))) σ2 H2, ?_, ?_⟩
      · rintro σ2 H2 ⟨_, _, F3, S3⟩
        exact ⟨xss.length - (n + 1), by omega, hlt, rfl, F3, S3⟩
      · rintro v H2 ⟨e1, y⟩
        obtain rfl : H' = H2 := by first | exact e1 | exact e1.symm
        have e2 := y vs (SqL.of hq)
        rw [hv0] at e2
        cases e2
        have hxg : XG Y (.Name x xp) [jx] (hold dead v0) ((Γ.set jx dead).set jg (lstAt l vs (((xss.take n).map h ++ xss.drop n).map fun y => own (oL p) y))) _ := xg_name jx (Nat.ble_eq_true_of_le (by rw [List.length_set, List.length_set]; exact hjx)) hNx hLx hfx
        obtain ⟨_, g, pg, qg⟩ := hxg
        have hgo := hb B l vs n v0 xss[n] _ (List.getElem_mem hlt) hD hv0 (fun s hs => by
          obtain ⟨z, _, rfl⟩ := List.mem_map.mp hs
          exact trivial)
        rw [hDn] at hgo
        intro pins s9 u I r
        refine (pg i).run pins s9 σ' H' v0 u _ I r (qg F' H' [] o4 σ' v0 _ W4.sub ⟨rfl, rfl⟩ S4 fun σ5 o5 d _ W6 S5 => ?_)
        have eΓ : ((Γ.set jx dead).set jg (lstAt l vs (((xss.take n).map h ++ xss.drop n).map fun y => own (oL p) y))).set jx (hold dead v0) = (Γ.set jg (lstAt l vs (((xss.take n).map h ++ xss.drop n).map fun y => own (oL p) y))).set jx (hold dead v0) := by
          rw [List.set_comm _ _ (Ne.symm hne), List.set_set]
        rw [eΓ] at S5
        refine cont_mono (hgo F' H' σ5 ⟨o5, (W4.perm (by simpa using W6)).drop, S5⟩) (fun _ _ z => z) (fun v H z => ?_) (fun σ6 H6 z => ?_) (fun _ _ z => z)
        · obtain ⟨r, e, _⟩ := z
          cases e
        · obtain ⟨s', e, _⟩ := z
          cases e
    · have e : n = xss.length := by omega
      subst e
      refine .inl ⟨⟨vs, SqL.of hq, by omega⟩, ?_⟩
      refine hr F' H' σ' ?_
      rw [List.take_length, List.drop_length, List.append_nil] at S4
      have hgn : ((Γ.set jx dead).set jg (lstAt l vs ((xss.map h).map fun y => own (oL p) y)))[jg]? = some (lstAt l vs ((xss.map h).map fun y => own (oL p) y)) := List.getElem?_set_self (by rw [List.length_set]; exact hjg)
      obtain ⟨o, fp5, r5, eg5, pg5, q5, kk5⟩ := S4.at hgn
      obtain ⟨os5, rfl, rfl, hl5, SD5⟩ := pg5
      obtain ⟨os', h1, h2⟩ := kk5 (F' := F') (H' := H') (s' := lstS ((xss.map h).map fun y => own (oL p) y)) (fp' := l :: os5) (o' := some (.ref l)) ⟨l, vs, os5, rfl, rfl, hl5, SD5⟩ (fun _ _ _ _ _ hp => hp)
      rw [set_self eg5, List.set_set] at h1
      exact ⟨os', W4.perm (q5.trans h2.symm), h1⟩
end
end Ty

/-! Ty31 -/
/-! one of an owned display; an owned thing put at the end of an owned list -/
namespace Ty
open PySem PySem.Spec L2
open PyProof.Rows (envOfC)
section
variable {P : Program} {w : World} {K : PySem.W.Frag} {mg : Str → Option Value} {base : Heap} {k : Nat}
variable {Y : Fa P w K mg base k} {i : Y.I} {e ea eb eo ev tg iter elt : Expr} {es ifs : List Expr} {rest body : List Stmt} {Γ Γ' Γ1 Γ2 Δ Δ' : List Slot} {a b c r s s' : Slot} {pos : Pos} {B : Bs} {D : Ends} {x g f : Str} {p' : Pos}
theorem x_ixTO {α : Type} {gs : α → Slot} {xs : List α} {z : Int} {u : α} (ha : XV Y ea Γ (lstS (xs.map gs))) (hb : XV Y eb Γ (vInt z)) (hz : atI xs z = some u) (hx : PlainIx eb := by exact fun _ _ => rfl) : XV Y (.Subscript ea eb pos) Γ (gs u) := by
  obtain ⟨ta, pa, ra⟩ := ha
  obtain ⟨tb, pb, rb⟩ := hb
  refine ⟨_, fun i => by have h := ix_list (X := Y.X i); rw [Y.hK i] at h; exact pe_ix h (pa i) (pb i) hx, fun B F H os σ Q I q => ?_⟩
  refine two (Q := fun _ _ => True) I ra rb fun x y F2 H2 fx fy f2 e2 W2 p1 p2 => ?_
  obtain rfl := vint p2
  obtain ⟨l, vs, osl, ev, rfl, h1, h2⟩ := p1
  cases ev
  have hlen : vs.length = xs.length := by have := h2.length; simpa using this
  unfold atI at hz
  obtain ⟨j, hj, hu⟩ := Option.bind_eq_some_iff.mp hz
  have hgj : (xs.map gs)[j]? = some (gs u) := by rw [List.getElem?_map, hu]; rfl
  obtain ⟨o, fp, r, e1, p1, q1, _⟩ := h2.at hgj
  rw [List.getElem?_map] at e1
  obtain ⟨v, hv, rfl⟩ := Option.map_eq_some_iff.mp e1
  refine ⟨l, vs, z, v, rfl, rfl, SqL.of h1, ?_, q v F2 H2 fp f2 e2 ?_ p1⟩
  · unfold atI
    rw [hlen, hj]
    exact hv
  · have W3 := W2.drop
    refine Wo.drop (a := l :: r) (W3.perm ?_)
    have := (q1.cons l).append_right os
    refine this.trans ?_
    show (l :: (fp ++ r ++ os)).Perm (l :: (r ++ (fp ++ os)))
    refine List.Perm.cons l ?_
    rw [← List.append_assoc]
    exact List.Perm.append_right os List.perm_append_comm
/-- xs.append(e), e a new thing -/
theorem go_appendO {up : Slot → List Slot} {apos cpos : Pos} (ho : PL Y eo Γ (lstS Δ) up) (he : XV Y e Γ s) (hz : Δ.length < sizeLine) (hsd : Stb Δ) (hst : s.st) (hg : Go Y i rest D B (up (lstS (Δ ++ [s]))))
    (hb : Bm1 (Y.X i) eo "append" apos e cpos := by exact ⟨rfl, rfl, rfl, rfl, rfl⟩)
    (hs : swapsWith (.Call (.Attribute eo "append" apos) [e] [] cpos) none pos.line (Y.X i).env = pure false := by rfl) : Go Y i (.Expr (.Call (.Attribute eo "append" apos) [e] [] cpos) pos :: rest) D B Γ := by
  obtain ⟨t, Pv, pe, pst, rd, up'⟩ := ho
  obtain ⟨t2, pe2, rd2⟩ := he
  refine go_ps (ps_expr (pe_bm PySem.F.plainAttrs_list PySem.F.slot_list_append PySem.F.type_list_append mt_append (pe i) (pa_cons (pe2 i) pa_nil hb.st) hb.base hb.few hb.line hb.st hb.pl) hs) fun F H σ ⟨os, W, S⟩ => ?_
  refine rd B F H os σ _ (Sta.in W S) fun v hv => ?_
  obtain ⟨fp, r, hr, hp, _⟩ := up' F H os σ v S hv
  obtain ⟨l, vs, osl, ev, ef, h1, h2⟩ := hp
  cases ev; subst ef
  refine ⟨.inl ⟨rfl, vs, SqL.of h1⟩, rd2 B F H os σ _ (Sta.in W S) fun y F1 H1 fy f1 e1 W1 p1 => ?_⟩
  obtain ⟨fp1, r1, hr1, hp1, kk1⟩ := up' F1 H1 os σ _ (S.mono f1 e1) (pst _ _ _ _ e1 hv)
  obtain ⟨l1, vs1, osl1, ev1, ef1, g1, g2⟩ := hp1
  cases ev1; subst ef1
  have hlen : vs1.length = Δ.length := by have := g2.length; simpa using this
  refine ⟨l, vs1, y, rfl, rfl, g1, by rw [hlen]; exact hz, ?_⟩
  have W2 : Wo B F1 H1 (l :: (osl1 ++ (fy ++ r1))) := W1.perm (by
    refine (List.Perm.append_left fy hr1).trans ?_
    show (fy ++ (l :: osl1 ++ r1)).Perm (l :: (osl1 ++ (fy ++ r1)))
    refine (List.perm_middle (a := l) (l₁ := fy) (l₂ := osl1 ++ r1)).trans (List.Perm.cons l ?_)
    rw [← List.append_assoc, ← List.append_assoc]
    exact List.Perm.append_right r1 List.perm_append_comm)
  have nd := List.nodup_cons.mp W2.nd
  have hk : ∀ q ∈ osl1 ++ (fy ++ r1), upd H1 l (.lst (vs1 ++ [y])) q = H1 q := fun q hq => upd_ne fun z => nd.1 (z ▸ hq)
  have S2 : Slots F1 (upd H1 l (.lst (vs1 ++ [y]))) (osl1 ++ fy) ((vs1 ++ [y]).map some) (Δ ++ [s]) := by
    rw [List.map_append]
    have := Slots.append (g2.mm same_refl hsd fun q hq => hk q (List.mem_append_left _ hq)) (Slots.cons (s.mm hst same_refl (fun q hq => hk q (by simp [hq])) p1) .nil)
    rw [List.append_nil] at this
    exact this
  obtain ⟨os', h1', h2'⟩ := kk1 F1 (upd H1 l (.lst (vs1 ++ [y]))) (l :: (osl1 ++ fy)) (lstS (Δ ++ [s])) same_refl (fun q hq => hk q (by simp [hq])) ⟨l, _, _, rfl, rfl, upd_same, S2⟩
  refine hg F1 _ σ ⟨os', (W2.write (o := .lst (vs1 ++ [y])) List.mem_cons_self).perm ?_, h1'⟩
  refine List.Perm.trans ?_ h2'.symm
  show (l :: (osl1 ++ (fy ++ r1))).Perm (l :: (osl1 ++ fy ++ r1))
  rw [List.append_assoc]
end
end Ty

/-! Ty32 -/
/-! more ints of which the heap takes no notice -/
namespace Ty
open PySem PySem.Spec L2
open PyProof.Rows (envOfC)
section
variable {P : Program} {w : World} {K : PySem.W.Frag} {mg : Str → Option Value} {base : Heap} {k : Nat}
variable {Y : Fa P w K mg base k} {i : Y.I} {e ea eb eo : Expr} {Γ : List Slot} {s : Slot} {pos p' pn : Pos} {x : Str}
theorem xs_int1 {z : Int} (hm : mg "int" = none) (ha : XS Y ea Γ z) (hg : ∀ i, Gl (Y.X i) "int" := by intro _; rfl)
    (he : ∀ i, starEach [ea] (Y.X i).env = (false, eval ea (Y.X i).env) :: starEach [] (Y.X i).env := by intro _; rfl) (hpl : ∀ i, (backTo pos (starEach [] (Y.X i).env)).any (·.1) = false := by intro _; rfl) : XS Y (.Call (.Name "int" p') [ea] [] pos) Γ z := by
  obtain ⟨t, pa, rd⟩ := ha
  refine ⟨_, fun i => pe_callTy (call_int1) (hg i) (by rw [Y.hM]; exact hm) (by decide +kernel) (pa_cons (pa i) pa_nil (he i)) (by decide) (by decide) (he i) (hpl i), fun B F H os σ Q I q => ?_⟩
  exact rd B F H os σ _ I (.inl ⟨z, rfl, q⟩)
/-- len of an owned list of owned things, by name -/
theorem xs_lenO {Δ : List Slot} (j : Nat) (hl : mg "len" = none) (hs : Γ[j]? = some (lstS Δ) := by rfl) (hN : ∀ i, (Y.X i).N[j]? = some x := by intro _; rfl)
    (hv : ∀ i, Vis (Y.X i).env.scope x := by intro _; first | exact Or.inl rfl | exact Or.inr (Or.inl rfl) | exact Or.inr (Or.inr rfl)) (hd : (x == ("__debug__" : Str)) = false := by decide) (hcd : (x == ("__classdict__" : Str)) = false := by decide) (hg : ∀ i, Gl (Y.X i) "len" := by intro _; rfl)
    (he : ∀ i, starEach [.Name x pn] (Y.X i).env = (false, eval (.Name x pn) (Y.X i).env) :: starEach [] (Y.X i).env := by intro _; rfl) (hpl : ∀ i, (backTo pos (starEach [] (Y.X i).env)).any (·.1) = false := by intro _; rfl) : XS Y (.Call (.Name "len" p') [.Name x pn] [] pos) Γ (Δ.length : Int) := by
  refine ⟨_, fun i => pe_callB (c_len Y i) (hg i) (by rw [Y.hM]; exact hl) (by decide +kernel) (pa_cons (pe_var (hN i) (hv i) hd hcd) pa_nil (he i)) (by decide) (by decide) (he i) (hpl i), fun B F H os σ Q I q => ?_⟩
  obtain ⟨o, fp, e, l, vs, osl, rfl, _, h1, h2⟩ := I.slot hs
  refine ⟨_, e, l, vs, rfl, .inl (SqL.of h1), ?_⟩
  have hlen : vs.length = Δ.length := by have := h2.length; simpa using this
  rw [hlen]; exact q
end
end Ty

/-! Ty33 -/
/-! an owned thing put into an owned list of owned things -/
namespace Ty
open PySem PySem.Spec L2
open PyProof.Rows (envOfC)
theorem Slots.putAt {F H : Hp} {os : List Addr} {σ : List (Option V)} {Δ : List Slot} {j : Nat} {s : Slot} {fp : List Addr} {v : V} (S : Slots F H os σ Δ) (hj : j < Δ.length) (p : s.P F H fp (some v)) : ∃ d os', Slots F H os' (σ.set j (some v)) (Δ.set j s) ∧ (fp ++ os).Perm (d ++ os') := by
  obtain ⟨o, f1, r, e, q, hp, kk⟩ := S.at (i := j) (s := Δ[j]) (List.getElem?_eq_getElem hj)
  obtain ⟨os', h1, h2⟩ := kk (F' := F) (H' := H) (fp' := fp) (o' := some v) (s' := s) p fun _ _ _ _ _ h => h
  refine ⟨f1, os', h1, ?_⟩
  refine (List.Perm.append_left fp hp).trans ?_
  refine List.Perm.trans ?_ (List.Perm.append_left f1 h2.symm)
  rw [← List.append_assoc, ← List.append_assoc]
  exact List.Perm.append_right r List.perm_append_comm
section
variable {P : Program} {w : World} {K : PySem.W.Frag} {mg : Str → Option Value} {base : Heap} {k : Nat}
variable {Y : Fa P w K mg base k} {i : Y.I} {e ea eb eo ev tg iter elt : Expr} {es ifs : List Expr} {rest body : List Stmt} {Γ Γ' Γ1 Γ2 Δ Δ' : List Slot} {a b c r s s' : Slot} {pos : Pos} {B : Bs} {D : Ends} {x g f : Str} {p' : Pos}
theorem go_setitemO {up : Slot → List Slot} {pos' : Pos} {z : Int} {j : Nat} (ho : PL Y eo Γ (lstS Δ) up) (hi : XV Y eb Γ (vInt z)) (he : XV Y e Γ s) (hj : ixN Δ.length z = some j) (hsd : Stb Δ) (hst : s.st) (hg : Go Y i rest D B (up (lstS (Δ.set j s))))
    (hsi : Si (Y.X i) eo eb e pos' pos.line := by exact ⟨fun _ => rfl, rfl, rfl, rfl⟩) : Go Y i (.Assign [.Subscript eo eb pos'] e pos :: rest) D B Γ := by
  obtain ⟨t, Pv, pe, pst, rd, up'⟩ := ho
  obtain ⟨t2, pe2, rd2⟩ := he
  obtain ⟨t3, pe3, rd3⟩ := hi
  refine go_ps (ps_asg (pe2 i) (pg_sub (pe i) (pe3 i) set_list hsi.ha) hsi.hs hsi.hw hsi.h1) fun F H σ ⟨os, W, S⟩ => ?_
  refine rd2 B F H os σ _ (Sta.in W S) fun y F1 H1 fy f1 e1 W1 p1 => ?_
  have I1 := (Sta.in W S).step f1 e1 W1
  refine rd B F1 H1 _ σ _ I1 fun v hv => ?_
  refine rd3 B F1 H1 _ σ _ I1 fun y2 F2 H2 fy2 f2 e2 W2 p2 => ?_
  obtain rfl := vint p2
  have ry := s.mono f2 e2 p1
  obtain ⟨fp1, r1, hr1, hp1, kk1⟩ := up' F2 H2 os σ _ (S.mono (f1.trans f2) (e1.trans e2)) (pst _ _ _ _ e2 hv)
  obtain ⟨l1, vs1, osl, ev1, ef1, g1, g2⟩ := hp1
  cases ev1; subst ef1
  have hlen : vs1.length = Δ.length := by have := g2.length; simpa using this
  have hjl : j < Δ.length := by
    unfold ixN at hj
    split at hj <;> (first | (cases hj; omega) | (split at hj <;> (first | (cases hj; omega) | cases hj)) | cases hj)
  refine ⟨l1, vs1, z, j, rfl, rfl, g1, by rw [hlen]; exact hj, ?_⟩
  have W3 : Wo B F2 H2 (l1 :: ((fy ++ osl) ++ r1)) := W2.drop.perm (by
    refine (List.Perm.append_left fy hr1).trans ?_
    show (fy ++ (l1 :: osl ++ r1)).Perm (l1 :: (fy ++ osl ++ r1))
    refine (List.perm_middle (a := l1) (l₁ := fy) (l₂ := osl ++ r1)).trans (List.Perm.cons l1 ?_)
    rw [List.append_assoc])
  have nd := List.nodup_cons.mp W3.nd
  have hk : ∀ q ∈ (fy ++ osl) ++ r1, upd H2 l1 (.lst (vs1.set j y)) q = H2 q := fun q hq => upd_ne fun z => nd.1 (z ▸ hq)
  obtain ⟨d, os', S3, hpd⟩ := (g2.mm (H' := upd H2 l1 (.lst (vs1.set j y))) same_refl hsd fun q hq => hk q (by simp [hq])).putAt (s := s) (v := y) (fp := fy) hjl (s.mm hst same_refl (fun q hq => hk q (by simp [hq])) ry)
  rw [← List.map_set] at S3
  obtain ⟨os2, h1', h2'⟩ := kk1 F2 (upd H2 l1 (.lst (vs1.set j y))) (l1 :: os') (lstS (Δ.set j s)) same_refl (fun q hq => hk q (by simp [hq])) ⟨l1, _, _, rfl, rfl, upd_same, S3⟩
  refine hg F2 _ σ ⟨os2, Wo.drop (a := d) (((W3.write (o := .lst (vs1.set j y)) List.mem_cons_self).perm ?_)), h1'⟩
  refine List.Perm.trans (List.Perm.cons l1 (List.Perm.append_right r1 hpd)) ?_
  refine List.Perm.trans ?_ (List.Perm.append_left d h2'.symm)
  show (l1 :: (d ++ os' ++ r1)).Perm (d ++ (l1 :: os' ++ r1))
  rw [List.append_assoc]
  exact (List.perm_middle (a := l1) (l₁ := d) (l₂ := os' ++ r1)).symm
/-- what is looked at, its items without a heap -/
theorem XV.bl {α : Type} {p : VP α} {xs : List α} (h : XV Y e Γ (bor (pL p) xs)) (hf : Flat p) : XV Y e Γ (borL p xs) := h.as fun F H fp o _ ⟨e1, v, e2, l, vs, ev, h1, h2⟩ => ⟨e1, l, vs, by rw [e2, ev], h1, Paired.mon (fun _ _ r => hf _ _ _ _ r) h2⟩
end
end Ty

/-! Ty34 -/
/-! an own == said plainly; what leans on no list -/
namespace Ty
open PySem PySem.Spec L2
open PyProof.Rows (envOfC)
section
variable {P : Program} {w : World} {K : PySem.W.Frag} {mg : Str → Option Value} {base : Heap} {k : Nat}
variable {Y : Fa P w K mg base k} {Γ : List Slot} {a b s : Slot} {C C' : Addr} {ns : List Str} {α β : Type} {q : VP β} {f : Addr} {fd : FuncData} {ps : List Str} {As : α × β → List Slot} {m : α × β → Option Bool} {j : Nat}
theorem o_ownE {sl : α → List Slot} {z : α × β} {r : Bool} (hA : As z = [val (pObj C ns sl) z.1, val q z.2]) (ha : Vw a (pObj C ns sl) z.1) (hb : Vw b q z.2) (ho : OthV K C q z.2) (hm : m z = some r) : Op2 (rOwn K C (spP As m (val pBl)) E0' id) a b (vBl r) := o_own (g := id) hA ha hb ho hm
theorem o_ownN {sl : α → List Slot} {z : α × β} {r : Bool} (hA : As z = [val (pObj C ns sl) z.1, val q z.2]) (ha : Vw a (pObj C ns sl) z.1) (hb : Vw b q z.2) (ho : OthV K C q z.2) (hm : m z = some r) : Op2 (rOwn K C (spP As m (val pBl)) E0' not) a b (vBl (!r)) := o_own (g := not) hA ha hb ho hm
end
theorem stb_setS {Γ : List Slot} {s : Slot} (h : Stb Γ) (hs : s.st) {j : Nat} : Stb (Γ.set j s) := fun x hx => by
  rcases List.mem_or_eq_of_mem_set hx with q | rfl
  · exact h x q
  · exact hs
/-- a def that may raise, where it does not -/
def okR {α : Type} (o : Option (Rx α)) : Option α := o.bind fun
  | .ok a => some a
  | .ex _ => none
theorem okR_some {α : Type} {o : Option (Rx α)} {a : α} (h : okR o = some a) : o = some (.ok a) := by
  unfold okR at h
  obtain ⟨x, h1, h2⟩ := Option.bind_eq_some_iff.mp h
  cases x with
  | ok r => cases h2; exact h1
  | ex e => cases h2
section
variable {P : Program} {w : World} {K : PySem.W.Frag} {mg : Str → Option Value} {base : Heap} {k : Nat}
variable {Y : Fa P w K mg base k} {i : Y.I} {Γ : List Slot} {pos p' pn : Pos} {x : Str}
theorem xs_lenM {α : Type} {gs : α → Slot} {xs : List α} (j : Nat) (hl : mg "len" = none) (hs : Γ[j]? = some (lstS (xs.map gs)) := by rfl) (hN : ∀ i, (Y.X i).N[j]? = some x := by intro _; rfl)
    (hv : ∀ i, Vis (Y.X i).env.scope x := by intro _; first | exact Or.inl rfl | exact Or.inr (Or.inl rfl) | exact Or.inr (Or.inr rfl)) (hd : (x == ("__debug__" : Str)) = false := by decide) (hcd : (x == ("__classdict__" : Str)) = false := by decide) (hg : ∀ i, Gl (Y.X i) "len" := by intro _; rfl)
    (he : ∀ i, starEach [.Name x pn] (Y.X i).env = (false, eval (.Name x pn) (Y.X i).env) :: starEach [] (Y.X i).env := by intro _; rfl) (hpl : ∀ i, (backTo pos (starEach [] (Y.X i).env)).any (·.1) = false := by intro _; rfl) : XS Y (.Call (.Name "len" p') [.Name x pn] [] pos) Γ (xs.length : Int) := by
  have h := xs_lenO (Y := Y) (pos := pos) (p' := p') (pn := pn) j hl hs hN hv hd hcd hg he hpl
  rw [List.length_map] at h
  exact h
end
section
variable {P : Program} {w : World} {K : PySem.W.Frag} {mg : Str → Option Value} {base : Heap} {k : Nat}
variable {Y : Fa P w K mg base k} {i : Y.I} {tg iter elt : Expr} {ifs : List Expr} {Γ : List Slot} {pos : Pos} {scope : Scope}
theorem x_emptyL {α : Type} {p : VP α} : XV Y (.List [] pos) Γ (own (oL p) ([] : List α)) := x_lst (xs := []) xa_nil (Nat.zero_le _)
end
theorem Kp.xd {F F' : Hp} (h : Kp F F') {a : Addr} {d : HO} (e : F a = some d) (hd : ∀ vs, d ≠ .lst vs) : F' a = some d := h a d e hd
end Ty

/-! Ty35 -/
/-! dicts whose keys are tuples within tuples -/
namespace Ty
open PySem PySem.Spec L2
mutual
/-- v is such a key, its tuples in H -/
inductive NkR (H : Hp) : NestedKey → V → Prop
  | non : NkR H .none .non
  | int (i : Int) : NkR H (.num i) (.int i)
  | str (x : Str) : NkR H (.text x) (.str x)
  | tup {l : Addr} {vs : List V} {ks : List NestedKey} : H l = some (.tup vs) → NkA H ks vs → NkR H (.tup ks) (.ref l)
inductive NkA (H : Hp) : List NestedKey → List V → Prop
  | nil : NkA H [] []
  | cons {k : NestedKey} {v : V} {ks : List NestedKey} {vs : List V} : NkR H k v → NkA H ks vs → NkA H (k :: ks) (v :: vs)
end
mutual
theorem NkR.mono {H H' : Hp} (h : ∀ l vs, H l = some (.tup vs) → H' l = some (.tup vs)) : ∀ (k : NestedKey) (v : V), NkR H k v → NkR H' k v
  | .none, _, hx => by cases hx; exact .non
  | .num i, _, hx => by cases hx; exact .int i
  | .text x, _, hx => by cases hx; exact .str x
  | .tup ks, _, hx => by
    cases hx with
    | tup e r => exact .tup (h _ _ e) (NkA.mono h ks _ r)
theorem NkA.mono {H H' : Hp} (h : ∀ l vs, H l = some (.tup vs) → H' l = some (.tup vs)) : ∀ (ks : List NestedKey) (vs : List V), NkA H ks vs → NkA H' ks vs
  | [], _, hx => by cases hx; exact .nil
  | k :: ks, _, hx => by
    cases hx with
    | cons a b => exact .cons (NkR.mono h k _ a) (NkA.mono h ks _ b)
end
mutual
theorem nk_is {P : Program} {w : World} {H : Hp} {h : Heap} (ok : HOk P w H h) : ∀ (k : NestedKey) (v : V) (u : Value), NkR H k v → RelV v u → NestedIs h k u
  | .none, _, u, hx, r => by
    cases hx
    rw [show u = Value.none from r]
    exact .none
  | .num i, _, u, hx, r => by
    cases hx
    obtain ⟨t, rfl⟩ := (show ∃ t, u = Value.int i t from r)
    exact .int i t
  | .text x, _, u, hx, r => by
    cases hx
    obtain ⟨t, rfl⟩ := (show ∃ t, u = Value.str x t from r)
    exact .text x t
  | .tup ks, _, u, hx, r => by
    cases hx with
    | @tup l vs _ e q =>
      rw [show u = Value.ref l from r]
      obtain ⟨_, its, rv, ob, e1, e2, n, e3⟩ := ok l _ e
      exact .tup e1 e2 e3 (by simpa using nka_is ok ks vs its q rv)
theorem nka_is {P : Program} {w : World} {H : Hp} {h : Heap} (ok : HOk P w H h) : ∀ (ks : List NestedKey) (vs : List V) (us : List Value), NkA H ks vs → Vals vs us → NestedAll h ks us
  | [], _, us, hx, r => by
    cases hx
    cases r
    exact .nil
  | k :: ks, _, us, hx, r => by
    cases hx with
    | cons a b =>
      cases r with
      | cons r1 r2 => exact .cons (nk_is ok k _ _ a r1) (nka_is ok ks _ _ b r2)
end
def pNK : VP NestedKey where
  R := fun F v k => NkR F k v ∧ k.depth ≤ 8 ∧ ∃ l, v = .ref l
  mono := fun hF h => ⟨NkR.mono (fun l vs e => hF _ _ e) _ _ h.1, h.2⟩
/-! ### the dict -/
abbrev NDX := List (NestedKey × Addr × V)
def ndo (P : Program) (w : World) (d : Addr) (xs : NDX) : HO := .ext fun h => xs.length ≤ sizeLine ∧ (d == sysModules) = false ∧ ∃ ys : List (NestedKey × Addr × Value),
  Paired (fun (x : NestedKey × Addr × V) (y : NestedKey × Addr × Value) => x.1 = y.1 ∧ x.2.1 = y.2.1 ∧ RelV x.2.2 y.2.2) xs ys ∧
  ∃ o es ep, h.get? d = some o ∧ o.ExactDict ∧ o.data = .dict es ep ∧ es.toList = ys.map (entryOfKey (nestedKind P w)) ∧ (ys.map (·.1)).Nodup
abbrev NRl (xs : NDX) (ys : List (NestedKey × Addr × Value)) : Prop := Paired (fun (x : NestedKey × Addr × V) (y : NestedKey × Addr × Value) => x.1 = y.1 ∧ x.2.1 = y.2.1 ∧ RelV x.2.2 y.2.2) xs ys
abbrev Kys (H : Hp) (xs : NDX) : Prop := ∀ x ∈ xs, pNK.R H (.ref x.2.1) x.1
theorem key_is {P : Program} {w : World} {H : Hp} {h : Heap} (ok : HOk P w H h) {k : NestedKey} {b : Addr} (r : pNK.R H (.ref b) k) : (nestedKind P w).is h k b := ⟨nk_is ok k _ _ r.1 rfl, r.2.1⟩
theorem nd_keys {P : Program} {w : World} {H : Hp} {h : Heap} (ok : HOk P w H h) : ∀ {xs : NDX} {ys : List (NestedKey × Addr × Value)}, NRl xs ys → Kys H xs → ∀ y ∈ ys, (nestedKind P w).is h y.1 y.2.1 := by
  intro xs ys r
  induction r with
  | nil => intro _ y hy; cases hy
  | @cons x y xs ys r _ ih =>
    intro hk z hz
    rcases List.mem_cons.mp hz with rfl | hz
    · rw [← r.1, ← r.2.1]
      exact key_is ok (hk x List.mem_cons_self)
    · exact ih (fun x hx => hk x (List.mem_cons_of_mem _ hx)) z hz
theorem nd_of {P : Program} {w : World} {H : Hp} {h : Heap} (ok : HOk P w H h) {d : Addr} {xs : NDX} (e : H d = some (ndo P w d xs)) (hk : Kys H xs) :
    xs.length ≤ sizeLine ∧ (d == sysModules) = false ∧ ∃ ys, NRl xs ys ∧ h.DictOfH (nestedKind P w) d ys := by
  have x : ObjOk P w H h d (ndo P w d xs) := ok d _ e
  unfold ndo at x
  obtain ⟨⟨z, hd, ys, r, o, es, ep, e1, e2, e3, e4, e5⟩, _, _⟩ := x
  exact ⟨z, hd, ys, r, o, es, ep, e1, e2, e3, e4, nd_keys ok r hk, e5⟩
theorem nd_new {P : Program} {w : World} {H : Hp} {h : Heap} {d : Addr} {xs : NDX} {ys : List (NestedKey × Addr × Value)} (z : xs.length ≤ sizeLine) (hd : (d == sysModules) = false) (r : NRl xs ys) (dd : h.DictOfH (nestedKind P w) d ys) : ObjOk P w H h d (ndo P w d xs) := by
  obtain ⟨o, es, ep, e1, e2, e3, e4, _, e5⟩ := dd
  unfold ndo
  refine ⟨⟨z, hd, ys, r, o, es, ep, e1, e2, e3, e4, e5⟩, ⟨o, e1⟩, fun h1 h2 p k => ?_⟩
  obtain ⟨z, hd, ys, r, o, es, ep, e1, e2, e3, e4, e5⟩ := p
  exact ⟨z, hd, ys, r, o, es, ep, k _ e1, e2, e3, e4, e5⟩
def atN (xs : NDX) (k : NestedKey) : Option V := (xs.find? fun x => decide (x.1 = k)).map (·.2.2)
def putN (xs : NDX) (k : NestedKey) (a : Addr) (v : V) : NDX := if (atN xs k).isSome = true then xs.map (fun x => if x.1 = k then (x.1, x.2.1, v) else x) else xs ++ [(k, a, v)]
theorem at_rel {xs : NDX} {ys : List (NestedKey × Addr × Value)} (r : NRl xs ys) (k : NestedKey) : RelO (atN xs k) ((atKey ys k).map (·.2)) := by
  induction r with
  | nil => exact True.intro
  | @cons x y xs ys r _ ih =>
    by_cases h : y.1 = k
    · have h' : x.1 = k := r.1.trans h
      have e1 : atN (x :: xs) k = some x.2.2 := by simp [atN, List.find?_cons, h']
      have e2 : (atKey (y :: ys) k).map (·.2) = some y.2.2 := by simp [atKey, List.find?_cons, h]
      rw [e1, e2]
      exact r.2.2
    · have h' : ¬ x.1 = k := fun z => h (r.1.symm.trans z)
      have e1 : atN (x :: xs) k = atN xs k := by simp [atN, List.find?_cons, h']
      have e2 : atKey (y :: ys) k = atKey ys k := by simp [atKey, List.find?_cons, h]
      rw [e1, e2]
      exact ih
theorem put_rel {xs : NDX} {ys : List (NestedKey × Addr × Value)} (r : NRl xs ys) (k : NestedKey) (a : Addr) {v : V} {u : Value} (rv : RelV v u) : NRl (putN xs k a v) (storedH ys k a u) := by
  have hs := (at_rel r k).isSome_eq
  rw [Option.isSome_map] at hs
  unfold putN storedH
  rw [hs]
  split
  · rename_i hh; clear hh hs
    induction r with
    | nil => exact .nil
    | @cons x y xs ys r _ ih =>
      rw [List.map_cons, List.map_cons]
      refine .cons ?_ ih
      unfold putAt
      by_cases h : y.1 = k
      · rw [if_pos h, if_pos (r.1.trans h)]
        exact ⟨r.1, r.2.1, rv⟩
      · rw [if_neg h, if_neg fun z => h (r.1.symm.trans z)]
        exact r
  · exact Paired.app r (.cons ⟨rfl, rfl, rv⟩ .nil)
theorem putN_len (xs : NDX) (k : NestedKey) (a : Addr) (v : V) : (putN xs k a v).length ≤ xs.length + 1 := by
  unfold putN
  split <;> simp
theorem putN_keys {H : Hp} {xs : NDX} {k : NestedKey} {a : Addr} {v : V} (h : Kys H xs) (hk : pNK.R H (.ref a) k) : Kys H (putN xs k a v) := by
  unfold putN
  split
  · intro x hx
    obtain ⟨y, hy, rfl⟩ := List.mem_map.mp hx
    have := h y hy
    split <;> exact this
  · intro x hx
    rcases List.mem_append.mp hx with hx | hx
    · exact h x hx
    · rw [List.mem_singleton.mp hx]; exact hk
/-! ### reading and writing -/
def NGet (P : Program) (w : World) (H : Hp) (d : Addr) (y : V) (r : Option V) : Prop := ∃ xs k b, H d = some (ndo P w d xs) ∧ Kys H xs ∧ y = .ref b ∧ pNK.R H y k ∧ r = atN xs k
section
variable {X : Cx} {pins : List (Addr × Obj)} {σ : St} {H : Hp} {s : Shared} {d : Addr} {y v : V} {u r : Value} {o : Option V} {A : Around} {E : Value → Shared → Prop}
theorem n_getItem {Q : Value → Shared → Prop} (hu : A.units + 9 < cLine) (I : Inv X pins σ H s) (g : NGet X.prog X.w H d y (some v)) (ry : RelV y u) (h : ∀ w' s', Inv X pins σ H s' → RelV v w' → Q w' s') :
    wpAny (model X.prog X.w) A (getItem (.ref d) u) Q E s := by
  obtain ⟨xs, k, b, e, hk, rfl, hy, l⟩ := g
  cases (show u = Value.ref b from ry)
  obtain ⟨z, hd, ys, rel, dd⟩ := nd_of I.hok e hk
  obtain ⟨w', hw, rw'⟩ := RelO.some_of (v := v) (o := (atKey ys k).map (·.2)) (by rw [l]; exact at_rel rel k)
  obtain ⟨p, hp, hp2⟩ := Option.map_eq_some_iff.mp hw
  refine wpAny_getItem_heap (knd := nestedKind X.prog X.w) (show A.units + 1 + 8 < cLine by omega) (key_is I.hok hy) dd hp ?_
  rw [hp2]
  exact h w' _ (I.tok _) rw'
theorem n_in {Q : Value → Shared → Prop} (hu : A.units + 9 < cLine) (I : Inv X pins σ H s) (g : NGet X.prog X.w H d y o) (ry : RelV y u) (h : ∀ s', Inv X pins σ H s' → Q (.bool o.isSome) s') :
    wpAny (model X.prog X.w) A (compareOp .In u (.ref d)) Q E s := by
  obtain ⟨xs, k, b, e, hk, rfl, hy, l⟩ := g
  cases (show u = Value.ref b from ry)
  obtain ⟨z, hd, ys, rel, dd⟩ := nd_of I.hok e hk
  refine wpAny_in_heap (knd := nestedKind X.prog X.w) (show A.units + 1 + 8 < cLine by omega) (key_is I.hok hy) hd dd ?_
  have q := (at_rel rel k).isSome_eq
  rw [Option.isSome_map] at q
  rw [← q, ← l]
  exact h _ (I.tok _)
theorem n_notIn {Q : Value → Shared → Prop} (hu : A.units + 9 < cLine) (I : Inv X pins σ H s) (g : NGet X.prog X.w H d y o) (ry : RelV y u) (h : ∀ s', Inv X pins σ H s' → Q (.bool (!o.isSome)) s') :
    wpAny (model X.prog X.w) A (compareOp .NotIn u (.ref d)) Q E s := by
  obtain ⟨xs, k, b, e, hk, rfl, hy, l⟩ := g
  cases (show u = Value.ref b from ry)
  obtain ⟨z, hd, ys, rel, dd⟩ := nd_of I.hok e hk
  refine PyProof.Rows.wpAny_notIn_heap (knd := nestedKind X.prog X.w) (show A.units + 1 + 8 < cLine by omega) (key_is I.hok hy) hd dd ?_
  have q := (at_rel rel k).isSome_eq
  rw [Option.isSome_map] at q
  rw [← q, ← l]
  exact h _ (I.tok _)
theorem n_setItem {xs : NDX} {k : NestedKey} {b : Addr} {Q : Unit → Shared → Prop} (hu : A.units + 9 < cLine) (I : Inv X pins σ H s) (e : H d = some (ndo X.prog X.w d xs)) (hk : Kys H xs) (hy : pNK.R H (.ref b) k) (l : xs.length < sizeLine) (rv : RelV v r)
    (h : ∀ s', Inv X pins σ (upd H d (ndo X.prog X.w d (putN xs k b v))) s' → Q () s') : wpAny (model X.prog X.w) A (setItem (.ref d) (.ref b) r) Q E s := by
  obtain ⟨z, hd, ys, rel, dd⟩ := nd_of I.hok e hk
  have hz : ys.length ≤ sizeLine := by rw [← Paired.length rel]; exact z
  have hl : (putN xs k b v).length ≤ sizeLine := by have := putN_len xs k b v; omega
  refine wpAny_setItem_heap (knd := nestedKind X.prog X.w) (hsz := hz) (show A.units + 1 + 8 < cLine by omega) (key_is I.hok hy) dd fun h' dd' hs => h _ ?_
  have he : ∃ q, h'.get? d = some q := let ⟨q, _, _, hq, _⟩ := dd'; ⟨q, hq⟩
  exact d_write I (by rw [e]; unfold ndo; exact True.intro) hs he (nd_new hl hd (put_rel rel k b rv) dd')
theorem n_typeIs (I : Inv X pins σ H s) (g : NGet X.prog X.w H d y o) : s.TypeIs (.ref d) "dict" := by
  obtain ⟨xs, k, b, e, hk, _⟩ := g
  obtain ⟨_, _, ys, _, dd⟩ := nd_of I.hok e hk
  exact dd.typeIs
end
def tNGet (P : Program) (w : World) (td ty : TE) : TE := fun σ H Q => td σ H fun x H1 => ty σ H1 fun y H2 => ∃ a v, x = .ref a ∧ NGet P w H2 a y (some v) ∧ Q v H2
def tNIn (P : Program) (w : World) (ty td : TE) : TE := fun σ H Q => ty σ H fun y H1 => td σ H1 fun x H2 => ∃ a o, x = .ref a ∧ NGet P w H2 a y o ∧ Q (.bl o.isSome) H2
def tNNotIn (P : Program) (w : World) (ty td : TE) : TE := fun σ H Q => ty σ H fun y H1 => td σ H1 fun x H2 => ∃ a o, x = .ref a ∧ NGet P w H2 a y o ∧ Q (.bl (!o.isSome)) H2
def sNPut (P : Program) (w : World) (td ty tv : TE) : TS := fun D σ H => tv σ H fun v H1 => td σ H1 fun x H2 => ty σ H2 fun y H3 => ∃ a xs k b, x = .ref a ∧ H3 a = some (ndo P w a xs) ∧ Kys H3 xs ∧ y = .ref b ∧ pNK.R H3 y k ∧ xs.length < sizeLine ∧ D.nx σ (upd H3 a (ndo P w a (putN xs k b v)))
def tNNew (P : Program) (w : World) : TE := fun _ H Q => ∀ p, H p = none → Q (.ref p) (upd H p (ndo P w p []))
section
variable {X : Cx} {o i e value : Expr} {pos pos' tpos : Pos} {td ty tv : TE}
theorem pe_nget (hu : X.A.units + 9 < cLine) (ho : PE X o td) (hi : PE X i ty) (hs : NoSl i) : PE X (.Subscript o i pos) (tNGet X.prog X.w td ty) := by
  refine ⟨fun pins s σ H Q I h => ?_⟩
  refine subD_of PySem.F.slot_dict_getitem.lookup hs (thn (ho.run pins s σ H _ I h) fun u s1 ⟨x, H1, I1, rx, q1⟩ => thn (hi.run pins s1 σ H1 _ I1 q1) fun iv s2 ⟨y, H2, I2, ry, a, v, ex, g, q2⟩ => ?_)
  subst ex
  obtain rfl : u = Value.ref a := rx
  exact ⟨n_typeIs I2 g, n_getItem hu I2 g ry fun w' s3 I3 rw' => ⟨v, H2, I3, rw', q2⟩⟩
theorem pc_nin (hu : X.A.units + 9 < cLine) (hi : PE X i ty) (ho : PE X o td) : PC X .In i o (tNIn X.prog X.w ty td) := by
  refine ⟨fun pins s σ H Q I h => ?_⟩
  refine thn (hi.run pins s σ H _ I h) fun iv s1 ⟨y, H1, I1, ry, q1⟩ => thn (ho.run pins s1 σ H1 _ I1 q1) fun u s2 ⟨x, H2, I2, rx, a, ov, ex, g, q2⟩ => ?_
  subst ex
  obtain rfl : u = Value.ref a := rx
  exact n_in hu I2 g ry fun s3 I3 => ⟨.bl ov.isSome, H2, I3, rfl, q2⟩
theorem pc_nnotin (hu : X.A.units + 9 < cLine) (hi : PE X i ty) (ho : PE X o td) : PC X .NotIn i o (tNNotIn X.prog X.w ty td) := by
  refine ⟨fun pins s σ H Q I h => ?_⟩
  refine thn (hi.run pins s σ H _ I h) fun iv s1 ⟨y, H1, I1, ry, q1⟩ => thn (ho.run pins s1 σ H1 _ I1 q1) fun u s2 ⟨x, H2, I2, rx, a, ov, ex, g, q2⟩ => ?_
  subst ex
  obtain rfl : u = Value.ref a := rx
  exact n_notIn hu I2 g ry fun s3 I3 => ⟨.bl (!ov.isSome), H2, I3, rfl, q2⟩
theorem ps_nput (hu : X.A.units + 9 < cLine) (ho : PE X o td) (hi : PE X i ty) (hv : PE X value tv) (hs : swapsWith value (some (.Subscript o i pos')) pos.line X.env = pure false) :
    PS X (.Assign [.Subscript o i pos'] value pos) (sNPut X.prog X.w td ty tv) := by
  refine ⟨fun pins s σ H D I h => ?_⟩
  refine wpAny_Assign_Subscript (thn (hv.run pins s σ H _ I h) fun r s1 ⟨v, H1, I1, rv, q1⟩ => thn (ho.run pins s1 σ H1 _ I1 q1) fun u s2 ⟨x, H2, I2, rx, q2⟩ => thn (hi.run pins s2 σ H2 _ I2 q2) fun iv s3 ⟨y, H3, I3, ry, a, xs, k, b, ex, e, hk, ey, hy, l, q3⟩ => ?_) hs
  subst ex ey
  obtain rfl : u = Value.ref a := rx
  obtain rfl : iv = Value.ref b := ry
  exact n_setItem hu I3 e hk hy l rv fun s4 I4 => ⟨σ, _, I4, q3⟩
theorem pe_nnew : PE X (.Dict [] [] pos) (tNNew X.prog X.w) := ⟨fun pins s σ H Q I h =>
  wpAny_Dict_empty ⟨.ref s.heap.objs.size, _, I.laid (a := s.heap.objs.size) (o := ndo X.prog X.w s.heap.objs.size []) (t' := s.toks) (fun _ _ q => Heap.get?_push_of_some _ q) (Nat.le_refl _)
    (nd_new (Nat.zero_le _) (beq_eq_false_iff_ne.mpr (Ne.symm (Nat.ne_of_lt I.big))) .nil (Heap.DictOfH.new s.heap)), rfl, h _ (I.hok.fresh (Nat.le_refl _))⟩⟩
end
def rLenN (P : Program) (w : World) : List V → Hp → VK → Prop := fun vs H Q => ∃ (p : Addr) (xs : NDX), vs = [.ref p] ∧ H p = some (ndo P w p xs) ∧ Kys H xs ∧ Q (.int ((xs.length : Nat) : Int)) H
theorem call_lenN {X : Cx} : CallR X (.builtin "len") (rLenN X.prog X.w) := by
  intro pins s σ H xs us Q I r h
  obtain ⟨p, kvs, rfl, hp, hk, q⟩ := h
  obtain ⟨u, rfl, rx⟩ := vals1 r
  obtain rfl : u = .ref p := rx
  obtain ⟨z, hd, ys, rel, dd⟩ := nd_of I.hok hp hk
  have hl : kvs.length = ys.length := Paired.length rel
  refine call_len_dictH hd dd (by rw [← hl]; rw [sizeLine_eq] at z; omega) ?_
  rw [← hl]
  exact ⟨.int ((kvs.length : Nat) : Int), H, I.tok _, ⟨_, rfl⟩, q⟩
/-! ### typed -/
section
variable {β : Type} {P : Program} {w : World} {p : VP β}
abbrev NRel (p : VP β) (F : Hp) (xs : NDX) (kvs : List (NestedKey × β)) : Prop := Paired (fun (x : NestedKey × Addr × V) (kv : NestedKey × β) => x.1 = kv.1 ∧ pNK.R F (.ref x.2.1) x.1 ∧ p.R F x.2.2 kv.2) xs kvs
theorem NRel.keys {F : Hp} {xs : NDX} {kvs : List (NestedKey × β)} (h : NRel p F xs kvs) : Kys F xs := by
  induction h with
  | nil => intro x hx; cases hx
  | cons r _ ih =>
    intro x hx
    rcases List.mem_cons.mp hx with rfl | hx
    · exact r.2.1
    · exact ih x hx
theorem nrel_mono {F F' : Hp} (hF : Same F F') {xs : NDX} {kvs : List (NestedKey × β)} (h : NRel p F xs kvs) : NRel p F' xs kvs := Paired.mon (fun _ _ r => ⟨r.1, pNK.mono hF r.2.1, p.mono hF r.2.2⟩) h
theorem nget_of {F : Hp} {xs : NDX} {kvs : List (NestedKey × β)} (h : NRel p F xs kvs) (k : NestedKey) : (∀ u, dget kvs k = some u → ∃ v, atN xs k = some v ∧ p.R F v u) ∧ (atN xs k).isSome = (dget kvs k).isSome := by
  induction h with
  | nil => exact ⟨fun u hu => (nomatch hu), rfl⟩
  | @cons x kv xs kvs r _ ih =>
    by_cases e : kv.1 = k
    · have e' : x.1 = k := r.1.trans e
      have e1 : atN (x :: xs) k = some x.2.2 := by simp [atN, List.find?_cons, e']
      have e2 : dget (kv :: kvs) k = some kv.2 := by simp [dget, List.find?_cons, e]
      rw [e1, e2]
      exact ⟨fun u hu => ⟨_, rfl, by cases hu; exact r.2.2⟩, rfl⟩
    · have e' : ¬ x.1 = k := fun z => e (r.1.symm.trans z)
      have e1 : atN (x :: xs) k = atN xs k := by simp [atN, List.find?_cons, e']
      have e2 : dget (kv :: kvs) k = dget kvs k := by simp [dget, List.find?_cons, e]
      rw [e1, e2]
      exact ih
theorem any_isSome (kvs : List (NestedKey × β)) (k : NestedKey) : (kvs.any fun kv => decide (kv.1 = k)) = (dget kvs k).isSome := by
  induction kvs with
  | nil => rfl
  | cons a r ih =>
    by_cases e : a.1 = k
    · simp [dget, List.find?_cons, e]
    · simpa [dget, List.find?_cons, e] using ih
theorem nrel_put {F : Hp} {xs : NDX} {kvs : List (NestedKey × β)} (h : NRel p F xs kvs) (k : NestedKey) {a : Addr} {v : V} {u : β} (hk : pNK.R F (.ref a) k) (hv : p.R F v u) : NRel p F (putN xs k a v) (dput kvs k u) := by
  have hs := (nget_of h k).2
  unfold putN dput
  rw [any_isSome, hs]
  split
  · clear hs
    rename_i hh; clear hh
    induction h with
    | nil => exact .nil
    | @cons x kv xs kvs r _ ih =>
      rw [List.map_cons, List.map_cons]
      refine .cons ?_ ih
      by_cases e : kv.1 = k
      · rw [if_pos e, if_pos (r.1.trans e)]
        exact ⟨r.1, r.2.1, hv⟩
      · rw [if_neg e, if_neg fun z => e (r.1.symm.trans z)]
        exact r
  · exact Paired.app h (.cons ⟨rfl, hk, hv⟩ .nil)
/-- an owned dict -/
def oN (P : Program) (w : World) (p : VP β) : OP (List (NestedKey × β)) where
  P := fun F H fp v kvs => ∃ d xs, v = .ref d ∧ fp = [d] ∧ H d = some (ndo P w d xs) ∧ NRel p F xs kvs
  mono := fun hF hH h => let ⟨d, vs, e, ef, h1, h2⟩ := h; ⟨d, vs, e, ef, hH _ _ h1, nrel_mono hF h2⟩
  mm := fun hF hH h => let ⟨d, vs, e, ef, h1, h2⟩ := h; ⟨d, vs, e, ef, by rw [hH d (by rw [ef]; exact List.mem_cons_self)]; exact h1, nrel_mono hF h2⟩
def borN (P : Program) (w : World) (p : VP β) (kvs : List (NestedKey × β)) : Slot where
  P := fun F H fp o => fp = [] ∧ ∃ d xs, o = some (.ref d) ∧ H d = some (ndo P w d xs) ∧ NRel p F xs kvs
  mono := fun hF hH h => let ⟨ef, d, vs, e, h1, h2⟩ := h; ⟨ef, d, vs, e, hH _ _ h1, nrel_mono hF h2⟩
  st := False
  mm := fun h => h.elim
def pN (P : Program) (w : World) (p : VP β) : VP (List (NestedKey × β)) where
  R := fun F v kvs => ∃ d xs, v = .ref d ∧ F d = some (ndo P w d xs) ∧ NRel p F xs kvs
  mono := fun hF h => let ⟨d, vs, e, h1, h2⟩ := h; ⟨d, vs, e, hF _ _ h1, nrel_mono hF h2⟩
theorem WkS.nd {kvs : List (NestedKey × β)} : WkS (Ty.own (oN P w p) kvs) (Ty.val (pN P w p) kvs) := fun F H fp o _ h => by
  obtain ⟨v, e, l, vs, el, ef, h1, h2⟩ := h
  subst ef
  exact ⟨[l], [], rfl, fun F' hF hs hx => ⟨rfl, v, e, l, vs, el, by rw [hx l List.mem_cons_self]; exact h1, nrel_mono hF h2⟩⟩
end
section
variable {P : Program} {w : World} {K : PySem.W.Frag} {mg : Str → Option Value} {base : Heap} {k : Nat} {β : Type} {p : VP β}
variable {Y : Fa P w K mg base k} {i : Y.I} {e ea eb eo ev tg iter elt : Expr} {es ifs : List Expr} {rest body : List Stmt} {Γ Γ' Γ1 Γ2 Δ Δ' : List Slot} {a b c r s s' : Slot} {pos : Pos} {B : Bs} {D : Ends} {x f : Str} {p' : Pos} {C : Addr} {ns : List Str}
theorem x_varN {kvs : List (NestedKey × β)} (j : Nat) (hs : Γ[j]? = some (Ty.own (oN P w p) kvs) := by rfl) (hN : ∀ i, (Y.X i).N[j]? = some x := by intro _; rfl)
    (hv : ∀ i, Vis (Y.X i).env.scope x := by intro _; first | exact Or.inl rfl | exact Or.inr (Or.inl rfl) | exact Or.inr (Or.inr rfl)) (hd : (x == ("__debug__" : Str)) = false := by decide) (hcd : (x == ("__classdict__" : Str)) = false := by decide) : XV Y (.Name x pos) Γ (borN P w p kvs) := by
  refine ⟨_, fun i => pe_var (hN i) (hv i) hd hcd, fun B F H os σ Q I q => ?_⟩
  obtain ⟨o, fp, e, v, ev, l, vs, el, _, h1, h2⟩ := I.slot hs
  subst ev; subst el
  exact ⟨_, e, q _ F H [] same_refl same_refl I.W ⟨rfl, l, vs, rfl, h1, h2⟩⟩
theorem x_fldN {kvs : List (NestedKey × β)} (j : Nat) (he : XV Y e Γ s) (ho : OV s C ns Δ) (hA : At K C f) (hj : Δ[j]? = some (Ty.own (oN P w p) kvs) := by rfl) (hn : ns[j]? = some f := by rfl) (nd : ns.Nodup := by decide +kernel) (hb : ∀ i, attributeBase e f (Y.X i).env (eval e (Y.X i).env) = eval e (Y.X i).env := by intro _; rfl) : XV Y (.Attribute e f pos) Γ (borN P w p kvs) := by
  obtain ⟨t, pe, rd⟩ := he
  refine ⟨_, fun i => by have h := pe_fld (pos := pos) (pe i) (hb i); rw [Y.hK i] at h; exact h, fun B F H os σ Q I q => ?_⟩
  refine rd B F H os σ _ I fun v F1 H1 fp f1 e1 W1 p1 => ?_
  obtain ⟨x, dx, vs, o2, ev, h1, h2, h3⟩ := ho F1 H1 fp _ W1.sub p1
  cases ev
  obtain ⟨o, fp', r', e3, p3, _, _⟩ := h3.at hj
  obtain ⟨v', ev, l, ws, el, ef, g1, g2⟩ := p3
  subst ev
  have e4 : vs[j]? = some v' := by
    rw [List.getElem?_map] at e3
    obtain ⟨y, hy, ey⟩ := Option.map_eq_some_iff.mp e3
    cases ey; exact hy
  exact ⟨x, C, dx, _, v', rfl, h1, hA.cl, hA.no, zip_lookup nd h2 hn e4, q v' F1 H1 [] f1 e1 W1.drop ⟨rfl, l, ws, by rw [el], g1, g2⟩⟩
theorem Fa.u9 (Y : Fa P w K mg base k) (i : Y.I) : (Y.X i).A.units + 9 < cLine := by have := Y.hU i; omega
theorem Kys.mono {F H : Hp} {xs : NDX} (hF : Same F H) (h : Kys F xs) : Kys H xs := fun x hx => pNK.mono hF (h x hx)
theorem ng_run {kvs : List (NestedKey × β)} {z : NestedKey} {B : Bs} {F H : Hp} {fx fy os : List Addr} {xv yv : V} (W : Wo B F H os) (p1 : (val pNK z).P F H fx (some xv)) (p2 : (borN P w p kvs).P F H fy (some yv)) :
    ∃ d, yv = .ref d ∧ ∃ o, NGet P w H d xv o ∧ o.isSome = (dget kvs z).isSome ∧ ∀ u, dget kvs z = some u → ∃ v, o = some v ∧ p.R F v u := by
  obtain ⟨_, d, xs, ev, h1, h2⟩ := p2
  cases ev
  obtain ⟨_, r1⟩ := val_P p1
  obtain ⟨l, el⟩ := r1.2.2
  obtain ⟨g1, g2⟩ := nget_of h2 z
  exact ⟨d, rfl, _, ⟨xs, z, l, h1, Kys.mono W.sub h2.keys, el, pNK.mono W.sub r1, rfl⟩, g2, g1⟩
theorem x_nget {kvs : List (NestedKey × β)} {z : NestedKey} {u : β} (ha : XV Y ea Γ (borN P w p kvs)) (hb : XV Y eb Γ (val pNK z)) (hz : dget kvs z = some u) (hx : NoSl eb := by exact fun _ _ => rfl) : XV Y (.Subscript ea eb pos) Γ (val p u) := by
  obtain ⟨ta, pa, ra⟩ := ha
  obtain ⟨tb, pb, rb⟩ := hb
  refine ⟨_, fun i => by have h := pe_nget (X := Y.X i) (pos := pos) (Y.u9 i) (pa i) (pb i) hx; rw [Y.hP i, Y.hw i] at h; exact h, fun B F H os σ Q I kk => ?_⟩
  refine two (Q := fun _ _ => True) I ra rb fun x y F2 H2 fx fy f2 e2 W2 p1 p2 => ?_
  obtain ⟨d, rfl, o, g, _, hg⟩ := ng_run W2 p2 p1
  obtain ⟨v, rfl, rv⟩ := hg u hz
  exact ⟨d, v, rfl, g, kk v F2 H2 [] f2 e2 W2.drop.drop ⟨rfl, _, rfl, rv⟩⟩
theorem x_nin {kvs : List (NestedKey × β)} {z : NestedKey} {t : Bool} (ha : XV Y ea Γ (val pNK z)) (hb : XV Y eb Γ (borN P w p kvs)) (ht : t = (dget kvs z).isSome) (hm : behindInMarks .In eb = false := by with_unfolding_all rfl) : XV Y (.Compare ea [.In] [eb] pos) Γ (vBl t) := by
  obtain ⟨ta, pa, ra⟩ := ha
  obtain ⟨tb, pb, rb⟩ := hb
  refine ⟨_, fun i => pe_cmp (by have h := pc_nin (X := Y.X i) (Y.u9 i) (pa i) (pb i); rw [Y.hP i, Y.hw i] at h; exact h) hm, fun B F H os σ Q I kk => ?_⟩
  refine two (Q := fun _ _ => True) I ra rb fun x y F2 H2 fx fy f2 e2 W2 p1 p2 => ?_
  obtain ⟨d, rfl, o, g, eo, _⟩ := ng_run W2 p1 p2
  exact ⟨d, o, rfl, g, kk _ F2 H2 [] f2 e2 W2.drop.drop ⟨rfl, _, rfl, by rw [eo, ht]; rfl⟩⟩
theorem xt_nin {kvs : List (NestedKey × β)} {z : NestedKey} {t : Bool} (ha : XV Y ea Γ (val pNK z)) (hb : XV Y eb Γ (borN P w p kvs)) (ht : t = (dget kvs z).isSome) (hm : behindInMarks .In eb = false := by with_unfolding_all rfl) : XT Y (.Compare ea [.In] [eb] pos) Γ t := by
  obtain ⟨ta, pa, ra⟩ := ha
  obtain ⟨tb, pb, rb⟩ := hb
  refine ⟨_, fun i => pt_cmp (by have h := pc_nin (X := Y.X i) (Y.u9 i) (pa i) (pb i); rw [Y.hP i, Y.hw i] at h; exact h) hm, fun B F H os σ Q I kk => ?_⟩
  refine two (Q := fun _ _ => True) I ra rb fun x y F2 H2 fx fy f2 e2 W2 p1 p2 => ?_
  obtain ⟨d, rfl, o, g, eo, _⟩ := ng_run W2 p1 p2
  refine ⟨d, o, rfl, g, _, rfl, ?_⟩
  rw [eo, ← ht]
  exact kk F2 H2 f2 e2 W2.drop.drop
theorem x_nnin {kvs : List (NestedKey × β)} {z : NestedKey} {t : Bool} (ha : XV Y ea Γ (val pNK z)) (hb : XV Y eb Γ (borN P w p kvs)) (ht : t = !(dget kvs z).isSome) (hm : behindInMarks .NotIn eb = false := by with_unfolding_all rfl) : XV Y (.Compare ea [.NotIn] [eb] pos) Γ (vBl t) := by
  obtain ⟨ta, pa, ra⟩ := ha
  obtain ⟨tb, pb, rb⟩ := hb
  refine ⟨_, fun i => pe_cmp (by have h := pc_nnotin (X := Y.X i) (Y.u9 i) (pa i) (pb i); rw [Y.hP i, Y.hw i] at h; exact h) hm, fun B F H os σ Q I kk => ?_⟩
  refine two (Q := fun _ _ => True) I ra rb fun x y F2 H2 fx fy f2 e2 W2 p1 p2 => ?_
  obtain ⟨d, rfl, o, g, eo, _⟩ := ng_run W2 p1 p2
  exact ⟨d, o, rfl, g, kk _ F2 H2 [] f2 e2 W2.drop.drop ⟨rfl, _, rfl, by rw [eo, ht]; rfl⟩⟩
theorem xt_nnin {kvs : List (NestedKey × β)} {z : NestedKey} {t : Bool} (ha : XV Y ea Γ (val pNK z)) (hb : XV Y eb Γ (borN P w p kvs)) (ht : t = !(dget kvs z).isSome) (hm : behindInMarks .NotIn eb = false := by with_unfolding_all rfl) : XT Y (.Compare ea [.NotIn] [eb] pos) Γ t := by
  obtain ⟨ta, pa, ra⟩ := ha
  obtain ⟨tb, pb, rb⟩ := hb
  refine ⟨_, fun i => pt_cmp (by have h := pc_nnotin (X := Y.X i) (Y.u9 i) (pa i) (pb i); rw [Y.hP i, Y.hw i] at h; exact h) hm, fun B F H os σ Q I kk => ?_⟩
  refine two (Q := fun _ _ => True) I ra rb fun x y F2 H2 fx fy f2 e2 W2 p1 p2 => ?_
  obtain ⟨d, rfl, o, g, eo, _⟩ := ng_run W2 p1 p2
  refine ⟨d, o, rfl, g, _, rfl, ?_⟩
  rw [eo, ← ht]
  exact kk F2 H2 f2 e2 W2.drop.drop
theorem x_nnew : XV Y (.Dict [] [] pos) Γ (own (oN P w p) ([] : List (NestedKey × β))) :=
  ⟨_, fun i => by have h := pe_nnew (X := Y.X i) (pos := pos); rw [Y.hP i, Y.hw i] at h; exact h, fun B F H os σ Q I kk l hl => kk _ F _ [l] same_refl (same_upd hl) (I.W.newO hl) ⟨_, rfl, l, [], rfl, rfl, upd_same, .nil⟩⟩
/-- d[k] = v -/
theorem go_nput {up : Slot → List Slot} {pos' : Pos} {kvs : List (NestedKey × β)} {z : NestedKey} {u : β} (ho : PL Y eo Γ (Ty.own (oN P w p) kvs) up) (hi : XV Y eb Γ (val pNK z)) (he : XV Y e Γ (val p u)) (hz : kvs.length < sizeLine) (hg : Go Y i rest D B (up (Ty.own (oN P w p) (dput kvs z u))))
    (hs : swapsWith e (some (.Subscript eo eb pos')) pos.line (Y.X i).env = pure false := by rfl) : Go Y i (.Assign [.Subscript eo eb pos'] e pos :: rest) D B Γ := by
  obtain ⟨t, Pv, pe, pst, rd, up'⟩ := ho
  obtain ⟨t2, pe2, rd2⟩ := he
  obtain ⟨t3, pe3, rd3⟩ := hi
  refine go_ps (t := sNPut P w t t3 t2) (by have h := ps_nput (X := Y.X i) (Y.u9 i) (pe i) (pe3 i) (pe2 i) hs; rw [Y.hP i, Y.hw i] at h; exact h) fun F H σ ⟨os, W, S⟩ => ?_
  refine rd2 B F H os σ _ (Sta.in W S) fun y F1 H1 fy f1 e1 W1 p1 => ?_
  have I1 := (Sta.in W S).step f1 e1 W1
  refine rd B F1 H1 _ σ _ I1 fun v hv => ?_
  refine rd3 B F1 H1 _ σ _ I1 fun y2 F2 H2 fy2 f2 e2 W2 p2 => ?_
  have ry := (val_P ((val p u).mono f2 e2 p1)).2
  obtain ⟨fp1, r1, hr1, hp1, kk1⟩ := up' F2 H2 os σ _ (S.mono (f1.trans f2) (e1.trans e2)) (pst _ _ _ _ e2 hv)
  obtain ⟨v1, ev1, l1, vs1, el1, ef1, g1, g2⟩ := hp1
  cases ev1; subst el1; subst ef1
  have r2 := (val_P p2).2
  obtain ⟨b, eb⟩ := r2.2.2
  subst eb
  refine ⟨l1, vs1, z, b, rfl, g1, Kys.mono W2.sub g2.keys, rfl, pNK.mono W2.sub r2, by rw [Paired.length g2]; exact hz, ?_⟩
  exact hg F2 _ σ (pl_write (fy := fy2 ++ fy) (by rw [List.append_assoc]; exact W2) hr1 ⟨_, rfl, l1, _, rfl, rfl, upd_same, nrel_put g2 z r2 ry⟩ kk1)
theorem c_lenN (Y : Fa P w K mg base k) (i : Y.I) : CallR (Y.X i) (.builtin "len") (rLenN P w) := by have h := call_lenN (X := Y.X i); rw [Y.hP i, Y.hw i] at h; exact h
theorem o_lenN {kvs : List (NestedKey × β)} : OpA (rLenN P w) [borN P w p kvs] (vInt (kvs.length : Int)) := opA1 fun B F H v fx os Q W pv q => by
  obtain ⟨_, d, xs, ev, h1, h2⟩ := pv
  cases ev
  exact ⟨d, xs, rfl, h1, Kys.mono W.sub h2.keys, q _ F H [] same_refl same_refl W.drop ⟨rfl, _, rfl, by rw [Paired.length h2]; rfl⟩⟩
end
/-! ### data as keys -/
structure NE {α : Type} (p : VP α) where
  enc : α → NestedKey
  d : Nat
  rel : ∀ F v a, p.R F v a → NkR F (enc a) v
  dep : ∀ a, (enc a).depth ≤ d
def NE.int : NE pInt := ⟨.num, 0, fun F v a h => by cases h; exact .int a, fun _ => Nat.le_refl _⟩
theorem nka_of {α : Type} {p : VP α} (E : NE p) {F : Hp} {vs : List V} {xs : List α} (h : Paired (p.R F) vs xs) : NkA F (xs.map E.enc) vs := by
  induction h with
  | nil => exact .nil
  | cons r _ ih => exact .cons (E.rel _ _ _ r) ih
theorem depAll {α : Type} {p : VP α} (E : NE p) : ∀ xs : List α, NestedKey.depthAll (xs.map E.enc) ≤ E.d
  | [] => Nat.zero_le _
  | x :: xs => by
    rw [List.map_cons, NestedKey.depthAll]
    exact Nat.max_le.mpr ⟨E.dep x, depAll E xs⟩
def NE.tup {α : Type} {p : VP α} (E : NE p) : NE (pTup p) where
  enc := fun xs => .tup (xs.map E.enc)
  d := E.d + 1
  rel := fun F v a ⟨l, vs, e, h1, h2⟩ => by subst e; exact .tup h1 (nka_of E h2)
  dep := fun a => by rw [NestedKey.depth]; exact Nat.succ_le_succ (depAll E a)
def NE.t2 {α β : Type} {p : VP α} {q : VP β} (E : NE p) (E' : NE q) : NE (pT2 p q) where
  enc := fun x => .tup [E.enc x.1, E'.enc x.2]
  d := max E.d E'.d + 1
  rel := fun F v a ⟨l, u, w, e, h1, h2, h3⟩ => by subst e; exact .tup h1 (.cons (E.rel _ _ _ h2) (.cons (E'.rel _ _ _ h3) .nil))
  dep := fun a => by
    have h1 := E.dep a.1
    have h2 := E'.dep a.2
    simp only [NestedKey.depth, NestedKey.depthAll]
    omega
section
variable {P : Program} {w : World} {K : PySem.W.Frag} {mg : Str → Option Value} {base : Heap} {k : Nat}
variable {Y : Fa P w K mg base k} {e : Expr} {Γ : List Slot}
theorem XV.nkT {α : Type} {p : VP α} (E : NE p) (hd : E.d ≤ 7) {xs : List α} (h : XV Y e Γ (val (pTup p) xs)) : XV Y e Γ (val pNK (E.tup.enc xs)) := h.as fun F H fp o _ ⟨e1, v, e2, r⟩ => ⟨e1, v, e2, E.tup.rel F v xs r, Nat.le_trans (E.tup.dep xs) (Nat.succ_le_succ hd), let ⟨l, _, e, _⟩ := r; ⟨l, e⟩⟩
theorem XV.nk2 {α β : Type} {p : VP α} {q : VP β} (E : NE p) (E' : NE q) (hd : E.d ≤ 7) (hd' : E'.d ≤ 7) {x : α × β} (h : XV Y e Γ (val (pT2 p q) x)) : XV Y e Γ (val pNK ((NE.t2 E E').enc x)) := h.as fun F H fp o _ ⟨e1, v, e2, r⟩ => ⟨e1, v, e2, (NE.t2 E E').rel F v x r, Nat.le_trans ((NE.t2 E E').dep x) (by show max E.d E'.d + 1 ≤ 8; omega), let ⟨l, _, _, e, _⟩ := r; ⟨l, e⟩⟩
end
end Ty

/-! Pl1 -/
namespace Ty
open PySem PySem.Spec L2
theorem guard_pos {α : Type} {c : Prop} [Decidable c] {x : Option α} (h : c) : guardO c x = x := if_pos h
theorem letO_eq {α β : Type} (a : α) (f : α → Option β) : letO a f = f a := rfl
theorem flK_next {ρ S β : Type} (s : S) (kn : S → Option β) (kr : ρ → Option β) : flK (some (.next s)) kn kr = kn s := rfl
theorem flK_brk {ρ S β : Type} (s : S) (kn : S → Option β) (kr : ρ → Option β) : flK (some (.brk s)) kn kr = kn s := rfl
theorem flK_ret {ρ S β : Type} (r : ρ) (kn : S → Option β) (kr : ρ → Option β) : flK (some (.ret r)) kn kr = kr r := rfl
theorem rangeL_len (n : Int) : (rangeL 0 n).length = n.toNat := by simp [rangeL]
theorem rangeL_nat (n : Nat) : rangeL 0 (n : Int) = (List.range n).map fun (k : Nat) => (k : Int) := by simp [rangeL]
theorem rangeL_get {n : Int} {j : Nat} (h : j < n.toNat) : (rangeL 0 n)[j]? = some (j : Int) := by
  unfold rangeL
  rw [List.getElem?_map, List.getElem?_range (by simpa using h)]; simp
theorem mem_rangeL {x lo hi : Int} (h : x ∈ rangeL lo hi) : lo ≤ x ∧ x < hi := by
  unfold rangeL at h
  obtain ⟨k, hk, rfl⟩ := List.mem_map.mp h
  have := List.mem_range.mp hk
  omega
theorem fmO_all {α β : Type} {f : α → Option (Option β)} {g : α → β} : ∀ {xs : List α}, (∀ x ∈ xs, f x = some (some (g x))) → fmO xs f = some (xs.map g)
  | [], _ => rfl
  | x :: xs, h => by
    unfold fmO
    rw [h x List.mem_cons_self, Option.bind_some, fmO_all fun y hy => h y (List.mem_cons_of_mem _ hy)]; rfl
/-- a loop that never leaves early, by what holds behind each part of the list -/
theorem forF_ind {α S ρ : Type} {f : α → S → Option (Fl ρ S)} (P : List α → S → Prop) : ∀ {xs pre : List α} {s0 : S}, P pre s0 → (∀ p x q s, pre ++ xs = p ++ x :: q → P p s → ∃ s', f x s = some (.next s') ∧ P (p ++ [x]) s') → ∃ s', forF xs s0 f = some (.next s') ∧ P (pre ++ xs) s'
  | [], pre, s0, h, _ => ⟨s0, rfl, by simpa using h⟩
  | x :: xs, pre, s0, h, hs => by
    obtain ⟨s1, h1, h2⟩ := hs pre x xs s0 rfl h
    obtain ⟨s2, h3, h4⟩ := forF_ind P (xs := xs) (pre := pre ++ [x]) h2 fun p y q s e hp => hs p y q s (by rw [← e]; simp) hp
    refine ⟨s2, ?_, by simpa using h4⟩
    unfold forF
    rw [h1]; exact h3
theorem forF_ind0 {α S ρ : Type} {f : α → S → Option (Fl ρ S)} (P : List α → S → Prop) {xs : List α} {s0 : S} (h : P [] s0) (hs : ∀ p x q s, xs = p ++ x :: q → P p s → ∃ s', f x s = some (.next s') ∧ P (p ++ [x]) s') : ∃ s', forF xs s0 f = some (.next s') ∧ P xs s' := by
  have := forF_ind (f := f) P (xs := xs) (pre := []) h (by simpa using hs)
  simpa using this
theorem forF_cps {α S ρ : Type} {f : α → S → Option (Fl ρ S)} {goal : Prop} (P : List α → S → Prop) {xs : List α} {s0 : S} (h : P [] s0) (k : ∀ s', forF xs s0 f = some (.next s') → P xs s' → goal) (hs : ∀ p x q s, xs = p ++ x :: q → P p s → ∃ s', f x s = some (.next s') ∧ P (p ++ [x]) s') : goal :=
  let ⟨s', h1, h2⟩ := forF_ind0 P h hs; k s' h1 h2
theorem flK_eq {α S ρ β : Type} {f : α → S → Option (Fl ρ S)} {kn : S → Option β} {kr : ρ → Option β} {goal : Prop} {xs : List α} {s0 : S} {Z : Option β} (hF : flK (forF xs s0 f) kn kr = Z) (P : List α → S → Prop) (h : P [] s0) (k : ∀ s', P xs s' → kn s' = Z → goal) (hs : ∀ p x q s, xs = p ++ x :: q → P p s → ∃ s', f x s = some (.next s') ∧ P (p ++ [x]) s') : goal := by
  obtain ⟨s', h1, h2⟩ := forF_ind0 P h hs
  rw [h1] at hF
  exact k s' h2 hF
theorem atI_some {α : Type} {xs : List α} {i : Int} (h0 : 0 ≤ i) (h1 : i < xs.length) : ∃ v, atI xs i = some v ∧ xs[i.toNat]? = some v := by
  obtain ⟨j, rfl⟩ := Int.eq_ofNat_of_zero_le h0
  have hj : j < xs.length := by omega
  exact ⟨xs[j], atI_nat (List.getElem?_eq_getElem hj), by simp [hj]⟩
theorem atI_of {α : Type} {xs : List α} {j : Nat} (h : j < xs.length) : atI xs (j : Int) = some xs[j] := atI_nat (List.getElem?_eq_getElem h)
theorem mem_of_atI {α : Type} {xs : List α} {i : Int} {v : α} (h : atI xs i = some v) : v ∈ xs := by
  unfold atI at h
  obtain ⟨j, _, h⟩ := Option.bind_eq_some_iff.mp h
  exact List.mem_of_getElem? h
theorem line_le {n : Nat} (h : n ≤ 16777216) : n ≤ sizeLine := by rw [sizeLine_eq]; exact h
theorem line_lt {n : Nat} (h : n < 16777216) : n < sizeLine := by rw [sizeLine_eq]; exact h
/-! ### tables -/
section
variable {κ β : Type} [DecidableEq κ]
theorem dget_nil (k : κ) : dget ([] : List (κ × β)) k = none := rfl
theorem dget_cons (a : κ × β) (r : List (κ × β)) (k : κ) : dget (a :: r) k = if a.1 = k then some a.2 else dget r k := by
  by_cases h : a.1 = k <;> simp [dget, List.find?_cons, h]
theorem dget_none_any {kvs : List (κ × β)} {k : κ} (h : dget kvs k = none) : (kvs.any fun kv => decide (kv.1 = k)) = false := by
  induction kvs with
  | nil => rfl
  | cons a r ih =>
    rw [dget_cons] at h
    by_cases e : a.1 = k
    · simp [e] at h
    · rw [if_neg e] at h
      simp only [List.any_cons, e, decide_false, Bool.false_or]; exact ih h
theorem dput_new {kvs : List (κ × β)} {k : κ} {v : β} (h : dget kvs k = none) : dput kvs k v = kvs ++ [(k, v)] := by
  unfold dput
  rw [dget_none_any h]; rfl
theorem dget_snoc {kvs : List (κ × β)} {k q : κ} {v : β} (h : dget kvs k = none) : dget (kvs ++ [(k, v)]) q = if q = k then some v else dget kvs q := by
  induction kvs with
  | nil => rw [List.nil_append, dget_cons]; by_cases e : k = q <;> simp [e, dget_nil, eq_comm]
  | cons a r ih =>
    rw [dget_cons] at h
    by_cases e : a.1 = k
    · simp [e] at h
    · rw [if_neg e] at h
      rw [List.cons_append, dget_cons, dget_cons, ih h]
      by_cases e2 : a.1 = q
      · have : ¬ q = k := fun z => e (by rw [e2, z])
        simp [e2, this]
      · simp [e2]
end
/-! ### how many different items -/
theorem nodup_le {α : Type} [DecidableEq α] : ∀ {l l' : List α}, l.Nodup → (∀ x ∈ l, x ∈ l') → l.length ≤ l'.length
  | [], _, _, _ => Nat.zero_le _
  | a :: l, l', nd, h => by
    have nd' := List.nodup_cons.mp nd
    have ha := h a List.mem_cons_self
    have h2 : ∀ x ∈ l, x ∈ l'.erase a := fun x hx => (List.mem_erase_of_ne (fun e => nd'.1 (by rw [← e]; exact hx))).mpr (h x (List.mem_cons_of_mem _ hx))
    have := nodup_le nd'.2 h2
    rw [List.length_erase_of_mem ha] at this
    have hp : 0 < l'.length := List.length_pos_of_mem ha
    simp only [List.length_cons]; omega
def pairsL (n m : Nat) : List (Int × Int) := (List.range n).flatMap fun (a : Nat) => (List.range m).map fun (b : Nat) => ((a : Int), (b : Int))
theorem pairsL_len (n m : Nat) : (pairsL n m).length = n * m := by
  unfold pairsL
  induction n with
  | zero => simp
  | succ n ih => rw [List.range_succ, List.flatMap_append, List.length_append, ih]; simp [Nat.succ_mul]
theorem mem_pairsL {n m : Nat} {q : Int × Int} (h1 : 0 ≤ q.1 ∧ q.1 < n) (h2 : 0 ≤ q.2 ∧ q.2 < m) : q ∈ pairsL n m := by
  unfold pairsL
  refine List.mem_flatMap.mpr ⟨q.1.toNat, List.mem_range.mpr (by omega), List.mem_map.mpr ⟨q.2.toNat, List.mem_range.mpr (by omega), ?_⟩⟩
  exact Prod.ext (by simp; omega) (by simp; omega)
theorem pairs_bound {n m : Nat} {l : List (Int × Int)} (nd : l.Nodup) (h : ∀ q ∈ l, (0 ≤ q.1 ∧ q.1 < n) ∧ (0 ≤ q.2 ∧ q.2 < m)) : l.length ≤ n * m := by
  rw [← pairsL_len]
  exact nodup_le nd fun q hq => mem_pairsL (h q hq).1 (h q hq).2
end Ty

/-! Pl2 -/
namespace Ty
open PySem PySem.Spec L2
/-! ### running mirrors forward -/
theorem gI {α : Type} {c : Prop} [Decidable c] {x z : Option α} (h : c) (k : x = z) : guardO c x = z := (if_pos h).trans k
theorem bI {α β : Type} {o : Option α} {a : α} {f : α → Option β} {z : Option β} (h : o = some a) (k : f a = z) : o.bind f = z := by rw [h]; exact k
theorem lI {α β : Type} {a : α} {f : α → Option β} {z : Option β} (k : f a = z) : letO a f = z := k
theorem cT {α : Type} {c : Bool} {a b z : α} (h : c = true) (k : a = z) : (bif c then a else b) = z := by rw [h]; exact k
theorem cF {α : Type} {c : Bool} {a b z : α} (h : c = false) (k : b = z) : (bif c then a else b) = z := by rw [h]; exact k
theorem cS {α : Type} {c : Bool} {a b z : α} (h1 : c = true → a = z) (h2 : c = false → b = z) : (bif c then a else b) = z := by cases c with
  | true => exact h1 rfl
  | false => exact h2 rfl
theorem fN {α S ρ β : Type} {xs : List α} {s0 : S} {f : α → S → Option (Fl ρ S)} {kn : S → Option β} {kr : ρ → Option β} {s : S} {z : Option β} (h : forF xs s0 f = some (.next s)) (k : kn s = z) : flK (forF xs s0 f) kn kr = z := by rw [h]; exact k
theorem exI_ok {α β : Type} {o : Option (Rx α)} {ke : Exn → Option β} {kk : α → Option β} {a : α} {z : Option β} (h : o = some (.ok a)) (k : kk a = z) : exK o ke kk = z := by rw [h]; exact k
theorem exI_ex {α β : Type} {o : Option (Rx α)} {ke : Exn → Option β} {kk : α → Option β} {e : Exn} {z : Option β} (h : o = some (.ex e)) (k : ke e = z) : exK o ke kk = z := by rw [h]; exact k
theorem dT {p : Prop} [Decidable p] (h : p) : decide p = true := decide_eq_true h
theorem dF {p : Prop} [Decidable p] (h : ¬ p) : decide p = false := decide_eq_false h
/-! ### loops by places -/
theorem forL_aux {α S ρ : Type} {f : α → S → Option (Fl ρ S)} (P : Nat → S → Prop) : ∀ (xs : List α) (n : Nat) (s0 : S), P n s0 → (∀ j x s, xs[j]? = some x → P (n + j) s → ∃ s', f x s = some (.next s') ∧ P (n + j + 1) s') → ∃ s', forF xs s0 f = some (.next s') ∧ P (n + xs.length) s'
  | [], n, s0, h, _ => ⟨s0, rfl, h⟩
  | x :: xs, n, s0, h, hs => by
    obtain ⟨s1, h1, h2⟩ := hs 0 x s0 rfl h
    obtain ⟨s2, h3, h4⟩ := forL_aux P xs (n + 1) s1 h2 fun j y s e hp => by
      have := hs (j + 1) y s (by simpa using e) (by rw [show n + (j + 1) = n + 1 + j by omega]; exact hp)
      rw [show n + (j + 1) + 1 = n + 1 + j + 1 by omega] at this
      exact this
    refine ⟨s2, ?_, by rw [List.length_cons, show n + (xs.length + 1) = n + 1 + xs.length by omega]; exact h4⟩
    unfold forF
    rw [h1]; exact h3
theorem forL {α S ρ : Type} {f : α → S → Option (Fl ρ S)} (P : Nat → S → Prop) {xs : List α} {s0 : S} (h : P 0 s0) (hs : ∀ j x s, xs[j]? = some x → P j s → ∃ s', f x s = some (.next s') ∧ P (j + 1) s') : ∃ s', forF xs s0 f = some (.next s') ∧ P xs.length s' := by
  obtain ⟨s', h1, h2⟩ := forL_aux P xs 0 s0 h (fun j x s e hp => by rw [Nat.zero_add] at hp ⊢; exact hs j x s e hp)
  rw [Nat.zero_add] at h2
  exact ⟨s', h1, h2⟩
theorem rangeL_len2 (a b : Int) : (rangeL a b).length = (b - a).toNat := by simp [rangeL]
theorem rangeL_at {a b : Int} {j : Nat} {x : Int} (h : (rangeL a b)[j]? = some x) : x = a + j ∧ (j : Int) < b - a := by
  unfold rangeL at h
  rw [List.getElem?_map] at h
  obtain ⟨m, h1, h2⟩ := Option.map_eq_some_iff.mp h
  obtain ⟨h3, h4⟩ := List.getElem?_eq_some_iff.mp h1
  simp at h3 h4
  subst h4
  exact ⟨h2.symm, by omega⟩
theorem rangeL_getI {a b : Int} {j : Nat} (h : (j : Int) < b - a) : (rangeL a b)[j]? = some (a + j) := by
  unfold rangeL
  rw [List.getElem?_map, List.getElem?_range (by omega)]; rfl
/-- a loop over a .. b - 1 -/
theorem forR {S ρ : Type} {f : Int → S → Option (Fl ρ S)} {a b : Int} (P : Int → S → Prop) {s0 : S} (hab : a ≤ b) (h : P a s0) (hs : ∀ x s, a ≤ x → x < b → P x s → ∃ s', f x s = some (.next s') ∧ P (x + 1) s') : ∃ s', forF (rangeL a b) s0 f = some (.next s') ∧ P b s' := by
  obtain ⟨s', h1, h2⟩ := forL (f := f) (xs := rangeL a b) (fun j s => P (a + j) s) (by simpa using h) fun j x s e hp => by
    obtain ⟨rfl, h3⟩ := rangeL_at e
    obtain ⟨s', h4, h5⟩ := hs (a + j) s (by omega) (by omega) hp
    exact ⟨s', h4, by rw [show a + ((j + 1 : Nat) : Int) = a + j + 1 by omega]; exact h5⟩
  refine ⟨s', h1, ?_⟩
  rw [rangeL_len2] at h2
  rw [show a + (((b - a).toNat : Nat) : Int) = b by omega] at h2
  exact h2
/-- a loop over b - 1 .. a -/
theorem forRev {S ρ : Type} {f : Int → S → Option (Fl ρ S)} {a b : Int} (P : Int → S → Prop) {s0 : S} (hab : a ≤ b) (h : P b s0) (hs : ∀ x s, a ≤ x → x < b → P (x + 1) s → ∃ s', f x s = some (.next s') ∧ P x s') : ∃ s', forF (rangeL a b).reverse s0 f = some (.next s') ∧ P a s' := by
  have hl : (rangeL a b).reverse.length = (b - a).toNat := by rw [List.length_reverse, rangeL_len2]
  obtain ⟨s', h1, h2⟩ := forL (f := f) (xs := (rangeL a b).reverse) (fun j s => P (b - j) s) (by simpa using h) fun j x s e hp => by
    have hj : j < (b - a).toNat := by rw [← hl]; exact (List.getElem?_eq_some_iff.mp e).1
    rw [List.getElem?_reverse (by rw [rangeL_len2]; exact hj), rangeL_len2] at e
    obtain ⟨h6, h7⟩ := rangeL_at e
    have hx : x = b - j - 1 := by omega
    obtain ⟨s', h4, h5⟩ := hs x s (by omega) (by omega) (by rw [show x + 1 = b - j by omega]; exact hp)
    exact ⟨s', h4, by rw [show b - ((j + 1 : Nat) : Int) = x by omega]; exact h5⟩
  refine ⟨s', h1, ?_⟩
  rw [hl, show b - (((b - a).toNat : Nat) : Int) = a by omega] at h2
  exact h2
/-! ### lists -/
theorem rep_flat {α : Type} (n : Nat) (x : α) : (List.replicate n [x]).flatten = List.replicate n x := by
  induction n with
  | zero => rfl
  | succ n ih => rw [List.replicate_succ, List.flatten_cons, ih]; rfl
theorem ixN_of {n : Nat} {i : Int} (h0 : 0 ≤ i) (h1 : i < n) : ixN n i = some i.toNat := by unfold ixN; rw [if_pos h0, if_pos h1]
theorem setI_of {α : Type} {xs : List α} {i : Int} {u : α} (h0 : 0 ≤ i) (h1 : i < xs.length) : setI xs i u = some (xs.set i.toNat u) := by unfold setI; rw [ixN_of h0 h1]; rfl
theorem atI_pos {α : Type} {xs : List α} {i : Int} (h0 : 0 ≤ i) : atI xs i = xs[i.toNat]? := by
  unfold atI
  by_cases h : i < xs.length
  · rw [ixN_of h0 h]; rfl
  · unfold ixN
    rw [if_pos h0, if_neg h, List.getElem?_eq_none (by omega)]; rfl
theorem atI_ex {α : Type} {xs : List α} {i : Int} (h0 : 0 ≤ i) (h1 : i < xs.length) : ∃ v, atI xs i = some v := by
  rw [atI_pos h0]
  exact ⟨_, List.getElem?_eq_getElem (by omega)⟩
theorem atI_lt {α : Type} {xs : List α} {i : Int} {v : α} (h0 : 0 ≤ i) (h : atI xs i = some v) : i < xs.length := by
  rw [atI_pos h0] at h
  have := (List.getElem?_eq_some_iff.mp h).1
  omega
theorem atI_set {α : Type} {xs : List α} {i j : Int} {u : α} (h0 : 0 ≤ i) (h1 : i < xs.length) (hj : 0 ≤ j) : atI (xs.set i.toNat u) j = if j = i then some u else atI xs j := by
  rw [atI_pos hj, atI_pos hj]
  by_cases h : j = i
  · subst h
    rw [if_pos rfl, List.getElem?_set_self (by omega)]
  · rw [if_neg h, List.getElem?_set_ne (by omega)]
theorem atI_snoc {α : Type} {xs : List α} {u : α} {j : Int} (hj : 0 ≤ j) : atI (xs ++ [u]) j = if j = xs.length then some u else atI xs j := by
  rw [atI_pos hj, atI_pos hj]
  by_cases h : j = xs.length
  · subst h
    rw [if_pos rfl]; simp
  · rw [if_neg h]
    by_cases h2 : j < xs.length
    · rw [List.getElem?_append_left (by omega)]
    · rw [List.getElem?_eq_none (by simp; omega), List.getElem?_eq_none (by omega)]
theorem atI_rep {α : Type} {n : Nat} {u : α} {j : Int} (hj : 0 ≤ j) (h : j < n) : atI (List.replicate n u) j = some u := by
  rw [atI_pos hj, List.getElem?_replicate, if_pos (by omega)]
/-! ### tables -/
section
variable {κ β : Type} [DecidableEq κ]
theorem dget_map (kvs : List (κ × β)) (k q : κ) (v : β) : dget (kvs.map fun kv => if kv.1 = k then (kv.1, v) else kv) q = if q = k then (dget kvs k).map (fun _ => v) else dget kvs q := by
  induction kvs with
  | nil => by_cases e : q = k <;> simp [e, dget_nil]
  | cons a r ih =>
    rw [List.map_cons, dget_cons, ih, dget_cons, dget_cons]
    by_cases e1 : a.1 = k
    · rw [if_pos e1]
      by_cases e : q = k
      · subst e
        rw [if_pos e1, if_pos rfl, if_pos e1]; rfl
      · have hne : ¬ a.1 = q := fun z => e (by rw [← z]; exact e1)
        simp only [if_neg e, if_neg hne]
    · rw [if_neg e1]
      by_cases e : q = k
      · subst e
        rw [if_neg e1, if_pos rfl, if_pos rfl, if_neg e1]
      · rw [if_neg e, if_neg e]
theorem dget_put (kvs : List (κ × β)) (k q : κ) (v : β) : dget (dput kvs k v) q = if q = k then some v else dget kvs q := by
  cases h : dget kvs k with
  | none => rw [dput_new h, dget_snoc h]
  | some u =>
    have hany : (kvs.any fun kv => decide (kv.1 = k)) = true := by
      cases hb : (kvs.any fun kv => decide (kv.1 = k)) with
      | true => rfl
      | false =>
        exfalso
        have : dget kvs k = none := by
          clear h
          induction kvs with
          | nil => rfl
          | cons a r ih =>
            simp only [List.any_cons, Bool.or_eq_false_iff] at hb
            rw [dget_cons, if_neg (of_decide_eq_false hb.1)]
            exact ih hb.2
        rw [this] at h; cases h
    unfold dput
    rw [if_pos hany]
    rw [dget_map, h]
    by_cases e : q = k
    · rw [if_pos e, if_pos e]; rfl
    · rw [if_neg e, if_neg e]
theorem dput_len (kvs : List (κ × β)) (k : κ) (v : β) : (dput kvs k v).length ≤ kvs.length + 1 := by
  unfold dput
  split <;> simp
end
end Ty

/-! Pl3 -/
namespace Ty
open PySem PySem.Spec L2
/-! ### mirrors: they end, with what -/
def Tot {α : Type} (o : Option α) (Q : α → Prop) : Prop := ∃ v, o = some v ∧ Q v
section
variable {α β S ρ : Type} {Q : β → Prop} {R : α → Prop} {x y : Option β} {z : Option β}
theorem tG {c : Prop} [Decidable c] (h : c) (k : Tot x Q) : Tot (guardO c x) Q := by unfold guardO; rw [if_pos h]; exact k
theorem tB {o : Option α} {f : α → Option β} (h : Tot o R) (k : ∀ a, R a → Tot (f a) Q) : Tot (o.bind f) Q := by
  obtain ⟨a, e, r⟩ := h
  rw [e]; exact k a r
theorem tE {o : Option α} {f : α → Option β} {a : α} (h : o = some a) (k : Tot (f a) Q) : Tot (o.bind f) Q := by rw [h]; exact k
theorem tL {a : α} {f : α → Option β} (k : Tot (f a) Q) : Tot (letO a f) Q := k
theorem tC {c : Bool} (h1 : c = true → Tot x Q) (h2 : c = false → Tot y Q) : Tot (bif c then x else y) Q := by cases c with
  | true => exact h1 rfl
  | false => exact h2 rfl
theorem tD {p : Prop} [Decidable p] (h1 : p → Tot x Q) (h2 : ¬ p → Tot y Q) : Tot (bif decide p then x else y) Q := tC (fun h => h1 (of_decide_eq_true h)) (fun h => h2 (of_decide_eq_false h))
theorem tR {v : β} (h : Q v) : Tot (some v) Q := ⟨v, rfl, h⟩
theorem Tot.imp {Q' : β → Prop} (h : Tot x Q) (k : ∀ v, Q v → Q' v) : Tot x Q' := let ⟨v, e, q⟩ := h; ⟨v, e, k v q⟩
theorem Tot.eq {v : β} (h : Tot x fun r => r = v) : x = some v := let ⟨_, e, q⟩ := h; by rw [e, q]
theorem Tot.of {v : β} (h : x = some v) (k : Q v) : Tot x Q := ⟨v, h, k⟩
theorem tX {γ : Type} {o : Option (Rx γ)} {ke : Exn → Option β} {kk : γ → Option β} (h : Tot o fun r => match r with | .ok a => Tot (kk a) Q | .ex e => Tot (ke e) Q) : Tot (exK o ke kk) Q := by
  obtain ⟨r, e, q⟩ := h
  unfold exK
  rw [e]
  cases r with
  | ok a => exact q
  | ex e => exact q
/-- where a loop's turn leads -/
def LQ (P : S → Prop) (kn : S → Option β) (kr : ρ → Option β) (Q : β → Prop) : Fl ρ S → Prop
  | .next s => P s
  | .brk s => Tot (kn s) Q
  | .ret r => Tot (kr r) Q
variable {kn : S → Option β} {kr : ρ → Option β}
theorem tForX_aux {f : α → S → Option (Fl ρ S)} (P : Nat → S → Prop) : ∀ (xs : List α) (n : Nat) (s0 : S), P n s0 → (∀ j x s, xs[j]? = some x → P (n + j) s → Tot (f x s) (LQ (P (n + j + 1)) kn kr Q)) → (∀ s, P (n + xs.length) s → Tot (kn s) Q) → Tot (flK (forF xs s0 f) kn kr) Q
  | [], n, s0, h, _, k => k s0 h
  | x :: xs, n, s0, h, hs, k => by
    obtain ⟨fl, h1, h2⟩ := hs 0 x s0 rfl h
    unfold forF
    rw [h1, Option.bind_some]
    cases fl with
    | next s =>
      refine tForX_aux P xs (n + 1) s h2 (fun j y s e hp => ?_) (fun s hp => k s ?_)
      · have := hs (j + 1) y s (by simpa using e) (by rw [show n + (j + 1) = n + 1 + j by omega]; exact hp)
        rw [show n + (j + 1) + 1 = n + 1 + j + 1 by omega] at this
        exact this
      · rw [List.length_cons, show n + (xs.length + 1) = n + 1 + xs.length by omega]; exact hp
    | brk s => exact h2
    | ret r => exact h2
/-- for x in xs: by places -/
theorem tForX {f : α → S → Option (Fl ρ S)} (P : Nat → S → Prop) {xs : List α} {s0 : S} (h : P 0 s0) (hs : ∀ j x s, xs[j]? = some x → P j s → Tot (f x s) (LQ (P (j + 1)) kn kr Q)) (k : ∀ s, P xs.length s → Tot (kn s) Q) : Tot (flK (forF xs s0 f) kn kr) Q :=
  tForX_aux P xs 0 s0 h (fun j x s e hp => by rw [Nat.zero_add] at hp ⊢; exact hs j x s e hp) (fun s hp => by rw [Nat.zero_add] at hp; exact k s hp)
theorem tForR {f : Int → S → Option (Fl ρ S)} {a b : Int} (P : Int → S → Prop) {s0 : S} (hab : a ≤ b) (h : P a s0) (hs : ∀ x s, a ≤ x → x < b → P x s → Tot (f x s) (LQ (P (x + 1)) kn kr Q)) (k : ∀ s, P b s → Tot (kn s) Q) : Tot (flK (forF (rangeL a b) s0 f) kn kr) Q := by
  refine tForX (fun j s => P (a + j) s) (by simpa using h) (fun j x s e hp => ?_) (fun s hp => ?_)
  · obtain ⟨rfl, h3⟩ := rangeL_at e
    have := hs (a + j) s (by omega) (by omega) hp
    rw [show a + (j : Int) + 1 = a + ((j + 1 : Nat) : Int) by omega] at this
    exact this
  · rw [rangeL_len2, show a + (((b - a).toNat : Nat) : Int) = b by omega] at hp
    exact k s hp
theorem tForRev {f : Int → S → Option (Fl ρ S)} {a b : Int} (P : Int → S → Prop) {s0 : S} (hab : a ≤ b) (h : P b s0) (hs : ∀ x s, a ≤ x → x < b → P (x + 1) s → Tot (f x s) (LQ (P x) kn kr Q)) (k : ∀ s, P a s → Tot (kn s) Q) : Tot (flK (forF (rangeL a b).reverse s0 f) kn kr) Q := by
  have hl : (rangeL a b).reverse.length = (b - a).toNat := by rw [List.length_reverse, rangeL_len2]
  refine tForX (fun j s => P (b - j) s) (by simpa using h) (fun j x s e hp => ?_) (fun s hp => ?_)
  · have hj : j < (b - a).toNat := by rw [← hl]; exact (List.getElem?_eq_some_iff.mp e).1
    rw [List.getElem?_reverse (by rw [rangeL_len2]; exact hj), rangeL_len2] at e
    obtain ⟨h6, h7⟩ := rangeL_at e
    have hx : x = b - j - 1 := by omega
    have := hs x s (by omega) (by omega) (by rw [show x + 1 = b - j by omega]; exact hp)
    rw [show b - ((j + 1 : Nat) : Int) = x by omega]
    exact this
  · rw [hl, show b - (((b - a).toNat : Nat) : Int) = a by omega] at hp
    exact k s hp
theorem tWhile {f : S → Option (Fl ρ S)} (P : S → Prop) (μ : S → Nat) : ∀ (n : Nat) {s0 : S}, μ s0 < n → P s0 → (∀ s, P s → Tot (f s) (LQ (fun s' => P s' ∧ μ s' < μ s) kn kr Q)) → Tot (flK (whileF n s0 f) kn kr) Q
  | 0, _, hn, _, _ => absurd hn (Nat.not_lt_zero _)
  | n + 1, s0, hn, h, hs => by
    obtain ⟨fl, h1, h2⟩ := hs s0 h
    unfold whileF
    rw [h1, Option.bind_some]
    cases fl with
    | next s => exact tWhile P μ n (by have := h2.2; omega) h2.1 hs
    | brk s => exact h2
    | ret r => exact h2
theorem tFm {γ : Type} {f : α → Option (Option γ)} {g : α → γ} {k : List γ → Option β} {xs : List α} (h : ∀ x ∈ xs, f x = some (some (g x))) (hk : Tot (k (xs.map g)) Q) : Tot ((fmO xs f).bind k) Q := tE (fmO_all h) hk
theorem tAt {γ : Type} {xs : List γ} {i : Int} {k : γ → Option β} (h0 : 0 ≤ i) (h1 : i < xs.length) (hk : ∀ v, atI xs i = some v → Tot (k v) Q) : Tot ((atI xs i).bind k) Q := by
  obtain ⟨v, e⟩ := atI_ex h0 h1
  exact tE e (hk v e)
theorem tSet {γ : Type} {xs : List γ} {i : Int} {u : γ} {k : List γ → Option β} (h0 : 0 ≤ i) (h1 : i < xs.length) (hk : Tot (k (xs.set i.toNat u)) Q) : Tot ((setI xs i u).bind k) Q := tE (setI_of h0 h1) hk
end
/-- the tail of an if whose result is taken apart -/
theorem tB' {α β : Type} {Q : β → Prop} {o : Option α} {f : α → Option β} (h : Tot o fun a => Tot (f a) Q) : Tot (o.bind f) Q := by
  obtain ⟨a, e, r⟩ := h
  rw [e]; exact r
theorem erase_perm {α : Type} : ∀ {xs : List α} {i : Nat} (h : i < xs.length), (xs[i] :: xs.eraseIdx i).Perm xs
  | x :: xs, 0, _ => .refl _
  | x :: xs, i + 1, h => by
    have h' : i < xs.length := by simpa using h
    show (xs[i] :: x :: xs.eraseIdx i).Perm (x :: xs)
    exact (List.Perm.swap _ _ _).trans ((erase_perm h').cons x)
theorem tLe {α β : Type} {Q : β → Prop} {a : α} {f : α → Option β} (k : ∀ x, x = a → Tot (f x) Q) : Tot (letO a f) Q := k a rfl
/-- a list that is filled from its start -/
structure Fill {V : Type} (N : Int) (F : Int → V) (z : V) (x : Int) (c : List V) : Prop where
  len : (c.length : Int) = N
  done : ∀ y, 0 ≤ y → y < x → atI c y = some (F y)
  rest : ∀ y, x ≤ y → y < N → atI c y = some z
theorem Fill.set {V : Type} {N x : Int} {F : Int → V} {z v : V} {c : List V} (h : Fill N F z x c) (h0 : 0 ≤ x) (h1 : x < N) (hv : v = F x) : Fill N F z (x + 1) (c.set x.toNat v) := by
  have hl := h.len
  refine ⟨by rw [List.length_set]; exact hl, fun y a b => ?_, fun y a b => ?_⟩
  · rw [atI_set h0 (by omega) a]
    by_cases e : y = x
    · rw [if_pos e, e, hv]
    · rw [if_neg e]; exact h.done y a (by omega)
  · rw [atI_set h0 (by omega) (by omega), if_neg (by omega)]
    exact h.rest y (by omega) b
theorem Fill.skip {V : Type} {N x : Int} {F : Int → V} {z : V} {c : List V} (h : Fill N F z x c) (h1 : x < N) (hv : F x = z) : Fill N F z (x + 1) c := by
  refine ⟨h.len, fun y a b => ?_, fun y a b => h.rest y (by omega) b⟩
  by_cases e : y = x
  · rw [e, hv]; exact h.rest x (Int.le_refl _) h1
  · exact h.done y a (by omega)
theorem idxL_mem {α : Type} [DecidableEq α] {xs : List α} {u : α} (h : u ∈ xs) : ∃ n, idxL xs u = some n ∧ n < xs.length := by
  cases e : idxL xs u with
  | some n =>
    have := (List.getElem?_eq_some_iff.mp (idxL_at e).1).1
    exact ⟨n, rfl, this⟩
  | none =>
    unfold idxL at e
    rw [List.findIdx?_eq_none_iff] at e
    have := e u h
    simp at this
end Ty

/-! Pl4 -/
namespace Ty
open PySem PySem.Spec L2
/-! ### bits of whole numbers -/
theorem bAnd_nat (a b : Nat) : Builtin.bitAnd (a : Int) (b : Int) = ((a &&& b : Nat) : Int) := by
  unfold Builtin.bitAnd
  simp
theorem bOr_nat (a b : Nat) : Builtin.bitOr (a : Int) (b : Int) = ((a ||| b : Nat) : Int) := by
  rw [Bits.bitOr_pp (by omega) (by omega)]; simp
theorem bXor_nat (a b : Nat) : Builtin.bitXor (a : Int) (b : Int) = ((a ^^^ b : Nat) : Int) := by
  rw [Bits.bitXor_pp (by omega) (by omega)]; simp
/-- a bit as a number -/
def bi (b : Bool) : Int := if b then 1 else 0
theorem bi_nat (b : Bool) : bi b = ((b.toNat : Nat) : Int) := by cases b <;> rfl
theorem bi_and (a b : Bool) : Builtin.bitAnd (bi a) (bi b) = bi (a && b) := by rw [bi_nat, bi_nat, bAnd_nat]; cases a <;> cases b <;> rfl
theorem bi_xor (a b : Bool) : Builtin.bitXor (bi a) (bi b) = bi (a ^^ b) := by rw [bi_nat, bi_nat, bXor_nat]; cases a <;> cases b <;> rfl
theorem bi_range (b : Bool) : 0 ≤ bi b ∧ bi b ≤ 1 := by cases b <;> decide
/-- the mark of a literal -/
def odd (x : Int) : Bool := decide (x % 2 = 1)
theorem mod2_bi (x : Int) : x % 2 = bi (odd x) := by
  unfold odd bi
  by_cases h : x % 2 = 1
  · simp [h]
  · have : x % 2 = 0 := by omega
    simp [this]
theorem bAnd1 (x : Int) : Builtin.bitAnd x 1 = bi (odd x) := by rw [PyProof.Rows.bitAnd_m1]; exact mod2_bi x
/-- the table of f over n places -/
def tbl : Nat → (Nat → Bool) → Nat
  | 0, _ => 0
  | n + 1, f => tbl n f + (f n).toNat * 2 ^ n
theorem tbl_lt (n : Nat) (f : Nat → Bool) : tbl n f < 2 ^ n := by
  induction n with
  | zero => exact Nat.one_pos
  | succ n ih =>
    unfold tbl
    have : (f n).toNat ≤ 1 := by cases f n <;> decide
    have h2 : (f n).toNat * 2 ^ n ≤ 1 * 2 ^ n := Nat.mul_le_mul_right _ this
    rw [Nat.pow_succ]; omega
theorem tbl_bit (n : Nat) (f : Nat → Bool) (i : Nat) : (tbl n f).testBit i = (decide (i < n) && f i) := by
  induction n with
  | zero => simp [tbl]
  | succ n ih =>
    unfold tbl
    have hl := tbl_lt n f
    cases h : f n with
    | false =>
      show Nat.testBit (tbl n f + 0 * 2 ^ n) i = _
      rw [Nat.zero_mul, Nat.add_zero, ih]
      by_cases e : i = n
      · subst e; simp [h]
      · have : (i < n) ↔ (i < n + 1) := by omega
        simp [this]
    | true =>
      show Nat.testBit (tbl n f + 1 * 2 ^ n) i = _
      rw [Nat.one_mul, Nat.add_comm]
      by_cases e : i = n
      · subst e
        rw [Nat.testBit_two_pow_add_eq, ih]; simp [h]
      · by_cases e2 : i < n
        · rw [Nat.testBit_two_pow_add_gt e2, ih]
          have : i < n + 1 := by omega
          simp [this, e2]
        · have h3 : 2 ^ n + tbl n f < 2 ^ i := by
            have : 2 ^ (n + 1) ≤ 2 ^ i := Nat.pow_le_pow_right (by decide) (by omega)
            rw [Nat.pow_succ] at this; omega
          rw [Nat.testBit_lt_two_pow h3]
          have : ¬ i < n + 1 := by omega
          simp [this]
theorem tbl_of {n t : Nat} {f : Nat → Bool} (h : ∀ i, t.testBit i = (decide (i < n) && f i)) : t = tbl n f := Nat.eq_of_testBit_eq fun i => by rw [h, tbl_bit]
theorem tbl_congr {n : Nat} {f g : Nat → Bool} (h : ∀ i, i < n → f i = g i) : tbl n f = tbl n g := by
  induction n with
  | zero => rfl
  | succ n ih => unfold tbl; rw [ih (fun i hi => h i (by omega)), h n (by omega)]
theorem tbl_and (n : Nat) (f g : Nat → Bool) : tbl n f &&& tbl n g = tbl n fun i => f i && g i := tbl_of fun i => by
  rw [Nat.testBit_and, tbl_bit, tbl_bit]
  cases decide (i < n) <;> cases f i <;> cases g i <;> rfl
/-- the table, its marks turned about if b -/
theorem tbl_xor (n : Nat) (f : Nat → Bool) (b : Bool) : Builtin.bitXor ((tbl n f : Nat) : Int) ((2 ^ n - 1 : Int) * bi b) = ((tbl n fun i => f i ^^ b : Nat) : Int) := by
  have e : ((2 ^ n - 1 : Int) * bi b) = (((2 ^ n - 1) * b.toNat : Nat) : Int) := by
    rw [bi_nat]
    have h1 : (1 : Nat) ≤ 2 ^ n := Nat.one_le_two_pow
    have h2 : ((2 ^ n - 1 : Nat) : Int) = (2 : Int) ^ n - 1 := by
      rw [Int.natCast_sub h1]; simp
    rw [Int.natCast_mul, h2]
  rw [e, bXor_nat]
  congr 1
  refine tbl_of fun i => ?_
  rw [Nat.testBit_xor, tbl_bit]
  cases b with
  | false => simp
  | true =>
    rw [show (2 ^ n - 1) * Bool.toNat true = 2 ^ n - 1 from Nat.mul_one _, Nat.testBit_two_pow_sub_one]
    cases decide (i < n) <;> cases f i <;> rfl
/-! ### a net: what is worked out by and -/
def Wf (ands : List (Int × Int)) (fa : Int) : Prop := 1 ≤ fa ∧ ∀ (k : Nat) p, ands[k]? = some p → (0 ≤ p.1 ∧ p.1 < 2 * (fa + k)) ∧ (0 ≤ p.2 ∧ p.2 < 2 * (fa + k))
theorem Wf.at {ands : List (Int × Int)} {fa x : Int} {p : Int × Int} (w : Wf ands fa) (h1 : fa ≤ x) (h : atI ands (x - fa) = some p) : (0 ≤ p.1 ∧ 0 ≤ p.1 / 2 ∧ p.1 / 2 < x) ∧ (0 ≤ p.2 ∧ 0 ≤ p.2 / 2 ∧ p.2 / 2 < x) := by
  rw [atI_pos (by omega)] at h
  have := w.2 _ _ h
  have e : ((x - fa).toNat : Int) = x - fa := by omega
  rw [e] at this
  omega
section
variable {V : Type} (ands : List (Int × Int)) (fa : Int) (base : Int → Option V) (comb : Int × Int → V → V → V) (d : V)
def solN : Nat → Int → V
  | 0, _ => d
  | k + 1, y => match base y with
    | some v => v
    | none => match atI ands (y - fa) with
      | none => d
      | some p => comb p (solN k (p.1 / 2)) (solN k (p.2 / 2))
def sol (y : Int) : V := solN ands fa base comb d (y.toNat + 1) y
theorem solN_st (w : Wf ands fa) (hb : ∀ y, 0 ≤ y → base y = none → fa ≤ y) : ∀ (k k' : Nat) (y : Int), 0 ≤ y → y.toNat < k → y.toNat < k' → solN ands fa base comb d k y = solN ands fa base comb d k' y
  | 0, _, _, _, h, _ => absurd h (Nat.not_lt_zero _)
  | _ + 1, 0, _, _, _, h => absurd h (Nat.not_lt_zero _)
  | k + 1, k' + 1, y, h0, h1, h2 => by
    unfold solN
    cases e : base y with
    | some v => rfl
    | none =>
      dsimp only
      cases e2 : atI ands (y - fa) with
      | none => rfl
      | some p =>
        dsimp only
        obtain ⟨⟨a1, a2, a3⟩, b1, b2, b3⟩ := w.at (hb y h0 e) e2
        rw [solN_st w hb k k' (p.1 / 2) a2 (by omega) (by omega), solN_st w hb k k' (p.2 / 2) b2 (by omega) (by omega)]
theorem sol_base {y : Int} {v : V} (h : base y = some v) : sol ands fa base comb d y = v := by unfold sol solN; rw [h]
theorem sol_and (w : Wf ands fa) (hb : ∀ y, 0 ≤ y → base y = none → fa ≤ y) {y : Int} {p : Int × Int} (h0 : 0 ≤ y) (h : base y = none) (hp : atI ands (y - fa) = some p) :
    sol ands fa base comb d y = comb p (sol ands fa base comb d (p.1 / 2)) (sol ands fa base comb d (p.2 / 2)) := by
  obtain ⟨⟨a1, a2, a3⟩, b1, b2, b3⟩ := w.at (hb y h0 h) hp
  unfold sol
  rw [show solN ands fa base comb d (y.toNat + 1) y = comb p (solN ands fa base comb d y.toNat (p.1 / 2)) (solN ands fa base comb d y.toNat (p.2 / 2)) by rw [solN, h]; dsimp only; rw [hp]]
  rw [solN_st ands fa base comb d w hb y.toNat ((p.1 / 2).toNat + 1) (p.1 / 2) a2 (by omega) (by omega), solN_st ands fa base comb d w hb y.toNat ((p.2 / 2).toNat + 1) (p.2 / 2) b2 (by omega) (by omega)]
end
end Ty

/-! Pl5 -/
/-! names and circuits; the first of a list that fails -/
namespace Ty
open PySem PySem.Spec L2
/-! ### texts by sign -/
theorem len_tl' (x : Str) : x.length = x.cps.toList.length := by unfold Str.length; simp
theorem tl_cat (a b : Str) : (a ++ b).cps.toList = a.cps.toList ++ b.cps.toList := TL.tl_append a b
theorem tl_ext {a b : Str} (h : a.cps.toList = b.cps.toList) : a = b := TL.ext_tl h
theorem tl_numI {n : Int} (h : 0 ≤ n) : (Str.ofString (toString n)).cps.toList = TL.numL n.toNat := by
  have := TL.tl_num n.toNat
  rw [Int.toNat_of_nonneg h] at this
  exact this
def sgn (c : Nat) : Prop := (97 ≤ c ∧ c ≤ 122) ∨ (48 ≤ c ∧ c ≤ 57) ∨ c = 95
theorem mem_low {c : Nat} : c ∈ ("abcdefghijklmnopqrstuvwxyz" : Str).cps.toList ↔ (97 ≤ c ∧ c ≤ 122) := by
  have e : ("abcdefghijklmnopqrstuvwxyz" : Str).cps.toList = [97, 98, 99, 100, 101, 102, 103, 104, 105, 106, 107, 108, 109, 110, 111, 112, 113, 114, 115, 116, 117, 118, 119, 120, 121, 122] := by decide +kernel
  rw [e]
  simp only [List.mem_cons, List.not_mem_nil, or_false]
  omega
theorem mem_sgn {c : Nat} : c ∈ ("abcdefghijklmnopqrstuvwxyz0123456789_" : Str).cps.toList ↔ sgn c := by
  have e : ("abcdefghijklmnopqrstuvwxyz0123456789_" : Str).cps.toList = [97, 98, 99, 100, 101, 102, 103, 104, 105, 106, 107, 108, 109, 110, 111, 112, 113, 114, 115, 116, 117, 118, 119, 120, 121, 122, 48, 49, 50, 51, 52, 53, 54, 55, 56, 57, 95] := by decide +kernel
  rw [e]
  simp only [List.mem_cons, List.not_mem_nil, or_false]
  unfold sgn
  omega
/-- a sign of the row of letters and figures -/
theorem al_at {i : Int} (h0 : 0 ≤ i) (h1 : i < 36) : ∃ c, atI ("abcdefghijklmnopqrstuvwxyz0123456789" : Str).cps.toList i = some c ∧ ((97 ≤ c ∧ c ≤ 122) ∨ (48 ≤ c ∧ c ≤ 57)) ∧ (i < 26 → 97 ≤ c ∧ c ≤ 122) := by
  have e : ("abcdefghijklmnopqrstuvwxyz0123456789" : Str).cps.toList = [97, 98, 99, 100, 101, 102, 103, 104, 105, 106, 107, 108, 109, 110, 111, 112, 113, 114, 115, 116, 117, 118, 119, 120, 121, 122, 48, 49, 50, 51, 52, 53, 54, 55, 56, 57] := by decide +kernel
  rw [e, atI_pos h0]
  have h : ∀ n : Nat, n < 36 → ∃ c, ([97, 98, 99, 100, 101, 102, 103, 104, 105, 106, 107, 108, 109, 110, 111, 112, 113, 114, 115, 116, 117, 118, 119, 120, 121, 122, 48, 49, 50, 51, 52, 53, 54, 55, 56, 57] : List Nat)[n]? = some c ∧ ((97 ≤ c ∧ c ≤ 122) ∨ (48 ≤ c ∧ c ≤ 57)) ∧ (n < 26 → 97 ≤ c ∧ c ≤ 122) := by
    intro n hn
    by_cases h26 : n < 26
    · have : ∀ n : Fin 26, ([97, 98, 99, 100, 101, 102, 103, 104, 105, 106, 107, 108, 109, 110, 111, 112, 113, 114, 115, 116, 117, 118, 119, 120, 121, 122, 48, 49, 50, 51, 52, 53, 54, 55, 56, 57] : List Nat)[n.val]? = some (97 + n.val) := by decide +kernel
      exact ⟨97 + n, this ⟨n, h26⟩, by omega, by omega⟩
    · have : ∀ n : Fin 10, ([97, 98, 99, 100, 101, 102, 103, 104, 105, 106, 107, 108, 109, 110, 111, 112, 113, 114, 115, 116, 117, 118, 119, 120, 121, 122, 48, 49, 50, 51, 52, 53, 54, 55, 56, 57] : List Nat)[26 + n.val]? = some (48 + n.val) := by decide +kernel
      have z := this ⟨n - 26, by omega⟩
      rw [show 26 + (n - 26) = n by omega] at z
      exact ⟨_, z, by omega, by omega⟩
  obtain ⟨c, h2, h3, h4⟩ := h i.toNat (by omega)
  exact ⟨c, h2, h3, fun h => h4 (by omega)⟩
/-- a name -/
structure Nm (s : Str) : Prop where
  l1 : 1 ≤ s.cps.toList.length
  l2 : s.cps.toList.length ≤ 12
  hd : ∀ c, s.cps.toList[0]? = some c → 97 ≤ c ∧ c ≤ 122
  al : ∀ c ∈ s.cps.toList, sgn c
/-- the names of one family, by their number -/
def NameC (k : Nat) (s : Str) : Prop := (∃ j, j < 4 ∧ s.cps.toList = 114 :: TL.numL (4 * k + j)) ∨ (∃ c t, (97 ≤ c ∧ c ≤ 122) ∧ s.cps.toList = c :: (TL.numL k ++ 95 :: t) ∧ t.length ≤ 5 ∧ ∀ x ∈ t, (97 ≤ x ∧ x ≤ 122) ∨ (48 ≤ x ∧ x ≤ 57))
theorem num_sgn {n c : Nat} (h : c ∈ TL.numL n) : sgn c := .inr (.inl (TL.numL_digits n c h))
theorem NameC.nm {k : Nat} {s : Str} (h : NameC k s) (hk : k < 1000) : Nm s := by
  rcases h with ⟨j, hj, e⟩ | ⟨c, t, hc, e, ht, hx⟩
  · have hl := TL.numL_len (n := 4 * k + j) (k := 4) (by decide) (by omega)
    refine ⟨?_, ?_, ?_, ?_⟩ <;> rw [e]
    · simp
    · simp; omega
    · intro c h; simp at h; omega
    · intro c h
      rcases List.mem_cons.mp h with h | h
      · exact .inl (by omega)
      · exact num_sgn h
  · have hl := TL.numL_len (n := k) (k := 3) (by decide) (by omega)
    refine ⟨?_, ?_, ?_, ?_⟩ <;> rw [e]
    · simp
    · simp; omega
    · intro c h; simp at h; omega
    · intro x h
      rcases List.mem_cons.mp h with h | h
      · exact .inl (by omega)
      · rcases List.mem_append.mp h with h | h
        · exact num_sgn h
        · rcases List.mem_cons.mp h with h | h
          · exact .inr (.inr h)
          · rcases hx x h with z | z
            · exact .inl z
            · exact .inr (.inl z)
theorem cut95 : ∀ {a b c d : List Nat}, 95 ∉ a → 95 ∉ c → a ++ 95 :: b = c ++ 95 :: d → a = c
  | [], _, [], _, _, _, _ => rfl
  | [], b, y :: c, d, _, h, e => by
    simp at e
    exact absurd (by rw [e.1]; simp) h
  | x :: a, b, [], d, h, _, e => by
    simp at e
    exact absurd (by rw [e.1]; simp) h
  | x :: a, b, y :: c, d, h1, h2, e => by
    simp at e
    rw [e.1, cut95 (fun z => h1 (List.mem_cons_of_mem _ z)) (fun z => h2 (List.mem_cons_of_mem _ z)) e.2]
theorem NameC.inj {k k' : Nat} {s : Str} (h : NameC k s) (h' : NameC k' s) : k = k' := by
  rcases h with ⟨j, hj, e⟩ | ⟨c, t, hc, e, _⟩ <;> rcases h' with ⟨j', hj', e'⟩ | ⟨c', t', hc', e', _⟩ <;> rw [e] at e'
  · injection e' with _ z
    have := TL.numL_inj z
    omega
  · injection e' with _ z
    have : 95 ∈ TL.numL (4 * k + j) := by rw [z]; simp
    exact absurd this (TL.numL_free (by omega))
  · injection e' with _ z
    have : 95 ∈ TL.numL (4 * k' + j') := by rw [← z]; simp
    exact absurd this (TL.numL_free (by omega))
  · injection e' with _ z
    exact TL.numL_inj (cut95 (TL.numL_free (by omega)) (TL.numL_free (by omega)) z)
/-! ### circuits -/
structure CircOk (ins : List Str) (lts : List (Str × Int × Int)) (ands : List (Int × Int)) (outs : List (Str × Int)) : Prop where
  i1 : ins.length ≤ 16
  l1 : lts.length ≤ 40
  a1 : ands.length ≤ 2000
  o1 : outs.length ≤ 32
  iN : ∀ s ∈ ins, Nm s
  lN : ∀ p ∈ lts, Nm p.1
  oN : ∀ p ∈ outs, Nm p.1
  nd : (ins ++ lts.map (·.1)).Nodup
  on : (outs.map (·.1)).Nodup
  lv : ∀ p ∈ lts, (0 ≤ p.2.1 ∧ p.2.1 ≤ 1) ∧ 0 ≤ p.2.2 ∧ p.2.2 < 2 * (1 + ins.length + lts.length + ands.length : Int)
  wf : Wf ands (1 + ins.length + lts.length : Int)
  ov : ∀ p ∈ outs, 0 ≤ p.2 ∧ p.2 < 2 * (1 + ins.length + lts.length + ands.length : Int)
theorem enum_at {α : Type} {xs : List α} {j : Nat} {y : Int × α} (h : (xs.zipIdx.map fun x => ((x.2 : Int), x.1))[j]? = some y) : ∃ x, xs[j]? = some x ∧ y = ((j : Int), x) := by
  rw [List.getElem?_map] at h
  obtain ⟨z, h1, h2⟩ := Option.map_eq_some_iff.mp h
  rw [List.getElem?_zipIdx] at h1
  obtain ⟨x, h3, h4⟩ := Option.map_eq_some_iff.mp h1
  refine ⟨x, h3, ?_⟩
  rw [← h2, ← h4]
  simp
theorem enum_len {α : Type} (xs : List α) : (xs.zipIdx.map fun x => ((x.2 : Int), x.1)).length = xs.length := by simp
theorem enum_mem {α : Type} {xs : List α} {y : Int × α} (h : y ∈ (xs.zipIdx.map fun x => ((x.2 : Int), x.1))) : 0 ≤ y.1 ∧ atI xs y.1 = some y.2 := by
  obtain ⟨j, hj⟩ := List.getElem?_of_mem h
  obtain ⟨x, h1, rfl⟩ := enum_at hj
  refine ⟨by show (0 : Int) ≤ j; omega, ?_⟩
  rw [atI_pos (by show (0 : Int) ≤ j; omega)]
  simpa using h1
theorem enum_fst {α : Type} (xs : List α) : (xs.zipIdx.map fun x => ((x.2 : Int), x.1)).map Prod.fst = rangeL 0 (xs.length : Int) := by
  refine List.ext_getElem? fun j => ?_
  by_cases hj : j < xs.length
  · rw [rangeL_get (by omega), List.getElem?_map, List.getElem?_map, List.getElem?_zipIdx, List.getElem?_eq_getElem hj]
    simp
  · rw [List.getElem?_eq_none (by simp; omega), List.getElem?_eq_none (by simp [rangeL]; omega)]
/-! ### the first that is so -/
theorem forFind {α ρ : Type} {p : α → Bool} {f : α → Unit → Option (Fl ρ Unit)} {g : α → ρ} : ∀ {xs : List α}, (∀ x ∈ xs, f x () = if p x then some (.ret (g x)) else some (.next ())) →
    forF xs () f = some (match xs.find? p with | some x => .ret (g x) | none => .next ())
  | [], _ => rfl
  | x :: xs, h => by
    unfold forF
    rw [h x List.mem_cons_self]
    by_cases hp : p x = true
    · rw [if_pos hp, List.find?_cons_of_pos hp]; rfl
    · rw [if_neg hp, List.find?_cons_of_neg hp]
      exact forFind fun y hy => h y (List.mem_cons_of_mem _ hy)
theorem Wf.set {ands : List (Int × Int)} {fa : Int} (w : Wf ands fa) {n : Nat} {u : Int × Int} (h : (0 ≤ u.1 ∧ u.1 < 2) ∧ (0 ≤ u.2 ∧ u.2 < 2)) : Wf (ands.set n u) fa := by
  refine ⟨w.1, fun k p hp => ?_⟩
  have h1 := w.1
  rw [List.getElem?_set] at hp
  split at hp
  · split at hp
    · cases hp; omega
    · cases hp
  · exact w.2 k p hp
theorem cutL_pre {α : Type} {xs : List α} {n : Int} (h0 : 0 ≤ n) (h1 : n ≤ xs.length) : cutL xs none (some n) = xs.take n.toNat := by
  unfold cutL
  have e0 : HT.sIx xs.length 0 none = 0 := rfl
  have e1 : HT.sIx xs.length xs.length (some n) = n.toNat := by
    show (if n < 0 then (n + (xs.length : Int)).toNat else min n.toNat xs.length) = _
    rw [if_neg (by omega)]
    omega
  rw [e0, e1, List.drop_zero, Nat.sub_zero]
end Ty
namespace Ty
open PySem PySem.Spec L2
theorem fmX {α β : Type} {f : α → Option (Option β)} : ∀ {xs : List α} {R : Nat → β → Prop}, (∀ j x, xs[j]? = some x → ∃ v, f x = some (some v) ∧ R j v) → ∃ ys, fmO xs f = some ys ∧ ys.length = xs.length ∧ ∀ j v, ys[j]? = some v → R j v
  | [], R, _ => ⟨[], rfl, rfl, fun j v h => by simp at h⟩
  | x :: xs, R, h => by
    obtain ⟨v, h1, h2⟩ := h 0 x rfl
    obtain ⟨ys, h3, h4, h5⟩ := fmX (xs := xs) (R := fun j v => R (j + 1) v) fun j y hy => h (j + 1) y (by simpa using hy)
    refine ⟨v :: ys, ?_, by simp [h4], fun j u hu => ?_⟩
    · unfold fmO
      rw [h1, Option.bind_some, h3]
      rfl
    · cases j with
      | zero => simp at hu; rw [← hu]; exact h2
      | succ j => exact h5 j u (by simpa using hu)
theorem tFmX {α γ β : Type} {Q : β → Prop} {f : α → Option (Option γ)} {xs : List α} {k : List γ → Option β} (R : Nat → γ → Prop) (h : ∀ j x, xs[j]? = some x → ∃ v, f x = some (some v) ∧ R j v) (hk : ∀ ys, ys.length = xs.length → (∀ j v, ys[j]? = some v → R j v) → Tot (k ys) Q) : Tot ((fmO xs f).bind k) Q := by
  obtain ⟨ys, e, h1, h2⟩ := fmX h
  exact tE e (hk ys h1 h2)
theorem nodup_by {α : Type} {R : Nat → α → Prop} {ys : List α} (h : ∀ j v, ys[j]? = some v → R j v) (hi : ∀ j k v, R j v → R k v → j = k) : ys.Nodup := by
  rw [List.Nodup, List.pairwise_iff_getElem]
  intro i j h1 h2 h3 e
  have a := h i _ (List.getElem?_eq_getElem h1)
  have b := h j _ (List.getElem?_eq_getElem h2)
  rw [e] at a
  have := hi _ _ _ a b
  omega
theorem snoc_at {α : Type} {xs : List α} {u p : α} {m : Nat} (h : (xs ++ [u])[m]? = some p) : (m < xs.length ∧ xs[m]? = some p) ∨ (m = xs.length ∧ p = u) := by
  by_cases hm : m < xs.length
  · rw [List.getElem?_append_left hm] at h; exact .inl ⟨hm, h⟩
  · rw [List.getElem?_append_right (by omega)] at h
    have := (List.getElem?_eq_some_iff.mp h).1
    simp at this
    have e : m - xs.length = 0 := by omega
    rw [e] at h
    simp at h
    exact .inr ⟨by omega, h.symm⟩
end Ty
namespace Ty
theorem find_congr {α : Type} {p q : α → Bool} : ∀ {xs : List α}, (∀ x ∈ xs, p x = q x) → xs.find? p = xs.find? q
  | [], _ => rfl
  | x :: xs, h => by
    unfold List.find?
    rw [h x List.mem_cons_self, find_congr fun y hy => h y (List.mem_cons_of_mem _ hy)]
end Ty
namespace Ty
theorem flK_find {α ρ β : Type} {o : Option α} {g : α → ρ} {kn : Unit → Option β} {kr : ρ → Option β} : flK (some (match o with | some x => Fl.ret (g x) | none => Fl.next ())) kn kr = match o with | some x => kr (g x) | none => kn () := by cases o <;> rfl
end Ty

/-! Pl6 -/
/-! another family of names; cuts -/
namespace Ty
open PySem PySem.Spec L2
/-! ### names -/
def aln (x : Nat) : Prop := (97 ≤ x ∧ x ≤ 122) ∨ (48 ≤ x ∧ x ≤ 57)
def NameB (k : Nat) (s : Str) : Prop := ∃ c a b, (97 ≤ c ∧ c ≤ 122) ∧ s.cps.toList = c :: (a ++ 95 :: (48 + k) :: b) ∧ a.length + b.length ≤ 7 ∧ (∀ x ∈ a, aln x) ∧ ∀ x ∈ b, aln x
theorem aln_sgn {x : Nat} (h : aln x) : sgn x := by
  rcases h with h | h
  · exact .inl h
  · exact .inr (.inl h)
theorem NameB.nm {k : Nat} {s : Str} (h : NameB k s) (hk : k < 10) : Nm s := by
  obtain ⟨c, a, b, hc, e, hl, ha, hb⟩ := h
  refine ⟨?_, ?_, ?_, ?_⟩ <;> rw [e]
  · simp
  · simp; omega
  · intro c h; simp at h; omega
  · intro x h
    rcases List.mem_cons.mp h with h | h
    · exact .inl (by omega)
    · rcases List.mem_append.mp h with h | h
      · exact aln_sgn (ha x h)
      · rcases List.mem_cons.mp h with h | h
        · exact .inr (.inr h)
        · rcases List.mem_cons.mp h with h | h
          · exact .inr (.inl (by omega))
          · exact aln_sgn (hb x h)
theorem no95 {a : List Nat} (h : ∀ x ∈ a, aln x) : 95 ∉ a := fun hm => by
  rcases h 95 hm with z | z <;> omega
theorem cut95' : ∀ {a b c d : List Nat}, 95 ∉ a → 95 ∉ c → a ++ 95 :: b = c ++ 95 :: d → b = d := fun {a b c d} h1 h2 e => by
  have := cut95 h1 h2 e
  subst this
  simpa using e
theorem NameB.inj {k k' : Nat} {s : Str} (h : NameB k s) (h' : NameB k' s) : k = k' := by
  obtain ⟨c, a, b, hc, e, hl, ha, hb⟩ := h
  obtain ⟨c', a', b', hc', e', hl', ha', hb'⟩ := h'
  rw [e] at e'
  injection e' with _ z
  have := cut95' (no95 ha) (no95 ha') z
  injection this with z _
  omega
theorem NameB.has {k : Nat} {s : Str} (h : NameB k s) : 95 ∈ s.cps.toList := by
  obtain ⟨c, a, b, hc, e, _⟩ := h
  rw [e]; simp
theorem zz9 : NameB 9 ("zz_9" : Str) := by
  refine ⟨122, [122], [], by decide, by decide +kernel, by decide, fun x hx => ?_, fun x hx => nomatch hx⟩
  rw [List.mem_singleton.mp hx]; exact .inl (by decide)
theorem sIx_some {n d : Nat} {v : Int} (h0 : 0 ≤ v) (h1 : v ≤ n) : HT.sIx n d (some v) = v.toNat := by
  show (if v < 0 then (v + (n : Int)).toNat else min v.toNat n) = _
  rw [if_neg (by omega)]
  omega
theorem cutS_pre {s : Str} {n : Int} (h0 : 0 ≤ n) (h1 : n ≤ s.cps.toList.length) : (cutS s none (some n)).cps.toList = s.cps.toList.take n.toNat := by
  have e : s.length = s.cps.toList.length := len_tl' s
  unfold cutS
  rw [sIx_some h0 (by omega)]
  show (List.take (n.toNat - 0) (List.drop 0 s.cps.toList)) = _
  rw [List.drop_zero, Nat.sub_zero]
theorem cutS_suf {s : Str} {n : Int} (h0 : 0 ≤ n) (h1 : n ≤ s.cps.toList.length) : (cutS s (some n) none).cps.toList = s.cps.toList.drop n.toNat := by
  have e : s.length = s.cps.toList.length := len_tl' s
  unfold cutS
  rw [sIx_some h0 (by omega)]
  show (List.take (s.length - n.toNat) (List.drop n.toNat s.cps.toList)) = _
  rw [List.take_of_length_le]
  rw [List.length_drop]
  omega
theorem cutL_suf {α : Type} {xs : List α} {n : Int} (h0 : 0 ≤ n) (h1 : n ≤ xs.length) : cutL xs (some n) none = xs.drop n.toNat := by
  unfold cutL
  rw [sIx_some h0 h1]
  show (List.take (xs.length - n.toNat) (List.drop n.toNat xs)) = _
  rw [List.take_of_length_le]
  rw [List.length_drop]
  omega
theorem cutL_all {α : Type} {xs : List α} {n : Int} (h0 : 0 ≤ n) : cutL xs none (some n) = xs.take n.toNat := by
  by_cases h : n ≤ xs.length
  · exact cutL_pre h0 h
  · unfold cutL
    have : HT.sIx xs.length xs.length (some n) = xs.length := by
      show (if n < 0 then (n + (xs.length : Int)).toNat else min n.toNat xs.length) = _
      rw [if_neg (by omega)]
      omega
    rw [this]
    show List.take (xs.length - 0) (List.drop 0 xs) = _
    rw [List.drop_zero, List.take_of_length_le (by omega), List.take_of_length_le (by omega)]
/-- a text without strange signs -/
theorem ok_of {s : Str} (h : ∀ c ∈ s.cps.toList, c < 1114112) : PyData.strOk s = true := by
  unfold PyData.strOk
  rw [← Array.all_toList, List.all_eq_true]
  intro c hc
  exact decide_eq_true (h c hc)
theorem Nm.ok {s : Str} (h : Nm s) : PyData.strOk s = true := ok_of fun c hc => by
  rcases h.al c hc with z | z | z <;> omega
theorem tl_inj' {a b : Str} (h : a.cps.toList = b.cps.toList) : a = b := tl_ext h
end Ty

/-! Pl7 -/
/-! names of a word and a number -/
namespace Ty
open PySem PySem.Spec L2
def NameP (pre : List Nat) (k : Nat) (s : Str) : Prop := s.cps.toList = pre ++ TL.numL k
theorem NameP.inj {pre : List Nat} {k k' : Nat} {s : Str} (h : NameP pre k s) (h' : NameP pre k' s) : k = k' := by
  unfold NameP at h h'
  rw [h] at h'
  exact TL.numL_inj (List.append_cancel_left h')
theorem NameP.nm {pre : List Nat} {k : Nat} {s : Str} (h : NameP pre k s) (hk : k < 100) (hp : 1 ≤ pre.length ∧ pre.length ≤ 10) (hd : ∀ c, pre[0]? = some c → 97 ≤ c ∧ c ≤ 122) (hs : ∀ c ∈ pre, sgn c) : Nm s := by
  have hl := TL.numL_len (n := k) (k := 2) (by decide) (by omega)
  unfold NameP at h
  refine ⟨?_, ?_, fun c hc => ?_, fun c hc => ?_⟩
  · rw [h, List.length_append]; omega
  · rw [h, List.length_append]; omega
  · rw [h, List.getElem?_append_left (by omega)] at hc
    exact hd c hc
  · rw [h] at hc
    rcases List.mem_append.mp hc with hc | hc
    · exact hs c hc
    · exact num_sgn hc
theorem cat_num {p : Str} {pre : List Nat} (hp : p.cps.toList = pre) {n : Int} {k : Nat} (hn : n = k) : NameP pre k (p ++ Str.ofString (toString n)) := by
  unfold NameP
  rw [tl_cat, hp, tl_numI (by omega), show n.toNat = k by omega]
theorem cat_len {p : Str} {n : Int} (h0 : 0 ≤ n) (h1 : n < 100) (hp : p.length ≤ 1000) : p.length + (Str.ofString (toString n)).length ≤ 16777216 := by
  have hl := TL.numL_len (n := n.toNat) (k := 2) (by decide) (by omega)
  rw [len_tl' (Str.ofString _), tl_numI h0]
  omega
theorem NameP.nm3 {pre : List Nat} {k : Nat} {s : Str} (h : NameP pre k s) (hk : k < 1000) (hp : 1 ≤ pre.length ∧ pre.length ≤ 9) (hd : ∀ c, pre[0]? = some c → 97 ≤ c ∧ c ≤ 122) (hs : ∀ c ∈ pre, sgn c) : Nm s := by
  have hl := TL.numL_len (n := k) (k := 3) (by decide) (by omega)
  unfold NameP at h
  refine ⟨?_, ?_, fun c hc => ?_, fun c hc => ?_⟩
  · rw [h, List.length_append]; omega
  · rw [h, List.length_append]; omega
  · rw [h, List.getElem?_append_left (by omega)] at hc
    exact hd c hc
  · rw [h] at hc
    rcases List.mem_append.mp hc with hc | hc
    · exact hs c hc
    · exact num_sgn hc
/-- a letter and ten times something and a figure -/
def NameA (c : Nat) (k : Nat) (s : Str) : Prop := ∃ m, m < 60 ∧ NameP [c] (10 * m + k) s
theorem NameA.inj {c k k' : Nat} {s : Str} (h : NameA c k s) (h' : NameA c k' s) (hk : k < 10) (hk' : k' < 10) : k = k' := by
  obtain ⟨m, _, h⟩ := h
  obtain ⟨m', _, h'⟩ := h'
  have := h.inj h'
  omega
theorem NameA.nm {c k : Nat} {s : Str} (h : NameA c k s) (hk : k < 10) (hc : 97 ≤ c ∧ c ≤ 122) : Nm s := by
  obtain ⟨m, hm, h⟩ := h
  exact h.nm3 (by omega) ⟨Nat.le_refl _, by simp⟩ (fun d hd => by simp at hd; omega) fun d hd => by rw [List.mem_singleton.mp hd]; exact .inl hc
theorem NameA.ne {c c' k k' : Nat} {s : Str} (h : NameA c k s) (h' : NameA c' k' s) : c = c' := by
  obtain ⟨m, _, h⟩ := h
  obtain ⟨m', _, h'⟩ := h'
  unfold NameP at h h'
  rw [h] at h'
  simp at h'
  exact h'.1
/-- names by their place, less than ten -/
theorem nodup_A {c : Nat} {ys : List Str} (hl : ys.length ≤ 10) (h : ∀ (j : Nat) v, ys[j]? = some v → NameA c j v) : ys.Nodup := by
  refine nodup_by (R := fun j v => NameA c j v ∧ j < 10) (fun j v hv => ⟨h j v hv, ?_⟩) fun j k v a b => a.1.inj b.1 a.2 b.2
  have := (List.getElem?_eq_some_iff.mp hv).1
  omega
end Ty

/-! Pl8 -/
/-! states that no course tells apart: by levels -/
namespace Ty
abbrev MvT := List (List (Int × Int))
def rowAt (M : MvT) (s : Nat) : List (Int × Int) := (M[s]?).getD []
def outsAt (M : MvT) (s : Nat) : List Int := (rowAt M s).map (·.2)
def nxAt (M : MvT) (s r : Nat) : Nat := (((rowAt M s)[r]?).getD (0, 0)).1.toNat
structure MOk (M : MvT) (R : Nat) : Prop where
  n : 1 ≤ M.length
  len : ∀ e ∈ M, e.length = R
  rng : ∀ e ∈ M, ∀ v ∈ e, 0 ≤ v.1 ∧ v.1 < (M.length : Int)
theorem rowAt_mem {M : MvT} {s : Nat} (h : s < M.length) : rowAt M s ∈ M ∧ M[s]? = some (rowAt M s) := by
  unfold rowAt
  rw [List.getElem?_eq_getElem h]
  exact ⟨List.getElem_mem h, rfl⟩
theorem MOk.row {M : MvT} {R s r : Nat} (h : MOk M R) (hs : s < M.length) (hr : r < R) : ∃ v, (rowAt M s)[r]? = some v ∧ (0 ≤ v.1 ∧ v.1 < (M.length : Int)) ∧ v.1 = (nxAt M s r : Int) := by
  obtain ⟨h1, _⟩ := rowAt_mem hs
  have hl := h.len _ h1
  have e : (rowAt M s)[r]? = some (rowAt M s)[r] := List.getElem?_eq_getElem (by omega)
  have := h.rng _ h1 _ (List.getElem_mem (l := rowAt M s) (n := r) (by omega))
  refine ⟨_, e, this, ?_⟩
  unfold nxAt
  rw [e]
  simp only [Option.getD_some]
  omega
theorem MOk.nx {M : MvT} {R s r : Nat} (h : MOk M R) (hs : s < M.length) (hr : r < R) : nxAt M s r < M.length := by
  obtain ⟨v, _, h2, h3⟩ := h.row hs hr
  omega
/-- not told apart within k more rows -/
def EqK (M : MvT) (R : Nat) : Nat → Nat → Nat → Prop
  | 0, s, t => outsAt M s = outsAt M t
  | k + 1, s, t => EqK M R k s t ∧ ∀ r, r < R → EqK M R k (nxAt M s r) (nxAt M t r)
section
variable {M : MvT} {R : Nat}
theorem EqK.refl : ∀ (k s : Nat), EqK M R k s s
  | 0, _ => rfl
  | k + 1, s => ⟨EqK.refl k s, fun r _ => EqK.refl k _⟩
theorem EqK.symm : ∀ {k s t : Nat}, EqK M R k s t → EqK M R k t s
  | 0, _, _, h => Eq.symm h
  | k + 1, _, _, h => ⟨EqK.symm h.1, fun r hr => EqK.symm (h.2 r hr)⟩
theorem EqK.trans : ∀ {k s t u : Nat}, EqK M R k s t → EqK M R k t u → EqK M R k s u
  | 0, _, _, _, h, g => Eq.trans h g
  | k + 1, _, _, _, h, g => ⟨EqK.trans h.1 g.1, fun r hr => EqK.trans (h.2 r hr) (g.2 r hr)⟩
theorem EqK.le {k s t : Nat} : ∀ {j : Nat}, EqK M R (k + j) s t → EqK M R k s t
  | 0, h => h
  | j + 1, h => EqK.le (j := j) h.1
theorem EqK.low {k s t : Nat} (h : EqK M R k s t) : outsAt M s = outsAt M t := by
  have : EqK M R (0 + k) s t := by rw [Nat.zero_add]; exact h
  exact EqK.le this
def Alk (M : MvT) (R : Nat) (s t : Nat) : Prop := ∀ k, EqK M R k s t
theorem Alk.nx {s t r : Nat} (h : Alk M R s t) (hr : r < R) : Alk M R (nxAt M s r) (nxAt M t r) := fun k => (h (k + 1)).2 r hr
theorem Alk.refl (s : Nat) : Alk M R s s := fun k => EqK.refl k s
theorem Alk.symm {s t : Nat} (h : Alk M R s t) : Alk M R t s := fun k => (h k).symm
theorem Alk.trans {s t u : Nat} (h : Alk M R s t) (g : Alk M R t u) : Alk M R s u := fun k => (h k).trans (g k)
theorem Alk.bisim {B : Nat → Nat → Prop} (h0 : ∀ s t, B s t → outsAt M s = outsAt M t) (h1 : ∀ s t, B s t → ∀ r, r < R → B (nxAt M s r) (nxAt M t r)) : ∀ {s t : Nat}, B s t → Alk M R s t := by
  intro s t h k
  induction k generalizing s t with
  | zero => exact h0 s t h
  | succ k ih => exact ⟨ih h, fun r hr => ih (h1 s t h r hr)⟩
/-- the partition of level k is the last -/
def Still (M : MvT) (R k : Nat) : Prop := ∀ s t, s < M.length → t < M.length → EqK M R k s t → EqK M R (k + 1) s t
theorem Still.up (w : MOk M R) {k : Nat} (h : Still M R k) : ∀ (j : Nat) {s t : Nat}, s < M.length → t < M.length → EqK M R k s t → EqK M R (k + j) s t
  | 0, _, _, _, _, e => e
  | j + 1, s, t, hs, ht, e => ⟨h.up w j hs ht e, fun r hr => h.up w j (w.nx hs hr) (w.nx ht hr) ((h s t hs ht e).2 r hr)⟩
theorem Still.alk (w : MOk M R) {k : Nat} (h : Still M R k) {s t : Nat} (hs : s < M.length) (ht : t < M.length) (e : EqK M R k s t) : Alk M R s t := fun m => by
  by_cases q : k ≤ m
  · obtain ⟨j, rfl⟩ := Nat.exists_eq_add_of_le q
    exact h.up w j hs ht e
  · obtain ⟨j, rfl⟩ := Nat.exists_eq_add_of_le (Nat.le_of_lt (Nat.lt_of_not_le q))
    exact EqK.le e
/-! ### how many classes -/
open Classical in
noncomputable def newB (E : Nat → Nat → Prop) (s : Nat) : Bool := decide (∀ t, t < s → ¬ E t s)
open Classical in
theorem newB_iff {E : Nat → Nat → Prop} {s : Nat} : newB E s = true ↔ ∀ t, t < s → ¬ E t s := by unfold newB; exact decide_eq_true_iff
noncomputable def cnt (E : Nat → Nat → Prop) (n : Nat) : Nat := (List.range n).countP (newB E)
theorem cnt_succ (E : Nat → Nat → Prop) (n : Nat) : cnt E (n + 1) = cnt E n + if newB E n = true then 1 else 0 := by
  unfold cnt
  rw [List.range_succ, List.countP_append]
  simp [List.countP_cons]
theorem cnt_le (E : Nat → Nat → Prop) (n : Nat) : cnt E n ≤ n := by
  have := List.countP_le_length (p := newB E) (l := List.range n)
  simpa [cnt] using this
theorem cnt_pos {E : Nat → Nat → Prop} {n : Nat} (h : 1 ≤ n) : 1 ≤ cnt E n := by
  unfold cnt
  refine List.countP_pos_iff.mpr ⟨0, List.mem_range.mpr (by omega), ?_⟩
  exact newB_iff.mpr fun t ht => absurd ht (Nat.not_lt_zero _)
theorem cnt_congr {E E' : Nat → Nat → Prop} {n : Nat} (h : ∀ s t, s < n → t < n → (E s t ↔ E' s t)) : cnt E n = cnt E' n := by
  unfold cnt
  refine List.countP_congr fun s hs => ?_
  have hs := List.mem_range.mp hs
  rw [newB_iff, newB_iff]
  exact ⟨fun q t ht e => q t ht ((h t s (by omega) hs).mpr e), fun q t ht e => q t ht ((h t s (by omega) hs).mp e)⟩
theorem countP_eq {α : Type} {p q : α → Bool} : ∀ {l : List α}, (∀ x ∈ l, p x = true → q x = true) → l.countP q ≤ l.countP p → ∀ x ∈ l, q x = true → p x = true
  | [], _, _, x, hx, _ => (nomatch hx)
  | a :: l, h, hc, x, hx, hq => by
    have ht : ∀ x ∈ l, p x = true → q x = true := fun x hx => h x (List.mem_cons_of_mem _ hx)
    have hm : l.countP p ≤ l.countP q := List.countP_mono_left ht
    rw [List.countP_cons, List.countP_cons] at hc
    have ha := h a List.mem_cons_self
    rcases List.mem_cons.mp hx with rfl | hx
    · cases hp : p x with
      | true => rfl
      | false =>
        rw [hq, hp] at hc
        simp at hc
        omega
    · refine countP_eq ht ?_ x hx hq
      cases hp : p a with
      | true =>
        rw [ha hp, hp] at hc
        simp at hc
        omega
      | false =>
        rw [hp] at hc
        simp at hc
        omega
theorem least_of {P : Nat → Prop} : ∀ n, P n → ∃ m, m ≤ n ∧ P m ∧ ∀ k, k < m → ¬ P k := by
  intro n
  induction n using Nat.strongRecOn with
  | ind n ih =>
    intro h
    by_cases q : ∃ k, k < n ∧ P k
    · obtain ⟨k, hk, hp⟩ := q
      obtain ⟨m, h1, h2, h3⟩ := ih k hk hp
      exact ⟨m, by omega, h2, h3⟩
    · exact ⟨n, Nat.le_refl _, h, fun k hk hp => q ⟨k, hk, hp⟩⟩
theorem still_of (w : MOk M R) {k : Nat} (h : cnt (EqK M R (k + 1)) M.length ≤ cnt (EqK M R k) M.length) : Still M R k := by
  have sub : ∀ x ∈ List.range M.length, newB (EqK M R k) x = true → newB (EqK M R (k + 1)) x = true := fun x _ hx => newB_iff.mpr fun t ht e => newB_iff.mp hx t ht e.1
  have all := countP_eq sub h
  have rep : ∀ s, s < M.length → ∃ u, u ≤ s ∧ EqK M R (k + 1) u s ∧ newB (EqK M R k) u = true := fun s hs => by
    obtain ⟨u, h1, h2, h3⟩ := least_of (P := fun u => EqK M R (k + 1) u s) s (EqK.refl _ _)
    refine ⟨u, h1, h2, all u (List.mem_range.mpr (by omega)) (newB_iff.mpr fun t ht e => h3 t ht (e.trans h2))⟩
  intro s t hs ht e
  obtain ⟨u, u1, u2, u3⟩ := rep s hs
  obtain ⟨v, v1, v2, v3⟩ := rep t ht
  have huv : EqK M R k u v := (u2.1.trans e).trans v2.1.symm
  have : u = v := by
    rcases Nat.lt_trichotomy u v with q | q | q
    · exact absurd huv (newB_iff.mp v3 u q)
    · exact q
    · exact absurd huv.symm (newB_iff.mp u3 v q)
  subst this
  exact u2.symm.trans v2
theorem cnt_up (w : MOk M R) {k : Nat} (h : ¬ Still M R k) : cnt (EqK M R k) M.length < cnt (EqK M R (k + 1)) M.length := by
  apply Nat.lt_of_not_le
  exact fun q => h (still_of w q)
theorem still_at (w : MOk M R) : ∃ j, j < M.length ∧ Still M R j := by
  have all : ∀ j, (∀ i, i < j → ¬ Still M R i) → j + 1 ≤ cnt (EqK M R j) M.length := by
    intro j
    induction j with
    | zero => intro _; exact cnt_pos w.n
    | succ j ih =>
      intro h
      have h1 := ih fun i hi => h i (by omega)
      have h2 := cnt_up w (h j (by omega))
      omega
  apply Classical.byContradiction
  intro hn
  have := all M.length fun i hi hs => hn ⟨i, hi, hs⟩
  have := cnt_le (EqK M R M.length) M.length
  omega
theorem alk_of_n (w : MOk M R) {s t : Nat} (hs : s < M.length) (ht : t < M.length) (e : EqK M R M.length s t) : Alk M R s t := by
  obtain ⟨j, hj, hst⟩ := still_at w
  refine hst.alk w hs ht ?_
  obtain ⟨d, hd⟩ := Nat.exists_eq_add_of_le (Nat.le_of_lt hj)
  rw [hd] at e
  exact EqK.le e
/-- the smallest state alike, of each -/
def FirstOf (M : MvT) (R : Nat) (f : List Int) : Prop := f.length = M.length ∧ ∀ s, s < M.length → ∃ t : Nat, f[s]? = some (t : Int) ∧ t ≤ s ∧ Alk M R t s ∧ ∀ u, u < t → ¬ Alk M R u s
theorem FirstOf.eq {f g : List Int} (h : FirstOf M R f) (h' : FirstOf M R g) : f = g := by
  refine List.ext_getElem? fun s => ?_
  by_cases hs : s < M.length
  · obtain ⟨t, e1, t1, t2, t3⟩ := h.2 s hs
    obtain ⟨u, e2, u1, u2, u3⟩ := h'.2 s hs
    rw [e1, e2]
    have : t = u := by
      rcases Nat.lt_trichotomy t u with q | q | q
      · exact absurd t2 (u3 t q)
      · exact q
      · exact absurd u2 (t3 u q)
    rw [this]
  · rw [List.getElem?_eq_none (by rw [h.1]; omega), List.getElem?_eq_none (by rw [h'.1]; omega)]
end
end Ty

/-! K24M -/
namespace K24
open PySem PySem.Spec L2 Ty
structure S_Machine where
  input_count : Int
  output_count : Int
  moves : List (List ((Int) × (Int)))
  deriving DecidableEq
def m__law_cell (script_0 : List Int) (k_0 : Int) : Option (Int) :=
  (bif decide (k_0 < ((script_0).length : Int)) then ((atI script_0 k_0).bind fun v_1 => some (decide (((10 : Int) ^ ((9 : Int)).toNat) ≤ v_1))) else some false).bind fun b_3 =>
  bif b_3 then (
  (atI script_0 k_0).bind fun v_5 =>
  some v_5)
  else (
  letO (((7 : Int) * k_0) + (1 : Int)) fun cell_7 =>
  (bif decide ((0 : Int) < ((script_0).length : Int)) then (
  guardO (0 < ((script_0).length : Int)) <|
  (atI script_0 (k_0 % ((script_0).length : Int))).bind fun v_11 =>
  letO (cell_7 + ((31 : Int) * v_11)) fun cell_13 =>
  some cell_13)
  else (
  some cell_7) : Option ((Int))).bind fun cell_9 =>
  letO (((cell_9 * (48271 : Int)) + ((69621 : Int) * k_0)) % (2147483647 : Int)) fun cell_17 =>
  some (((cell_17 * (69621 : Int)) + ((48271 : Int) * (cell_17 / (1000 : Int)))) % (2147483629 : Int)))

def m__law_moves (script_0 : List Int) (at_0 : Int) (inputs_0 : Int) (outputs_0 : Int) (states_0 : Int) : Option (List (List ((Int) × (Int)))) :=
  guardO (-(2 ^ 62) ≤ states_0 ∧ states_0 < 2 ^ 62) <|
  flK (forF (ρ := List (List ((Int) × (Int)))) (rangeL 0 states_0) (([] : List (List ((Int) × (Int)))) : (List (List ((Int) × (Int))))) fun s_22 moves_21 =>
  guardO (0 ≤ inputs_0 ∧ inputs_0 ≤ 1000000) <|
  guardO (-(2 ^ 62) ≤ ((1 : Int) * 2 ^ (inputs_0).toNat) ∧ ((1 : Int) * 2 ^ (inputs_0).toNat) < 2 ^ 62) <|
  flK (forF (ρ := List (List ((Int) × (Int)))) (rangeL 0 ((1 : Int) * 2 ^ (inputs_0).toNat)) (([] : List ((Int) × (Int))) : (List ((Int) × (Int)))) fun r_27 entry_26 =>
  (m__law_cell script_0 (at_0 + s_22)).bind fun r_28 =>
  guardO (0 < (r_27 + (1 : Int)) ∧ (r_27 + (1 : Int)) < 1073741824) <|
  letO (((((r_28 / (r_27 + (1 : Int))) + ((40503 : Int) * r_27)) + ((31 : Int) * s_22)) * (48271 : Int)) % (2147483647 : Int)) fun cell_31 =>
  guardO (0 < states_0) <|
  guardO (0 ≤ outputs_0 ∧ outputs_0 ≤ 1000000) <|
  guardO (0 < ((1 : Int) * 2 ^ (outputs_0).toNat)) <|
  guardO ((entry_26).length < sizeLine) <|
  some (.next (entry_26 ++ [((cell_31 % states_0), ((cell_31 / (1009 : Int)) % ((1 : Int) * 2 ^ (outputs_0).toNat)))]))) (fun entry_26 =>
  guardO ((moves_21).length < sizeLine) <|
  some (.next (moves_21 ++ [entry_26])))
  (fun _ => none)) (fun moves_21 =>
  some moves_21)
  (fun _ => none)

def m_is_move (move_0 : (Int) × (Int)) (state_count_0 : Int) (output_count_0 : Int) : Option (Bool) :=
  (bif (decide ((0 : Int) ≤ move_0.1) && decide (move_0.1 < state_count_0)) then ((bif decide ((0 : Int) ≤ move_0.2) then (guardO (0 ≤ output_count_0 ∧ output_count_0 ≤ 1000000) (some (decide (move_0.2 < ((1 : Int) * 2 ^ (output_count_0).toNat))))) else some false).bind fun b_39 => some b_39) else some false).bind fun b_41 =>
  some b_41

def m_Machine_init (input_count_0 : Int) (output_count_0 : Int) (moves_0 : List (List ((Int) × (Int)))) : Option (S_Machine × Unit) :=
  bif ((!(decide ((0 : Int) ≤ input_count_0) && decide (input_count_0 ≤ (6 : Int)))) || (!(decide ((0 : Int) ≤ output_count_0) && decide (output_count_0 ≤ (32 : Int))))) then (
  none)
  else (
  bif decide (((moves_0).length : Int) = (0 : Int)) then (
  none)
  else (
  guardO (0 ≤ input_count_0 ∧ input_count_0 ≤ 1000000) <|
  letO ((1 : Int) * 2 ^ (input_count_0).toNat) fun rows_44 =>
  flK (forF (ρ := Unit) ((moves_0).zipIdx.map fun x => ((x.2 : Int), x.1)) (() : Unit) fun p_46 _ =>
  bif decide (p_46.1 = (1000 : Int)) then (
  none)
  else (
  guardO (-(2 ^ 62) ≤ (if ((p_46.2).length : Int) > rows_44 then ((p_46.2).length : Int) else rows_44) ∧ (if ((p_46.2).length : Int) > rows_44 then ((p_46.2).length : Int) else rows_44) < 2 ^ 62) <|
  flK (forF (ρ := Unit) (rangeL 0 (if ((p_46.2).length : Int) > rows_44 then ((p_46.2).length : Int) else rows_44)) (() : Unit) fun row_49 _ =>
  (bif decide ((if ((p_46.2).length : Int) < rows_44 then ((p_46.2).length : Int) else rows_44) ≤ row_49) then some true else ((atI p_46.2 row_49).bind fun v_50 => (m_is_move v_50 ((moves_0).length : Int) output_count_0).bind fun r_52 => some (!r_52))).bind fun b_54 =>
  bif b_54 then (
  none)
  else (
  some (.next ()))) (fun _ =>
  some (.next ()))
  (fun _ => none))) (fun _ =>
  guardO ((moves_0).length ≤ sizeLine) <|
  (fmO moves_0 fun entry_58 => (some (some entry_58))).bind fun ys_56 =>
  some (⟨input_count_0, output_count_0, ys_56⟩, ()))
  (fun _ => none)))

def m_numbered (keys_0 : List (NestedKey)) : Option (List (Int)) :=
  flK (forF (ρ := List (Int)) keys_0 ((([] : List (NestedKey × (Int))), ([] : List (Int))) : (List (NestedKey × (Int))) × (List (Int))) fun key_62 (known_60, numbers_61) =>
  (bif (!(dget known_60 key_62).isSome) then (
  guardO ((known_60).length < sizeLine) <|
  some (dput known_60 key_62 ((known_60).length : Int)))
  else (
  some known_60) : Option ((List (NestedKey × (Int))))).bind fun known_63 =>
  (dget known_63 key_62).bind fun v_67 =>
  guardO ((numbers_61).length < sizeLine) <|
  some (.next (known_63, (numbers_61 ++ [v_67])))) (fun (known_60, numbers_61) =>
  some numbers_61)
  (fun _ => none)

def m_alike_states (machine_0 : S_Machine) : Option (List (Int)) :=
  guardO ((machine_0.moves).length ≤ sizeLine) <|
  (fmO machine_0.moves fun entry_72 => (guardO ((entry_72).length ≤ sizeLine) ((fmO entry_72 fun p_75 => (some (some p_75.2))).bind fun ys_73 => some (some ((NE.tup NE.int).enc ys_73))))).bind fun ys_70 =>
  (m_numbered ys_70).bind fun r_78 =>
  flK (whileF (ρ := List (Int)) ((machine_0).moves.length + 2) ((r_78, (0 : Int)) : (List (Int)) × (Int)) fun (marks_80, count_81) =>
  (mxL marks_80).bind fun m_82 =>
  bif decide (count_81 < (m_82 + (1 : Int))) then (
  (mxL marks_80).bind fun m_84 =>
  letO (m_84 + (1 : Int)) fun count_86 =>
  flK (forF (ρ := List (Int)) ((machine_0.moves).zipIdx.map fun x => ((x.2 : Int), x.1)) (([] : List (NestedKey)) : (List (NestedKey))) fun p_89 keys_88 =>
  (atI marks_80 p_89.1).bind fun v_90 =>
  guardO ((p_89.2).length ≤ sizeLine) <|
  (fmO p_89.2 fun p_94 => ((atI marks_80 p_94.1).bind fun v_95 => some (some v_95))).bind fun ys_92 =>
  guardO ((keys_88).length < sizeLine) <|
  some (.next (keys_88 ++ [((NE.t2 NE.int (NE.tup NE.int)).enc (v_90, ys_92))]))) (fun keys_88 =>
  (m_numbered keys_88).bind fun r_99 =>
  some (.next (r_99, count_86)))
  (fun _ => none))
  else some (.brk (marks_80, count_81))) (fun (marks_80, count_81) =>
  guardO ((marks_80).length ≤ sizeLine) <|
  (fmO marks_80 fun mark_103 => ((idxL marks_80 mark_103).bind fun i_104 => some (some (i_104 : Int)))).bind fun ys_101 =>
  some ys_101)
  (fun _ => none)

def m_least_machine (machine_0 : S_Machine) : Option (S_Machine) :=
  (m_alike_states machine_0).bind fun r_107 =>
  flK (whileF (ρ := S_Machine) ((machine_0).moves.length + 2) (([(0 : Int)], [((0 : Int), (0 : Int))], ([] : List (List ((Int) × (Int))))) : (List (Int)) × (List ((Int) × (Int))) × (List (List ((Int) × (Int))))) fun (states_109, known_110, moves_111) =>
  bif decide (((moves_111).length : Int) < ((states_109).length : Int)) then (
  (atI states_109 ((moves_111).length : Int)).bind fun v_112 =>
  (atI machine_0.moves v_112).bind fun v_114 =>
  flK (forF (ρ := S_Machine) v_114 ((states_109, known_110, ([] : List ((Int) × (Int)))) : (List (Int)) × (List ((Int) × (Int))) × (List ((Int) × (Int)))) fun p_119 (states_116, known_117, entry_118) =>
  (atI r_107 p_119.1).bind fun v_120 =>
  (bif (!(dget known_117 v_120).isSome) then (
  guardO ((known_117).length < sizeLine) <|
  guardO ((states_116).length < sizeLine) <|
  some ((states_116 ++ [v_120]), (dput known_117 v_120 ((states_116).length : Int))))
  else (
  some (states_116, known_117)) : Option ((List (Int)) × (List ((Int) × (Int))))).bind fun (states_122, known_123) =>
  (dget known_123 v_120).bind fun v_128 =>
  guardO ((entry_118).length < sizeLine) <|
  some (.next (states_122, known_123, (entry_118 ++ [(v_128, p_119.2)])))) (fun (states_116, known_117, entry_118) =>
  guardO ((moves_111).length < sizeLine) <|
  some (.next (states_116, known_117, (moves_111 ++ [entry_118]))))
  (fun _ => none))
  else some (.brk (states_109, known_110, moves_111))) (fun (states_109, known_110, moves_111) =>
  (m_Machine_init machine_0.input_count machine_0.output_count moves_111).bind fun o_132 =>
  some o_132.1)
  (fun _ => none)

def m__law_alike (moves_0 : List (List ((Int) × (Int)))) : Option (List (Int)) :=
  letO ((moves_0).length : Int) fun count_134 =>
  guardO (-(2 ^ 62) ≤ count_134 ∧ count_134 < 2 ^ 62) <|
  guardO (((rangeL 0 count_134)).length ≤ sizeLine) <|
  (fmO (rangeL 0 count_134) fun s_140 => (guardO (-(2 ^ 63) ≤ count_134 ∧ count_134 < 2 ^ 63 ∧ ([false]).length * (count_134).toNat ≤ sizeLine) (some (some ((List.replicate (count_134).toNat ([false])).flatten))))).bind fun ys_138 =>
  guardO (-(2 ^ 62) ≤ count_134 ∧ count_134 < 2 ^ 62) <|
  flK (forF (ρ := List (Int)) (rangeL 0 count_134) (ys_138 : (List (List (Bool)))) fun one_146 apart_145 =>
  guardO (-(2 ^ 62) ≤ count_134 ∧ count_134 < 2 ^ 62) <|
  flK (forF (ρ := List (Int)) (rangeL 0 count_134) (apart_145 : (List (List (Bool)))) fun two_150 apart_149 =>
  (atI moves_0 one_146).bind fun v_151 =>
  guardO ((v_151).length ≤ sizeLine) <|
  (fmO v_151 fun move_155 => (some (some move_155.2))).bind fun ys_153 =>
  (atI moves_0 two_150).bind fun v_157 =>
  guardO ((v_157).length ≤ sizeLine) <|
  (fmO v_157 fun move_161 => (some (some move_161.2))).bind fun ys_159 =>
  (ixN (apart_149).length one_146).bind fun j_167 =>
  ((apart_149)[j_167]?).bind fun row_163 =>
  (setI row_163 two_150 (!decide (ys_153 = ys_159))).bind fun row_165 =>
  some (.next ((apart_149).set j_167 row_165))) (fun apart_149 =>
  some (.next apart_149))
  (fun _ => none)) (fun apart_145 =>
  guardO (-(2 ^ 62) ≤ count_134 ∧ count_134 < 2 ^ 62) <|
  flK (forF (ρ := List (Int)) (rangeL 0 count_134) (apart_145 : (List (List (Bool)))) fun turn_172 apart_171 =>
  guardO (-(2 ^ 62) ≤ count_134 ∧ count_134 < 2 ^ 62) <|
  flK (forF (ρ := List (Int)) (rangeL 0 count_134) ((apart_171, false) : (List (List (Bool))) × (Bool)) fun one_177 (apart_175, changed_176) =>
  guardO (-(2 ^ 62) ≤ one_177 ∧ one_177 < 2 ^ 62) <|
  flK (forF (ρ := List (Int)) (rangeL 0 one_177) ((apart_175, changed_176) : (List (List (Bool))) × (Bool)) fun two_182 (apart_180, changed_181) =>
  (atI apart_180 one_177).bind fun v_183 =>
  (atI v_183 two_182).bind fun v_185 =>
  bif (!v_185) then (
  (atI moves_0 one_177).bind fun v_187 =>
  guardO (-(2 ^ 62) ≤ ((v_187).length : Int) ∧ ((v_187).length : Int) < 2 ^ 62) <|
  flK (forF (ρ := List (Int)) (rangeL 0 ((v_187).length : Int)) ((apart_180, changed_181) : (List (List (Bool))) × (Bool)) fun r_193 (apart_191, changed_192) =>
  (atI moves_0 one_177).bind fun v_194 =>
  (atI v_194 r_193).bind fun v_196 =>
  (atI apart_191 v_196.1).bind fun v_198 =>
  (atI moves_0 two_182).bind fun v_200 =>
  (atI v_200 r_193).bind fun v_202 =>
  (atI v_198 v_202.1).bind fun v_204 =>
  bif v_204 then (
  (ixN (apart_191).length one_177).bind fun j_210 =>
  ((apart_191)[j_210]?).bind fun row_206 =>
  (setI row_206 two_182 true).bind fun row_208 =>
  (ixN (((apart_191).set j_210 row_208)).length two_182).bind fun j_216 =>
  ((((apart_191).set j_210 row_208))[j_216]?).bind fun row_212 =>
  (setI row_212 one_177 true).bind fun row_214 =>
  some (.brk (((((apart_191).set j_210 row_208)).set j_216 row_214), true)))
  else (
  some (.next (apart_191, changed_192)))) (fun (apart_191, changed_192) =>
  some (.next (apart_191, changed_192)))
  (fun _ => none))
  else (
  some (.next (apart_180, changed_181)))) (fun (apart_180, changed_181) =>
  some (.next (apart_180, changed_181)))
  (fun _ => none)) (fun (apart_175, changed_176) =>
  bif (!changed_176) then (
  some (.brk apart_175))
  else (
  some (.next apart_175)))
  (fun _ => none)) (fun apart_171 =>
  guardO (-(2 ^ 62) ≤ count_134 ∧ count_134 < 2 ^ 62) <|
  guardO (((rangeL 0 count_134)).length ≤ sizeLine) <|
  (fmO (rangeL 0 count_134) fun one_222 => (guardO (-(2 ^ 62) ≤ count_134 ∧ count_134 < 2 ^ 62) (guardO (((rangeL 0 count_134)).length ≤ sizeLine) ((fmO (rangeL 0 count_134) fun two_227 => ((atI apart_171 one_222).bind fun v_228 => (atI v_228 two_227).bind fun v_230 => bif (!v_230) then (some (some two_227)) else some none)).bind fun ys_225 => (atI ys_225 (0 : Int)).bind fun v_233 => some (some v_233))))).bind fun ys_220 =>
  some ys_220)
  (fun _ => none))
  (fun _ => none)

def m__law_least (moves_0 : List (List ((Int) × (Int)))) : Option (List (List ((Int) × (Int)))) :=
  (m__law_alike moves_0).bind fun r_236 =>
  guardO (-(2 ^ 62) ≤ ((moves_0).length : Int) ∧ ((moves_0).length : Int) < 2 ^ 62) <|
  flK (forF (ρ := List (List ((Int) × (Int)))) (rangeL 0 ((moves_0).length : Int)) (([(0 : Int)], ([] : List (List ((Int) × (Int))))) : (List (Int)) × (List (List ((Int) × (Int))))) fun turn_242 (states_240, found_241) =>
  bif decide (turn_242 = ((states_240).length : Int)) then (
  some (.brk (states_240, found_241)))
  else (
  (atI states_240 turn_242).bind fun v_243 =>
  (atI moves_0 v_243).bind fun v_245 =>
  flK (forF (ρ := List (List ((Int) × (Int)))) v_245 ((states_240, ([] : List ((Int) × (Int)))) : (List (Int)) × (List ((Int) × (Int)))) fun p_249 (states_247, entry_248) =>
  (atI r_236 p_249.1).bind fun v_250 =>
  (bif (!decide (v_250 ∈ states_247)) then (
  (atI r_236 p_249.1).bind fun v_253 =>
  guardO ((states_247).length < sizeLine) <|
  some (states_247 ++ [v_253]))
  else (
  some states_247) : Option ((List (Int)))).bind fun states_252 =>
  (atI r_236 p_249.1).bind fun v_258 =>
  (idxL states_252 v_258).bind fun i_260 =>
  guardO ((entry_248).length < sizeLine) <|
  some (.next (states_252, (entry_248 ++ [((i_260 : Int), p_249.2)])))) (fun (states_247, entry_248) =>
  guardO ((found_241).length < sizeLine) <|
  some (.next (states_247, (found_241 ++ [entry_248]))))
  (fun _ => none))) (fun (states_240, found_241) =>
  some found_241)
  (fun _ => none)

def m__law_blown (script_0 : List Int) (at_0 : Int) (moves_0 : List (List ((Int) × (Int)))) (copies_0 : Int) : Option (List (List ((Int) × (Int)))) :=
  letO ((moves_0).length : Int) fun count_264 =>
  guardO (-(2 ^ 62) ≤ copies_0 ∧ copies_0 < 2 ^ 62) <|
  flK (forF (ρ := List (List ((Int) × (Int)))) (rangeL 0 copies_0) (([] : List (List ((Int) × (Int)))) : (List (List ((Int) × (Int))))) fun c_269 found_268 =>
  guardO (-(2 ^ 62) ≤ count_264 ∧ count_264 < 2 ^ 62) <|
  flK (forF (ρ := List (List ((Int) × (Int)))) (rangeL 0 count_264) (found_268 : (List (List ((Int) × (Int))))) fun s_273 found_272 =>
  (atI moves_0 s_273).bind fun v_274 =>
  guardO (-(2 ^ 62) ≤ ((v_274).length : Int) ∧ ((v_274).length : Int) < 2 ^ 62) <|
  flK (forF (ρ := List (List ((Int) × (Int)))) (rangeL 0 ((v_274).length : Int)) (([] : List ((Int) × (Int))) : (List ((Int) × (Int)))) fun r_279 entry_278 =>
  (m__law_cell script_0 (at_0 + c_269)).bind fun r_280 =>
  guardO (0 < ((s_273 + r_279) + (1 : Int)) ∧ ((s_273 + r_279) + (1 : Int)) < 1073741824) <|
  letO (r_280 / ((s_273 + r_279) + (1 : Int))) fun cell_283 =>
  (atI moves_0 s_273).bind fun v_285 =>
  (atI v_285 r_279).bind fun v_287 =>
  guardO (0 < copies_0) <|
  guardO ((-(2 ^ 64) < count_264 ∧ count_264 < 2 ^ 64) ∨ (-(2 ^ 64) < (cell_283 % copies_0) ∧ (cell_283 % copies_0) < 2 ^ 64)) <|
  (atI moves_0 s_273).bind fun v_291 =>
  (atI v_291 r_279).bind fun v_293 =>
  guardO ((entry_278).length < sizeLine) <|
  some (.next (entry_278 ++ [((v_287.1 + (count_264 * (cell_283 % copies_0))), v_293.2)]))) (fun entry_278 =>
  guardO ((found_272).length < sizeLine) <|
  some (.next (found_272 ++ [entry_278])))
  (fun _ => none)) (fun found_272 =>
  some (.next found_272))
  (fun _ => none)) (fun found_268 =>
  some found_268)
  (fun _ => none)

def m__law_row_of_states (count_0 : Int) : Option (List (List ((Int) × (Int)))) :=
  guardO (-(2 ^ 62) ≤ count_0 ∧ count_0 < 2 ^ 62) <|
  guardO (((rangeL 0 count_0)).length ≤ sizeLine) <|
  (fmO (rangeL 0 count_0) fun s_301 => (some (some ([((if (count_0 - (1 : Int)) < (s_301 + (1 : Int)) then (count_0 - (1 : Int)) else (s_301 + (1 : Int))), (if decide (s_301 = (count_0 - (1 : Int))) then 1 else 0)), ((0 : Int), (0 : Int))])))).bind fun ys_299 =>
  some ys_299

def m__law_row (count_0 : Int) (number_0 : Int) : Option (List (Int)) :=
  guardO (-(2 ^ 62) ≤ count_0 ∧ count_0 < 2 ^ 62) <|
  guardO (((rangeL 0 count_0)).length ≤ sizeLine) <|
  (fmO (rangeL 0 count_0) fun k_307 => (guardO (0 ≤ ((count_0 - (1 : Int)) - k_307)) (some (some ((number_0 / 2 ^ (((count_0 - (1 : Int)) - k_307)).toNat) % (2 : Int)))))).bind fun ys_305 =>
  some ys_305

def m_number_of (bits_0 : List (Int)) : Option (Int) :=
  flK (forF (ρ := Int) bits_0 ((0 : Int) : (Int)) fun bit_311 number_310 =>
  letO (((2 : Int) * number_310) + bit_311) fun number_312 =>
  some (.next number_312)) (fun number_310 =>
  some number_310)
  (fun _ => none)

def m_row_of (count_0 : Int) (number_0 : Int) : Option (List (Int)) :=
  guardO (-(2 ^ 62) ≤ count_0 ∧ count_0 < 2 ^ 62) <|
  guardO (((rangeL 0 count_0)).length ≤ sizeLine) <|
  (fmO (rangeL 0 count_0) fun place_318 => (guardO (0 ≤ ((count_0 - (1 : Int)) - place_318)) (some (some (Builtin.bitAnd (number_0 / 2 ^ (((count_0 - (1 : Int)) - place_318)).toNat) (1 : Int)))))).bind fun ys_316 =>
  some ys_316

def m_run_machine (machine_0 : S_Machine) (course_0 : List (List (Int))) : Option (List (List (Int))) :=
  flK (forF (ρ := List (List (Int))) ((course_0).zipIdx.map fun x => ((x.2 : Int), x.1)) (() : Unit) fun p_321 _ =>
  bif (decide (p_321.1 = (1000 : Int)) || (!decide (((p_321.2).length : Int) = machine_0.input_count))) then (
  none)
  else (
  guardO ((p_321.2).length ≤ sizeLine) <|
  (fmO p_321.2 fun bit_324 => (bif ((!decide (bit_324 = (0 : Int))) && (!decide (bit_324 = (1 : Int)))) then (some (some bit_324)) else some none)).bind fun ys_322 =>
  bif (!decide (ys_322 = ([] : List (Int)))) then (
  none)
  else (
  some (.next ())))) (fun _ =>
  flK (forF (ρ := List (List (Int))) course_0 (((0 : Int), ([] : List (List (Int)))) : (Int) × (List (List (Int)))) fun row_328 (state_326, answers_327) =>
  (atI machine_0.moves state_326).bind fun v_329 =>
  (m_number_of row_328).bind fun r_331 =>
  (atI v_329 r_331).bind fun v_333 =>
  (m_row_of machine_0.output_count v_333.2).bind fun r_335 =>
  guardO ((answers_327).length < sizeLine) <|
  some (.next (v_333.1, (answers_327 ++ [r_335])))) (fun (state_326, answers_327) =>
  some answers_327)
  (fun _ => none))
  (fun _ => none)

def m__law_number (row_0 : List (Int)) : Option (Int) :=
  flK (forF (ρ := Int) row_0 ((0 : Int) : (Int)) fun bit_339 number_338 =>
  letO (((2 : Int) * number_338) + bit_339) fun number_340 =>
  some (.next number_340)) (fun number_338 =>
  some number_338)
  (fun _ => none)

def m__law_run (outputs_0 : Int) (moves_0 : List (List ((Int) × (Int)))) (course_0 : List (List (Int))) : Option (List (List (Int))) :=
  flK (forF (ρ := List (List (Int))) course_0 (((0 : Int), ([] : List (List (Int)))) : (Int) × (List (List (Int)))) fun row_344 (state_342, answers_343) =>
  (atI moves_0 state_342).bind fun v_345 =>
  (m__law_number row_344).bind fun r_347 =>
  (atI v_345 r_347).bind fun v_349 =>
  (m__law_row outputs_0 v_349.2).bind fun r_351 =>
  guardO ((answers_343).length < sizeLine) <|
  some (.next (v_349.1, (answers_343 ++ [r_351])))) (fun (state_342, answers_343) =>
  some answers_343)
  (fun _ => none)

def m_law (script_0 : List Int) : Option (Bool) :=
  (m__law_cell script_0 (0 : Int)).bind fun r_354 =>
  letO (r_354 % (3 : Int)) fun inputs_356 =>
  letO ((r_354 / (3 : Int)) % (4 : Int)) fun outputs_358 =>
  (m__law_moves script_0 (4 : Int) inputs_356 outputs_358 ((1 : Int) + ((r_354 / (12 : Int)) % (7 : Int)))).bind fun r_360 =>
  (bif decide (((r_354 / (84 : Int)) % (3 : Int)) = (1 : Int)) then (
  (m__law_blown script_0 (12 : Int) r_360 ((2 : Int) + ((r_354 / (252 : Int)) % (4 : Int)))).bind fun r_363 =>
  some r_363)
  else (
  some r_360) : Option ((List (List ((Int) × (Int)))))).bind fun moves_362 =>
  (bif decide (((r_354 / (10007 : Int)) % (8 : Int)) = (5 : Int)) then (
  (m__law_row_of_states ((8 : Int) + ((r_354 / (80056 : Int)) % (53 : Int)))).bind fun r_370 =>
  some ((1 : Int), (1 : Int), r_370))
  else (
  some (inputs_356, outputs_358, moves_362)) : Option ((Int) × (Int) × (List (List ((Int) × (Int)))))).bind fun (inputs_367, outputs_368, moves_369) =>
  (m_Machine_init inputs_367 outputs_368 moves_369).bind fun o_374 =>
  (m_alike_states o_374.1).bind fun r_376 =>
  (bif (!true) then some true else ((m__law_alike moves_369).bind fun r_378 => some (!decide (r_376 = r_378)))).bind fun b_380 =>
  bif b_380 then (
  some false)
  else (
  (m_least_machine o_374.1).bind fun r_382 =>
  (m__law_least moves_369).bind fun r_384 =>
  bif ((!true) || ((!decide (r_382.moves = r_384)) || (!decide (o_374.1.moves = moves_369)))) then (
  some false)
  else (
  (bif (!decide (r_382.input_count = inputs_367)) then some true else ((bif (!decide (r_382.output_count = outputs_368)) then some true else ((m_least_machine r_382).bind fun r_386 => some (!decide (r_386.moves = r_384)))).bind fun b_388 => some b_388)).bind fun b_390 =>
  bif b_390 then (
  some false)
  else (
  (m__law_cell script_0 (1 : Int)).bind fun r_392 =>
  guardO (-(2 ^ 62) ≤ (r_392 % (21 : Int)) ∧ (r_392 % (21 : Int)) < 2 ^ 62) <|
  guardO (((rangeL 0 (r_392 % (21 : Int)))).length ≤ sizeLine) <|
  (fmO (rangeL 0 (r_392 % (21 : Int))) fun k_398 => ((m__law_cell script_0 ((30 : Int) + k_398)).bind fun r_399 => guardO (0 ≤ inputs_367 ∧ inputs_367 ≤ 1000000) (guardO (0 < ((1 : Int) * 2 ^ (inputs_367).toNat)) ((m__law_row inputs_367 (r_399 % ((1 : Int) * 2 ^ (inputs_367).toNat))).bind fun r_403 => some (some r_403))))).bind fun ys_396 =>
  (m_run_machine r_382 ys_396).bind fun r_406 =>
  (m__law_run outputs_368 moves_369 ys_396).bind fun r_408 =>
  some (decide (r_406 = r_408)))))
end K24

/-! K24W -/
namespace K24
open PySem PySem.Spec L2 Ty
open PyProof.Rows (envOfC)
def top (i : Nat) : Stmt := PySem.Challenge.pw_evergate_k24_least_machines.main.body.getD i (.Pass ⟨0, 0, 0, 0⟩)
abbrev s__law_cell : Stmt := top 21
abbrev N__law_cell : List Str := ["script", "k", "cell"]
theorem sc__law_cell : FnScope N__law_cell ["script", "k"] (defScope s__law_cell) := ⟨rfl, rfl, rfl, by decide +kernel, rfl, by decide +kernel, by decide +kernel⟩
abbrev s__law_moves : Stmt := top 22
abbrev N__law_moves : List Str := ["script", "at", "inputs", "outputs", "states", "moves", "s", "entry", "r", "cell"]
theorem sc__law_moves : FnScope N__law_moves ["script", "at", "inputs", "outputs", "states"] (defScope s__law_moves) := ⟨rfl, rfl, rfl, by decide +kernel, rfl, by decide +kernel, by decide +kernel⟩
abbrev s_is_move : Stmt := top 13
abbrev N_is_move : List Str := ["move", "state_count", "output_count", "later", "answer"]
theorem sc_is_move : FnScope N_is_move ["move", "state_count", "output_count"] (defScope s_is_move) := ⟨rfl, rfl, rfl, by decide +kernel, rfl, by decide +kernel, by decide +kernel⟩
abbrev s_Machine_init : Stmt := inClass (top 12) 0
abbrev N_Machine_init : List Str := ["self", "input_count", "output_count", "moves", "rows", "state", "entry", "row"]
theorem sc_Machine_init : FnScope N_Machine_init ["self", "input_count", "output_count", "moves"] (defScope s_Machine_init) := ⟨rfl, rfl, rfl, by decide +kernel, rfl, by decide +kernel, by decide +kernel⟩
abbrev s_numbered : Stmt := top 17
abbrev N_numbered : List Str := ["keys", "known", "numbers", "key"]
theorem sc_numbered : FnScope N_numbered ["keys"] (defScope s_numbered) := ⟨rfl, rfl, rfl, by decide +kernel, rfl, by decide +kernel, by decide +kernel⟩
abbrev s_alike_states : Stmt := top 18
abbrev N_alike_states : List Str := ["machine", "marks", "count", "keys", "state", "entry", "mark", "_", "answer", "later"]
theorem sc_alike_states : FnScope N_alike_states ["machine"] (defScope s_alike_states) := ⟨rfl, rfl, rfl, by decide +kernel, rfl, by decide +kernel, by decide +kernel⟩
abbrev s_least_machine : Stmt := top 19
abbrev N_least_machine : List Str := ["machine", "smallest", "states", "known", "moves", "entry", "later", "answer", "state"]
theorem sc_least_machine : FnScope N_least_machine ["machine"] (defScope s_least_machine) := ⟨rfl, rfl, rfl, by decide +kernel, rfl, by decide +kernel, by decide +kernel⟩
abbrev s__law_alike : Stmt := top 25
abbrev N__law_alike : List Str := ["moves", "count", "apart", "one", "two", "turn", "changed", "r", "s", "move"]
theorem sc__law_alike : FnScope N__law_alike ["moves"] (defScope s__law_alike) := ⟨rfl, rfl, rfl, by decide +kernel, rfl, by decide +kernel, by decide +kernel⟩
abbrev s__law_least : Stmt := top 26
abbrev N__law_least : List Str := ["moves", "first", "states", "found", "turn", "entry", "later", "answer"]
theorem sc__law_least : FnScope N__law_least ["moves"] (defScope s__law_least) := ⟨rfl, rfl, rfl, by decide +kernel, rfl, by decide +kernel, by decide +kernel⟩
abbrev s__law_blown : Stmt := top 27
abbrev N__law_blown : List Str := ["script", "at", "moves", "copies", "count", "found", "c", "s", "entry", "r", "cell"]
theorem sc__law_blown : FnScope N__law_blown ["script", "at", "moves", "copies"] (defScope s__law_blown) := ⟨rfl, rfl, rfl, by decide +kernel, rfl, by decide +kernel, by decide +kernel⟩
abbrev s__law_row_of_states : Stmt := top 28
abbrev N__law_row_of_states : List Str := ["count", "s"]
theorem sc__law_row_of_states : FnScope N__law_row_of_states ["count"] (defScope s__law_row_of_states) := ⟨rfl, rfl, rfl, by decide +kernel, rfl, by decide +kernel, by decide +kernel⟩
abbrev s__law_row : Stmt := top 23
abbrev N__law_row : List Str := ["count", "number", "k"]
theorem sc__law_row : FnScope N__law_row ["count", "number"] (defScope s__law_row) := ⟨rfl, rfl, rfl, by decide +kernel, rfl, by decide +kernel, by decide +kernel⟩
abbrev s_number_of : Stmt := top 14
abbrev N_number_of : List Str := ["bits", "number", "bit"]
theorem sc_number_of : FnScope N_number_of ["bits"] (defScope s_number_of) := ⟨rfl, rfl, rfl, by decide +kernel, rfl, by decide +kernel, by decide +kernel⟩
abbrev s_row_of : Stmt := top 6
abbrev N_row_of : List Str := ["count", "number", "place"]
theorem sc_row_of : FnScope N_row_of ["count", "number"] (defScope s_row_of) := ⟨rfl, rfl, rfl, by decide +kernel, rfl, by decide +kernel, by decide +kernel⟩
abbrev s_run_machine : Stmt := top 15
abbrev N_run_machine : List Str := ["machine", "course", "index", "row", "state", "answers", "answer", "bit"]
theorem sc_run_machine : FnScope N_run_machine ["machine", "course"] (defScope s_run_machine) := ⟨rfl, rfl, rfl, by decide +kernel, rfl, by decide +kernel, by decide +kernel⟩
abbrev s__law_number : Stmt := top 24
abbrev N__law_number : List Str := ["row", "number", "bit"]
theorem sc__law_number : FnScope N__law_number ["row"] (defScope s__law_number) := ⟨rfl, rfl, rfl, by decide +kernel, rfl, by decide +kernel, by decide +kernel⟩
abbrev s__law_run : Stmt := top 29
abbrev N__law_run : List Str := ["outputs", "moves", "course", "state", "answers", "row", "answer"]
theorem sc__law_run : FnScope N__law_run ["outputs", "moves", "course"] (defScope s__law_run) := ⟨rfl, rfl, rfl, by decide +kernel, rfl, by decide +kernel, by decide +kernel⟩
abbrev s_law : Stmt := top 30
abbrev N_law : List Str := ["script", "base", "inputs", "outputs", "moves", "machine", "alike", "least", "due", "course", "k"]
theorem sc_law : FnScope N_law ["script"] (defScope s_law) := ⟨rfl, rfl, rfl, by decide +kernel, rfl, by decide +kernel, by decide +kernel⟩
abbrev ns_Machine : List Str := ["input_count", "output_count", "moves"]
abbrev dl_Machine (V : S_Machine) : List Slot := [val pInt V.input_count, val pInt V.output_count, own (oL (pL (pT2 pInt pInt))) V.moves]
abbrev sl_Machine (V : S_Machine) : List Slot := [val pInt V.input_count, val pInt V.output_count, val (pL (pL (pT2 pInt pInt))) V.moves]
structure Txt (P : Program) (K : PySem.W.Frag) (mg : Str → Option Value) where
  f__law_cell : Addr
  d__law_cell : FuncData
  F__law_cell : Fun K "_law_cell" "_law_cell" s__law_cell f__law_cell d__law_cell
  b__law_cell : Binds K d__law_cell ["script", "k"] []
  g__law_cell : mg "_law_cell" = some (.ref f__law_cell)
  k__law_cell : PySem.W.keepIn K (.ref f__law_cell) = true
  f__law_moves : Addr
  d__law_moves : FuncData
  F__law_moves : Fun K "_law_moves" "_law_moves" s__law_moves f__law_moves d__law_moves
  b__law_moves : Binds K d__law_moves ["script", "at", "inputs", "outputs", "states"] []
  g__law_moves : mg "_law_moves" = some (.ref f__law_moves)
  k__law_moves : PySem.W.keepIn K (.ref f__law_moves) = true
  f_is_move : Addr
  d_is_move : FuncData
  F_is_move : Fun K "is_move" "is_move" s_is_move f_is_move d_is_move
  b_is_move : Binds K d_is_move ["move", "state_count", "output_count"] []
  g_is_move : mg "is_move" = some (.ref f_is_move)
  k_is_move : PySem.W.keepIn K (.ref f_is_move) = true
  f_Machine_init : Addr
  d_Machine_init : FuncData
  F_Machine_init : Fun K "__init__" "Machine.__init__" s_Machine_init f_Machine_init d_Machine_init
  b_Machine_init : Binds K d_Machine_init ["self", "input_count", "output_count", "moves"] []
  f_numbered : Addr
  d_numbered : FuncData
  F_numbered : Fun K "numbered" "numbered" s_numbered f_numbered d_numbered
  b_numbered : Binds K d_numbered ["keys"] []
  g_numbered : mg "numbered" = some (.ref f_numbered)
  k_numbered : PySem.W.keepIn K (.ref f_numbered) = true
  f_alike_states : Addr
  d_alike_states : FuncData
  F_alike_states : Fun K "alike_states" "alike_states" s_alike_states f_alike_states d_alike_states
  b_alike_states : Binds K d_alike_states ["machine"] []
  g_alike_states : mg "alike_states" = some (.ref f_alike_states)
  k_alike_states : PySem.W.keepIn K (.ref f_alike_states) = true
  f_least_machine : Addr
  d_least_machine : FuncData
  F_least_machine : Fun K "least_machine" "least_machine" s_least_machine f_least_machine d_least_machine
  b_least_machine : Binds K d_least_machine ["machine"] []
  g_least_machine : mg "least_machine" = some (.ref f_least_machine)
  k_least_machine : PySem.W.keepIn K (.ref f_least_machine) = true
  f__law_alike : Addr
  d__law_alike : FuncData
  F__law_alike : Fun K "_law_alike" "_law_alike" s__law_alike f__law_alike d__law_alike
  b__law_alike : Binds K d__law_alike ["moves"] []
  g__law_alike : mg "_law_alike" = some (.ref f__law_alike)
  k__law_alike : PySem.W.keepIn K (.ref f__law_alike) = true
  f__law_least : Addr
  d__law_least : FuncData
  F__law_least : Fun K "_law_least" "_law_least" s__law_least f__law_least d__law_least
  b__law_least : Binds K d__law_least ["moves"] []
  g__law_least : mg "_law_least" = some (.ref f__law_least)
  k__law_least : PySem.W.keepIn K (.ref f__law_least) = true
  f__law_blown : Addr
  d__law_blown : FuncData
  F__law_blown : Fun K "_law_blown" "_law_blown" s__law_blown f__law_blown d__law_blown
  b__law_blown : Binds K d__law_blown ["script", "at", "moves", "copies"] []
  g__law_blown : mg "_law_blown" = some (.ref f__law_blown)
  k__law_blown : PySem.W.keepIn K (.ref f__law_blown) = true
  f__law_row_of_states : Addr
  d__law_row_of_states : FuncData
  F__law_row_of_states : Fun K "_law_row_of_states" "_law_row_of_states" s__law_row_of_states f__law_row_of_states d__law_row_of_states
  b__law_row_of_states : Binds K d__law_row_of_states ["count"] []
  g__law_row_of_states : mg "_law_row_of_states" = some (.ref f__law_row_of_states)
  k__law_row_of_states : PySem.W.keepIn K (.ref f__law_row_of_states) = true
  f__law_row : Addr
  d__law_row : FuncData
  F__law_row : Fun K "_law_row" "_law_row" s__law_row f__law_row d__law_row
  b__law_row : Binds K d__law_row ["count", "number"] []
  g__law_row : mg "_law_row" = some (.ref f__law_row)
  k__law_row : PySem.W.keepIn K (.ref f__law_row) = true
  f_number_of : Addr
  d_number_of : FuncData
  F_number_of : Fun K "number_of" "number_of" s_number_of f_number_of d_number_of
  b_number_of : Binds K d_number_of ["bits"] []
  g_number_of : mg "number_of" = some (.ref f_number_of)
  k_number_of : PySem.W.keepIn K (.ref f_number_of) = true
  f_row_of : Addr
  d_row_of : FuncData
  F_row_of : Fun K "row_of" "row_of" s_row_of f_row_of d_row_of
  b_row_of : Binds K d_row_of ["count", "number"] []
  g_row_of : mg "row_of" = some (.ref f_row_of)
  k_row_of : PySem.W.keepIn K (.ref f_row_of) = true
  f_run_machine : Addr
  d_run_machine : FuncData
  F_run_machine : Fun K "run_machine" "run_machine" s_run_machine f_run_machine d_run_machine
  b_run_machine : Binds K d_run_machine ["machine", "course"] []
  g_run_machine : mg "run_machine" = some (.ref f_run_machine)
  k_run_machine : PySem.W.keepIn K (.ref f_run_machine) = true
  f__law_number : Addr
  d__law_number : FuncData
  F__law_number : Fun K "_law_number" "_law_number" s__law_number f__law_number d__law_number
  b__law_number : Binds K d__law_number ["row"] []
  g__law_number : mg "_law_number" = some (.ref f__law_number)
  k__law_number : PySem.W.keepIn K (.ref f__law_number) = true
  f__law_run : Addr
  d__law_run : FuncData
  F__law_run : Fun K "_law_run" "_law_run" s__law_run f__law_run d__law_run
  b__law_run : Binds K d__law_run ["outputs", "moves", "course"] []
  g__law_run : mg "_law_run" = some (.ref f__law_run)
  k__law_run : PySem.W.keepIn K (.ref f__law_run) = true
  f_law : Addr
  d_law : FuncData
  F_law : Fun K "law" "law" s_law f_law d_law
  b_law : Binds K d_law ["script"] []
  g_law : mg "law" = some (.ref f_law)
  k_law : PySem.W.keepIn K (.ref f_law) = true
  C_Machine : Addr
  cl_Machine : Cls K C_Machine
  g_Machine : mg "Machine" = some (.ref C_Machine)
  at_Machine_input_count : At K C_Machine "input_count"
  at_Machine_output_count : At K C_Machine "output_count"
  at_Machine_moves : At K C_Machine "moves"
  ic_Machine : IsC K C_Machine
  mk_Machine : Mk K C_Machine f_Machine_init
  g_enumerate : mg "enumerate" = none
  g_int : mg "int" = none
  g_isinstance : mg "isinstance" = none
  g_len : mg "len" = none
  g_list : mg "list" = none
  g_max : mg "max" = none
  g_min : mg "min" = none
  g_range : mg "range" = none
  g_tuple : mg "tuple" = none
  t_MOST_INPUTS : Tok
  g_MOST_INPUTS : mg "MOST_INPUTS" = some (.int 6 t_MOST_INPUTS)
  t_MOST_OUTPUTS : Tok
  g_MOST_OUTPUTS : mg "MOST_OUTPUTS" = some (.int 32 t_MOST_OUTPUTS)
  t_MOST_ROWS : Tok
  g_MOST_ROWS : mg "MOST_ROWS" = some (.int 1000 t_MOST_ROWS)
  t_MOST_STATES : Tok
  g_MOST_STATES : mg "MOST_STATES" = some (.int 1000 t_MOST_STATES)
section
variable {P : Program} {w : World} {K : PySem.W.Frag} {mg : Str → Option Value} {base : Heap}

theorem ok__law_cell (T : Txt P K mg) : FnOk P w K mg base CX0 1 T.f__law_cell T.d__law_cell ["script", "k"] (spP (fun (z : (List Int) × (Int)) => [val (pScr K) z.1, val pInt z.2]) (fun z => m__law_cell z.1 z.2) (fun r => val pInt r)) := by
  refine fn_pure T.F__law_cell sc__law_cell (fun _ => rfl) (fun cdv A outer s H E hr z r B hm => ?_)
  obtain ⟨script_0, k_0⟩ := z
  replace hm : m__law_cell script_0 k_0 = some r := hm
  unfold m__law_cell at hm
  show Go _ _ _ _ _ [val (pScr K) script_0, val pInt k_0, dead]
  obtain ⟨b_3, h_4, hm⟩ := Option.bind_eq_some_iff.mp hm
  refine go_if (xw_pt (xw_andP (xt_cmp (fun _ => op_lt) o_bl (nomark _) (x_var 1) (x_callB (c_len _) T.g_len (by decide +kernel) (o_lenL SV.scr) (xa1 (x_var 0)))) h_4 (fun z hm => by obtain ⟨v_1, h_2, hm⟩ := Option.bind_eq_some_iff.mp hm; cases hm; exact (xw_and1 (xt_cmp (fun _ => op_ge) o_bl (nomark _) (x_ix (x_var 0) SV.scr (x_var 1) h_2) (x_op (fun _ => op_pow) (o_intC ⟨by decide, by decide, by decide⟩) x_int x_int)))))) (fun hz => ?_) (fun hz => ?_)
  · have hm := condT hz hm
    obtain ⟨v_5, h_6, hm⟩ := Option.bind_eq_some_iff.mp hm
    cases hm
    exact go_ret (x_ix (x_var 0) SV.scr (x_var 1) h_6) (fun v H h => h)
  · have hm := condF hz hm
    refine go_join ?_
    obtain ⟨cell_7, h_8, hm⟩ := letO_some hm
    refine go_set 2 (XV.eqV (x_op (fun _ => op_add) o_int (x_op (fun _ => op_mul) (o_intC (.inl (by decide))) x_int (x_var 1)) x_int) h_8) ?_
    show Go _ _ _ _ _ [val (pScr K) script_0, val pInt k_0, val pInt cell_7]
    obtain ⟨cell_9, hj_15, hm⟩ := Option.bind_eq_some_iff.mp hm
    refine go_ifJ [val (pScr K) script_0, val pInt k_0, val pInt cell_9] (xt_cmp (fun _ => op_gt) o_bl (nomark _) (x_callB (c_len _) T.g_len (by decide +kernel) (o_lenL SV.scr) (xa1 (x_var 0))) x_int) (fun hz => ?_) (fun hz => ?_) ?_
    · have hm := condT hz hj_15
      obtain ⟨h_10, hm⟩ := guardO_some hm
      obtain ⟨v_11, h_12, hm⟩ := Option.bind_eq_some_iff.mp hm
      obtain ⟨cell_13, h_14, hm⟩ := letO_some hm
      refine go_set 2 (XV.eqV (x_op (fun _ => op_add) o_int (x_var 2) (x_op (fun _ => op_mul) (o_intC (.inl (by decide))) x_int (x_ix (x_var 0) SV.scr (x_op (fun _ => op_mod) (o_intC h_10) (x_callTy (fun _ => call_int1) T.g_int (by decide +kernel) o_intI (xa1 (x_var 1))) (x_callB (c_len _) T.g_len (by decide +kernel) (o_lenL SV.scr) (xa1 (x_var 0)))) h_12))) h_14) ?_
      show Go _ _ _ _ _ [val (pScr K) script_0, val pInt k_0, val pInt cell_13]
      cases hm
      exact go_nx (by repeat' (first | exact WkL.nil | exact WkS.refl | exact WkS.dead | exact WkS.list | exact WkS.dict | exact WkS.lstS (fun _ => WkS.list) | refine WkL.cons ?_ ?_))
    · have hm := condF hz hj_15
      cases hm
      exact go_nx (by repeat' (first | exact WkL.nil | exact WkS.refl | exact WkS.dead | exact WkS.list | exact WkS.dict | exact WkS.lstS (fun _ => WkS.list) | refine WkL.cons ?_ ?_))
    obtain ⟨cell_17, h_18, hm⟩ := letO_some hm
    refine go_set 2 (XV.eqV (x_op (fun _ => op_mod) (o_intC (by decide)) (x_callTy (fun _ => call_int1) T.g_int (by decide +kernel) o_intI (xa1 (x_op (fun _ => op_add) o_int (x_op (fun _ => op_mul) (o_intC (.inr (by decide))) (x_var 2) x_int) (x_op (fun _ => op_mul) (o_intC (.inl (by decide))) x_int (x_var 1))))) x_int) h_18) ?_
    show Go _ _ _ _ _ [val (pScr K) script_0, val pInt k_0, val pInt cell_17]
    cases hm
    exact go_ret (x_op (fun _ => op_mod) (o_intC (by decide)) (x_callTy (fun _ => call_int1) T.g_int (by decide +kernel) o_intI (xa1 (x_op (fun _ => op_add) o_int (x_op (fun _ => op_mul) (o_intC (.inr (by decide))) (x_var 2) x_int) (x_op (fun _ => op_mul) (o_intC (.inl (by decide))) x_int (x_op (fun _ => op_fdiv) (o_intC ⟨by decide, by decide⟩) (x_var 2) x_int))))) x_int) (fun v H h => h)

theorem ok__law_moves (T : Txt P K mg) : FnOk P w K mg base CX0 2 T.f__law_moves T.d__law_moves ["script", "at", "inputs", "outputs", "states"] (spP (fun (z : (List Int) × (Int) × (Int) × (Int) × (Int)) => [val (pScr K) z.1, val pInt z.2.1, val pInt z.2.2.1, val pInt z.2.2.2.1, val pInt z.2.2.2.2]) (fun z => m__law_moves z.1 z.2.1 z.2.2.1 z.2.2.2.1 z.2.2.2.2) (fun r => own (oL (pL (pT2 pInt pInt))) r)) := by
  refine fn_pure T.F__law_moves sc__law_moves (fun _ => rfl) (fun cdv A outer s H E hr z r B hm => ?_)
  obtain ⟨script_0, at_0, inputs_0, outputs_0, states_0⟩ := z
  replace hm : m__law_moves script_0 at_0 inputs_0 outputs_0 states_0 = some r := hm
  unfold m__law_moves at hm
  show Go _ _ _ _ _ [val (pScr K) script_0, val pInt at_0, val pInt inputs_0, val pInt outputs_0, val pInt states_0, dead, dead, dead, dead, dead]
  refine go_set 5 (x_lst (p := (pL (pT2 pInt pInt))) (xs := []) xa_nil (Nat.zero_le _)) ?_
  show Go _ _ _ _ _ [val (pScr K) script_0, val pInt at_0, val pInt inputs_0, val pInt outputs_0, val pInt states_0, own (oL (pL (pT2 pInt pInt))) ([] : List (List ((Int) × (Int)))), dead, dead, dead, dead]
  obtain ⟨h_20, hm⟩ := guardO_some hm
  refine go_forK (rs := val pInt) (fun s => [val (pScr K) script_0, val pInt at_0, val pInt inputs_0, val pInt outputs_0, val pInt states_0, own (oL (pL (pT2 pInt pInt))) s, dead, dead, dead, dead]) (fun r => own (oL (pL (pT2 pInt pInt))) r) (xi_range1 T.g_range (x_var 4) h_20) (by repeat' (first | exact WkL.nil | exact WkS.refl | exact WkS.dead | exact WkS.list | exact WkS.dict | exact WkS.lstS (fun _ => WkS.list) | refine WkL.cons ?_ ?_)) hm ?_ ?_ ?_
  · rintro B1 s_22 moves_21 out hx hm hr1 hl1
    refine ⟨_, _, (xg_name 6), ?_⟩
    show Go _ _ _ _ _ [val (pScr K) script_0, val pInt at_0, val pInt inputs_0, val pInt outputs_0, val pInt states_0, own (oL (pL (pT2 pInt pInt))) moves_21, val pInt s_22, dead, dead, dead]
    refine go_set 7 (x_lst (p := (pT2 pInt pInt)) (xs := []) xa_nil (Nat.zero_le _)) ?_
    show Go _ _ _ _ _ [val (pScr K) script_0, val pInt at_0, val pInt inputs_0, val pInt outputs_0, val pInt states_0, own (oL (pL (pT2 pInt pInt))) moves_21, val pInt s_22, own (oL (pT2 pInt pInt)) ([] : List ((Int) × (Int))), dead, dead]
    obtain ⟨h_23, hm⟩ := guardO_some hm
    obtain ⟨h_25, hm⟩ := guardO_some hm
    refine go_forK (rs := val pInt) (fun s => [val (pScr K) script_0, val pInt at_0, val pInt inputs_0, val pInt outputs_0, val pInt states_0, own (oL (pL (pT2 pInt pInt))) moves_21, val pInt s_22, own (oL (pT2 pInt pInt)) s, dead, dead]) (fun r => own (oL (pL (pT2 pInt pInt))) r) (xi_range1 T.g_range (x_op (fun _ => op_shl) (o_intC ⟨h_23.1, h_23.2, by decide⟩) x_int (x_var 2)) h_25) (by repeat' (first | exact WkL.nil | exact WkS.refl | exact WkS.dead | exact WkS.list | exact WkS.dict | exact WkS.lstS (fun _ => WkS.list) | refine WkL.cons ?_ ?_)) hm ?_ ?_ ?_
    · rintro B1 r_27 entry_26 out hx hm hr2 hl2
      refine ⟨_, _, (xg_name 8), ?_⟩
      show Go _ _ _ _ _ [val (pScr K) script_0, val pInt at_0, val pInt inputs_0, val pInt outputs_0, val pInt states_0, own (oL (pL (pT2 pInt pInt))) moves_21, val pInt s_22, own (oL (pT2 pInt pInt)) entry_26, val pInt r_27, dead]
      obtain ⟨r_28, h_29, hm⟩ := Option.bind_eq_some_iff.mp hm
      obtain ⟨h_30, hm⟩ := guardO_some hm
      obtain ⟨cell_31, h_32, hm⟩ := letO_some hm
      refine go_set 9 (XV.eqV (x_op (fun _ => op_mod) (o_intC (by decide)) (x_callTy (fun _ => call_int1) T.g_int (by decide +kernel) o_intI (xa1 (x_op (fun _ => op_mul) (o_intC (.inr (by decide))) (x_op (fun _ => op_add) o_int (x_op (fun _ => op_add) o_int (x_op (fun _ => op_fdiv) (o_intC h_30) (x_call (z := (script_0, (at_0 + s_22))) (ok__law_cell T) (by decide) T.g__law_cell T.k__law_cell T.b__law_cell (xa_cons (x_var 0) (xa_cons (x_op (fun _ => op_add) o_int (x_var 1) (x_var 6)) xa_nil)) rfl (by repeat' (first | exact trivial | refine ⟨no_val, ?_⟩ | refine ⟨no_borL, ?_⟩ | refine ⟨no_bor, ?_⟩)) h_29) (x_op (fun _ => op_add) o_int (x_var 8) x_int)) (x_op (fun _ => op_mul) (o_intC (.inl (by decide))) x_int (x_var 8))) (x_op (fun _ => op_mul) (o_intC (.inl (by decide))) x_int (x_var 6))) x_int))) x_int) h_32) ?_
      show Go _ _ _ _ _ [val (pScr K) script_0, val pInt at_0, val pInt inputs_0, val pInt outputs_0, val pInt states_0, own (oL (pL (pT2 pInt pInt))) moves_21, val pInt s_22, own (oL (pT2 pInt pInt)) entry_26, val pInt r_27, val pInt cell_31]
      obtain ⟨h_33, hm⟩ := guardO_some hm
      obtain ⟨h_34, hm⟩ := guardO_some hm
      obtain ⟨h_35, hm⟩ := guardO_some hm
      obtain ⟨h_36, hm⟩ := guardO_some hm
      refine go_append (pl_name 7 (by repeat' (first | exact Stb.nil | exact trivial | exact stb_map (fun _ => trivial) _ | refine Stb.cons ?_ ?_)) (hso := own_some)) (x_tup2 (xa_cons (x_op (fun _ => op_mod) (o_intC h_33) (x_callTy (fun _ => call_int1) T.g_int (by decide +kernel) o_intI (xa1 (x_var 9))) (x_var 4)) (xa_cons (x_op (fun _ => op_mod) (o_intC h_35) (x_callTy (fun _ => call_int1) T.g_int (by decide +kernel) o_intI (xa1 (x_op (fun _ => op_fdiv) (o_intC ⟨by decide, by decide⟩) (x_var 9) x_int))) (x_op (fun _ => op_shl) (o_intC ⟨h_34.1, h_34.2, by decide⟩) x_int (x_var 3))) xa_nil))) h_36 ?_
      show Go _ _ _ _ _ [val (pScr K) script_0, val pInt at_0, val pInt inputs_0, val pInt outputs_0, val pInt states_0, own (oL (pL (pT2 pInt pInt))) moves_21, val pInt s_22, own (oL (pT2 pInt pInt)) (entry_26 ++ [((cell_31 % states_0), ((cell_31 / (1009 : Int)) % ((1 : Int) * 2 ^ (outputs_0).toNat)))]), val pInt r_27, val pInt cell_31]
      cases hm
      exact go_nil (fun σ H h => ⟨_, rfl, h.wk (by repeat' (first | exact WkL.nil | exact WkS.refl | exact WkS.dead | exact WkS.list | exact WkS.dict | exact WkS.lstS (fun _ => WkS.list) | refine WkL.cons ?_ ?_))⟩)
    · rintro entry_26 hm
      show Go _ _ _ _ _ [val (pScr K) script_0, val pInt at_0, val pInt inputs_0, val pInt outputs_0, val pInt states_0, own (oL (pL (pT2 pInt pInt))) moves_21, val pInt s_22, own (oL (pT2 pInt pInt)) entry_26, dead, dead]
      refine go_wk (Γ' := [val (pScr K) script_0, val pInt at_0, val pInt inputs_0, val pInt outputs_0, val pInt states_0, own (oL (pL (pT2 pInt pInt))) moves_21, val pInt s_22, val (pL (pT2 pInt pInt)) entry_26, dead, dead]) ?_ (WkL.at (j := 7) WkS.list rfl)
      obtain ⟨h_37, hm⟩ := guardO_some hm
      refine go_append (pl_name 5 (by repeat' (first | exact Stb.nil | exact trivial | exact stb_map (fun _ => trivial) _ | refine Stb.cons ?_ ?_)) (hso := own_some)) (x_var 7) h_37 ?_
      show Go _ _ _ _ _ [val (pScr K) script_0, val pInt at_0, val pInt inputs_0, val pInt outputs_0, val pInt states_0, own (oL (pL (pT2 pInt pInt))) (moves_21 ++ [entry_26]), val pInt s_22, val (pL (pT2 pInt pInt)) entry_26, dead, dead]
      cases hm
      exact go_nil (fun σ H h => ⟨_, rfl, h.wk (by repeat' (first | exact WkL.nil | exact WkS.refl | exact WkS.dead | exact WkS.list | exact WkS.dict | exact WkS.lstS (fun _ => WkS.list) | refine WkL.cons ?_ ?_))⟩)
    · rintro r hm v H h
      cases hm
  · rintro moves_21 hm
    show Go _ _ _ _ _ [val (pScr K) script_0, val pInt at_0, val pInt inputs_0, val pInt outputs_0, val pInt states_0, own (oL (pL (pT2 pInt pInt))) moves_21, dead, dead, dead, dead]
    cases hm
    exact go_retV 5 rfl own_some (fun v H h => h)
  · rintro r hm v H h
    cases hm

theorem ok_is_move (T : Txt P K mg) : FnOk P w K mg base CX0 1 T.f_is_move T.d_is_move ["move", "state_count", "output_count"] (spP (fun (z : ((Int) × (Int)) × (Int) × (Int)) => [val (pT2 pInt pInt) z.1, val pInt z.2.1, val pInt z.2.2]) (fun z => m_is_move z.1 z.2.1 z.2.2) (fun r => val pBl r)) := by
  refine fn_pure T.F_is_move sc_is_move (fun _ => rfl) (fun cdv A outer s H E hr z r B hm => ?_)
  obtain ⟨move_0, state_count_0, output_count_0⟩ := z
  replace hm : m_is_move move_0 state_count_0 output_count_0 = some r := hm
  unfold m_is_move at hm
  show Go _ _ _ _ _ [val (pT2 pInt pInt) move_0, val pInt state_count_0, val pInt output_count_0, dead, dead]
  refine go_asg (x_var (z := move_0) 0) (xg_tup2 (xgs_cons (xg_name 3) (xgs_cons (xg_name 4) xgs_nil))) ?_
  show Go _ _ _ _ _ [val (pT2 pInt pInt) move_0, val pInt state_count_0, val pInt output_count_0, val pInt move_0.1, val pInt move_0.2]
  obtain ⟨b_41, h_42, hm⟩ := Option.bind_eq_some_iff.mp hm
  cases hm
  exact go_ret (x_andP (x_chain (fun _ => op_le) (fun _ => op_lt) o_bl (fun _ => o_bl) rfl x_int (x_var 3) (fun _ => (x_var 1))) h_42 (fun z hm => by obtain ⟨b_39, h_40, hm⟩ := Option.bind_eq_some_iff.mp hm; cases hm; exact (x_one (x_chainP (fun _ => op_le) (fun _ => op_lt) o_bl h_40 x_int (x_var 4) (fun z hm => by obtain ⟨h_38, hm⟩ := guardO_some hm; cases hm; exact ⟨_, (x_op (fun _ => op_shl) (o_intC ⟨h_38.1, h_38.2, by decide⟩) x_int (x_var 2)), o_bl⟩))))) (fun v H h => h)

theorem ok_Machine_init (T : Txt P K mg) : FnOk P w K mg base CX0 2 T.f_Machine_init T.d_Machine_init ["self", "input_count", "output_count", "moves"] (spM (fun _ => obj T.C_Machine [] []) (fun (z : (Int) × (Int) × (List (List ((Int) × (Int))))) => [val pInt z.1, val pInt z.2.1, val (pL (pL (pT2 pInt pInt))) z.2.2]) (fun z => m_Machine_init z.1 z.2.1 z.2.2) (fun r => obj T.C_Machine ns_Machine (dl_Machine r)) (fun (_ : Unit) => vNon)) := by
  refine fn_mut T.F_Machine_init sc_Machine_init (fun _ => rfl) (fun cdv A outer s H E hr z r v0 B hm => ?_)
  obtain ⟨input_count_0, output_count_0, moves_0⟩ := z
  replace hm : m_Machine_init input_count_0 output_count_0 moves_0 = some r := hm
  unfold m_Machine_init at hm
  show Go _ _ _ _ _ [hold (obj T.C_Machine [] []) v0, val pInt input_count_0, val pInt output_count_0, val (pL (pL (pT2 pInt pInt))) moves_0, dead, dead, dead, dead]
  refine go_if (xw_pt (xw_or (xt_not (xt_chain (fun _ => op_le) (fun _ => op_le) o_bl (fun _ => o_bl) rfl x_int (x_var 1) (fun _ => (x_glob (v := .int 6) T.g_MOST_INPUTS ⟨_, rfl⟩ (fun _ => rfl)))) rfl) (fun _ => (xw_or1 (xt_not (xt_chain (fun _ => op_le) (fun _ => op_le) o_bl (fun _ => o_bl) rfl x_int (x_var 2) (fun _ => (x_glob (v := .int 32) T.g_MOST_OUTPUTS ⟨_, rfl⟩ (fun _ => rfl)))) rfl))) rfl)) (fun hz => ?_) (fun hz => ?_)
  · have hm := condT hz hm
    cases hm
  · have hm := condF hz hm
    refine go_join ?_
    refine go_if (xt_cmp (fun _ => op_eq) o_eqI (nomark _) (x_callB (c_len _) T.g_len (by decide +kernel) (o_lenL LV.val.sv) (xa1 (x_var 3))) x_int) (fun hz => ?_) (fun hz => ?_)
    · have hm := condT hz hm
      cases hm
    · have hm := condF hz hm
      refine go_join ?_
      obtain ⟨h_43, hm⟩ := guardO_some hm
      obtain ⟨rows_44, h_45, hm⟩ := letO_some hm
      refine go_set 4 (XV.eqV (x_op (fun _ => op_shl) (o_intC ⟨h_43.1, h_43.2, by decide⟩) x_int (x_var 1)) h_45) ?_
      show Go _ _ _ _ _ [hold (obj T.C_Machine [] []) v0, val pInt input_count_0, val pInt output_count_0, val (pL (pL (pT2 pInt pInt))) moves_0, val pInt rows_44, dead, dead, dead]
      refine go_forK (rs := val (pT2 pInt (pL (pT2 pInt pInt)))) (fun s => [hold (obj T.C_Machine [] []) v0, val pInt input_count_0, val pInt output_count_0, val (pL (pL (pT2 pInt pInt))) moves_0, val pInt rows_44, dead, dead, dead]) (fun r => val pNon r) (xi_enum' T.g_enumerate (x_var 3)) (by repeat' (first | exact WkL.nil | exact WkS.refl | exact WkS.dead | exact WkS.list | exact WkS.dict | exact WkS.lstS (fun _ => WkS.list) | refine WkL.cons ?_ ?_)) hm ?_ ?_ ?_
      · rintro B1 p_46 s out hx hm hr1 hl1
        refine ⟨_, _, (xg_tup2 (xgs_cons (xg_name 5) (xgs_cons (xg_name 6) xgs_nil))), ?_⟩
        show Go _ _ _ _ _ [hold (obj T.C_Machine [] []) v0, val pInt input_count_0, val pInt output_count_0, val (pL (pL (pT2 pInt pInt))) moves_0, val pInt rows_44, val pInt p_46.1, val (pL (pT2 pInt pInt)) p_46.2, dead]
        refine go_if (xt_cmp (fun _ => op_eq) o_eqI (nomark _) (x_var 5) (x_glob (v := .int 1000) T.g_MOST_STATES ⟨_, rfl⟩ (fun _ => rfl))) (fun hz => ?_) (fun hz => ?_)
        · have hm := condT hz hm
          cases hm
        · have hm := condF hz hm
          refine go_join ?_
          obtain ⟨h_48, hm⟩ := guardO_some hm
          refine go_forK (rs := val pInt) (fun s => [hold (obj T.C_Machine [] []) v0, val pInt input_count_0, val pInt output_count_0, val (pL (pL (pT2 pInt pInt))) moves_0, val pInt rows_44, val pInt p_46.1, val (pL (pT2 pInt pInt)) p_46.2, dead]) (fun r => val pNon r) (xi_range1 T.g_range (x_callB (c_max2 _) T.g_max (by decide +kernel) o_max2 (xa2 (x_var 4) (x_callB (c_len _) T.g_len (by decide +kernel) (o_lenL LV.val.sv) (xa1 (x_var 6))))) h_48) (by repeat' (first | exact WkL.nil | exact WkS.refl | exact WkS.dead | exact WkS.list | exact WkS.dict | exact WkS.lstS (fun _ => WkS.list) | refine WkL.cons ?_ ?_)) hm ?_ ?_ ?_
          · rintro B1 row_49 s out hx hm hr2 hl2
            refine ⟨_, _, (xg_name 7), ?_⟩
            show Go _ _ _ _ _ [hold (obj T.C_Machine [] []) v0, val pInt input_count_0, val pInt output_count_0, val (pL (pL (pT2 pInt pInt))) moves_0, val pInt rows_44, val pInt p_46.1, val (pL (pT2 pInt pInt)) p_46.2, val pInt row_49]
            obtain ⟨b_54, h_55, hm⟩ := Option.bind_eq_some_iff.mp hm
            refine go_if (xw_pt (xw_orP (xt_cmp (fun _ => op_ge) o_bl (nomark _) (x_var 7) (x_callB (c_min2 _) T.g_min (by decide +kernel) o_min2 (xa2 (x_var 4) (x_callB (c_len _) T.g_len (by decide +kernel) (o_lenL LV.val.sv) (xa1 (x_var 6)))))) h_55 (fun z hm => by obtain ⟨v_50, h_51, hm⟩ := Option.bind_eq_some_iff.mp hm; obtain ⟨r_52, h_53, hm⟩ := Option.bind_eq_some_iff.mp hm; cases hm; exact (xw_or1 (xt_not (xt_val (x_call (z := (v_50, ((moves_0).length : Int), output_count_0)) (ok_is_move T) (by decide) T.g_is_move T.k_is_move T.b_is_move (xa_cons (x_ix (x_var 6) LV.val.sv (x_var 7) h_51) (xa_cons (x_callB (c_len _) T.g_len (by decide +kernel) (o_lenL LV.val.sv) (xa1 (x_var 3))) (xa_cons (x_var 2) xa_nil))) rfl (by repeat' (first | exact trivial | refine ⟨no_val, ?_⟩ | refine ⟨no_borL, ?_⟩ | refine ⟨no_bor, ?_⟩)) h_53)) rfl))))) (fun hz => ?_) (fun hz => ?_)
            · have hm := condT hz hm
              cases hm
            · have hm := condF hz hm
              refine go_join ?_
              cases hm
              exact go_nil (fun σ H h => ⟨_, rfl, h.wk (by repeat' (first | exact WkL.nil | exact WkS.refl | exact WkS.dead | exact WkS.list | exact WkS.dict | exact WkS.lstS (fun _ => WkS.list) | refine WkL.cons ?_ ?_))⟩)
          · rintro s hm
            show Go _ _ _ _ _ [hold (obj T.C_Machine [] []) v0, val pInt input_count_0, val pInt output_count_0, val (pL (pL (pT2 pInt pInt))) moves_0, val pInt rows_44, val pInt p_46.1, val (pL (pT2 pInt pInt)) p_46.2, dead]
            cases hm
            exact go_nil (fun σ H h => ⟨_, rfl, h.wk (by repeat' (first | exact WkL.nil | exact WkS.refl | exact WkS.dead | exact WkS.list | exact WkS.dict | exact WkS.lstS (fun _ => WkS.list) | refine WkL.cons ?_ ?_))⟩)
          · rintro r hm v H h
            cases hm
      · rintro s hm
        show Go _ _ _ _ _ [hold (obj T.C_Machine [] []) v0, val pInt input_count_0, val pInt output_count_0, val (pL (pL (pT2 pInt pInt))) moves_0, val pInt rows_44, dead, dead, dead]
        refine go_newfld (pl_hold 0 (by repeat' (first | exact Stb.nil | exact trivial | exact stb_map (fun _ => trivial) _ | refine Stb.cons ?_ ?_))) (x_var 1) T.at_Machine_input_count (by repeat' (first | exact Stb.nil | exact trivial | exact stb_map (fun _ => trivial) _ | refine Stb.cons ?_ ?_)) trivial ?_
        show Go _ _ _ _ _ [hold (obj T.C_Machine ["input_count"] [val pInt input_count_0]) v0, val pInt input_count_0, val pInt output_count_0, val (pL (pL (pT2 pInt pInt))) moves_0, val pInt rows_44, dead, dead, dead]
        refine go_newfld (pl_hold 0 (by repeat' (first | exact Stb.nil | exact trivial | exact stb_map (fun _ => trivial) _ | refine Stb.cons ?_ ?_))) (x_var 2) T.at_Machine_output_count (by repeat' (first | exact Stb.nil | exact trivial | exact stb_map (fun _ => trivial) _ | refine Stb.cons ?_ ?_)) trivial ?_
        show Go _ _ _ _ _ [hold (obj T.C_Machine ["input_count", "output_count"] [val pInt input_count_0, val pInt output_count_0]) v0, val pInt input_count_0, val pInt output_count_0, val (pL (pL (pT2 pInt pInt))) moves_0, val pInt rows_44, dead, dead, dead]
        obtain ⟨h_59, hm⟩ := guardO_some hm
        obtain ⟨ys_56, h_57, hm⟩ := Option.bind_eq_some_iff.mp hm
        refine go_newfld (pl_hold 0 (by repeat' (first | exact Stb.nil | exact trivial | exact stb_map (fun _ => trivial) _ | refine Stb.cons ?_ ?_))) (x_lc (rs := val (pL (pT2 pInt pInt))) (own := [("entry", 6)]) (xi_list (x_var 3)).ro ⟨fun _ => blkOk_by (N := N_Machine_init) (sc := defScope s_Machine_init) (by decide +kernel), fun _ _ => rfl⟩ h_59 h_57 ⟨rfl, trivial⟩ (fun entry_58 o hx hm => by skip; cases hm; exact ⟨_, _, rfl, (xg_name 6), lc_el (XV.frz (x_callTy (c_list _) T.g_list (by decide +kernel) (o_listL LV.val.sv) (xa1 (x_var 6))))⟩)) T.at_Machine_moves (by repeat' (first | exact Stb.nil | exact trivial | exact stb_map (fun _ => trivial) _ | refine Stb.cons ?_ ?_)) trivial ?_
        show Go _ _ _ _ _ [hold (obj T.C_Machine ["input_count", "output_count", "moves"] [val pInt input_count_0, val pInt output_count_0, own (oL (pL (pT2 pInt pInt))) ys_56]) v0, val pInt input_count_0, val pInt output_count_0, val (pL (pL (pT2 pInt pInt))) moves_0, val pInt rows_44, dead, dead, dead]
        cases hm
        exact go_nilM 0
      · rintro r hm v H h
        cases hm

theorem ok_numbered (T : Txt P K mg) : FnOk P w K mg base CX0 1 T.f_numbered T.d_numbered ["keys"] (spP (fun (z : (List (NestedKey))) => [val (pL pNK) z]) (fun z => m_numbered z) (fun r => own (oL pInt) r)) := by
  refine fn_pure T.F_numbered sc_numbered (fun _ => rfl) (fun cdv A outer s H E hr keys_0 r B hm => ?_)
  replace hm : m_numbered keys_0 = some r := hm
  unfold m_numbered at hm
  show Go _ _ _ _ _ [val (pL pNK) keys_0, dead, dead, dead]
  refine go_set 1 (x_nnew (p := pInt)) ?_
  show Go _ _ _ _ _ [val (pL pNK) keys_0, own (oN P w pInt) ([] : List (NestedKey × (Int))), dead, dead]
  refine go_set 2 (x_lst (p := pInt) (xs := []) xa_nil (Nat.zero_le _)) ?_
  show Go _ _ _ _ _ [val (pL pNK) keys_0, own (oN P w pInt) ([] : List (NestedKey × (Int))), own (oL pInt) ([] : List (Int)), dead]
  refine go_forK (rs := val pNK) (fun s => [val (pL pNK) keys_0, own (oN P w pInt) s.1, own (oL pInt) s.2, dead]) (fun r => own (oL pInt) r) (xi_list (x_var 0)) (by repeat' (first | exact WkL.nil | exact WkS.refl | exact WkS.dead | exact WkS.list | exact WkS.dict | exact WkS.lstS (fun _ => WkS.list) | refine WkL.cons ?_ ?_)) hm ?_ ?_ ?_
  · rintro B1 key_62 s out hx hm hr1 hl1
    obtain ⟨known_60, numbers_61⟩ := s
    refine ⟨_, _, (xg_name 3), ?_⟩
    show Go _ _ _ _ _ [val (pL pNK) keys_0, own (oN P w pInt) known_60, own (oL pInt) numbers_61, val pNK key_62]
    obtain ⟨known_63, hj_65, hm⟩ := Option.bind_eq_some_iff.mp hm
    refine go_ifJ [val (pL pNK) keys_0, own (oN P w pInt) known_63, own (oL pInt) numbers_61, val pNK key_62] (xt_nnin (x_var 3) (x_varN 1) rfl) (fun hz => ?_) (fun hz => ?_) ?_
    · have hm := condT hz hj_65
      obtain ⟨h_64, hm⟩ := guardO_some hm
      refine go_nput (pl_name 1 (by repeat' (first | exact Stb.nil | exact trivial | exact stb_map (fun _ => trivial) _ | refine Stb.cons ?_ ?_)) (hso := own_some)) (x_var 3) (x_callB (c_lenN _) T.g_len (by decide +kernel) o_lenN (xa1 (x_varN 1))) h_64 ?_
      show Go _ _ _ _ _ [val (pL pNK) keys_0, own (oN P w pInt) (dput known_60 key_62 ((known_60).length : Int)), own (oL pInt) numbers_61, val pNK key_62]
      cases hm
      exact go_nx (by repeat' (first | exact WkL.nil | exact WkS.refl | exact WkS.dead | exact WkS.list | exact WkS.dict | exact WkS.lstS (fun _ => WkS.list) | refine WkL.cons ?_ ?_))
    · have hm := condF hz hj_65
      cases hm
      exact go_nx (by repeat' (first | exact WkL.nil | exact WkS.refl | exact WkS.dead | exact WkS.list | exact WkS.dict | exact WkS.lstS (fun _ => WkS.list) | refine WkL.cons ?_ ?_))
    obtain ⟨v_67, h_68, hm⟩ := Option.bind_eq_some_iff.mp hm
    obtain ⟨h_69, hm⟩ := guardO_some hm
    refine go_append (pl_name 2 (by repeat' (first | exact Stb.nil | exact trivial | exact stb_map (fun _ => trivial) _ | refine Stb.cons ?_ ?_)) (hso := own_some)) (x_nget (x_varN 1) (x_var 3) h_68) h_69 ?_
    show Go _ _ _ _ _ [val (pL pNK) keys_0, own (oN P w pInt) known_63, own (oL pInt) (numbers_61 ++ [v_67]), val pNK key_62]
    cases hm
    exact go_nil (fun σ H h => ⟨_, rfl, h.wk (by repeat' (first | exact WkL.nil | exact WkS.refl | exact WkS.dead | exact WkS.list | exact WkS.dict | exact WkS.lstS (fun _ => WkS.list) | refine WkL.cons ?_ ?_))⟩)
  · rintro s hm
    obtain ⟨known_60, numbers_61⟩ := s
    show Go _ _ _ _ _ [val (pL pNK) keys_0, own (oN P w pInt) known_60, own (oL pInt) numbers_61, dead]
    cases hm
    exact go_retV 2 rfl own_some (fun v H h => h)
  · rintro r hm v H h
    cases hm

theorem ok_alike_states (T : Txt P K mg) : FnOk P w K mg base CX0 2 T.f_alike_states T.d_alike_states ["machine"] (spP (fun (z : (S_Machine)) => [val (pObj T.C_Machine ns_Machine sl_Machine) z]) (fun z => m_alike_states z) (fun r => own (oL pInt) r)) := by
  refine fn_pure T.F_alike_states sc_alike_states (fun _ => rfl) (fun cdv A outer s H E hr machine_0 r B hm => ?_)
  replace hm : m_alike_states machine_0 = some r := hm
  unfold m_alike_states at hm
  show Go _ _ _ _ _ [val (pObj T.C_Machine ns_Machine sl_Machine) machine_0, dead, dead, dead, dead, dead, dead, dead, dead, dead]
  obtain ⟨h_77, hm⟩ := guardO_some hm
  obtain ⟨ys_70, h_71, hm⟩ := Option.bind_eq_some_iff.mp hm
  obtain ⟨r_78, h_79, hm⟩ := Option.bind_eq_some_iff.mp hm
  refine go_set 1 (x_call (z := ys_70) (ok_numbered T) (by decide) T.g_numbered T.k_numbered T.b_numbered (xa_cons (XV.frz (x_lc (rs := val (pL (pT2 pInt pInt))) (own := [("entry", 5)]) (xi_list (x_fld 2 (x_var 0) OV.val T.at_Machine_moves)).ro ⟨fun _ => blkOk_by (N := N_alike_states) (sc := defScope s_alike_states) (by decide +kernel), fun _ _ => rfl⟩ h_77 h_71 ⟨rfl, trivial⟩ (fun entry_72 o hx hm => by obtain ⟨h_76, hm⟩ := guardO_some hm; obtain ⟨ys_73, h_74, hm⟩ := Option.bind_eq_some_iff.mp hm; cases hm; exact ⟨_, _, rfl, (xg_name 5), lc_el (XV.nkT NE.int (by decide) (x_callTy (c_tup _) T.g_tuple (by decide +kernel) (o_tupL LV.own.sv) (xa1 (x_lc (rs := val (pT2 pInt pInt)) (own := [("_", 7), ("answer", 8)]) (xi_list (x_var 5)).ro ⟨fun _ => blkOk_by (N := N_alike_states) (by kernel_rfl), fun _ _ => rfl⟩ h_76 h_74 ⟨rfl, rfl, trivial⟩ (fun p_75 o hx hm => by skip; cases hm; exact ⟨_, _, rfl, (xg_tup2 (xgs_cons (xg_name 7) (xgs_cons (xg_name 8) xgs_nil))), lc_el (x_var 8)⟩)))))⟩))) xa_nil) rfl (by repeat' (first | exact trivial | refine ⟨no_val, ?_⟩ | refine ⟨no_borL, ?_⟩ | refine ⟨no_bor, ?_⟩)) h_79) ?_
  show Go _ _ _ _ _ [val (pObj T.C_Machine ns_Machine sl_Machine) machine_0, own (oL pInt) r_78, dead, dead, dead, dead, dead, dead, dead, dead]
  refine go_set 2 x_int ?_
  show Go _ _ _ _ _ [val (pObj T.C_Machine ns_Machine sl_Machine) machine_0, own (oL pInt) r_78, val pInt (0 : Int), dead, dead, dead, dead, dead, dead, dead]
  refine go_whileK (fun s => [val (pObj T.C_Machine ns_Machine sl_Machine) machine_0, own (oL pInt) s.1, val pInt s.2, dead, dead, dead, dead, dead, dead, dead]) (fun r => own (oL pInt) r) (by repeat' (first | exact WkL.nil | exact WkS.refl | exact WkS.dead | exact WkS.list | exact WkS.dict | exact WkS.lstS (fun _ => WkS.list) | refine WkL.cons ?_ ?_)) hm ?_ ?_ ?_
  · rintro B1 s out hm hr1 hl1
    obtain ⟨marks_80, count_81⟩ := s
    obtain ⟨m_82, h_83, hm⟩ := Option.bind_eq_some_iff.mp hm
    refine ⟨_, (xt_cmp (fun _ => op_gt) o_bl (nomark _) (x_op (fun _ => op_add) o_int (x_callB (c_max1 _) T.g_max (by decide +kernel) (o_max1 LV.bor.sv h_83) (xa1 (x_varL 1))) x_int) (x_var 2)), fun hz => ?_, fun hz => ?_⟩
    · have hm := condT hz hm
      show Go _ _ _ _ _ [val (pObj T.C_Machine ns_Machine sl_Machine) machine_0, own (oL pInt) marks_80, val pInt count_81, dead, dead, dead, dead, dead, dead, dead]
      obtain ⟨m_84, h_85, hm⟩ := Option.bind_eq_some_iff.mp hm
      obtain ⟨count_86, h_87, hm⟩ := letO_some hm
      refine go_set 2 (XV.eqV (x_op (fun _ => op_add) o_int (x_callB (c_max1 _) T.g_max (by decide +kernel) (o_max1 LV.bor.sv h_85) (xa1 (x_varL 1))) x_int) h_87) ?_
      show Go _ _ _ _ _ [val (pObj T.C_Machine ns_Machine sl_Machine) machine_0, own (oL pInt) marks_80, val pInt count_86, dead, dead, dead, dead, dead, dead, dead]
      refine go_set 3 (x_lst (p := pNK) (xs := []) xa_nil (Nat.zero_le _)) ?_
      show Go _ _ _ _ _ [val (pObj T.C_Machine ns_Machine sl_Machine) machine_0, own (oL pInt) marks_80, val pInt count_86, own (oL pNK) ([] : List (NestedKey)), dead, dead, dead, dead, dead, dead]
      refine go_forK (rs := val (pT2 pInt (pL (pT2 pInt pInt)))) (fun s => [val (pObj T.C_Machine ns_Machine sl_Machine) machine_0, own (oL pInt) marks_80, val pInt count_86, own (oL pNK) s, dead, dead, dead, dead, dead, dead]) (fun r => own (oL pInt) r) (xi_enum' T.g_enumerate (x_fld 2 (x_var 0) OV.val T.at_Machine_moves)) (by repeat' (first | exact WkL.nil | exact WkS.refl | exact WkS.dead | exact WkS.list | exact WkS.dict | exact WkS.lstS (fun _ => WkS.list) | refine WkL.cons ?_ ?_)) hm ?_ ?_ ?_
      · rintro B1 p_89 keys_88 out hx hm hr2 hl2
        refine ⟨_, _, (xg_tup2 (xgs_cons (xg_name 4) (xgs_cons (xg_name 5) xgs_nil))), ?_⟩
        show Go _ _ _ _ _ [val (pObj T.C_Machine ns_Machine sl_Machine) machine_0, own (oL pInt) marks_80, val pInt count_86, own (oL pNK) keys_88, val pInt p_89.1, val (pL (pT2 pInt pInt)) p_89.2, dead, dead, dead, dead]
        obtain ⟨v_90, h_91, hm⟩ := Option.bind_eq_some_iff.mp hm
        obtain ⟨h_97, hm⟩ := guardO_some hm
        obtain ⟨ys_92, h_93, hm⟩ := Option.bind_eq_some_iff.mp hm
        obtain ⟨h_98, hm⟩ := guardO_some hm
        refine go_append (pl_name 3 (by repeat' (first | exact Stb.nil | exact trivial | exact stb_map (fun _ => trivial) _ | refine Stb.cons ?_ ?_)) (hso := own_some)) (XV.nk2 NE.int (NE.tup NE.int) (by decide) (by decide) (x_tup2 (xa_cons (x_ix (x_varL 1) LV.bor.sv (x_var 4) h_91) (xa_cons (x_callTy (c_tup _) T.g_tuple (by decide +kernel) (o_tupL LV.own.sv) (xa1 (x_lc (rs := val (pT2 pInt pInt)) (own := [("later", 9), ("_", 7)]) (xi_list (x_var 5)).ro ⟨fun _ => blkOk_by (N := N_alike_states) (sc := defScope s_alike_states) (by decide +kernel), fun _ _ => rfl⟩ h_97 h_93 ⟨rfl, rfl, trivial⟩ (fun p_94 o hx hm => by obtain ⟨v_95, h_96, hm⟩ := Option.bind_eq_some_iff.mp hm; cases hm; exact ⟨_, _, rfl, (xg_tup2 (xgs_cons (xg_name 9) (xgs_cons (xg_name 7) xgs_nil))), lc_el (x_ix (x_varL 1) LV.bor.sv (x_var 9) h_96)⟩)))) xa_nil)))) h_98 ?_
        show Go _ _ _ _ _ [val (pObj T.C_Machine ns_Machine sl_Machine) machine_0, own (oL pInt) marks_80, val pInt count_86, own (oL pNK) (keys_88 ++ [((NE.t2 NE.int (NE.tup NE.int)).enc (v_90, ys_92))]), val pInt p_89.1, val (pL (pT2 pInt pInt)) p_89.2, dead, dead, dead, dead]
        cases hm
        exact go_nil (fun σ H h => ⟨_, rfl, h.wk (by repeat' (first | exact WkL.nil | exact WkS.refl | exact WkS.dead | exact WkS.list | exact WkS.dict | exact WkS.lstS (fun _ => WkS.list) | refine WkL.cons ?_ ?_))⟩)
      · rintro keys_88 hm
        show Go _ _ _ _ _ [val (pObj T.C_Machine ns_Machine sl_Machine) machine_0, own (oL pInt) marks_80, val pInt count_86, own (oL pNK) keys_88, dead, dead, dead, dead, dead, dead]
        refine go_wk (Γ' := [val (pObj T.C_Machine ns_Machine sl_Machine) machine_0, own (oL pInt) marks_80, val pInt count_86, val (pL pNK) keys_88, dead, dead, dead, dead, dead, dead]) ?_ (WkL.at (j := 3) WkS.list rfl)
        obtain ⟨r_99, h_100, hm⟩ := Option.bind_eq_some_iff.mp hm
        refine go_set 1 (x_call (z := keys_88) (ok_numbered T) (by decide) T.g_numbered T.k_numbered T.b_numbered (xa_cons (x_var 3) xa_nil) rfl (by repeat' (first | exact trivial | refine ⟨no_val, ?_⟩ | refine ⟨no_borL, ?_⟩ | refine ⟨no_bor, ?_⟩)) h_100) ?_
        show Go _ _ _ _ _ [val (pObj T.C_Machine ns_Machine sl_Machine) machine_0, own (oL pInt) r_99, val pInt count_86, val (pL pNK) keys_88, dead, dead, dead, dead, dead, dead]
        cases hm
        exact go_nil (fun σ H h => ⟨_, rfl, h.wk (by repeat' (first | exact WkL.nil | exact WkS.refl | exact WkS.dead | exact WkS.list | exact WkS.dict | exact WkS.lstS (fun _ => WkS.list) | refine WkL.cons ?_ ?_))⟩)
      · rintro r hm v H h
        cases hm
    · have hm := condF hz hm
      cases hm
      rfl
  · rintro s hm
    obtain ⟨marks_80, count_81⟩ := s
    show Go _ _ _ _ _ [val (pObj T.C_Machine ns_Machine sl_Machine) machine_0, own (oL pInt) marks_80, val pInt count_81, dead, dead, dead, dead, dead, dead, dead]
    obtain ⟨h_106, hm⟩ := guardO_some hm
    obtain ⟨ys_101, h_102, hm⟩ := Option.bind_eq_some_iff.mp hm
    cases hm
    exact go_ret (x_lc (rs := val pInt) (own := [("mark", 6)]) (xi_bor (x_varL 1)) ⟨fun _ => blkOk_by (N := N_alike_states) (sc := defScope s_alike_states) (by decide +kernel), fun _ _ => rfl⟩ h_106 h_102 ⟨rfl, trivial⟩ (fun mark_103 o hx hm => by obtain ⟨i_104, h_105, hm⟩ := Option.bind_eq_some_iff.mp hm; cases hm; exact ⟨_, _, rfl, (xg_name 6), lc_el (x_indexI (x_varL 1) LV.bor.sv (x_var 6) h_105)⟩)) (fun v H h => h)
  · rintro r hm v H h
    cases hm

theorem ok_least_machine (T : Txt P K mg) : FnOk P w K mg base CX0 4 T.f_least_machine T.d_least_machine ["machine"] (spP (fun (z : (S_Machine)) => [val (pObj T.C_Machine ns_Machine sl_Machine) z]) (fun z => m_least_machine z) (fun r => obj T.C_Machine ns_Machine (dl_Machine r))) := by
  refine fn_pure T.F_least_machine sc_least_machine (fun _ => rfl) (fun cdv A outer s H E hr machine_0 r B hm => ?_)
  replace hm : m_least_machine machine_0 = some r := hm
  unfold m_least_machine at hm
  show Go _ _ _ _ _ [val (pObj T.C_Machine ns_Machine sl_Machine) machine_0, dead, dead, dead, dead, dead, dead, dead, dead]
  obtain ⟨r_107, h_108, hm⟩ := Option.bind_eq_some_iff.mp hm
  refine go_set 1 (x_call (z := machine_0) (ok_alike_states T) (by decide) T.g_alike_states T.k_alike_states T.b_alike_states (xa_cons (x_var 0) xa_nil) rfl (by repeat' (first | exact trivial | refine ⟨no_val, ?_⟩ | refine ⟨no_borL, ?_⟩ | refine ⟨no_bor, ?_⟩)) h_108) ?_
  show Go _ _ _ _ _ [val (pObj T.C_Machine ns_Machine sl_Machine) machine_0, own (oL pInt) r_107, dead, dead, dead, dead, dead, dead, dead]
  refine go_set 2 (x_lst (xs := [(0 : Int)]) (xa_cons x_int xa_nil) (le_line rfl)) ?_
  show Go _ _ _ _ _ [val (pObj T.C_Machine ns_Machine sl_Machine) machine_0, own (oL pInt) r_107, own (oL pInt) ([(0 : Int)]), dead, dead, dead, dead, dead, dead]
  refine go_set 3 (x_disp_dInt x_int x_int) ?_
  show Go _ _ _ _ _ [val (pObj T.C_Machine ns_Machine sl_Machine) machine_0, own (oL pInt) r_107, own (oL pInt) ([(0 : Int)]), own (oD dInt pInt) ([((0 : Int), (0 : Int))]), dead, dead, dead, dead, dead]
  refine go_set 4 (x_lst (p := (pL (pT2 pInt pInt))) (xs := []) xa_nil (Nat.zero_le _)) ?_
  show Go _ _ _ _ _ [val (pObj T.C_Machine ns_Machine sl_Machine) machine_0, own (oL pInt) r_107, own (oL pInt) ([(0 : Int)]), own (oD dInt pInt) ([((0 : Int), (0 : Int))]), own (oL (pL (pT2 pInt pInt))) ([] : List (List ((Int) × (Int)))), dead, dead, dead, dead]
  refine go_whileK (fun s => [val (pObj T.C_Machine ns_Machine sl_Machine) machine_0, own (oL pInt) r_107, own (oL pInt) s.1, own (oD dInt pInt) s.2.1, own (oL (pL (pT2 pInt pInt))) s.2.2, dead, dead, dead, dead]) (fun r => obj T.C_Machine ns_Machine (dl_Machine r)) (by repeat' (first | exact WkL.nil | exact WkS.refl | exact WkS.dead | exact WkS.list | exact WkS.dict | exact WkS.lstS (fun _ => WkS.list) | refine WkL.cons ?_ ?_)) hm ?_ ?_ ?_
  · rintro B1 s out hm hr1 hl1
    obtain ⟨states_109, known_110, moves_111⟩ := s
    refine ⟨_, (xt_cmp (fun _ => op_lt) o_bl (nomark _) (x_callB (c_len _) T.g_len (by decide +kernel) (o_lenL LV.bor.sv) (xa1 (x_varL 4))) (x_callB (c_len _) T.g_len (by decide +kernel) (o_lenL LV.bor.sv) (xa1 (x_varL 2)))), fun hz => ?_, fun hz => ?_⟩
    · have hm := condT hz hm
      show Go _ _ _ _ _ [val (pObj T.C_Machine ns_Machine sl_Machine) machine_0, own (oL pInt) r_107, own (oL pInt) states_109, own (oD dInt pInt) known_110, own (oL (pL (pT2 pInt pInt))) moves_111, dead, dead, dead, dead]
      refine go_set 5 (x_lst (p := (pT2 pInt pInt)) (xs := []) xa_nil (Nat.zero_le _)) ?_
      show Go _ _ _ _ _ [val (pObj T.C_Machine ns_Machine sl_Machine) machine_0, own (oL pInt) r_107, own (oL pInt) states_109, own (oD dInt pInt) known_110, own (oL (pL (pT2 pInt pInt))) moves_111, own (oL (pT2 pInt pInt)) ([] : List ((Int) × (Int))), dead, dead, dead]
      obtain ⟨v_112, h_113, hm⟩ := Option.bind_eq_some_iff.mp hm
      obtain ⟨v_114, h_115, hm⟩ := Option.bind_eq_some_iff.mp hm
      refine go_forK (rs := val (pT2 pInt pInt)) (fun s => [val (pObj T.C_Machine ns_Machine sl_Machine) machine_0, own (oL pInt) r_107, own (oL pInt) s.1, own (oD dInt pInt) s.2.1, own (oL (pL (pT2 pInt pInt))) moves_111, own (oL (pT2 pInt pInt)) s.2.2, dead, dead, dead]) (fun r => obj T.C_Machine ns_Machine (dl_Machine r)) (xi_list (x_ix (x_fld 2 (x_var 0) OV.val T.at_Machine_moves) LV.val.sv (x_ix (x_varL 2) LV.bor.sv (x_callB (c_len _) T.g_len (by decide +kernel) (o_lenL LV.bor.sv) (xa1 (x_varL 4))) h_113) h_115)) (by repeat' (first | exact WkL.nil | exact WkS.refl | exact WkS.dead | exact WkS.list | exact WkS.dict | exact WkS.lstS (fun _ => WkS.list) | refine WkL.cons ?_ ?_)) hm ?_ ?_ ?_
      · rintro B1 p_119 s out hx hm hr2 hl2
        obtain ⟨states_116, known_117, entry_118⟩ := s
        refine ⟨_, _, (xg_tup2 (xgs_cons (xg_name 6) (xgs_cons (xg_name 7) xgs_nil))), ?_⟩
        show Go _ _ _ _ _ [val (pObj T.C_Machine ns_Machine sl_Machine) machine_0, own (oL pInt) r_107, own (oL pInt) states_116, own (oD dInt pInt) known_117, own (oL (pL (pT2 pInt pInt))) moves_111, own (oL (pT2 pInt pInt)) entry_118, val pInt p_119.1, val pInt p_119.2, dead]
        obtain ⟨v_120, h_121, hm⟩ := Option.bind_eq_some_iff.mp hm
        refine go_set 8 (x_ix (x_varL 1) LV.bor.sv (x_var 6) h_121) ?_
        show Go _ _ _ _ _ [val (pObj T.C_Machine ns_Machine sl_Machine) machine_0, own (oL pInt) r_107, own (oL pInt) states_116, own (oD dInt pInt) known_117, own (oL (pL (pT2 pInt pInt))) moves_111, own (oL (pT2 pInt pInt)) entry_118, val pInt p_119.1, val pInt p_119.2, val pInt v_120]
        obtain ⟨s_127, hj_126, hm⟩ := Option.bind_eq_some_iff.mp hm
        obtain ⟨states_122, known_123⟩ := s_127
        refine go_ifJ [val (pObj T.C_Machine ns_Machine sl_Machine) machine_0, own (oL pInt) r_107, own (oL pInt) states_122, own (oD dInt pInt) known_123, own (oL (pL (pT2 pInt pInt))) moves_111, own (oL (pT2 pInt pInt)) entry_118, val pInt p_119.1, val pInt p_119.2, val pInt v_120] (xt_dnin (q := dInt) (x_var 8) (x_varD 3) DV.bor rfl) (fun hz => ?_) (fun hz => ?_) ?_
        · have hm := condT hz hj_126
          obtain ⟨h_124, hm⟩ := guardO_some hm
          refine go_dput (q := dInt) (pl_name 3 (by repeat' (first | exact Stb.nil | exact trivial | exact stb_map (fun _ => trivial) _ | refine Stb.cons ?_ ?_)) (hso := own_some)) (x_var 8) (x_callB (c_len _) T.g_len (by decide +kernel) (o_lenL LV.bor.sv) (xa1 (x_varL 2))) h_124 ?_
          show Go _ _ _ _ _ [val (pObj T.C_Machine ns_Machine sl_Machine) machine_0, own (oL pInt) r_107, own (oL pInt) states_116, own (oD dInt pInt) (dput known_117 v_120 ((states_116).length : Int)), own (oL (pL (pT2 pInt pInt))) moves_111, own (oL (pT2 pInt pInt)) entry_118, val pInt p_119.1, val pInt p_119.2, val pInt v_120]
          obtain ⟨h_125, hm⟩ := guardO_some hm
          refine go_append (pl_name 2 (by repeat' (first | exact Stb.nil | exact trivial | exact stb_map (fun _ => trivial) _ | refine Stb.cons ?_ ?_)) (hso := own_some)) (x_var 8) h_125 ?_
          show Go _ _ _ _ _ [val (pObj T.C_Machine ns_Machine sl_Machine) machine_0, own (oL pInt) r_107, own (oL pInt) (states_116 ++ [v_120]), own (oD dInt pInt) (dput known_117 v_120 ((states_116).length : Int)), own (oL (pL (pT2 pInt pInt))) moves_111, own (oL (pT2 pInt pInt)) entry_118, val pInt p_119.1, val pInt p_119.2, val pInt v_120]
          cases hm
          exact go_nx (by repeat' (first | exact WkL.nil | exact WkS.refl | exact WkS.dead | exact WkS.list | exact WkS.dict | exact WkS.lstS (fun _ => WkS.list) | refine WkL.cons ?_ ?_))
        · have hm := condF hz hj_126
          cases hm
          exact go_nx (by repeat' (first | exact WkL.nil | exact WkS.refl | exact WkS.dead | exact WkS.list | exact WkS.dict | exact WkS.lstS (fun _ => WkS.list) | refine WkL.cons ?_ ?_))
        obtain ⟨v_128, h_129, hm⟩ := Option.bind_eq_some_iff.mp hm
        obtain ⟨h_130, hm⟩ := guardO_some hm
        refine go_append (pl_name 5 (by repeat' (first | exact Stb.nil | exact trivial | exact stb_map (fun _ => trivial) _ | refine Stb.cons ?_ ?_)) (hso := own_some)) (x_tup2 (xa_cons (x_dget (q := dInt) (x_varD 3) DV.bor (x_var 8) h_129) (xa_cons (x_var 7) xa_nil))) h_130 ?_
        show Go _ _ _ _ _ [val (pObj T.C_Machine ns_Machine sl_Machine) machine_0, own (oL pInt) r_107, own (oL pInt) states_122, own (oD dInt pInt) known_123, own (oL (pL (pT2 pInt pInt))) moves_111, own (oL (pT2 pInt pInt)) (entry_118 ++ [(v_128, p_119.2)]), val pInt p_119.1, val pInt p_119.2, val pInt v_120]
        cases hm
        exact go_nil (fun σ H h => ⟨_, rfl, h.wk (by repeat' (first | exact WkL.nil | exact WkS.refl | exact WkS.dead | exact WkS.list | exact WkS.dict | exact WkS.lstS (fun _ => WkS.list) | refine WkL.cons ?_ ?_))⟩)
      · rintro s hm
        obtain ⟨states_116, known_117, entry_118⟩ := s
        show Go _ _ _ _ _ [val (pObj T.C_Machine ns_Machine sl_Machine) machine_0, own (oL pInt) r_107, own (oL pInt) states_116, own (oD dInt pInt) known_117, own (oL (pL (pT2 pInt pInt))) moves_111, own (oL (pT2 pInt pInt)) entry_118, dead, dead, dead]
        refine go_wk (Γ' := [val (pObj T.C_Machine ns_Machine sl_Machine) machine_0, own (oL pInt) r_107, own (oL pInt) states_116, own (oD dInt pInt) known_117, own (oL (pL (pT2 pInt pInt))) moves_111, val (pL (pT2 pInt pInt)) entry_118, dead, dead, dead]) ?_ (WkL.at (j := 5) WkS.list rfl)
        obtain ⟨h_131, hm⟩ := guardO_some hm
        refine go_append (pl_name 4 (by repeat' (first | exact Stb.nil | exact trivial | exact stb_map (fun _ => trivial) _ | refine Stb.cons ?_ ?_)) (hso := own_some)) (x_var 5) h_131 ?_
        show Go _ _ _ _ _ [val (pObj T.C_Machine ns_Machine sl_Machine) machine_0, own (oL pInt) r_107, own (oL pInt) states_116, own (oD dInt pInt) known_117, own (oL (pL (pT2 pInt pInt))) (moves_111 ++ [entry_118]), val (pL (pT2 pInt pInt)) entry_118, dead, dead, dead]
        cases hm
        exact go_nil (fun σ H h => ⟨_, rfl, h.wk (by repeat' (first | exact WkL.nil | exact WkS.refl | exact WkS.dead | exact WkS.list | exact WkS.dict | exact WkS.lstS (fun _ => WkS.list) | refine WkL.cons ?_ ?_))⟩)
      · rintro r hm v H h
        cases hm
    · have hm := condF hz hm
      cases hm
      rfl
  · rintro s hm
    obtain ⟨states_109, known_110, moves_111⟩ := s
    show Go _ _ _ _ _ [val (pObj T.C_Machine ns_Machine sl_Machine) machine_0, own (oL pInt) r_107, own (oL pInt) states_109, own (oD dInt pInt) known_110, own (oL (pL (pT2 pInt pInt))) moves_111, dead, dead, dead, dead]
    refine go_wk (Γ' := [val (pObj T.C_Machine ns_Machine sl_Machine) machine_0, own (oL pInt) r_107, own (oL pInt) states_109, own (oD dInt pInt) known_110, val (pL (pL (pT2 pInt pInt))) moves_111, dead, dead, dead, dead]) ?_ (WkL.at (j := 4) WkS.list rfl)
    obtain ⟨o_132, h_133, hm⟩ := Option.bind_eq_some_iff.mp hm
    cases hm
    exact go_ret (x_make (z := (machine_0.input_count, machine_0.output_count, moves_111)) (ok_Machine_init T) (by decide) T.mk_Machine T.g_Machine T.b_Machine_init (xa_cons (x_fld 0 (x_var 0) OV.val T.at_Machine_input_count) (xa_cons (x_fld 1 (x_var 0) OV.val T.at_Machine_output_count) (xa_cons (x_var 4) xa_nil))) rfl (by repeat' (first | exact trivial | refine ⟨no_val, ?_⟩ | refine ⟨no_borL, ?_⟩ | refine ⟨no_bor, ?_⟩)) rfl h_133 rfl) (fun v H h => h)
  · rintro r hm v H h
    cases hm

theorem ok__law_alike (T : Txt P K mg) : FnOk P w K mg base CX0 1 T.f__law_alike T.d__law_alike ["moves"] (spP (fun (z : (List (List ((Int) × (Int))))) => [val (pL (pL (pT2 pInt pInt))) z]) (fun z => m__law_alike z) (fun r => own (oL pInt) r)) := by
  refine fn_pure T.F__law_alike sc__law_alike (fun _ => rfl) (fun cdv A outer s H E hr moves_0 r B hm => ?_)
  replace hm : m__law_alike moves_0 = some r := hm
  unfold m__law_alike at hm
  show Go _ _ _ _ _ [val (pL (pL (pT2 pInt pInt))) moves_0, dead, dead, dead, dead, dead, dead, dead, dead, dead]
  obtain ⟨count_134, h_135, hm⟩ := letO_some hm
  refine go_set 1 (XV.eqV (x_callB (c_len _) T.g_len (by decide +kernel) (o_lenL LV.val.sv) (xa1 (x_var 0))) h_135) ?_
  show Go _ _ _ _ _ [val (pL (pL (pT2 pInt pInt))) moves_0, val pInt count_134, dead, dead, dead, dead, dead, dead, dead, dead]
  obtain ⟨h_137, hm⟩ := guardO_some hm
  obtain ⟨h_142, hm⟩ := guardO_some hm
  obtain ⟨ys_138, h_139, hm⟩ := Option.bind_eq_some_iff.mp hm
  refine go_set 2 (x_lcS (g := fun x => own (oL pBl) x) (rs := val pInt) (own := [("s", 8)]) (xi_range1 T.g_range (x_var 1) h_137).ro ⟨fun _ => blkOk_by (N := N__law_alike) (sc := defScope s__law_alike) (by decide +kernel), fun _ _ => rfl⟩ h_142 h_139 ⟨rfl, trivial⟩ (fun _ => trivial) (fun s_140 o hx hm => by obtain ⟨h_141, hm⟩ := guardO_some hm; cases hm; exact ⟨_, _, rfl, (xg_name 8), lc_elS (g := fun x => own (oL pBl) x) (x_op (fun _ => op_rep) (o_rep LV.own h_141) (x_lst (xs := [false]) (xa_cons x_bl xa_nil) (le_line rfl)) (x_var 1))⟩)) ?_
  show Go _ _ _ _ _ [val (pL (pL (pT2 pInt pInt))) moves_0, val pInt count_134, lstS (ys_138.map fun x => own (oL pBl) x), dead, dead, dead, dead, dead, dead, dead]
  obtain ⟨h_144, hm⟩ := guardO_some hm
  refine go_forK (rs := val pInt) (fun s => [val (pL (pL (pT2 pInt pInt))) moves_0, val pInt count_134, lstS (s.map fun x => own (oL pBl) x), dead, dead, dead, dead, dead, dead, dead]) (fun r => own (oL pInt) r) (xi_range1 T.g_range (x_var 1) h_144) (by repeat' (first | exact WkL.nil | exact WkS.refl | exact WkS.dead | exact WkS.list | exact WkS.dict | exact WkS.lstS (fun _ => WkS.list) | refine WkL.cons ?_ ?_)) hm ?_ ?_ ?_
  · rintro B1 one_146 apart_145 out hx hm hr1 hl1
    refine ⟨_, _, (xg_name 3), ?_⟩
    show Go _ _ _ _ _ [val (pL (pL (pT2 pInt pInt))) moves_0, val pInt count_134, lstS (apart_145.map fun x => own (oL pBl) x), val pInt one_146, dead, dead, dead, dead, dead, dead]
    obtain ⟨h_148, hm⟩ := guardO_some hm
    refine go_forK (rs := val pInt) (fun s => [val (pL (pL (pT2 pInt pInt))) moves_0, val pInt count_134, lstS (s.map fun x => own (oL pBl) x), val pInt one_146, dead, dead, dead, dead, dead, dead]) (fun r => own (oL pInt) r) (xi_range1 T.g_range (x_var 1) h_148) (by repeat' (first | exact WkL.nil | exact WkS.refl | exact WkS.dead | exact WkS.list | exact WkS.dict | exact WkS.lstS (fun _ => WkS.list) | refine WkL.cons ?_ ?_)) hm ?_ ?_ ?_
    · rintro B1 two_150 apart_149 out hx hm hr2 hl2
      refine ⟨_, _, (xg_name 4), ?_⟩
      show Go _ _ _ _ _ [val (pL (pL (pT2 pInt pInt))) moves_0, val pInt count_134, lstS (apart_149.map fun x => own (oL pBl) x), val pInt one_146, val pInt two_150, dead, dead, dead, dead, dead]
      obtain ⟨v_151, h_152, hm⟩ := Option.bind_eq_some_iff.mp hm
      obtain ⟨h_156, hm⟩ := guardO_some hm
      obtain ⟨ys_153, h_154, hm⟩ := Option.bind_eq_some_iff.mp hm
      obtain ⟨v_157, h_158, hm⟩ := Option.bind_eq_some_iff.mp hm
      obtain ⟨h_162, hm⟩ := guardO_some hm
      obtain ⟨ys_159, h_160, hm⟩ := Option.bind_eq_some_iff.mp hm
      obtain ⟨j_167, h_164, hm⟩ := Option.bind_eq_some_iff.mp hm
      obtain ⟨row_163, h_168, hm⟩ := Option.bind_eq_some_iff.mp hm
      obtain ⟨row_165, h_166, hm⟩ := Option.bind_eq_some_iff.mp hm
      refine go_setitem (p := pBl) (pl_ix (s := own (oL pBl) row_163) (j := j_167) (pl_name 2 (by repeat' (first | exact Stb.nil | exact trivial | exact stb_map (fun _ => trivial) _ | refine Stb.cons ?_ ?_)) (hso := lstS_some)) (xs_var 3) (by rw [List.length_map]; exact h_164) (by repeat' (first | exact Stb.nil | exact trivial | exact stb_map (fun _ => trivial) _ | refine Stb.cons ?_ ?_)) (by rw [List.getElem?_map, h_168]; rfl) own_some) (x_var 4) (x_cmp (c_neD _) (o_neD (DE.list DE.int) (by decide) (LV.vw LV.own) (LV.vw LV.own) (fun _ _ => trivial) (fun _ _ => trivial)) (nomark _) (x_lc (rs := val (pT2 pInt pInt)) (own := [("move", 9)]) (xi_list (x_ix (x_var 0) LV.val.sv (x_var 3) h_152)).ro ⟨fun _ => blkOk_by (N := N__law_alike) (sc := defScope s__law_alike) (by decide +kernel), fun _ _ => rfl⟩ h_156 h_154 ⟨rfl, trivial⟩ (fun move_155 o hx hm => by skip; cases hm; exact ⟨_, _, rfl, (xg_name 9), lc_el (x_snd (x_var (z := move_155) 9) x_int)⟩)) (x_lc (rs := val (pT2 pInt pInt)) (own := [("move", 9)]) (xi_list (x_ix (x_var 0) LV.val.sv (x_var 4) h_158)).ro ⟨fun _ => blkOk_by (N := N__law_alike) (sc := defScope s__law_alike) (by decide +kernel), fun _ _ => rfl⟩ h_162 h_160 ⟨rfl, trivial⟩ (fun move_161 o hx hm => by skip; cases hm; exact ⟨_, _, rfl, (xg_name 9), lc_el (x_snd (x_var (z := move_161) 9) x_int)⟩))) h_166 ?_
      rw [← List.map_set (f := fun x => own (oL pBl) x)]
      show Go _ _ _ _ _ [val (pL (pL (pT2 pInt pInt))) moves_0, val pInt count_134, lstS (((apart_149).set j_167 row_165).map fun x => own (oL pBl) x), val pInt one_146, val pInt two_150, dead, dead, dead, dead, dead]
      cases hm
      exact go_nil (fun σ H h => ⟨_, rfl, h.wk (by repeat' (first | exact WkL.nil | exact WkS.refl | exact WkS.dead | exact WkS.list | exact WkS.dict | exact WkS.lstS (fun _ => WkS.list) | refine WkL.cons ?_ ?_))⟩)
    · rintro apart_149 hm
      show Go _ _ _ _ _ [val (pL (pL (pT2 pInt pInt))) moves_0, val pInt count_134, lstS (apart_149.map fun x => own (oL pBl) x), val pInt one_146, dead, dead, dead, dead, dead, dead]
      cases hm
      exact go_nil (fun σ H h => ⟨_, rfl, h.wk (by repeat' (first | exact WkL.nil | exact WkS.refl | exact WkS.dead | exact WkS.list | exact WkS.dict | exact WkS.lstS (fun _ => WkS.list) | refine WkL.cons ?_ ?_))⟩)
    · rintro r hm v H h
      cases hm
  · rintro apart_145 hm
    show Go _ _ _ _ _ [val (pL (pL (pT2 pInt pInt))) moves_0, val pInt count_134, lstS (apart_145.map fun x => own (oL pBl) x), dead, dead, dead, dead, dead, dead, dead]
    obtain ⟨h_170, hm⟩ := guardO_some hm
    refine go_forK (rs := val pInt) (fun s => [val (pL (pL (pT2 pInt pInt))) moves_0, val pInt count_134, lstS (s.map fun x => own (oL pBl) x), dead, dead, dead, dead, dead, dead, dead]) (fun r => own (oL pInt) r) (xi_range1 T.g_range (x_var 1) h_170) (by repeat' (first | exact WkL.nil | exact WkS.refl | exact WkS.dead | exact WkS.list | exact WkS.dict | exact WkS.lstS (fun _ => WkS.list) | refine WkL.cons ?_ ?_)) hm ?_ ?_ ?_
    · rintro B1 turn_172 apart_171 out hx hm hr1 hl1
      refine ⟨_, _, (xg_name 5), ?_⟩
      show Go _ _ _ _ _ [val (pL (pL (pT2 pInt pInt))) moves_0, val pInt count_134, lstS (apart_171.map fun x => own (oL pBl) x), dead, dead, val pInt turn_172, dead, dead, dead, dead]
      refine go_set 6 x_bl ?_
      show Go _ _ _ _ _ [val (pL (pL (pT2 pInt pInt))) moves_0, val pInt count_134, lstS (apart_171.map fun x => own (oL pBl) x), dead, dead, val pInt turn_172, val pBl false, dead, dead, dead]
      obtain ⟨h_174, hm⟩ := guardO_some hm
      refine go_forK (rs := val pInt) (fun s => [val (pL (pL (pT2 pInt pInt))) moves_0, val pInt count_134, lstS (s.1.map fun x => own (oL pBl) x), dead, dead, val pInt turn_172, val pBl s.2, dead, dead, dead]) (fun r => own (oL pInt) r) (xi_range1 T.g_range (x_var 1) h_174) (by repeat' (first | exact WkL.nil | exact WkS.refl | exact WkS.dead | exact WkS.list | exact WkS.dict | exact WkS.lstS (fun _ => WkS.list) | refine WkL.cons ?_ ?_)) hm ?_ ?_ ?_
      · rintro B1 one_177 s out hx hm hr2 hl2
        obtain ⟨apart_175, changed_176⟩ := s
        refine ⟨_, _, (xg_name 3), ?_⟩
        show Go _ _ _ _ _ [val (pL (pL (pT2 pInt pInt))) moves_0, val pInt count_134, lstS (apart_175.map fun x => own (oL pBl) x), val pInt one_177, dead, val pInt turn_172, val pBl changed_176, dead, dead, dead]
        obtain ⟨h_179, hm⟩ := guardO_some hm
        refine go_forK (rs := val pInt) (fun s => [val (pL (pL (pT2 pInt pInt))) moves_0, val pInt count_134, lstS (s.1.map fun x => own (oL pBl) x), val pInt one_177, dead, val pInt turn_172, val pBl s.2, dead, dead, dead]) (fun r => own (oL pInt) r) (xi_range1 T.g_range (x_var 3) h_179) (by repeat' (first | exact WkL.nil | exact WkS.refl | exact WkS.dead | exact WkS.list | exact WkS.dict | exact WkS.lstS (fun _ => WkS.list) | refine WkL.cons ?_ ?_)) hm ?_ ?_ ?_
        · rintro B1 two_182 s out hx hm hr3 hl3
          obtain ⟨apart_180, changed_181⟩ := s
          refine ⟨_, _, (xg_name 4), ?_⟩
          show Go _ _ _ _ _ [val (pL (pL (pT2 pInt pInt))) moves_0, val pInt count_134, lstS (apart_180.map fun x => own (oL pBl) x), val pInt one_177, val pInt two_182, val pInt turn_172, val pBl changed_181, dead, dead, dead]
          obtain ⟨v_183, h_184, hm⟩ := Option.bind_eq_some_iff.mp hm
          obtain ⟨v_185, h_186, hm⟩ := Option.bind_eq_some_iff.mp hm
          refine go_if (xt_not (xt_val (XV.flat (x_ixB (x_ixB (x_look 2 (Vw.lstS fun _ => LV.vw LV.own)) (x_var 3) h_184) (x_var 4) h_186) Flat.bl)) rfl) (fun hz => ?_) (fun hz => ?_)
          · have hm := condT hz hm
            obtain ⟨v_187, h_188, hm⟩ := Option.bind_eq_some_iff.mp hm
            obtain ⟨h_190, hm⟩ := guardO_some hm
            refine go_forK (rs := val pInt) (fun s => [val (pL (pL (pT2 pInt pInt))) moves_0, val pInt count_134, lstS (s.1.map fun x => own (oL pBl) x), val pInt one_177, val pInt two_182, val pInt turn_172, val pBl s.2, dead, dead, dead]) (fun r => own (oL pInt) r) (xi_range1 T.g_range (x_callB (c_len _) T.g_len (by decide +kernel) (o_lenL LV.val.sv) (xa1 (x_ix (x_var 0) LV.val.sv (x_var 3) h_188))) h_190) (by repeat' (first | exact WkL.nil | exact WkS.refl | exact WkS.dead | exact WkS.list | exact WkS.dict | exact WkS.lstS (fun _ => WkS.list) | refine WkL.cons ?_ ?_)) hm ?_ ?_ ?_
            · rintro B1 r_193 s out hx hm hr4 hl4
              obtain ⟨apart_191, changed_192⟩ := s
              refine ⟨_, _, (xg_name 7), ?_⟩
              show Go _ _ _ _ _ [val (pL (pL (pT2 pInt pInt))) moves_0, val pInt count_134, lstS (apart_191.map fun x => own (oL pBl) x), val pInt one_177, val pInt two_182, val pInt turn_172, val pBl changed_192, val pInt r_193, dead, dead]
              obtain ⟨v_194, h_195, hm⟩ := Option.bind_eq_some_iff.mp hm
              obtain ⟨v_196, h_197, hm⟩ := Option.bind_eq_some_iff.mp hm
              obtain ⟨v_198, h_199, hm⟩ := Option.bind_eq_some_iff.mp hm
              obtain ⟨v_200, h_201, hm⟩ := Option.bind_eq_some_iff.mp hm
              obtain ⟨v_202, h_203, hm⟩ := Option.bind_eq_some_iff.mp hm
              obtain ⟨v_204, h_205, hm⟩ := Option.bind_eq_some_iff.mp hm
              refine go_if (xt_val (XV.flat (x_ixB (x_ixB (x_look 2 (Vw.lstS fun _ => LV.vw LV.own)) (x_fst (x_ix (x_ix (x_var 0) LV.val.sv (x_var 3) h_195) LV.val.sv (x_var 7) h_197) x_int) h_199) (x_fst (x_ix (x_ix (x_var 0) LV.val.sv (x_var 4) h_201) LV.val.sv (x_var 7) h_203) x_int) h_205) Flat.bl)) (fun hz => ?_) (fun hz => ?_)
              · have hm := condT hz hm
                obtain ⟨j_210, h_207, hm⟩ := Option.bind_eq_some_iff.mp hm
                obtain ⟨row_206, h_211, hm⟩ := Option.bind_eq_some_iff.mp hm
                obtain ⟨row_208, h_209, hm⟩ := Option.bind_eq_some_iff.mp hm
                refine go_setitem (p := pBl) (pl_ix (s := own (oL pBl) row_206) (j := j_210) (pl_name 2 (by repeat' (first | exact Stb.nil | exact trivial | exact stb_map (fun _ => trivial) _ | refine Stb.cons ?_ ?_)) (hso := lstS_some)) (xs_var 3) (by rw [List.length_map]; exact h_207) (by repeat' (first | exact Stb.nil | exact trivial | exact stb_map (fun _ => trivial) _ | refine Stb.cons ?_ ?_)) (by rw [List.getElem?_map, h_211]; rfl) own_some) (x_var 4) x_bl h_209 ?_
                rw [← List.map_set (f := fun x => own (oL pBl) x)]
                show Go _ _ _ _ _ [val (pL (pL (pT2 pInt pInt))) moves_0, val pInt count_134, lstS (((apart_191).set j_210 row_208).map fun x => own (oL pBl) x), val pInt one_177, val pInt two_182, val pInt turn_172, val pBl changed_192, val pInt r_193, dead, dead]
                obtain ⟨j_216, h_213, hm⟩ := Option.bind_eq_some_iff.mp hm
                obtain ⟨row_212, h_217, hm⟩ := Option.bind_eq_some_iff.mp hm
                obtain ⟨row_214, h_215, hm⟩ := Option.bind_eq_some_iff.mp hm
                refine go_setitem (p := pBl) (pl_ix (s := own (oL pBl) row_212) (j := j_216) (pl_name 2 (by repeat' (first | exact Stb.nil | exact trivial | exact stb_map (fun _ => trivial) _ | refine Stb.cons ?_ ?_)) (hso := lstS_some)) (xs_var 4) (by rw [List.length_map]; exact h_213) (by repeat' (first | exact Stb.nil | exact trivial | exact stb_map (fun _ => trivial) _ | refine Stb.cons ?_ ?_)) (by rw [List.getElem?_map, h_217]; rfl) own_some) (x_var 3) x_bl h_215 ?_
                rw [← List.map_set (f := fun x => own (oL pBl) x)]
                show Go _ _ _ _ _ [val (pL (pL (pT2 pInt pInt))) moves_0, val pInt count_134, lstS (((((apart_191).set j_210 row_208)).set j_216 row_214).map fun x => own (oL pBl) x), val pInt one_177, val pInt two_182, val pInt turn_172, val pBl changed_192, val pInt r_193, dead, dead]
                refine go_set 6 x_bl ?_
                show Go _ _ _ _ _ [val (pL (pL (pT2 pInt pInt))) moves_0, val pInt count_134, lstS (((((apart_191).set j_210 row_208)).set j_216 row_214).map fun x => own (oL pBl) x), val pInt one_177, val pInt two_182, val pInt turn_172, val pBl true, val pInt r_193, dead, dead]
                cases hm
                exact go_break (fun σ H h => ⟨_, rfl, h.wk (by repeat' (first | exact WkL.nil | exact WkS.refl | exact WkS.dead | exact WkS.list | exact WkS.dict | exact WkS.lstS (fun _ => WkS.list) | refine WkL.cons ?_ ?_))⟩)
              · have hm := condF hz hm
                refine go_join ?_
                cases hm
                exact go_nil (fun σ H h => ⟨_, rfl, h.wk (by repeat' (first | exact WkL.nil | exact WkS.refl | exact WkS.dead | exact WkS.list | exact WkS.dict | exact WkS.lstS (fun _ => WkS.list) | refine WkL.cons ?_ ?_))⟩)
            · rintro s hm
              obtain ⟨apart_191, changed_192⟩ := s
              show Go _ _ _ _ _ [val (pL (pL (pT2 pInt pInt))) moves_0, val pInt count_134, lstS (apart_191.map fun x => own (oL pBl) x), val pInt one_177, val pInt two_182, val pInt turn_172, val pBl changed_192, dead, dead, dead]
              refine go_join ?_
              cases hm
              exact go_nil (fun σ H h => ⟨_, rfl, h.wk (by repeat' (first | exact WkL.nil | exact WkS.refl | exact WkS.dead | exact WkS.list | exact WkS.dict | exact WkS.lstS (fun _ => WkS.list) | refine WkL.cons ?_ ?_))⟩)
            · rintro r hm v H h
              cases hm
          · have hm := condF hz hm
            refine go_join ?_
            cases hm
            exact go_nil (fun σ H h => ⟨_, rfl, h.wk (by repeat' (first | exact WkL.nil | exact WkS.refl | exact WkS.dead | exact WkS.list | exact WkS.dict | exact WkS.lstS (fun _ => WkS.list) | refine WkL.cons ?_ ?_))⟩)
        · rintro s hm
          obtain ⟨apart_180, changed_181⟩ := s
          show Go _ _ _ _ _ [val (pL (pL (pT2 pInt pInt))) moves_0, val pInt count_134, lstS (apart_180.map fun x => own (oL pBl) x), val pInt one_177, dead, val pInt turn_172, val pBl changed_181, dead, dead, dead]
          cases hm
          exact go_nil (fun σ H h => ⟨_, rfl, h.wk (by repeat' (first | exact WkL.nil | exact WkS.refl | exact WkS.dead | exact WkS.list | exact WkS.dict | exact WkS.lstS (fun _ => WkS.list) | refine WkL.cons ?_ ?_))⟩)
        · rintro r hm v H h
          cases hm
      · rintro s hm
        obtain ⟨apart_175, changed_176⟩ := s
        show Go _ _ _ _ _ [val (pL (pL (pT2 pInt pInt))) moves_0, val pInt count_134, lstS (apart_175.map fun x => own (oL pBl) x), dead, dead, val pInt turn_172, val pBl changed_176, dead, dead, dead]
        refine go_if (xt_not (xt_val (x_var 6)) rfl) (fun hz => ?_) (fun hz => ?_)
        · have hm := condT hz hm
          cases hm
          exact go_break (fun σ H h => ⟨_, rfl, h.wk (by repeat' (first | exact WkL.nil | exact WkS.refl | exact WkS.dead | exact WkS.list | exact WkS.dict | exact WkS.lstS (fun _ => WkS.list) | refine WkL.cons ?_ ?_))⟩)
        · have hm := condF hz hm
          refine go_join ?_
          cases hm
          exact go_nil (fun σ H h => ⟨_, rfl, h.wk (by repeat' (first | exact WkL.nil | exact WkS.refl | exact WkS.dead | exact WkS.list | exact WkS.dict | exact WkS.lstS (fun _ => WkS.list) | refine WkL.cons ?_ ?_))⟩)
      · rintro r hm v H h
        cases hm
    · rintro apart_171 hm
      show Go _ _ _ _ _ [val (pL (pL (pT2 pInt pInt))) moves_0, val pInt count_134, lstS (apart_171.map fun x => own (oL pBl) x), dead, dead, dead, dead, dead, dead, dead]
      obtain ⟨h_219, hm⟩ := guardO_some hm
      obtain ⟨h_235, hm⟩ := guardO_some hm
      obtain ⟨ys_220, h_221, hm⟩ := Option.bind_eq_some_iff.mp hm
      cases hm
      exact go_ret (x_lc (rs := val pInt) (own := [("one", 3)]) (xi_range1 T.g_range (x_var 1) h_219).ro ⟨fun _ => blkOk_by (N := N__law_alike) (sc := defScope s__law_alike) (by decide +kernel), fun _ _ => rfl⟩ h_235 h_221 ⟨rfl, trivial⟩ (fun one_222 o hx hm => by obtain ⟨h_224, hm⟩ := guardO_some hm; obtain ⟨h_232, hm⟩ := guardO_some hm; obtain ⟨ys_225, h_226, hm⟩ := Option.bind_eq_some_iff.mp hm; obtain ⟨v_233, h_234, hm⟩ := Option.bind_eq_some_iff.mp hm; cases hm; exact ⟨_, _, rfl, (xg_name 3), lc_el (x_ix (x_lc (rs := val pInt) (own := [("two", 4)]) (xi_range1 T.g_range (x_var 1) h_224).ro ⟨fun _ => blkOk_by (N := N__law_alike) (by kernel_rfl), fun _ _ => rfl⟩ h_232 h_226 ⟨rfl, trivial⟩ (fun two_227 o hx hm => by obtain ⟨v_228, h_229, hm⟩ := Option.bind_eq_some_iff.mp hm; obtain ⟨v_230, h_231, hm⟩ := Option.bind_eq_some_iff.mp hm; refine ⟨_, _, rfl, (xg_name 4), lc_if (xt_not (xt_val (XV.flat (x_ixB (x_ixB (x_look 2 (Vw.lstS fun _ => LV.vw LV.own)) (x_var 3) h_229) (x_var 4) h_231) Flat.bl)) rfl) hm (fun hm => ?_)⟩; skip; cases hm; exact ⟨_, rfl, (x_var 4)⟩)) LV.own.sv x_int h_234)⟩)) (fun v H h => h)
    · rintro r hm v H h
      cases hm
  · rintro r hm v H h
    cases hm

theorem ok__law_least (T : Txt P K mg) : FnOk P w K mg base CX0 2 T.f__law_least T.d__law_least ["moves"] (spP (fun (z : (List (List ((Int) × (Int))))) => [val (pL (pL (pT2 pInt pInt))) z]) (fun z => m__law_least z) (fun r => own (oL (pL (pT2 pInt pInt))) r)) := by
  refine fn_pure T.F__law_least sc__law_least (fun _ => rfl) (fun cdv A outer s H E hr moves_0 r B hm => ?_)
  replace hm : m__law_least moves_0 = some r := hm
  unfold m__law_least at hm
  show Go _ _ _ _ _ [val (pL (pL (pT2 pInt pInt))) moves_0, dead, dead, dead, dead, dead, dead, dead]
  obtain ⟨r_236, h_237, hm⟩ := Option.bind_eq_some_iff.mp hm
  refine go_set 1 (x_call (z := moves_0) (ok__law_alike T) (by decide) T.g__law_alike T.k__law_alike T.b__law_alike (xa_cons (x_var 0) xa_nil) rfl (by repeat' (first | exact trivial | refine ⟨no_val, ?_⟩ | refine ⟨no_borL, ?_⟩ | refine ⟨no_bor, ?_⟩)) h_237) ?_
  show Go _ _ _ _ _ [val (pL (pL (pT2 pInt pInt))) moves_0, own (oL pInt) r_236, dead, dead, dead, dead, dead, dead]
  refine go_set 2 (x_lst (xs := [(0 : Int)]) (xa_cons x_int xa_nil) (le_line rfl)) ?_
  show Go _ _ _ _ _ [val (pL (pL (pT2 pInt pInt))) moves_0, own (oL pInt) r_236, own (oL pInt) ([(0 : Int)]), dead, dead, dead, dead, dead]
  refine go_set 3 (x_lst (p := (pL (pT2 pInt pInt))) (xs := []) xa_nil (Nat.zero_le _)) ?_
  show Go _ _ _ _ _ [val (pL (pL (pT2 pInt pInt))) moves_0, own (oL pInt) r_236, own (oL pInt) ([(0 : Int)]), own (oL (pL (pT2 pInt pInt))) ([] : List (List ((Int) × (Int)))), dead, dead, dead, dead]
  obtain ⟨h_239, hm⟩ := guardO_some hm
  refine go_forK (rs := val pInt) (fun s => [val (pL (pL (pT2 pInt pInt))) moves_0, own (oL pInt) r_236, own (oL pInt) s.1, own (oL (pL (pT2 pInt pInt))) s.2, dead, dead, dead, dead]) (fun r => own (oL (pL (pT2 pInt pInt))) r) (xi_range1 T.g_range (x_callB (c_len _) T.g_len (by decide +kernel) (o_lenL LV.val.sv) (xa1 (x_var 0))) h_239) (by repeat' (first | exact WkL.nil | exact WkS.refl | exact WkS.dead | exact WkS.list | exact WkS.dict | exact WkS.lstS (fun _ => WkS.list) | refine WkL.cons ?_ ?_)) hm ?_ ?_ ?_
  · rintro B1 turn_242 s out hx hm hr1 hl1
    obtain ⟨states_240, found_241⟩ := s
    refine ⟨_, _, (xg_name 4), ?_⟩
    show Go _ _ _ _ _ [val (pL (pL (pT2 pInt pInt))) moves_0, own (oL pInt) r_236, own (oL pInt) states_240, own (oL (pL (pT2 pInt pInt))) found_241, val pInt turn_242, dead, dead, dead]
    refine go_if (xt_cmp (fun _ => op_eq) o_eqI (nomark _) (x_var 4) (x_callB (c_len _) T.g_len (by decide +kernel) (o_lenL LV.bor.sv) (xa1 (x_varL 2)))) (fun hz => ?_) (fun hz => ?_)
    · have hm := condT hz hm
      cases hm
      exact go_break (fun σ H h => ⟨_, rfl, h.wk (by repeat' (first | exact WkL.nil | exact WkS.refl | exact WkS.dead | exact WkS.list | exact WkS.dict | exact WkS.lstS (fun _ => WkS.list) | refine WkL.cons ?_ ?_))⟩)
    · have hm := condF hz hm
      refine go_join ?_
      refine go_set 5 (x_lst (p := (pT2 pInt pInt)) (xs := []) xa_nil (Nat.zero_le _)) ?_
      show Go _ _ _ _ _ [val (pL (pL (pT2 pInt pInt))) moves_0, own (oL pInt) r_236, own (oL pInt) states_240, own (oL (pL (pT2 pInt pInt))) found_241, val pInt turn_242, own (oL (pT2 pInt pInt)) ([] : List ((Int) × (Int))), dead, dead]
      obtain ⟨v_243, h_244, hm⟩ := Option.bind_eq_some_iff.mp hm
      obtain ⟨v_245, h_246, hm⟩ := Option.bind_eq_some_iff.mp hm
      refine go_forK (rs := val (pT2 pInt pInt)) (fun s => [val (pL (pL (pT2 pInt pInt))) moves_0, own (oL pInt) r_236, own (oL pInt) s.1, own (oL (pL (pT2 pInt pInt))) found_241, val pInt turn_242, own (oL (pT2 pInt pInt)) s.2, dead, dead]) (fun r => own (oL (pL (pT2 pInt pInt))) r) (xi_list (x_ix (x_var 0) LV.val.sv (x_ix (x_varL 2) LV.bor.sv (x_var 4) h_244) h_246)) (by repeat' (first | exact WkL.nil | exact WkS.refl | exact WkS.dead | exact WkS.list | exact WkS.dict | exact WkS.lstS (fun _ => WkS.list) | refine WkL.cons ?_ ?_)) hm ?_ ?_ ?_
      · rintro B1 p_249 s out hx hm hr2 hl2
        obtain ⟨states_247, entry_248⟩ := s
        refine ⟨_, _, (xg_tup2 (xgs_cons (xg_name 6) (xgs_cons (xg_name 7) xgs_nil))), ?_⟩
        show Go _ _ _ _ _ [val (pL (pL (pT2 pInt pInt))) moves_0, own (oL pInt) r_236, own (oL pInt) states_247, own (oL (pL (pT2 pInt pInt))) found_241, val pInt turn_242, own (oL (pT2 pInt pInt)) entry_248, val pInt p_249.1, val pInt p_249.2]
        obtain ⟨v_250, h_251, hm⟩ := Option.bind_eq_some_iff.mp hm
        obtain ⟨states_252, hj_256, hm⟩ := Option.bind_eq_some_iff.mp hm
        refine go_ifJ [val (pL (pL (pT2 pInt pInt))) moves_0, own (oL pInt) r_236, own (oL pInt) states_252, own (oL (pL (pT2 pInt pInt))) found_241, val pInt turn_242, own (oL (pT2 pInt pInt)) entry_248, val pInt p_249.1, val pInt p_249.2] (xt_cmp (c_nin _) (o_ninL Eqv.int LV.bor.sv) (by with_unfolding_all rfl) (x_ix (x_varL 1) LV.bor.sv (x_var 6) h_251) (x_varL 2)) (fun hz => ?_) (fun hz => ?_) ?_
        · have hm := condT hz hj_256
          obtain ⟨v_253, h_254, hm⟩ := Option.bind_eq_some_iff.mp hm
          obtain ⟨h_255, hm⟩ := guardO_some hm
          refine go_append (pl_name 2 (by repeat' (first | exact Stb.nil | exact trivial | exact stb_map (fun _ => trivial) _ | refine Stb.cons ?_ ?_)) (hso := own_some)) (x_ix (x_varL 1) LV.bor.sv (x_var 6) h_254) h_255 ?_
          show Go _ _ _ _ _ [val (pL (pL (pT2 pInt pInt))) moves_0, own (oL pInt) r_236, own (oL pInt) (states_247 ++ [v_253]), own (oL (pL (pT2 pInt pInt))) found_241, val pInt turn_242, own (oL (pT2 pInt pInt)) entry_248, val pInt p_249.1, val pInt p_249.2]
          cases hm
          exact go_nx (by repeat' (first | exact WkL.nil | exact WkS.refl | exact WkS.dead | exact WkS.list | exact WkS.dict | exact WkS.lstS (fun _ => WkS.list) | refine WkL.cons ?_ ?_))
        · have hm := condF hz hj_256
          cases hm
          exact go_nx (by repeat' (first | exact WkL.nil | exact WkS.refl | exact WkS.dead | exact WkS.list | exact WkS.dict | exact WkS.lstS (fun _ => WkS.list) | refine WkL.cons ?_ ?_))
        obtain ⟨v_258, h_259, hm⟩ := Option.bind_eq_some_iff.mp hm
        obtain ⟨i_260, h_261, hm⟩ := Option.bind_eq_some_iff.mp hm
        obtain ⟨h_262, hm⟩ := guardO_some hm
        refine go_append (pl_name 5 (by repeat' (first | exact Stb.nil | exact trivial | exact stb_map (fun _ => trivial) _ | refine Stb.cons ?_ ?_)) (hso := own_some)) (x_tup2 (xa_cons (x_indexI (x_varL 2) LV.bor.sv (x_ix (x_varL 1) LV.bor.sv (x_var 6) h_259) h_261) (xa_cons (x_var 7) xa_nil))) h_262 ?_
        show Go _ _ _ _ _ [val (pL (pL (pT2 pInt pInt))) moves_0, own (oL pInt) r_236, own (oL pInt) states_252, own (oL (pL (pT2 pInt pInt))) found_241, val pInt turn_242, own (oL (pT2 pInt pInt)) (entry_248 ++ [((i_260 : Int), p_249.2)]), val pInt p_249.1, val pInt p_249.2]
        cases hm
        exact go_nil (fun σ H h => ⟨_, rfl, h.wk (by repeat' (first | exact WkL.nil | exact WkS.refl | exact WkS.dead | exact WkS.list | exact WkS.dict | exact WkS.lstS (fun _ => WkS.list) | refine WkL.cons ?_ ?_))⟩)
      · rintro s hm
        obtain ⟨states_247, entry_248⟩ := s
        show Go _ _ _ _ _ [val (pL (pL (pT2 pInt pInt))) moves_0, own (oL pInt) r_236, own (oL pInt) states_247, own (oL (pL (pT2 pInt pInt))) found_241, val pInt turn_242, own (oL (pT2 pInt pInt)) entry_248, dead, dead]
        refine go_wk (Γ' := [val (pL (pL (pT2 pInt pInt))) moves_0, own (oL pInt) r_236, own (oL pInt) states_247, own (oL (pL (pT2 pInt pInt))) found_241, val pInt turn_242, val (pL (pT2 pInt pInt)) entry_248, dead, dead]) ?_ (WkL.at (j := 5) WkS.list rfl)
        obtain ⟨h_263, hm⟩ := guardO_some hm
        refine go_append (pl_name 3 (by repeat' (first | exact Stb.nil | exact trivial | exact stb_map (fun _ => trivial) _ | refine Stb.cons ?_ ?_)) (hso := own_some)) (x_var 5) h_263 ?_
        show Go _ _ _ _ _ [val (pL (pL (pT2 pInt pInt))) moves_0, own (oL pInt) r_236, own (oL pInt) states_247, own (oL (pL (pT2 pInt pInt))) (found_241 ++ [entry_248]), val pInt turn_242, val (pL (pT2 pInt pInt)) entry_248, dead, dead]
        cases hm
        exact go_nil (fun σ H h => ⟨_, rfl, h.wk (by repeat' (first | exact WkL.nil | exact WkS.refl | exact WkS.dead | exact WkS.list | exact WkS.dict | exact WkS.lstS (fun _ => WkS.list) | refine WkL.cons ?_ ?_))⟩)
      · rintro r hm v H h
        cases hm
  · rintro s hm
    obtain ⟨states_240, found_241⟩ := s
    show Go _ _ _ _ _ [val (pL (pL (pT2 pInt pInt))) moves_0, own (oL pInt) r_236, own (oL pInt) states_240, own (oL (pL (pT2 pInt pInt))) found_241, dead, dead, dead, dead]
    cases hm
    exact go_retV 3 rfl own_some (fun v H h => h)
  · rintro r hm v H h
    cases hm

theorem ok__law_blown (T : Txt P K mg) : FnOk P w K mg base CX0 2 T.f__law_blown T.d__law_blown ["script", "at", "moves", "copies"] (spP (fun (z : (List Int) × (Int) × (List (List ((Int) × (Int)))) × (Int)) => [val (pScr K) z.1, val pInt z.2.1, val (pL (pL (pT2 pInt pInt))) z.2.2.1, val pInt z.2.2.2]) (fun z => m__law_blown z.1 z.2.1 z.2.2.1 z.2.2.2) (fun r => own (oL (pL (pT2 pInt pInt))) r)) := by
  refine fn_pure T.F__law_blown sc__law_blown (fun _ => rfl) (fun cdv A outer s H E hr z r B hm => ?_)
  obtain ⟨script_0, at_0, moves_0, copies_0⟩ := z
  replace hm : m__law_blown script_0 at_0 moves_0 copies_0 = some r := hm
  unfold m__law_blown at hm
  show Go _ _ _ _ _ [val (pScr K) script_0, val pInt at_0, val (pL (pL (pT2 pInt pInt))) moves_0, val pInt copies_0, dead, dead, dead, dead, dead, dead, dead]
  obtain ⟨count_264, h_265, hm⟩ := letO_some hm
  refine go_set 4 (XV.eqV (x_callB (c_len _) T.g_len (by decide +kernel) (o_lenL LV.val.sv) (xa1 (x_var 2))) h_265) ?_
  show Go _ _ _ _ _ [val (pScr K) script_0, val pInt at_0, val (pL (pL (pT2 pInt pInt))) moves_0, val pInt copies_0, val pInt count_264, dead, dead, dead, dead, dead, dead]
  refine go_set 5 (x_lst (p := (pL (pT2 pInt pInt))) (xs := []) xa_nil (Nat.zero_le _)) ?_
  show Go _ _ _ _ _ [val (pScr K) script_0, val pInt at_0, val (pL (pL (pT2 pInt pInt))) moves_0, val pInt copies_0, val pInt count_264, own (oL (pL (pT2 pInt pInt))) ([] : List (List ((Int) × (Int)))), dead, dead, dead, dead, dead]
  obtain ⟨h_267, hm⟩ := guardO_some hm
  refine go_forK (rs := val pInt) (fun s => [val (pScr K) script_0, val pInt at_0, val (pL (pL (pT2 pInt pInt))) moves_0, val pInt copies_0, val pInt count_264, own (oL (pL (pT2 pInt pInt))) s, dead, dead, dead, dead, dead]) (fun r => own (oL (pL (pT2 pInt pInt))) r) (xi_range1 T.g_range (x_var 3) h_267) (by repeat' (first | exact WkL.nil | exact WkS.refl | exact WkS.dead | exact WkS.list | exact WkS.dict | exact WkS.lstS (fun _ => WkS.list) | refine WkL.cons ?_ ?_)) hm ?_ ?_ ?_
  · rintro B1 c_269 found_268 out hx hm hr1 hl1
    refine ⟨_, _, (xg_name 6), ?_⟩
    show Go _ _ _ _ _ [val (pScr K) script_0, val pInt at_0, val (pL (pL (pT2 pInt pInt))) moves_0, val pInt copies_0, val pInt count_264, own (oL (pL (pT2 pInt pInt))) found_268, val pInt c_269, dead, dead, dead, dead]
    obtain ⟨h_271, hm⟩ := guardO_some hm
    refine go_forK (rs := val pInt) (fun s => [val (pScr K) script_0, val pInt at_0, val (pL (pL (pT2 pInt pInt))) moves_0, val pInt copies_0, val pInt count_264, own (oL (pL (pT2 pInt pInt))) s, val pInt c_269, dead, dead, dead, dead]) (fun r => own (oL (pL (pT2 pInt pInt))) r) (xi_range1 T.g_range (x_var 4) h_271) (by repeat' (first | exact WkL.nil | exact WkS.refl | exact WkS.dead | exact WkS.list | exact WkS.dict | exact WkS.lstS (fun _ => WkS.list) | refine WkL.cons ?_ ?_)) hm ?_ ?_ ?_
    · rintro B1 s_273 found_272 out hx hm hr2 hl2
      refine ⟨_, _, (xg_name 7), ?_⟩
      show Go _ _ _ _ _ [val (pScr K) script_0, val pInt at_0, val (pL (pL (pT2 pInt pInt))) moves_0, val pInt copies_0, val pInt count_264, own (oL (pL (pT2 pInt pInt))) found_272, val pInt c_269, val pInt s_273, dead, dead, dead]
      refine go_set 8 (x_lst (p := (pT2 pInt pInt)) (xs := []) xa_nil (Nat.zero_le _)) ?_
      show Go _ _ _ _ _ [val (pScr K) script_0, val pInt at_0, val (pL (pL (pT2 pInt pInt))) moves_0, val pInt copies_0, val pInt count_264, own (oL (pL (pT2 pInt pInt))) found_272, val pInt c_269, val pInt s_273, own (oL (pT2 pInt pInt)) ([] : List ((Int) × (Int))), dead, dead]
      obtain ⟨v_274, h_275, hm⟩ := Option.bind_eq_some_iff.mp hm
      obtain ⟨h_277, hm⟩ := guardO_some hm
      refine go_forK (rs := val pInt) (fun s => [val (pScr K) script_0, val pInt at_0, val (pL (pL (pT2 pInt pInt))) moves_0, val pInt copies_0, val pInt count_264, own (oL (pL (pT2 pInt pInt))) found_272, val pInt c_269, val pInt s_273, own (oL (pT2 pInt pInt)) s, dead, dead]) (fun r => own (oL (pL (pT2 pInt pInt))) r) (xi_range1 T.g_range (x_callB (c_len _) T.g_len (by decide +kernel) (o_lenL LV.val.sv) (xa1 (x_ix (x_var 2) LV.val.sv (x_var 7) h_275))) h_277) (by repeat' (first | exact WkL.nil | exact WkS.refl | exact WkS.dead | exact WkS.list | exact WkS.dict | exact WkS.lstS (fun _ => WkS.list) | refine WkL.cons ?_ ?_)) hm ?_ ?_ ?_
      · rintro B1 r_279 entry_278 out hx hm hr3 hl3
        refine ⟨_, _, (xg_name 9), ?_⟩
        show Go _ _ _ _ _ [val (pScr K) script_0, val pInt at_0, val (pL (pL (pT2 pInt pInt))) moves_0, val pInt copies_0, val pInt count_264, own (oL (pL (pT2 pInt pInt))) found_272, val pInt c_269, val pInt s_273, own (oL (pT2 pInt pInt)) entry_278, val pInt r_279, dead]
        obtain ⟨r_280, h_281, hm⟩ := Option.bind_eq_some_iff.mp hm
        obtain ⟨h_282, hm⟩ := guardO_some hm
        obtain ⟨cell_283, h_284, hm⟩ := letO_some hm
        refine go_set 10 (XV.eqV (x_op (fun _ => op_fdiv) (o_intC h_282) (x_call (z := (script_0, (at_0 + c_269))) (ok__law_cell T) (by decide) T.g__law_cell T.k__law_cell T.b__law_cell (xa_cons (x_var 0) (xa_cons (x_op (fun _ => op_add) o_int (x_var 1) (x_var 6)) xa_nil)) rfl (by repeat' (first | exact trivial | refine ⟨no_val, ?_⟩ | refine ⟨no_borL, ?_⟩ | refine ⟨no_bor, ?_⟩)) h_281) (x_op (fun _ => op_add) o_int (x_op (fun _ => op_add) o_int (x_var 7) (x_var 9)) x_int)) h_284) ?_
        show Go _ _ _ _ _ [val (pScr K) script_0, val pInt at_0, val (pL (pL (pT2 pInt pInt))) moves_0, val pInt copies_0, val pInt count_264, own (oL (pL (pT2 pInt pInt))) found_272, val pInt c_269, val pInt s_273, own (oL (pT2 pInt pInt)) entry_278, val pInt r_279, val pInt cell_283]
        obtain ⟨v_285, h_286, hm⟩ := Option.bind_eq_some_iff.mp hm
        obtain ⟨v_287, h_288, hm⟩ := Option.bind_eq_some_iff.mp hm
        obtain ⟨h_289, hm⟩ := guardO_some hm
        obtain ⟨h_290, hm⟩ := guardO_some hm
        obtain ⟨v_291, h_292, hm⟩ := Option.bind_eq_some_iff.mp hm
        obtain ⟨v_293, h_294, hm⟩ := Option.bind_eq_some_iff.mp hm
        obtain ⟨h_295, hm⟩ := guardO_some hm
        refine go_append (pl_name 8 (by repeat' (first | exact Stb.nil | exact trivial | exact stb_map (fun _ => trivial) _ | refine Stb.cons ?_ ?_)) (hso := own_some)) (x_tup2 (xa_cons (x_op (fun _ => op_add) o_int (x_fst (x_ix (x_ix (x_var 2) LV.val.sv (x_var 7) h_286) LV.val.sv (x_var 9) h_288) x_int) (x_op (fun _ => op_mul) (o_intC h_290) (x_var 4) (x_op (fun _ => op_mod) (o_intC h_289) (x_callTy (fun _ => call_int1) T.g_int (by decide +kernel) o_intI (xa1 (x_var 10))) (x_var 3)))) (xa_cons (x_snd (x_ix (x_ix (x_var 2) LV.val.sv (x_var 7) h_292) LV.val.sv (x_var 9) h_294) x_int) xa_nil))) h_295 ?_
        show Go _ _ _ _ _ [val (pScr K) script_0, val pInt at_0, val (pL (pL (pT2 pInt pInt))) moves_0, val pInt copies_0, val pInt count_264, own (oL (pL (pT2 pInt pInt))) found_272, val pInt c_269, val pInt s_273, own (oL (pT2 pInt pInt)) (entry_278 ++ [((v_287.1 + (count_264 * (cell_283 % copies_0))), v_293.2)]), val pInt r_279, val pInt cell_283]
        cases hm
        exact go_nil (fun σ H h => ⟨_, rfl, h.wk (by repeat' (first | exact WkL.nil | exact WkS.refl | exact WkS.dead | exact WkS.list | exact WkS.dict | exact WkS.lstS (fun _ => WkS.list) | refine WkL.cons ?_ ?_))⟩)
      · rintro entry_278 hm
        show Go _ _ _ _ _ [val (pScr K) script_0, val pInt at_0, val (pL (pL (pT2 pInt pInt))) moves_0, val pInt copies_0, val pInt count_264, own (oL (pL (pT2 pInt pInt))) found_272, val pInt c_269, val pInt s_273, own (oL (pT2 pInt pInt)) entry_278, dead, dead]
        refine go_wk (Γ' := [val (pScr K) script_0, val pInt at_0, val (pL (pL (pT2 pInt pInt))) moves_0, val pInt copies_0, val pInt count_264, own (oL (pL (pT2 pInt pInt))) found_272, val pInt c_269, val pInt s_273, val (pL (pT2 pInt pInt)) entry_278, dead, dead]) ?_ (WkL.at (j := 8) WkS.list rfl)
        obtain ⟨h_296, hm⟩ := guardO_some hm
        refine go_append (pl_name 5 (by repeat' (first | exact Stb.nil | exact trivial | exact stb_map (fun _ => trivial) _ | refine Stb.cons ?_ ?_)) (hso := own_some)) (x_var 8) h_296 ?_
        show Go _ _ _ _ _ [val (pScr K) script_0, val pInt at_0, val (pL (pL (pT2 pInt pInt))) moves_0, val pInt copies_0, val pInt count_264, own (oL (pL (pT2 pInt pInt))) (found_272 ++ [entry_278]), val pInt c_269, val pInt s_273, val (pL (pT2 pInt pInt)) entry_278, dead, dead]
        cases hm
        exact go_nil (fun σ H h => ⟨_, rfl, h.wk (by repeat' (first | exact WkL.nil | exact WkS.refl | exact WkS.dead | exact WkS.list | exact WkS.dict | exact WkS.lstS (fun _ => WkS.list) | refine WkL.cons ?_ ?_))⟩)
      · rintro r hm v H h
        cases hm
    · rintro found_272 hm
      show Go _ _ _ _ _ [val (pScr K) script_0, val pInt at_0, val (pL (pL (pT2 pInt pInt))) moves_0, val pInt copies_0, val pInt count_264, own (oL (pL (pT2 pInt pInt))) found_272, val pInt c_269, dead, dead, dead, dead]
      cases hm
      exact go_nil (fun σ H h => ⟨_, rfl, h.wk (by repeat' (first | exact WkL.nil | exact WkS.refl | exact WkS.dead | exact WkS.list | exact WkS.dict | exact WkS.lstS (fun _ => WkS.list) | refine WkL.cons ?_ ?_))⟩)
    · rintro r hm v H h
      cases hm
  · rintro found_268 hm
    show Go _ _ _ _ _ [val (pScr K) script_0, val pInt at_0, val (pL (pL (pT2 pInt pInt))) moves_0, val pInt copies_0, val pInt count_264, own (oL (pL (pT2 pInt pInt))) found_268, dead, dead, dead, dead, dead]
    cases hm
    exact go_retV 5 rfl own_some (fun v H h => h)
  · rintro r hm v H h
    cases hm

theorem ok__law_row_of_states (T : Txt P K mg) : FnOk P w K mg base CX0 1 T.f__law_row_of_states T.d__law_row_of_states ["count"] (spP (fun (z : (Int)) => [val pInt z]) (fun z => m__law_row_of_states z) (fun r => own (oL (pL (pT2 pInt pInt))) r)) := by
  refine fn_pure T.F__law_row_of_states sc__law_row_of_states (fun _ => rfl) (fun cdv A outer s H E hr count_0 r B hm => ?_)
  replace hm : m__law_row_of_states count_0 = some r := hm
  unfold m__law_row_of_states at hm
  show Go _ _ _ _ _ [val pInt count_0, dead]
  obtain ⟨h_298, hm⟩ := guardO_some hm
  obtain ⟨h_302, hm⟩ := guardO_some hm
  obtain ⟨ys_299, h_300, hm⟩ := Option.bind_eq_some_iff.mp hm
  cases hm
  exact go_ret (x_lc (rs := val pInt) (own := [("s", 1)]) (xi_range1 T.g_range (x_var 0) h_298).ro ⟨fun _ => blkOk_by (N := N__law_row_of_states) (sc := defScope s__law_row_of_states) (by decide +kernel), fun _ _ => rfl⟩ h_302 h_300 ⟨rfl, trivial⟩ (fun s_301 o hx hm => by skip; cases hm; exact ⟨_, _, rfl, (xg_name 1), lc_el (XV.frz (x_lst (xs := [((if (count_0 - (1 : Int)) < (s_301 + (1 : Int)) then (count_0 - (1 : Int)) else (s_301 + (1 : Int))), (if decide (s_301 = (count_0 - (1 : Int))) then 1 else 0)), ((0 : Int), (0 : Int))]) (xa_cons (x_tup2 (xa_cons (x_callB (c_min2 _) T.g_min (by decide +kernel) o_min2 (xa2 (x_op (fun _ => op_add) o_int (x_var 1) x_int) (x_op (fun _ => op_sub) o_int (x_var 0) x_int))) (xa_cons (x_callTy (fun _ => call_int1) T.g_int (by decide +kernel) o_intB (xa1 (x_cmp (fun _ => op_eq) o_eqI (nomark _) (x_var 1) (x_op (fun _ => op_sub) o_int (x_var 0) x_int)))) xa_nil))) (xa_cons (x_tup2 (xa_cons x_int (xa_cons x_int xa_nil))) xa_nil)) (le_line rfl)))⟩)) (fun v H h => h)

theorem ok__law_row (T : Txt P K mg) : FnOk P w K mg base CX0 1 T.f__law_row T.d__law_row ["count", "number"] (spP (fun (z : (Int) × (Int)) => [val pInt z.1, val pInt z.2]) (fun z => m__law_row z.1 z.2) (fun r => own (oL pInt) r)) := by
  refine fn_pure T.F__law_row sc__law_row (fun _ => rfl) (fun cdv A outer s H E hr z r B hm => ?_)
  obtain ⟨count_0, number_0⟩ := z
  replace hm : m__law_row count_0 number_0 = some r := hm
  unfold m__law_row at hm
  show Go _ _ _ _ _ [val pInt count_0, val pInt number_0, dead]
  obtain ⟨h_304, hm⟩ := guardO_some hm
  obtain ⟨h_309, hm⟩ := guardO_some hm
  obtain ⟨ys_305, h_306, hm⟩ := Option.bind_eq_some_iff.mp hm
  cases hm
  exact go_ret (x_lc (rs := val pInt) (own := [("k", 2)]) (xi_range1 T.g_range (x_var 0) h_304).ro ⟨fun _ => blkOk_by (N := N__law_row) (sc := defScope s__law_row) (by decide +kernel), fun _ _ => rfl⟩ h_309 h_306 ⟨rfl, trivial⟩ (fun k_307 o hx hm => by obtain ⟨h_308, hm⟩ := guardO_some hm; cases hm; exact ⟨_, _, rfl, (xg_name 2), lc_el (x_op (fun _ => op_mod) (o_intC (by decide)) (x_callTy (fun _ => call_int1) T.g_int (by decide +kernel) o_intI (xa1 (x_op (fun _ => op_shr) (o_intC h_308) (x_var 1) (x_op (fun _ => op_sub) o_int (x_op (fun _ => op_sub) o_int (x_var 0) x_int) (x_var 2))))) x_int)⟩)) (fun v H h => h)

theorem ok_number_of (T : Txt P K mg) : FnOk P w K mg base CX0 1 T.f_number_of T.d_number_of ["bits"] (spP (fun (z : (List (Int))) => [val (pL pInt) z]) (fun z => m_number_of z) (fun r => val pInt r)) := by
  refine fn_pure T.F_number_of sc_number_of (fun _ => rfl) (fun cdv A outer s H E hr bits_0 r B hm => ?_)
  replace hm : m_number_of bits_0 = some r := hm
  unfold m_number_of at hm
  show Go _ _ _ _ _ [val (pL pInt) bits_0, dead, dead]
  refine go_set 1 x_int ?_
  show Go _ _ _ _ _ [val (pL pInt) bits_0, val pInt (0 : Int), dead]
  refine go_forK (rs := val pInt) (fun s => [val (pL pInt) bits_0, val pInt s, dead]) (fun r => val pInt r) (xi_list (x_var 0)) (by repeat' (first | exact WkL.nil | exact WkS.refl | exact WkS.dead | exact WkS.list | exact WkS.dict | exact WkS.lstS (fun _ => WkS.list) | refine WkL.cons ?_ ?_)) hm ?_ ?_ ?_
  · rintro B1 bit_311 number_310 out hx hm hr1 hl1
    refine ⟨_, _, (xg_name 2), ?_⟩
    show Go _ _ _ _ _ [val (pL pInt) bits_0, val pInt number_310, val pInt bit_311]
    obtain ⟨number_312, h_313, hm⟩ := letO_some hm
    refine go_set 1 (XV.eqV (x_op (fun _ => op_add) o_int (x_op (fun _ => op_mul) (o_intC (.inl (by decide))) x_int (x_var 1)) (x_var 2)) h_313) ?_
    show Go _ _ _ _ _ [val (pL pInt) bits_0, val pInt number_312, val pInt bit_311]
    cases hm
    exact go_nil (fun σ H h => ⟨_, rfl, h.wk (by repeat' (first | exact WkL.nil | exact WkS.refl | exact WkS.dead | exact WkS.list | exact WkS.dict | exact WkS.lstS (fun _ => WkS.list) | refine WkL.cons ?_ ?_))⟩)
  · rintro number_310 hm
    show Go _ _ _ _ _ [val (pL pInt) bits_0, val pInt number_310, dead]
    cases hm
    exact go_ret (x_var 1) (fun v H h => h)
  · rintro r hm v H h
    cases hm

theorem ok_row_of (T : Txt P K mg) : FnOk P w K mg base CX0 1 T.f_row_of T.d_row_of ["count", "number"] (spP (fun (z : (Int) × (Int)) => [val pInt z.1, val pInt z.2]) (fun z => m_row_of z.1 z.2) (fun r => own (oL pInt) r)) := by
  refine fn_pure T.F_row_of sc_row_of (fun _ => rfl) (fun cdv A outer s H E hr z r B hm => ?_)
  obtain ⟨count_0, number_0⟩ := z
  replace hm : m_row_of count_0 number_0 = some r := hm
  unfold m_row_of at hm
  show Go _ _ _ _ _ [val pInt count_0, val pInt number_0, dead]
  obtain ⟨h_315, hm⟩ := guardO_some hm
  obtain ⟨h_320, hm⟩ := guardO_some hm
  obtain ⟨ys_316, h_317, hm⟩ := Option.bind_eq_some_iff.mp hm
  cases hm
  exact go_ret (x_lc (rs := val pInt) (own := [("place", 2)]) (xi_range1 T.g_range (x_var 0) h_315).ro ⟨fun _ => blkOk_by (N := N_row_of) (sc := defScope s_row_of) (by decide +kernel), fun _ _ => rfl⟩ h_320 h_317 ⟨rfl, trivial⟩ (fun place_318 o hx hm => by obtain ⟨h_319, hm⟩ := guardO_some hm; cases hm; exact ⟨_, _, rfl, (xg_name 2), lc_el (x_op (fun _ => op_and) (o_int (g := Builtin.bitAnd)) (x_op (fun _ => op_shr) (o_intC h_319) (x_var 1) (x_op (fun _ => op_sub) o_int (x_op (fun _ => op_sub) o_int (x_var 0) x_int) (x_var 2))) x_int)⟩)) (fun v H h => h)

theorem ok_run_machine (T : Txt P K mg) : FnOk P w K mg base CX0 2 T.f_run_machine T.d_run_machine ["machine", "course"] (spP (fun (z : (S_Machine) × (List (List (Int)))) => [val (pObj T.C_Machine ns_Machine sl_Machine) z.1, val (pL (pL pInt)) z.2]) (fun z => m_run_machine z.1 z.2) (fun r => own (oL (pL pInt)) r)) := by
  refine fn_pure T.F_run_machine sc_run_machine (fun _ => rfl) (fun cdv A outer s H E hr z r B hm => ?_)
  obtain ⟨machine_0, course_0⟩ := z
  replace hm : m_run_machine machine_0 course_0 = some r := hm
  unfold m_run_machine at hm
  show Go _ _ _ _ _ [val (pObj T.C_Machine ns_Machine sl_Machine) machine_0, val (pL (pL pInt)) course_0, dead, dead, dead, dead, dead, dead]
  refine go_forK (rs := val (pT2 pInt (pL pInt))) (fun s => [val (pObj T.C_Machine ns_Machine sl_Machine) machine_0, val (pL (pL pInt)) course_0, dead, dead, dead, dead, dead, dead]) (fun r => own (oL (pL pInt)) r) (xi_enum' T.g_enumerate (x_var 1)) (by repeat' (first | exact WkL.nil | exact WkS.refl | exact WkS.dead | exact WkS.list | exact WkS.dict | exact WkS.lstS (fun _ => WkS.list) | refine WkL.cons ?_ ?_)) hm ?_ ?_ ?_
  · rintro B1 p_321 s out hx hm hr1 hl1
    refine ⟨_, _, (xg_tup2 (xgs_cons (xg_name 2) (xgs_cons (xg_name 3) xgs_nil))), ?_⟩
    show Go _ _ _ _ _ [val (pObj T.C_Machine ns_Machine sl_Machine) machine_0, val (pL (pL pInt)) course_0, val pInt p_321.1, val (pL pInt) p_321.2, dead, dead, dead, dead]
    refine go_if (xw_pt (xw_or (xt_cmp (fun _ => op_eq) o_eqI (nomark _) (x_var 2) (x_glob (v := .int 1000) T.g_MOST_ROWS ⟨_, rfl⟩ (fun _ => rfl))) (fun _ => (xw_or1 (xt_cmp (fun _ => op_ne) o_neI (nomark _) (x_callB (c_len _) T.g_len (by decide +kernel) (o_lenL LV.val.sv) (xa1 (x_var 3))) (x_fld 0 (x_var 0) OV.val T.at_Machine_input_count)))) rfl)) (fun hz => ?_) (fun hz => ?_)
    · have hm := condT hz hm
      cases hm
    · have hm := condF hz hm
      refine go_join ?_
      obtain ⟨h_325, hm⟩ := guardO_some hm
      obtain ⟨ys_322, h_323, hm⟩ := Option.bind_eq_some_iff.mp hm
      refine go_if (xt_cmp (c_neD _) (o_neD (DE.list DE.int) (by decide) (LV.vw LV.own) (LV.vw LV.own) (fun _ _ => trivial) (fun _ _ => trivial)) (nomark _) (x_lc (rs := val pInt) (own := [("bit", 7)]) (xi_list (x_var 3)).ro ⟨fun _ => blkOk_by (N := N_run_machine) (sc := defScope s_run_machine) (by decide +kernel), fun _ _ => rfl⟩ h_325 h_323 ⟨rfl, trivial⟩ (fun bit_324 o hx hm => by skip; refine ⟨_, _, rfl, (xg_name 7), lc_if (xw_pt (xw_and (xt_cmp (fun _ => op_ne) o_neI (nomark _) (x_var 7) x_int) (fun _ => (xw_and1 (xt_cmp (fun _ => op_ne) o_neI (nomark _) (x_var 7) x_int))) rfl)) hm (fun hm => ?_)⟩; skip; cases hm; exact ⟨_, rfl, (x_var 7)⟩)) (x_lst (xs := []) xa_nil (Nat.zero_le _))) (fun hz => ?_) (fun hz => ?_)
      · have hm := condT hz hm
        cases hm
      · have hm := condF hz hm
        refine go_join ?_
        cases hm
        exact go_nil (fun σ H h => ⟨_, rfl, h.wk (by repeat' (first | exact WkL.nil | exact WkS.refl | exact WkS.dead | exact WkS.list | exact WkS.dict | exact WkS.lstS (fun _ => WkS.list) | refine WkL.cons ?_ ?_))⟩)
  · rintro s hm
    show Go _ _ _ _ _ [val (pObj T.C_Machine ns_Machine sl_Machine) machine_0, val (pL (pL pInt)) course_0, dead, dead, dead, dead, dead, dead]
    refine go_set 4 x_int ?_
    show Go _ _ _ _ _ [val (pObj T.C_Machine ns_Machine sl_Machine) machine_0, val (pL (pL pInt)) course_0, dead, dead, val pInt (0 : Int), dead, dead, dead]
    refine go_set 5 (x_lst (p := (pL pInt)) (xs := []) xa_nil (Nat.zero_le _)) ?_
    show Go _ _ _ _ _ [val (pObj T.C_Machine ns_Machine sl_Machine) machine_0, val (pL (pL pInt)) course_0, dead, dead, val pInt (0 : Int), own (oL (pL pInt)) ([] : List (List (Int))), dead, dead]
    refine go_forK (rs := val (pL pInt)) (fun s => [val (pObj T.C_Machine ns_Machine sl_Machine) machine_0, val (pL (pL pInt)) course_0, dead, dead, val pInt s.1, own (oL (pL pInt)) s.2, dead, dead]) (fun r => own (oL (pL pInt)) r) (xi_list (x_var 1)) (by repeat' (first | exact WkL.nil | exact WkS.refl | exact WkS.dead | exact WkS.list | exact WkS.dict | exact WkS.lstS (fun _ => WkS.list) | refine WkL.cons ?_ ?_)) hm ?_ ?_ ?_
    · rintro B1 row_328 s out hx hm hr1 hl1
      obtain ⟨state_326, answers_327⟩ := s
      refine ⟨_, _, (xg_name 3), ?_⟩
      show Go _ _ _ _ _ [val (pObj T.C_Machine ns_Machine sl_Machine) machine_0, val (pL (pL pInt)) course_0, dead, val (pL pInt) row_328, val pInt state_326, own (oL (pL pInt)) answers_327, dead, dead]
      obtain ⟨v_329, h_330, hm⟩ := Option.bind_eq_some_iff.mp hm
      obtain ⟨r_331, h_332, hm⟩ := Option.bind_eq_some_iff.mp hm
      obtain ⟨v_333, h_334, hm⟩ := Option.bind_eq_some_iff.mp hm
      refine go_asg (x_ix (x_ix (x_fld 2 (x_var 0) OV.val T.at_Machine_moves) LV.val.sv (x_var 4) h_330) LV.val.sv (x_call (z := row_328) (ok_number_of T) (by decide) T.g_number_of T.k_number_of T.b_number_of (xa_cons (x_var 3) xa_nil) rfl (by repeat' (first | exact trivial | refine ⟨no_val, ?_⟩ | refine ⟨no_borL, ?_⟩ | refine ⟨no_bor, ?_⟩)) h_332) h_334) (xg_tup2 (xgs_cons (xg_name 4) (xgs_cons (xg_name 6) xgs_nil))) ?_
      show Go _ _ _ _ _ [val (pObj T.C_Machine ns_Machine sl_Machine) machine_0, val (pL (pL pInt)) course_0, dead, val (pL pInt) row_328, val pInt v_333.1, own (oL (pL pInt)) answers_327, val pInt v_333.2, dead]
      obtain ⟨r_335, h_336, hm⟩ := Option.bind_eq_some_iff.mp hm
      obtain ⟨h_337, hm⟩ := guardO_some hm
      refine go_append (pl_name 5 (by repeat' (first | exact Stb.nil | exact trivial | exact stb_map (fun _ => trivial) _ | refine Stb.cons ?_ ?_)) (hso := own_some)) (XV.frz (x_call (z := (machine_0.output_count, v_333.2)) (ok_row_of T) (by decide) T.g_row_of T.k_row_of T.b_row_of (xa_cons (x_fld 1 (x_var 0) OV.val T.at_Machine_output_count) (xa_cons (x_var 6) xa_nil)) rfl (by repeat' (first | exact trivial | refine ⟨no_val, ?_⟩ | refine ⟨no_borL, ?_⟩ | refine ⟨no_bor, ?_⟩)) h_336)) h_337 ?_
      show Go _ _ _ _ _ [val (pObj T.C_Machine ns_Machine sl_Machine) machine_0, val (pL (pL pInt)) course_0, dead, val (pL pInt) row_328, val pInt v_333.1, own (oL (pL pInt)) (answers_327 ++ [r_335]), val pInt v_333.2, dead]
      cases hm
      exact go_nil (fun σ H h => ⟨_, rfl, h.wk (by repeat' (first | exact WkL.nil | exact WkS.refl | exact WkS.dead | exact WkS.list | exact WkS.dict | exact WkS.lstS (fun _ => WkS.list) | refine WkL.cons ?_ ?_))⟩)
    · rintro s hm
      obtain ⟨state_326, answers_327⟩ := s
      show Go _ _ _ _ _ [val (pObj T.C_Machine ns_Machine sl_Machine) machine_0, val (pL (pL pInt)) course_0, dead, dead, val pInt state_326, own (oL (pL pInt)) answers_327, dead, dead]
      cases hm
      exact go_retV 5 rfl own_some (fun v H h => h)
    · rintro r hm v H h
      cases hm
  · rintro r hm v H h
    cases hm

theorem ok__law_number (T : Txt P K mg) : FnOk P w K mg base CX0 1 T.f__law_number T.d__law_number ["row"] (spP (fun (z : (List (Int))) => [val (pL pInt) z]) (fun z => m__law_number z) (fun r => val pInt r)) := by
  refine fn_pure T.F__law_number sc__law_number (fun _ => rfl) (fun cdv A outer s H E hr row_0 r B hm => ?_)
  replace hm : m__law_number row_0 = some r := hm
  unfold m__law_number at hm
  show Go _ _ _ _ _ [val (pL pInt) row_0, dead, dead]
  refine go_set 1 x_int ?_
  show Go _ _ _ _ _ [val (pL pInt) row_0, val pInt (0 : Int), dead]
  refine go_forK (rs := val pInt) (fun s => [val (pL pInt) row_0, val pInt s, dead]) (fun r => val pInt r) (xi_list (x_var 0)) (by repeat' (first | exact WkL.nil | exact WkS.refl | exact WkS.dead | exact WkS.list | exact WkS.dict | exact WkS.lstS (fun _ => WkS.list) | refine WkL.cons ?_ ?_)) hm ?_ ?_ ?_
  · rintro B1 bit_339 number_338 out hx hm hr1 hl1
    refine ⟨_, _, (xg_name 2), ?_⟩
    show Go _ _ _ _ _ [val (pL pInt) row_0, val pInt number_338, val pInt bit_339]
    obtain ⟨number_340, h_341, hm⟩ := letO_some hm
    refine go_set 1 (XV.eqV (x_op (fun _ => op_add) o_int (x_op (fun _ => op_mul) (o_intC (.inl (by decide))) x_int (x_var 1)) (x_var 2)) h_341) ?_
    show Go _ _ _ _ _ [val (pL pInt) row_0, val pInt number_340, val pInt bit_339]
    cases hm
    exact go_nil (fun σ H h => ⟨_, rfl, h.wk (by repeat' (first | exact WkL.nil | exact WkS.refl | exact WkS.dead | exact WkS.list | exact WkS.dict | exact WkS.lstS (fun _ => WkS.list) | refine WkL.cons ?_ ?_))⟩)
  · rintro number_338 hm
    show Go _ _ _ _ _ [val (pL pInt) row_0, val pInt number_338, dead]
    cases hm
    exact go_ret (x_var 1) (fun v H h => h)
  · rintro r hm v H h
    cases hm

theorem ok__law_run (T : Txt P K mg) : FnOk P w K mg base CX0 2 T.f__law_run T.d__law_run ["outputs", "moves", "course"] (spP (fun (z : (Int) × (List (List ((Int) × (Int)))) × (List (List (Int)))) => [val pInt z.1, val (pL (pL (pT2 pInt pInt))) z.2.1, val (pL (pL pInt)) z.2.2]) (fun z => m__law_run z.1 z.2.1 z.2.2) (fun r => own (oL (pL pInt)) r)) := by
  refine fn_pure T.F__law_run sc__law_run (fun _ => rfl) (fun cdv A outer s H E hr z r B hm => ?_)
  obtain ⟨outputs_0, moves_0, course_0⟩ := z
  replace hm : m__law_run outputs_0 moves_0 course_0 = some r := hm
  unfold m__law_run at hm
  show Go _ _ _ _ _ [val pInt outputs_0, val (pL (pL (pT2 pInt pInt))) moves_0, val (pL (pL pInt)) course_0, dead, dead, dead, dead]
  refine go_set 3 x_int ?_
  show Go _ _ _ _ _ [val pInt outputs_0, val (pL (pL (pT2 pInt pInt))) moves_0, val (pL (pL pInt)) course_0, val pInt (0 : Int), dead, dead, dead]
  refine go_set 4 (x_lst (p := (pL pInt)) (xs := []) xa_nil (Nat.zero_le _)) ?_
  show Go _ _ _ _ _ [val pInt outputs_0, val (pL (pL (pT2 pInt pInt))) moves_0, val (pL (pL pInt)) course_0, val pInt (0 : Int), own (oL (pL pInt)) ([] : List (List (Int))), dead, dead]
  refine go_forK (rs := val (pL pInt)) (fun s => [val pInt outputs_0, val (pL (pL (pT2 pInt pInt))) moves_0, val (pL (pL pInt)) course_0, val pInt s.1, own (oL (pL pInt)) s.2, dead, dead]) (fun r => own (oL (pL pInt)) r) (xi_list (x_var 2)) (by repeat' (first | exact WkL.nil | exact WkS.refl | exact WkS.dead | exact WkS.list | exact WkS.dict | exact WkS.lstS (fun _ => WkS.list) | refine WkL.cons ?_ ?_)) hm ?_ ?_ ?_
  · rintro B1 row_344 s out hx hm hr1 hl1
    obtain ⟨state_342, answers_343⟩ := s
    refine ⟨_, _, (xg_name 5), ?_⟩
    show Go _ _ _ _ _ [val pInt outputs_0, val (pL (pL (pT2 pInt pInt))) moves_0, val (pL (pL pInt)) course_0, val pInt state_342, own (oL (pL pInt)) answers_343, val (pL pInt) row_344, dead]
    obtain ⟨v_345, h_346, hm⟩ := Option.bind_eq_some_iff.mp hm
    obtain ⟨r_347, h_348, hm⟩ := Option.bind_eq_some_iff.mp hm
    obtain ⟨v_349, h_350, hm⟩ := Option.bind_eq_some_iff.mp hm
    refine go_asg (x_ix (x_ix (x_var 1) LV.val.sv (x_var 3) h_346) LV.val.sv (x_call (z := row_344) (ok__law_number T) (by decide) T.g__law_number T.k__law_number T.b__law_number (xa_cons (x_var 5) xa_nil) rfl (by repeat' (first | exact trivial | refine ⟨no_val, ?_⟩ | refine ⟨no_borL, ?_⟩ | refine ⟨no_bor, ?_⟩)) h_348) h_350) (xg_tup2 (xgs_cons (xg_name 3) (xgs_cons (xg_name 6) xgs_nil))) ?_
    show Go _ _ _ _ _ [val pInt outputs_0, val (pL (pL (pT2 pInt pInt))) moves_0, val (pL (pL pInt)) course_0, val pInt v_349.1, own (oL (pL pInt)) answers_343, val (pL pInt) row_344, val pInt v_349.2]
    obtain ⟨r_351, h_352, hm⟩ := Option.bind_eq_some_iff.mp hm
    obtain ⟨h_353, hm⟩ := guardO_some hm
    refine go_append (pl_name 4 (by repeat' (first | exact Stb.nil | exact trivial | exact stb_map (fun _ => trivial) _ | refine Stb.cons ?_ ?_)) (hso := own_some)) (XV.frz (x_call (z := (outputs_0, v_349.2)) (ok__law_row T) (by decide) T.g__law_row T.k__law_row T.b__law_row (xa_cons (x_var 0) (xa_cons (x_var 6) xa_nil)) rfl (by repeat' (first | exact trivial | refine ⟨no_val, ?_⟩ | refine ⟨no_borL, ?_⟩ | refine ⟨no_bor, ?_⟩)) h_352)) h_353 ?_
    show Go _ _ _ _ _ [val pInt outputs_0, val (pL (pL (pT2 pInt pInt))) moves_0, val (pL (pL pInt)) course_0, val pInt v_349.1, own (oL (pL pInt)) (answers_343 ++ [r_351]), val (pL pInt) row_344, val pInt v_349.2]
    cases hm
    exact go_nil (fun σ H h => ⟨_, rfl, h.wk (by repeat' (first | exact WkL.nil | exact WkS.refl | exact WkS.dead | exact WkS.list | exact WkS.dict | exact WkS.lstS (fun _ => WkS.list) | refine WkL.cons ?_ ?_))⟩)
  · rintro s hm
    obtain ⟨state_342, answers_343⟩ := s
    show Go _ _ _ _ _ [val pInt outputs_0, val (pL (pL (pT2 pInt pInt))) moves_0, val (pL (pL pInt)) course_0, val pInt state_342, own (oL (pL pInt)) answers_343, dead, dead]
    cases hm
    exact go_retV 4 rfl own_some (fun v H h => h)
  · rintro r hm v H h
    cases hm

theorem ok_law (T : Txt P K mg) : FnOk P w K mg base CX0 5 T.f_law T.d_law ["script"] (spP (fun (z : (List Int)) => [val (pScr K) z]) (fun z => m_law z) (fun r => val pBl r)) := by
  refine fn_pure T.F_law sc_law (fun _ => rfl) (fun cdv A outer s H E hr script_0 r B hm => ?_)
  replace hm : m_law script_0 = some r := hm
  unfold m_law at hm
  show Go _ _ _ _ _ [val (pScr K) script_0, dead, dead, dead, dead, dead, dead, dead, dead, dead, dead]
  obtain ⟨r_354, h_355, hm⟩ := Option.bind_eq_some_iff.mp hm
  refine go_set 1 (x_call (z := (script_0, (0 : Int))) (ok__law_cell T) (by decide) T.g__law_cell T.k__law_cell T.b__law_cell (xa_cons (x_var 0) (xa_cons x_int xa_nil)) rfl (by repeat' (first | exact trivial | refine ⟨no_val, ?_⟩ | refine ⟨no_borL, ?_⟩ | refine ⟨no_bor, ?_⟩)) h_355) ?_
  show Go _ _ _ _ _ [val (pScr K) script_0, val pInt r_354, dead, dead, dead, dead, dead, dead, dead, dead, dead]
  obtain ⟨inputs_356, h_357, hm⟩ := letO_some hm
  refine go_set 2 (XV.eqV (x_op (fun _ => op_mod) (o_intC (by decide)) (x_callTy (fun _ => call_int1) T.g_int (by decide +kernel) o_intI (xa1 (x_var 1))) x_int) h_357) ?_
  show Go _ _ _ _ _ [val (pScr K) script_0, val pInt r_354, val pInt inputs_356, dead, dead, dead, dead, dead, dead, dead, dead]
  obtain ⟨outputs_358, h_359, hm⟩ := letO_some hm
  refine go_set 3 (XV.eqV (x_op (fun _ => op_mod) (o_intC (by decide)) (x_callTy (fun _ => call_int1) T.g_int (by decide +kernel) o_intI (xa1 (x_op (fun _ => op_fdiv) (o_intC ⟨by decide, by decide⟩) (x_var 1) x_int))) x_int) h_359) ?_
  show Go _ _ _ _ _ [val (pScr K) script_0, val pInt r_354, val pInt inputs_356, val pInt outputs_358, dead, dead, dead, dead, dead, dead, dead]
  obtain ⟨r_360, h_361, hm⟩ := Option.bind_eq_some_iff.mp hm
  refine go_set 4 (XV.frz (x_call (z := (script_0, (4 : Int), inputs_356, outputs_358, ((1 : Int) + ((r_354 / (12 : Int)) % (7 : Int))))) (ok__law_moves T) (by decide) T.g__law_moves T.k__law_moves T.b__law_moves (xa_cons (x_var 0) (xa_cons x_int (xa_cons (x_var 2) (xa_cons (x_var 3) (xa_cons (x_op (fun _ => op_add) o_int x_int (x_op (fun _ => op_mod) (o_intC (by decide)) (x_callTy (fun _ => call_int1) T.g_int (by decide +kernel) o_intI (xa1 (x_op (fun _ => op_fdiv) (o_intC ⟨by decide, by decide⟩) (x_var 1) x_int))) x_int)) xa_nil))))) rfl (by repeat' (first | exact trivial | refine ⟨no_val, ?_⟩ | refine ⟨no_borL, ?_⟩ | refine ⟨no_bor, ?_⟩)) h_361)) ?_
  show Go _ _ _ _ _ [val (pScr K) script_0, val pInt r_354, val pInt inputs_356, val pInt outputs_358, val (pL (pL (pT2 pInt pInt))) r_360, dead, dead, dead, dead, dead, dead]
  obtain ⟨moves_362, hj_365, hm⟩ := Option.bind_eq_some_iff.mp hm
  refine go_ifJ [val (pScr K) script_0, val pInt r_354, val pInt inputs_356, val pInt outputs_358, val (pL (pL (pT2 pInt pInt))) moves_362, dead, dead, dead, dead, dead, dead] (xt_cmp (fun _ => op_eq) o_eqI (nomark _) (x_op (fun _ => op_mod) (o_intC (by decide)) (x_callTy (fun _ => call_int1) T.g_int (by decide +kernel) o_intI (xa1 (x_op (fun _ => op_fdiv) (o_intC ⟨by decide, by decide⟩) (x_var 1) x_int))) x_int) x_int) (fun hz => ?_) (fun hz => ?_) ?_
  · have hm := condT hz hj_365
    obtain ⟨r_363, h_364, hm⟩ := Option.bind_eq_some_iff.mp hm
    refine go_set 4 (XV.frz (x_call (z := (script_0, (12 : Int), r_360, ((2 : Int) + ((r_354 / (252 : Int)) % (4 : Int))))) (ok__law_blown T) (by decide) T.g__law_blown T.k__law_blown T.b__law_blown (xa_cons (x_var 0) (xa_cons x_int (xa_cons (x_var 4) (xa_cons (x_op (fun _ => op_add) o_int x_int (x_op (fun _ => op_mod) (o_intC (by decide)) (x_callTy (fun _ => call_int1) T.g_int (by decide +kernel) o_intI (xa1 (x_op (fun _ => op_fdiv) (o_intC ⟨by decide, by decide⟩) (x_var 1) x_int))) x_int)) xa_nil)))) rfl (by repeat' (first | exact trivial | refine ⟨no_val, ?_⟩ | refine ⟨no_borL, ?_⟩ | refine ⟨no_bor, ?_⟩)) h_364)) ?_
    show Go _ _ _ _ _ [val (pScr K) script_0, val pInt r_354, val pInt inputs_356, val pInt outputs_358, val (pL (pL (pT2 pInt pInt))) r_363, dead, dead, dead, dead, dead, dead]
    cases hm
    exact go_nx (by repeat' (first | exact WkL.nil | exact WkS.refl | exact WkS.dead | exact WkS.list | exact WkS.dict | exact WkS.lstS (fun _ => WkS.list) | refine WkL.cons ?_ ?_))
  · have hm := condF hz hj_365
    cases hm
    exact go_nx (by repeat' (first | exact WkL.nil | exact WkS.refl | exact WkS.dead | exact WkS.list | exact WkS.dict | exact WkS.lstS (fun _ => WkS.list) | refine WkL.cons ?_ ?_))
  obtain ⟨s_373, hj_372, hm⟩ := Option.bind_eq_some_iff.mp hm
  obtain ⟨inputs_367, outputs_368, moves_369⟩ := s_373
  refine go_ifJ [val (pScr K) script_0, val pInt r_354, val pInt inputs_367, val pInt outputs_368, val (pL (pL (pT2 pInt pInt))) moves_369, dead, dead, dead, dead, dead, dead] (xt_cmp (fun _ => op_eq) o_eqI (nomark _) (x_op (fun _ => op_mod) (o_intC (by decide)) (x_callTy (fun _ => call_int1) T.g_int (by decide +kernel) o_intI (xa1 (x_op (fun _ => op_fdiv) (o_intC ⟨by decide, by decide⟩) (x_var 1) x_int))) x_int) x_int) (fun hz => ?_) (fun hz => ?_) ?_
  · have hm := condT hz hj_372
    refine go_set 2 x_int ?_
    show Go _ _ _ _ _ [val (pScr K) script_0, val pInt r_354, val pInt (1 : Int), val pInt outputs_358, val (pL (pL (pT2 pInt pInt))) moves_362, dead, dead, dead, dead, dead, dead]
    refine go_set 3 x_int ?_
    show Go _ _ _ _ _ [val (pScr K) script_0, val pInt r_354, val pInt (1 : Int), val pInt (1 : Int), val (pL (pL (pT2 pInt pInt))) moves_362, dead, dead, dead, dead, dead, dead]
    obtain ⟨r_370, h_371, hm⟩ := Option.bind_eq_some_iff.mp hm
    refine go_set 4 (XV.frz (x_call (z := ((8 : Int) + ((r_354 / (80056 : Int)) % (53 : Int)))) (ok__law_row_of_states T) (by decide) T.g__law_row_of_states T.k__law_row_of_states T.b__law_row_of_states (xa_cons (x_op (fun _ => op_add) o_int x_int (x_op (fun _ => op_mod) (o_intC (by decide)) (x_callTy (fun _ => call_int1) T.g_int (by decide +kernel) o_intI (xa1 (x_op (fun _ => op_fdiv) (o_intC ⟨by decide, by decide⟩) (x_var 1) x_int))) x_int)) xa_nil) rfl (by repeat' (first | exact trivial | refine ⟨no_val, ?_⟩ | refine ⟨no_borL, ?_⟩ | refine ⟨no_bor, ?_⟩)) h_371)) ?_
    show Go _ _ _ _ _ [val (pScr K) script_0, val pInt r_354, val pInt (1 : Int), val pInt (1 : Int), val (pL (pL (pT2 pInt pInt))) r_370, dead, dead, dead, dead, dead, dead]
    cases hm
    exact go_nx (by repeat' (first | exact WkL.nil | exact WkS.refl | exact WkS.dead | exact WkS.list | exact WkS.dict | exact WkS.lstS (fun _ => WkS.list) | refine WkL.cons ?_ ?_))
  · have hm := condF hz hj_372
    cases hm
    exact go_nx (by repeat' (first | exact WkL.nil | exact WkS.refl | exact WkS.dead | exact WkS.list | exact WkS.dict | exact WkS.lstS (fun _ => WkS.list) | refine WkL.cons ?_ ?_))
  obtain ⟨o_374, h_375, hm⟩ := Option.bind_eq_some_iff.mp hm
  refine go_set 5 (x_make (z := (inputs_367, outputs_368, moves_369)) (ok_Machine_init T) (by decide) T.mk_Machine T.g_Machine T.b_Machine_init (xa_cons (x_var 2) (xa_cons (x_var 3) (xa_cons (x_var 4) xa_nil))) rfl (by repeat' (first | exact trivial | refine ⟨no_val, ?_⟩ | refine ⟨no_borL, ?_⟩ | refine ⟨no_bor, ?_⟩)) rfl h_375 rfl) ?_
  show Go _ _ _ _ _ [val (pScr K) script_0, val pInt r_354, val pInt inputs_367, val pInt outputs_368, val (pL (pL (pT2 pInt pInt))) moves_369, obj T.C_Machine ns_Machine (dl_Machine o_374.1), dead, dead, dead, dead, dead]
  refine go_wk (Γ' := [val (pScr K) script_0, val pInt r_354, val pInt inputs_367, val pInt outputs_368, val (pL (pL (pT2 pInt pInt))) moves_369, val (pObj T.C_Machine ns_Machine sl_Machine) o_374.1, dead, dead, dead, dead, dead]) ?_ (WkL.at (j := 5) (WkS.obj (sl := sl_Machine) (by repeat' (first | exact WkL.nil | exact WkS.refl | exact WkS.dead | exact WkS.list | exact WkS.dict | exact WkS.lstS (fun _ => WkS.list) | refine WkL.cons ?_ ?_)) (by repeat' (first | exact trivial | refine ⟨⟨_, _, _, rfl⟩, ?_⟩))) rfl)
  obtain ⟨r_376, h_377, hm⟩ := Option.bind_eq_some_iff.mp hm
  refine go_set 6 (x_call (z := o_374.1) (ok_alike_states T) (by decide) T.g_alike_states T.k_alike_states T.b_alike_states (xa_cons (x_var 5) xa_nil) rfl (by repeat' (first | exact trivial | refine ⟨no_val, ?_⟩ | refine ⟨no_borL, ?_⟩ | refine ⟨no_bor, ?_⟩)) h_377) ?_
  show Go _ _ _ _ _ [val (pScr K) script_0, val pInt r_354, val pInt inputs_367, val pInt outputs_368, val (pL (pL (pT2 pInt pInt))) moves_369, val (pObj T.C_Machine ns_Machine sl_Machine) o_374.1, own (oL pInt) r_376, dead, dead, dead, dead]
  obtain ⟨b_380, h_381, hm⟩ := Option.bind_eq_some_iff.mp hm
  refine go_if (xw_pt (xw_orP (xt_not (xt_val (x_callB (c_isi _) T.g_isinstance (by decide +kernel) (o_isi (z := true) (T := "list") (T' := "list") (LV.ty LV.bor) (by decide +kernel)) (xa2 (x_varL 6) (x_ty T.g_list (by decide +kernel))))) rfl) h_381 (fun z hm => by obtain ⟨r_378, h_379, hm⟩ := Option.bind_eq_some_iff.mp hm; cases hm; exact (xw_or1 (xt_cmp (c_neD _) (o_neD (DE.list DE.int) (by decide) (LV.vw LV.bor) (LV.vw LV.own) (fun _ _ => trivial) (fun _ _ => trivial)) (nomark _) (x_varL 6) (x_call (z := moves_369) (ok__law_alike T) (by decide) T.g__law_alike T.k__law_alike T.b__law_alike (xa_cons (x_var 4) xa_nil) rfl (by repeat' (first | exact trivial | refine ⟨no_val, ?_⟩ | refine ⟨no_borL, ?_⟩ | refine ⟨no_bor, ?_⟩)) h_379)))))) (fun hz => ?_) (fun hz => ?_)
  · have hm := condT hz hm
    cases hm
    exact go_ret x_bl (fun v H h => h)
  · have hm := condF hz hm
    refine go_join ?_
    obtain ⟨r_382, h_383, hm⟩ := Option.bind_eq_some_iff.mp hm
    refine go_set 7 (x_call (z := o_374.1) (ok_least_machine T) (by decide) T.g_least_machine T.k_least_machine T.b_least_machine (xa_cons (x_var 5) xa_nil) rfl (by repeat' (first | exact trivial | refine ⟨no_val, ?_⟩ | refine ⟨no_borL, ?_⟩ | refine ⟨no_bor, ?_⟩)) h_383) ?_
    show Go _ _ _ _ _ [val (pScr K) script_0, val pInt r_354, val pInt inputs_367, val pInt outputs_368, val (pL (pL (pT2 pInt pInt))) moves_369, val (pObj T.C_Machine ns_Machine sl_Machine) o_374.1, own (oL pInt) r_376, obj T.C_Machine ns_Machine (dl_Machine r_382), dead, dead, dead]
    obtain ⟨r_384, h_385, hm⟩ := Option.bind_eq_some_iff.mp hm
    refine go_set 8 (x_call (z := moves_369) (ok__law_least T) (by decide) T.g__law_least T.k__law_least T.b__law_least (xa_cons (x_var 4) xa_nil) rfl (by repeat' (first | exact trivial | refine ⟨no_val, ?_⟩ | refine ⟨no_borL, ?_⟩ | refine ⟨no_bor, ?_⟩)) h_385) ?_
    show Go _ _ _ _ _ [val (pScr K) script_0, val pInt r_354, val pInt inputs_367, val pInt outputs_368, val (pL (pL (pT2 pInt pInt))) moves_369, val (pObj T.C_Machine ns_Machine sl_Machine) o_374.1, own (oL pInt) r_376, obj T.C_Machine ns_Machine (dl_Machine r_382), own (oL (pL (pT2 pInt pInt))) r_384, dead, dead]
    refine go_if (xw_pt (xw_or (xt_not (xt_val (x_callB (c_isi _) T.g_isinstance (by decide +kernel) (o_isiC (z := true) (TyX'.bobj T.ic_Machine) kit_self) (xa2 (x_varO 7) (x_cls T.g_Machine)))) rfl) (fun _ => (xw_or (xt_cmp (c_neD _) (o_neD (DE.list (DE.list (DE.t2 DE.int DE.int))) (by decide) (LV.vw LV.bor) (LV.vw LV.bor) (fun _ _ => (fun _ _ => ⟨trivial, trivial⟩)) (fun _ _ => (fun _ _ => ⟨trivial, trivial⟩))) (nomark _) (x_fldL 2 (x_varO 7) OV.bobj T.at_Machine_moves) (x_varL 8)) (fun _ => (xw_or1 (xt_cmp (c_neD _) (o_neD (DE.list (DE.list (DE.t2 DE.int DE.int))) (by decide) Vw.val Vw.val (fun _ _ => (fun _ _ => ⟨trivial, trivial⟩)) (fun _ _ => (fun _ _ => ⟨trivial, trivial⟩))) (nomark _) (x_fld 2 (x_var 5) OV.val T.at_Machine_moves) (x_var 4)))) rfl)) rfl)) (fun hz => ?_) (fun hz => ?_)
    · have hm := condT hz hm
      cases hm
      exact go_ret x_bl (fun v H h => h)
    · have hm := condF hz hm
      refine go_join ?_
      refine go_wk (Γ' := [val (pScr K) script_0, val pInt r_354, val pInt inputs_367, val pInt outputs_368, val (pL (pL (pT2 pInt pInt))) moves_369, val (pObj T.C_Machine ns_Machine sl_Machine) o_374.1, own (oL pInt) r_376, val (pObj T.C_Machine ns_Machine sl_Machine) r_382, own (oL (pL (pT2 pInt pInt))) r_384, dead, dead]) ?_ (WkL.at (j := 7) (WkS.obj (sl := sl_Machine) (by repeat' (first | exact WkL.nil | exact WkS.refl | exact WkS.dead | exact WkS.list | exact WkS.dict | exact WkS.lstS (fun _ => WkS.list) | refine WkL.cons ?_ ?_)) (by repeat' (first | exact trivial | refine ⟨⟨_, _, _, rfl⟩, ?_⟩))) rfl)
      obtain ⟨b_390, h_391, hm⟩ := Option.bind_eq_some_iff.mp hm
      refine go_if (xw_pt (xw_orP (xt_cmp (fun _ => op_ne) o_neI (nomark _) (x_fld 0 (x_var 7) OV.val T.at_Machine_input_count) (x_var 2)) h_391 (fun z hm => by obtain ⟨b_388, h_389, hm⟩ := Option.bind_eq_some_iff.mp hm; cases hm; exact (xw_orP (xt_cmp (fun _ => op_ne) o_neI (nomark _) (x_fld 1 (x_var 7) OV.val T.at_Machine_output_count) (x_var 3)) h_389 (fun z hm => by obtain ⟨r_386, h_387, hm⟩ := Option.bind_eq_some_iff.mp hm; cases hm; exact (xw_or1 (xt_cmp (c_neD _) (o_neD (DE.list (DE.list (DE.t2 DE.int DE.int))) (by decide) (LV.vw LV.bor) (LV.vw LV.bor) (fun _ _ => (fun _ _ => ⟨trivial, trivial⟩)) (fun _ _ => (fun _ _ => ⟨trivial, trivial⟩))) (nomark _) (x_fldL 2 (x_call (z := r_382) (ok_least_machine T) (by decide) T.g_least_machine T.k_least_machine T.b_least_machine (xa_cons (x_var 7) xa_nil) rfl (by repeat' (first | exact trivial | refine ⟨no_val, ?_⟩ | refine ⟨no_borL, ?_⟩ | refine ⟨no_bor, ?_⟩)) h_387) OV.obj T.at_Machine_moves) (x_varL 8)))))))) (fun hz => ?_) (fun hz => ?_)
      · have hm := condT hz hm
        cases hm
        exact go_ret x_bl (fun v H h => h)
      · have hm := condF hz hm
        refine go_join ?_
        obtain ⟨r_392, h_393, hm⟩ := Option.bind_eq_some_iff.mp hm
        obtain ⟨h_395, hm⟩ := guardO_some hm
        obtain ⟨h_405, hm⟩ := guardO_some hm
        obtain ⟨ys_396, h_397, hm⟩ := Option.bind_eq_some_iff.mp hm
        refine go_setLc 9 (rs := val pInt) (own := [("k", 10)]) (xi_range1 T.g_range (x_op (fun _ => op_mod) (o_intC (by decide)) (x_call (z := (script_0, (1 : Int))) (ok__law_cell T) (by decide) T.g__law_cell T.k__law_cell T.b__law_cell (xa_cons (x_var 0) (xa_cons x_int xa_nil)) rfl (by repeat' (first | exact trivial | refine ⟨no_val, ?_⟩ | refine ⟨no_borL, ?_⟩ | refine ⟨no_bor, ?_⟩)) h_393) x_int) h_395).ro ⟨fun _ => blkOk_by (N := N_law) (sc := defScope s_law) (by decide +kernel), fun _ _ => rfl⟩ h_405 h_397 ⟨rfl, trivial⟩ (fun k_398 o hx hm => by obtain ⟨r_399, h_400, hm⟩ := Option.bind_eq_some_iff.mp hm; obtain ⟨h_401, hm⟩ := guardO_some hm; obtain ⟨h_402, hm⟩ := guardO_some hm; obtain ⟨r_403, h_404, hm⟩ := Option.bind_eq_some_iff.mp hm; cases hm; exact ⟨_, _, rfl, (xg_name 10), lc_el (XV.frz (x_call (z := (inputs_367, (r_399 % ((1 : Int) * 2 ^ (inputs_367).toNat)))) (ok__law_row T) (by decide) T.g__law_row T.k__law_row T.b__law_row (xa_cons (x_var 2) (xa_cons (x_op (fun _ => op_mod) (o_intC h_402) (x_call (z := (script_0, ((30 : Int) + k_398))) (ok__law_cell T) (by decide) T.g__law_cell T.k__law_cell T.b__law_cell (xa_cons (x_var 0) (xa_cons (x_op (fun _ => op_add) o_int x_int (x_var 10)) xa_nil)) rfl (by repeat' (first | exact trivial | refine ⟨no_val, ?_⟩ | refine ⟨no_borL, ?_⟩ | refine ⟨no_bor, ?_⟩)) h_400) (x_op (fun _ => op_shl) (o_intC ⟨h_401.1, h_401.2, by decide⟩) x_int (x_var 2))) xa_nil)) rfl (by repeat' (first | exact trivial | refine ⟨no_val, ?_⟩ | refine ⟨no_borL, ?_⟩ | refine ⟨no_bor, ?_⟩)) h_404))⟩) ?_ (hsw := sw_true rfl rfl rfl (by decide +kernel))
        show Go _ _ _ _ _ [val (pScr K) script_0, val pInt r_354, val pInt inputs_367, val pInt outputs_368, val (pL (pL (pT2 pInt pInt))) moves_369, val (pObj T.C_Machine ns_Machine sl_Machine) o_374.1, own (oL pInt) r_376, val (pObj T.C_Machine ns_Machine sl_Machine) r_382, own (oL (pL (pT2 pInt pInt))) r_384, own (oL (pL pInt)) ys_396, dead]
        refine go_wk (Γ' := [val (pScr K) script_0, val pInt r_354, val pInt inputs_367, val pInt outputs_368, val (pL (pL (pT2 pInt pInt))) moves_369, val (pObj T.C_Machine ns_Machine sl_Machine) o_374.1, own (oL pInt) r_376, val (pObj T.C_Machine ns_Machine sl_Machine) r_382, own (oL (pL (pT2 pInt pInt))) r_384, val (pL (pL pInt)) ys_396, dead]) ?_ (WkL.at (j := 9) WkS.list rfl)
        obtain ⟨r_406, h_407, hm⟩ := Option.bind_eq_some_iff.mp hm
        obtain ⟨r_408, h_409, hm⟩ := Option.bind_eq_some_iff.mp hm
        cases hm
        exact go_ret (x_cmp (c_eqD _) (o_eqD (DE.list (DE.list DE.int)) (by decide) (LV.vw LV.own) (LV.vw LV.own) (fun _ _ => (fun _ _ => trivial)) (fun _ _ => (fun _ _ => trivial))) (nomark _) (x_call (z := (r_382, ys_396)) (ok_run_machine T) (by decide) T.g_run_machine T.k_run_machine T.b_run_machine (xa_cons (x_var 7) (xa_cons (x_var 9) xa_nil)) rfl (by repeat' (first | exact trivial | refine ⟨no_val, ?_⟩ | refine ⟨no_borL, ?_⟩ | refine ⟨no_bor, ?_⟩)) h_407) (x_call (z := (outputs_368, moves_369, ys_396)) (ok__law_run T) (by decide) T.g__law_run T.k__law_run T.b__law_run (xa_cons (x_var 3) (xa_cons (x_var 4) (xa_cons (x_var 9) xa_nil))) rfl (by repeat' (first | exact trivial | refine ⟨no_val, ?_⟩ | refine ⟨no_borL, ?_⟩ | refine ⟨no_bor, ?_⟩)) h_409)) (fun v H h => h)
end
end K24

/-! K24P -/
namespace K24
open PySem PySem.Spec L2 Ty
/-! ### numbered: places with the same key have the same number -/
def SameAt (keys : List NestedKey) (i j : Nat) : Prop := keys[i]? = keys[j]?
structure NumOk (keys : List NestedKey) (ns : List Int) : Prop where
  len : ns.length = keys.length
  eq : ∀ i j, i < keys.length → j < keys.length → (ns[i]? = ns[j]? ↔ keys[i]? = keys[j]?)
  mx : 1 ≤ keys.length → mxL ns = some ((cnt (SameAt keys) keys.length : Nat) - 1 : Int)
/-- behind the first j keys -/
structure NumIn (keys : List NestedKey) (j : Nat) (kn : List (NestedKey × Int)) (ns : List Int) : Prop where
  len : ns.length = j
  cn : kn.length = cnt (SameAt keys) j
  get : ∀ i, i < j → ∃ k v, keys[i]? = some k ∧ ns[i]? = some v ∧ dget kn k = some v
  src : ∀ k v, dget kn k = some v → ∃ i, i < j ∧ keys[i]? = some k
  inj : ∀ k k' v, dget kn k = some v → dget kn k' = some v → k = k'
  rng : ∀ k v, dget kn k = some v → 0 ≤ v ∧ v < kn.length
  top : 1 ≤ j → ((kn.length : Int) - 1) ∈ ns
theorem numbered_ok {keys : List NestedKey} (hl : keys.length ≤ 100000) : Tot (m_numbered keys) (NumOk keys) := by
  unfold m_numbered
  refine tForX (fun j (s : List (NestedKey × Int) × List Int) => NumIn keys j s.1 s.2) ⟨rfl, rfl, fun i hi => absurd hi (Nat.not_lt_zero _), fun k v h => (nomatch h), fun k k' v h => (nomatch h), fun k v h => (nomatch h), fun h => absurd h (by decide)⟩ ?_ ?_
  · rintro j key ⟨kn, ns⟩ hk h
    dsimp only at h
    obtain ⟨h1, h2, h3, h4, h5, h6, h7⟩ := h
    have hj : j < keys.length := (List.getElem?_eq_some_iff.mp hk).1
    have hc := cnt_le (SameAt keys) j
    cases hd : dget kn key with
    | some v =>
      dsimp only
      rw [hd]
      refine tE (a := kn) rfl (tE hd (tG (line_lt (by omega)) (tR ?_)))
      obtain ⟨i0, hi0, hk0⟩ := h4 key v hd
      have hnew : newB (SameAt keys) j ≠ true := fun q => newB_iff.mp q i0 hi0 (by show keys[i0]? = keys[j]?; rw [hk0, hk])
      refine ⟨by simp [h1], by rw [cnt_succ, if_neg hnew]; exact h2, fun i hi => ?_, fun k v' hv => ?_, h5, h6, fun _ => ?_⟩
      · by_cases q : i < j
        · obtain ⟨k, v', e1, e2, e3⟩ := h3 i q
          exact ⟨k, v', e1, by rw [List.getElem?_append_left (by omega)]; exact e2, e3⟩
        · have : i = j := by omega
          subst this
          refine ⟨key, v, hk, ?_, hd⟩
          rw [List.getElem?_append_right (by omega), h1, Nat.sub_self]; rfl
      · obtain ⟨i, a, b⟩ := h4 k v' hv
        exact ⟨i, by omega, b⟩
      · by_cases q : 1 ≤ j
        · exact List.mem_append_left _ (h7 q)
        · have : j = 0 := by omega
          subst this
          exact absurd hi0 (Nat.not_lt_zero _)
    | none =>
      dsimp only
      rw [hd]
      have hg : ∀ k, dget (dput kn key (kn.length : Int)) k = if k = key then some (kn.length : Int) else dget kn k := fun k => dget_put kn key k _
      have hpl : (dput kn key (kn.length : Int)).length = kn.length + 1 := by rw [dput_new hd]; simp
      refine tE (a := dput kn key (kn.length : Int)) (gI (line_lt (by omega)) rfl) (tE (a := (kn.length : Int)) (by rw [hg, if_pos rfl]) (tG (line_lt (by omega)) (tR ?_)))
      have hnew : newB (SameAt keys) j = true := newB_iff.mpr fun t ht e => by
        have e : keys[t]? = keys[j]? := e
        obtain ⟨k, v, e1, e2, e3⟩ := h3 t ht
        rw [e1, hk] at e
        cases e
        rw [e3] at hd; cases hd
      refine ⟨by simp [h1], by rw [cnt_succ, if_pos hnew, hpl, h2], fun i hi => ?_, fun k v' hv => ?_, fun k k' v' hv hv' => ?_, fun k v' hv => ?_, fun _ => ?_⟩
      · by_cases q : i < j
        · obtain ⟨k, v', e1, e2, e3⟩ := h3 i q
          refine ⟨k, v', e1, by rw [List.getElem?_append_left (by omega)]; exact e2, ?_⟩
          rw [hg, if_neg]
          · exact e3
          · rintro rfl
            rw [hd] at e3; cases e3
        · have : i = j := by omega
          subst this
          refine ⟨key, _, hk, ?_, by rw [hg, if_pos rfl]⟩
          rw [List.getElem?_append_right (by omega), h1, Nat.sub_self]; rfl
      · rw [hg] at hv
        split at hv
        · rename_i e
          exact ⟨j, by omega, by rw [e]; exact hk⟩
        · obtain ⟨i, a, b⟩ := h4 k v' hv
          exact ⟨i, by omega, b⟩
      · rw [hg] at hv hv'
        split at hv <;> split at hv'
        · rename_i a b; rw [a, b]
        · cases hv
          have := (h6 k' _ hv').2
          omega
        · cases hv'
          have := (h6 k _ hv).2
          omega
        · exact h5 k k' v' hv hv'
      · rw [hg] at hv
        rw [hpl]
        split at hv
        · cases hv
          omega
        · have := h6 k v' hv
          omega
      · rw [hpl]
        refine List.mem_append_right _ ?_
        rw [List.mem_singleton]
        omega
  · rintro ⟨kn, ns⟩ h
    dsimp only at h
    obtain ⟨h1, h2, h3, h4, h5, h6, h7⟩ := h
    refine tR ⟨h1, fun i j hi hj => ?_, fun hn => ?_⟩
    · obtain ⟨k, v, a1, a2, a3⟩ := h3 i hi
      obtain ⟨k', v', b1, b2, b3⟩ := h3 j hj
      rw [a1, a2, b1, b2]
      constructor
      · intro e
        cases e
        rw [h5 k k' v a3 b3]
      · intro e
        cases e
        rw [a3] at b3
        exact b3
    · have htop := h7 hn
      rw [h2] at htop
      refine mxL_of htop fun y hy => ?_
      obtain ⟨i, hi⟩ := List.getElem?_of_mem hy
      have hil : i < keys.length := by rw [← h1]; exact (List.getElem?_eq_some_iff.mp hi).1
      obtain ⟨k, v, a1, a2, a3⟩ := h3 i hil
      rw [hi] at a2
      cases a2
      have := h6 k _ a3
      rw [h2] at this
      omega
/-! ### alike_states -/
/-- marks tell the classes of level k -/
structure Mk (M : MvT) (R k : Nat) (marks : List Int) : Prop where
  len : marks.length = M.length
  eq : ∀ s t, s < M.length → t < M.length → (marks[s]? = marks[t]? ↔ EqK M R k s t)
  mx : mxL marks = some ((cnt (EqK M R k) M.length : Nat) - 1 : Int)
theorem Mk.of {M : MvT} {R k : Nat} (w : MOk M R) {keys : List NestedKey} {ns : List Int} (h : NumOk keys ns) (hl : keys.length = M.length) (he : ∀ s t, s < M.length → t < M.length → (keys[s]? = keys[t]? ↔ EqK M R k s t)) : Mk M R k ns := by
  refine ⟨by rw [h.len, hl], fun s t hs ht => (h.eq s t (by omega) (by omega)).trans (he s t hs ht), ?_⟩
  rw [h.mx (by rw [hl]; exact w.n), hl]
  rw [cnt_congr (E := SameAt keys) (E' := EqK M R k) fun s t hs ht => he s t hs ht]
theorem enc_ints {a b : List Int} : (NE.tup NE.int).enc a = (NE.tup NE.int).enc b ↔ a = b := by
  constructor
  · intro h
    have h : NestedKey.tup (a.map .num) = NestedKey.tup (b.map .num) := h
    injection h with h
    have : ∀ {a b : List Int}, a.map NestedKey.num = b.map NestedKey.num → a = b := by
      intro a
      induction a with
      | nil => intro b h; cases b with
        | nil => rfl
        | cons _ _ => simp at h
      | cons x a ih => intro b h; cases b with
        | nil => simp at h
        | cons y b =>
          simp only [List.map_cons, List.cons.injEq, NestedKey.num.injEq] at h
          rw [h.1, ih h.2]
    exact this h
  · intro h; rw [h]
theorem enc_pair {x y : Int × List Int} : (NE.t2 NE.int (NE.tup NE.int)).enc x = (NE.t2 NE.int (NE.tup NE.int)).enc y ↔ x = y := by
  constructor
  · intro h
    have h : NestedKey.tup [.num x.1, (NE.tup NE.int).enc x.2] = NestedKey.tup [.num y.1, (NE.tup NE.int).enc y.2] := h
    simp only [NestedKey.tup.injEq, List.cons.injEq, NestedKey.num.injEq, and_true] at h
    exact Prod.ext h.1 (enc_ints.mp h.2)
  · intro h; rw [h]
theorem map_at {α β : Type} {xs : List α} {f : α → β} {i : Nat} : (xs.map f)[i]? = (xs[i]?).map f := List.getElem?_map ..
/-- the marks behind a state's rows -/
def nxMarks (M : MvT) (marks : List Int) (s : Nat) : List Int := (rowAt M s).map fun p => (marks[p.1.toNat]?).getD 0
theorem nxMarks_eq {M : MvT} {R k : Nat} (w : MOk M R) {marks : List Int} (h : Mk M R k marks) {s t : Nat} (hs : s < M.length) (ht : t < M.length) : nxMarks M marks s = nxMarks M marks t ↔ ∀ r, r < R → EqK M R k (nxAt M s r) (nxAt M t r) := by
  have at_ : ∀ {s : Nat}, s < M.length → ∀ r, r < R → (nxMarks M marks s)[r]? = marks[nxAt M s r]? := fun {s} hs r hr => by
    obtain ⟨v, e, _, hv⟩ := w.row hs hr
    unfold nxMarks
    rw [List.getElem?_map, e]
    show some ((marks[v.1.toNat]?).getD 0) = _
    rw [hv, Int.toNat_natCast]
    have := w.nx hs hr
    rw [List.getElem?_eq_getElem (by rw [h.len]; exact this)]
    rfl
  have len_ : ∀ {s : Nat}, s < M.length → (nxMarks M marks s).length = R := fun {s} hs => by
    unfold nxMarks
    rw [List.length_map]
    exact w.len _ (rowAt_mem hs).1
  constructor
  · intro e r hr
    refine (h.eq _ _ (w.nx hs hr) (w.nx ht hr)).mp ?_
    rw [← at_ hs r hr, ← at_ ht r hr, e]
  · intro e
    refine List.ext_getElem? fun r => ?_
    by_cases hr : r < R
    · rw [at_ hs r hr, at_ ht r hr]
      exact (h.eq _ _ (w.nx hs hr) (w.nx ht hr)).mpr (e r hr)
    · rw [List.getElem?_eq_none (by rw [len_ hs]; omega), List.getElem?_eq_none (by rw [len_ ht]; omega)]
theorem first_of {M : MvT} {R k : Nat} (w : MOk M R) {marks : List Int} (h : Mk M R k marks) (hst : Still M R k) (hn : M.length ≤ 100000) : Tot (guardO (marks.length ≤ sizeLine) <| (fmO marks fun mark_103 => ((idxL marks mark_103).bind fun i_104 => some (some (i_104 : Int)))).bind fun ys_101 => some ys_101) (FirstOf M R) := by
  refine tG (line_le (by rw [h.len]; exact Nat.le_trans hn (by decide))) (tFmX (fun s (v : Int) => ∃ t : Nat, v = (t : Int) ∧ marks[t]? = marks[s]? ∧ t < marks.length ∧ ∀ u, u < t → marks[u]? ≠ marks[s]?) (fun s m hm => ?_) fun ys h1 h2 => tR ⟨by rw [h1, h.len], fun s hs => ?_⟩)
  · obtain ⟨n, hn1, hn2⟩ := idxL_mem (List.mem_of_getElem? hm)
    obtain ⟨e1, e2⟩ := idxL_at hn1
    refine ⟨_, bI hn1 rfl, n, rfl, by rw [e1, hm], hn2, fun u hu e => ?_⟩
    rw [hm] at e
    exact e2 u m hu e rfl
  · have hys : s < ys.length := by rw [h1, h.len]; exact hs
    obtain ⟨t, e, t1, t2, t3⟩ := h2 s ys[s] (List.getElem?_eq_getElem hys)
    rw [h.len] at t2
    have hts : t ≤ s := by
      apply Nat.le_of_not_lt
      intro q
      exact t3 s q rfl
    refine ⟨t, by rw [List.getElem?_eq_getElem hys, e], hts, hst.alk w t2 hs ((h.eq t s t2 hs).mp t1), fun u hu a => t3 u hu ((h.eq u s (by omega) hs).mpr (a k))⟩
theorem fm_copy {α β : Type} (xs : List α) (g : α → β) : (fmO xs fun x => some (some (g x))) = some (xs.map g) := fmO_all fun _ _ => rfl
theorem alike_ok {S : S_Machine} {R : Nat} (w : MOk S.moves R) (hn : S.moves.length ≤ 100000) (hR : R ≤ 100000) : Tot (m_alike_states S) (FirstOf S.moves R) := by
  have hlen : ∀ e ∈ S.moves, e.length ≤ 100000 := fun e he => by rw [w.len e he]; exact hR
  unfold m_alike_states
  refine tG (line_le (Nat.le_trans hn (by decide))) (tFm (g := fun e : List (Int × Int) => (NE.tup NE.int).enc (e.map (·.2))) (fun e he => ?_) ?_)
  · exact gI (line_le (Nat.le_trans (hlen e he) (by decide))) (bI (fm_copy e _) rfl)
  refine tB (numbered_ok (by rw [List.length_map]; exact hn)) fun marks hm => ?_
  have h0 : Mk S.moves R 0 marks := Mk.of w hm (List.length_map ..) fun s t hs ht => by
    rw [List.getElem?_map, List.getElem?_map, (rowAt_mem hs).2, (rowAt_mem ht).2]
    show some _ = some _ ↔ outsAt _ s = outsAt _ t
    rw [Option.some.injEq, enc_ints]
    rfl
  refine tWhile (fun (x : List Int × Int) => ∃ k, Mk S.moves R k x.1 ∧ ((k = 0 ∧ x.2 = 0) ∨ ∃ j, k = j + 1 ∧ x.2 = (cnt (EqK S.moves R j) S.moves.length : Nat))) (fun x => S.moves.length - x.2.toNat) _ (by omega) ⟨0, h0, .inl ⟨rfl, rfl⟩⟩ ?_
  rintro ⟨mk, c⟩ ⟨k, hk, hc⟩
  dsimp only at hk hc ⊢
  have hcp := cnt_pos (E := EqK S.moves R k) w.n
  have hcl := cnt_le (EqK S.moves R k) S.moves.length
  refine tE hk.mx (tD (fun z => ?_) (fun z => tR ?_))
  · refine tE hk.mx (tLe fun c2 ec => ?_)
    refine tForX (fun j (ks : List NestedKey) => ks.length = j ∧ ∀ s, s < j → ks[s]? = some ((NE.t2 NE.int (NE.tup NE.int)).enc ((mk[s]?).getD 0, nxMarks S.moves mk s))) ⟨rfl, fun s hs => absurd hs (Nat.not_lt_zero _)⟩ ?_ ?_
    · rintro j p ks hp ⟨k1, k2⟩
      obtain ⟨e, he, rfl⟩ := enum_at hp
      have hj : j < S.moves.length := (List.getElem?_eq_some_iff.mp he).1
      have hjm : j < mk.length := by rw [hk.len]; exact hj
      have hmk : mk[j]? = some mk[j] := List.getElem?_eq_getElem hjm
      have hat : atI mk (j : Int) = some mk[j] := by rw [atI_pos (by omega), Int.toNat_natCast]; exact hmk
      have hrow : rowAt S.moves j = e := by unfold rowAt; rw [he]; rfl
      refine tE hat (tG (line_le (Nat.le_trans (hlen e (List.mem_of_getElem? he)) (by decide))) (tFm (g := fun p : Int × Int => (mk[p.1.toNat]?).getD 0) (fun q hq => ?_) (tG (line_lt (by omega)) (tR ⟨by simp [k1], fun s hs => ?_⟩))))
      · have hr := w.rng e (List.mem_of_getElem? he) q hq
        have : q.1.toNat < mk.length := by rw [hk.len]; omega
        refine bI (a := mk[q.1.toNat]) ?_ ?_
        · rw [atI_pos hr.1, List.getElem?_eq_getElem this]
        · rw [List.getElem?_eq_getElem this]; rfl
      · by_cases hsj : s < j
        · rw [List.getElem?_append_left (by omega)]
          exact k2 s hsj
        · have : s = j := by omega
          subst this
          rw [List.getElem?_append_right (by omega), k1, Nat.sub_self]
          unfold nxMarks
          rw [hrow, hmk]
          rfl
    · rintro ks ⟨k1, k2⟩
      have k1 : ks.length = S.moves.length := by rw [k1, enum_len]
      have k2 : ∀ s, s < S.moves.length → ks[s]? = some ((NE.t2 NE.int (NE.tup NE.int)).enc ((mk[s]?).getD 0, nxMarks S.moves mk s)) := fun s hs => k2 s (by rw [enum_len]; exact hs)
      refine tB (numbered_ok (by omega)) fun ns hns => tR ⟨⟨k + 1, Mk.of w hns k1 fun s t hs ht => ?_, .inr ⟨k, rfl, by dsimp only; omega⟩⟩, ?_⟩
      · rw [k2 s hs, k2 t ht, Option.some.injEq, enc_pair, Prod.mk.injEq, nxMarks_eq w hk hs ht]
        have : (mk[s]?).getD 0 = (mk[t]?).getD 0 ↔ EqK S.moves R k s t := by
          rw [← hk.eq s t hs ht]
          rw [List.getElem?_eq_getElem (by rw [hk.len]; exact hs), List.getElem?_eq_getElem (by rw [hk.len]; exact ht)]
          simp
        rw [this]
        rfl
      · dsimp only
        have h0 : 0 ≤ c := by
          rcases hc with ⟨_, rfl⟩ | ⟨j, _, rfl⟩
          · exact Int.le_refl 0
          · exact Int.natCast_nonneg _
        omega
  · have hst : Still S.moves R k := by
      rcases hc with ⟨rfl, rfl⟩ | ⟨j, rfl, rfl⟩
      · omega
      · have hsj : Still S.moves R j := still_of w (by omega)
        intro s t hs ht e
        exact hsj.up w 2 hs ht e.1
    exact first_of w hk hst hn
end K24

/-! K24Q -/
namespace K24
open PySem PySem.Spec L2 Ty
/-! ### the law's marks of pairs -/
abbrev BM := List (List Bool)
def gt (A : BM) (s t : Nat) : Bool := (((A[s]?).getD [])[t]?).getD false
structure Mat (n : Nat) (A : BM) : Prop where
  h : A.length = n
  w : ∀ r ∈ A, r.length = n
theorem Mat.row {n : Nat} {A : BM} (m : Mat n A) {s : Nat} (hs : s < n) : ∃ r, A[s]? = some r ∧ r.length = n := by
  have : s < A.length := by rw [m.h]; exact hs
  exact ⟨A[s], List.getElem?_eq_getElem this, m.w _ (List.getElem_mem this)⟩
theorem Mat.at {n : Nat} {A : BM} (m : Mat n A) {s t : Nat} (hs : s < n) (ht : t < n) : ∃ r, A[s]? = some r ∧ r[t]? = some (gt A s t) := by
  obtain ⟨r, h1, h2⟩ := m.row hs
  refine ⟨r, h1, ?_⟩
  unfold gt
  rw [h1]
  show r[t]? = some ((r[t]?).getD false)
  rw [List.getElem?_eq_getElem (by omega)]; rfl
/-- read by the mirror -/
theorem Mat.rd {n : Nat} {A : BM} (m : Mat n A) {s t : Nat} (hs : s < n) (ht : t < n) {β : Type} {Q : β → Prop} {k : Bool → Option β} (hk : Tot (k (gt A s t)) Q) : Tot ((atI A (s : Int)).bind fun v => (atI v (t : Int)).bind k) Q := by
  obtain ⟨r, h1, h2⟩ := m.at hs ht
  exact tE (a := r) (by rw [atI_pos (by omega), Int.toNat_natCast]; exact h1) (tE (by rw [atI_pos (by omega), Int.toNat_natCast]; exact h2) hk)
def st (A : BM) (s t : Nat) (b : Bool) : BM := A.set s (((A[s]?).getD []).set t b)
theorem Mat.set {n : Nat} {A : BM} (m : Mat n A) {s t : Nat} (hs : s < n) (b : Bool) : Mat n (st A s t b) := by
  obtain ⟨r, h1, h2⟩ := m.row hs
  unfold st
  rw [h1]
  refine ⟨by rw [List.length_set]; exact m.h, fun q hq => ?_⟩
  rcases List.mem_or_eq_of_mem_set hq with h | rfl
  · exact m.w q h
  · rw [List.length_set]; exact h2
theorem gt_st {n : Nat} {A : BM} (m : Mat n A) {s t : Nat} (hs : s < n) (ht : t < n) (b : Bool) (u v : Nat) : gt (st A s t b) u v = if u = s ∧ v = t then b else gt A u v := by
  obtain ⟨r, h1, h2⟩ := m.row hs
  have hsl : s < A.length := by rw [m.h]; exact hs
  unfold gt st
  rw [h1]
  by_cases e1 : u = s
  · subst e1
    rw [List.getElem?_set_self hsl, h1]
    by_cases e2 : v = t
    · subst e2
      simp [List.getElem?_set_self (show v < r.length by omega)]
    · simp only [Option.getD_some]
      rw [List.getElem?_set_ne (fun z => e2 z.symm), if_neg (fun z => e2 z.2)]
  · rw [List.getElem?_set_ne (fun z => e1 z.symm), if_neg (fun z => e1 z.1)]
/-- written by the mirror -/
theorem Mat.wr {n : Nat} {A : BM} (m : Mat n A) {s t : Nat} (hs : s < n) (ht : t < n) {b : Bool} {β : Type} {Q : β → Prop} {k : BM → Option β} (hk : Tot (k (st A s t b)) Q) :
    Tot ((ixN A.length (s : Int)).bind fun j => (A[j]?).bind fun row => (setI row (t : Int) b).bind fun row2 => k (A.set j row2)) Q := by
  obtain ⟨r, h1, h2⟩ := m.row hs
  have hsl : s < A.length := by rw [m.h]; exact hs
  refine tE (a := s) (by rw [ixN_of (by omega) (by omega), Int.toNat_natCast]) (tE h1 (tE (a := r.set t b) (by rw [setI_of (by omega) (by omega), Int.toNat_natCast]) ?_))
  have : A.set s (r.set t b) = st A s t b := by unfold st; rw [h1]; rfl
  rw [this]
  exact hk
structure AInv (M : MvT) (R : Nat) (A : BM) : Prop where
  m : Mat M.length A
  sy : ∀ s t, s < M.length → t < M.length → gt A s t = gt A t s
  ok : ∀ s t, s < M.length → t < M.length → gt A s t = true → ¬ Alk M R s t
def Full (M : MvT) (R k : Nat) (A : BM) : Prop := ∀ s t, s < M.length → t < M.length → ¬ EqK M R k s t → gt A s t = true
theorem out_ne {M : MvT} {R : Nat} {s t : Nat} (h : outsAt M s ≠ outsAt M t) : ¬ Alk M R s t := fun a => h (a 0)
/-- what is known within a walk over all pairs, A0 the marks at its start -/
structure Pass (M : MvT) (R : Nat) (A0 A : BM) (ch : Bool) : Prop where
  i : AInv M R A
  up : ∀ s t, s < M.length → t < M.length → gt A0 s t = true → gt A s t = true
  st : ch = false → A = A0
def Seen (M : MvT) (R : Nat) (A0 A : BM) (s t : Nat) : Prop := gt A s t = true ∨ ∀ r, r < R → gt A0 (nxAt M s r) (nxAt M t r) = false
theorem Seen.up {M : MvT} {R : Nat} {A0 A A' : BM} {s t : Nat} (h : Seen M R A0 A s t) (k : gt A s t = true → gt A' s t = true) : Seen M R A0 A' s t := h.imp k id
theorem FullZ (M : MvT) {R : Nat} {A : BM} (h : ∀ s t, s < M.length → t < M.length → gt A s t = !decide (outsAt M s = outsAt M t)) : Full M R 0 A := fun s t hs ht e => by
  rw [h s t hs ht]
  have e : ¬ outsAt M s = outsAt M t := e
  simp [e]
/-- the whole result -/
theorem apart_end {M : MvT} {R : Nat} (w : MOk M R) (hn : M.length ≤ 100000) {A : BM} (hA : Mat M.length A) (h : ∀ s t, s < M.length → t < M.length → (gt A s t = false ↔ Alk M R s t)) {β : Type} {Q : List Int → Prop}
    (hQ : ∀ f, FirstOf M R f → Q f) :
    Tot (guardO (-(2 ^ 62) ≤ (M.length : Int) ∧ (M.length : Int) < 2 ^ 62) <|
  guardO (((rangeL 0 (M.length : Int))).length ≤ sizeLine) <|
  (fmO (rangeL 0 (M.length : Int)) fun one_222 => (guardO (-(2 ^ 62) ≤ (M.length : Int) ∧ (M.length : Int) < 2 ^ 62) (guardO (((rangeL 0 (M.length : Int))).length ≤ sizeLine) ((fmO (rangeL 0 (M.length : Int)) fun two_227 => ((atI A one_222).bind fun v_228 => (atI v_228 two_227).bind fun v_230 => bif (!v_230) then (some (some two_227)) else some none)).bind fun ys_225 => (atI ys_225 (0 : Int)).bind fun v_233 => some (some v_233))))).bind fun ys_220 =>
  some ys_220) Q := by
  have hl : (rangeL 0 (M.length : Int)).length ≤ 16777216 := by rw [rangeL_len]; omega
  refine tG ⟨by omega, by omega⟩ (tG (line_le hl) (tFmX (fun s (v : Int) => ∃ t : Nat, v = (t : Int) ∧ t ≤ s ∧ Alk M R t s ∧ ∀ u, u < t → ¬ Alk M R u s) (fun s x hx => ?_) fun ys h1 h2 => tR (hQ ys ⟨by rw [h1, rangeL_len]; omega, fun s hs => ?_⟩)))
  · obtain ⟨rfl, hs⟩ := rangeL_at hx
    rw [Int.zero_add]
    have hs : s < M.length := by omega
    have hf : (fmO (rangeL 0 (M.length : Int)) fun two_227 => ((atI A (s : Int)).bind fun v_228 => (atI v_228 two_227).bind fun v_230 => bif (!v_230) then (some (some two_227)) else some none)) = some ((rangeL 0 (M.length : Int)).filter fun t => !gt A s t.toNat) := by
      have gen : ∀ xs : List Int, (∀ x ∈ xs, 0 ≤ x ∧ x < (M.length : Int)) → (fmO xs fun two_227 => ((atI A (s : Int)).bind fun v_228 => (atI v_228 two_227).bind fun v_230 => bif (!v_230) then (some (some two_227)) else some none)) = some (xs.filter fun t => !gt A s t.toNat) := by
        intro xs
        induction xs with
        | nil => intro _; rfl
        | cons x xs ih =>
          intro hx
          have hx0 := hx x List.mem_cons_self
          obtain ⟨r, e1, e2⟩ := hA.at hs (show x.toNat < M.length by omega)
          unfold fmO
          rw [ih fun y hy => hx y (List.mem_cons_of_mem _ hy)]
          have : ((atI A (s : Int)).bind fun v_228 => (atI v_228 x).bind fun v_230 => bif (!v_230) then (some (some x)) else some none) = bif (!gt A s x.toNat) then some (some x) else some none :=
            bI (a := r) (by rw [atI_pos (by omega), Int.toNat_natCast]; exact e1) (bI (by rw [atI_pos hx0.1]; exact e2) rfl)
          dsimp only
          rw [this, List.filter_cons]
          cases gt A s x.toNat <;> rfl
      exact gen _ fun x hx => mem_rangeL hx
    have hne : s ∈ List.range M.length := List.mem_range.mpr hs
    obtain ⟨t, t1, t2, t3⟩ := least_of (P := fun t => Alk M R t s) s (Alk.refl s)
    have hhd : ((rangeL 0 (M.length : Int)).filter fun t => !gt A s t.toNat)[0]? = some (t : Int) := by
      rw [rangeL_nat, ← List.head?_eq_getElem?, List.head?_filter, List.find?_map]
      have : (List.range M.length).find? ((fun (t : Int) => !gt A s t.toNat) ∘ fun (k : Nat) => (k : Int)) = some t := by
        rw [List.find?_range_eq_some]
        refine ⟨?_, List.mem_range.mpr (by omega), fun u hu => ?_⟩
        · show (!gt A s ((t : Int)).toNat) = true
          rw [Int.toNat_natCast, (h s t hs (by omega)).mpr t2.symm]; rfl
        · show (!(!gt A s ((u : Int)).toNat)) = true
          rw [Int.toNat_natCast]
          cases e : gt A s u with
          | true => rfl
          | false => exact absurd ((h s u hs (by omega)).mp e).symm (t3 u hu)
      rw [this]; rfl
    refine ⟨(t : Int), gI ⟨by omega, by omega⟩ (gI (line_le hl) (bI hf (bI (a := (t : Int)) ?_ rfl))), t, rfl, t1, t2, t3⟩
    rw [atI_pos (by decide)]
    exact hhd
  · have hys : s < ys.length := by rw [h1, rangeL_len]; omega
    obtain ⟨t, e, t1, t2, t3⟩ := h2 s ys[s] (List.getElem?_eq_getElem hys)
    exact ⟨t, by rw [List.getElem?_eq_getElem hys, e], t1, t2, t3⟩

theorem outs_at {M : MvT} {s : Nat} (hs : s < M.length) {β : Type} {Q : β → Prop} {k : List Int → Option β} (hR : ∀ e ∈ M, e.length ≤ 100000) (hk : Tot (k (outsAt M s)) Q) :
    Tot ((atI M (s : Int)).bind fun v => guardO (v.length ≤ sizeLine) <| (fmO v fun m => (some (some m.2))).bind k) Q := by
  refine tE (a := rowAt M s) (by rw [atI_pos (by omega), Int.toNat_natCast]; exact (rowAt_mem hs).2) (tG (line_le (Nat.le_trans (hR _ (rowAt_mem hs).1) (by decide))) (tE (fm_copy (rowAt M s) (·.2)) hk))
theorem alike_law {M : MvT} {R : Nat} (w : MOk M R) (hn : M.length ≤ 4000) (hR : R ≤ 100000) : Tot (m__law_alike M) (FirstOf M R) := by
  have hlen : ∀ e ∈ M, e.length ≤ 100000 := fun e he => by rw [w.len e he]; exact hR
  have hl : (rangeL 0 (M.length : Int)).length ≤ 16777216 := by rw [rangeL_len]; omega
  have hg : -(2 ^ 62) ≤ (M.length : Int) ∧ (M.length : Int) < 2 ^ 62 := ⟨by omega, by omega⟩
  unfold m__law_alike
  refine tLe fun n en => ?_
  subst en
  refine tG hg (tG (line_le hl) (tFm (g := fun _ => List.replicate M.length false) (fun x hx => ?_) ?_))
  · refine gI ⟨by omega, by omega, line_le (by show 1 * ((M.length : Int)).toNat ≤ _; omega)⟩ ?_
    rw [rep_flat, Int.toNat_natCast]
  have m0 : Mat M.length ((rangeL 0 (M.length : Int)).map fun _ => List.replicate M.length false) := ⟨by rw [List.length_map, rangeL_len]; omega, fun r hr => by
    obtain ⟨_, _, rfl⟩ := List.mem_map.mp hr
    exact List.length_replicate ..⟩
  generalize ((rangeL 0 (M.length : Int)).map fun _ => List.replicate M.length false) = A00 at m0
  -- the first marks: unlike answers
  refine tG hg (tForR (fun s (A : BM) => Mat M.length A ∧ ∀ u v, u < M.length → v < M.length → (u : Int) < s → gt A u v = !decide (outsAt M u = outsAt M v)) (by omega) ⟨m0, fun u v _ _ h => absurd h (by omega)⟩ ?_ ?_)
  · rintro s A hs0 hs1 ⟨hm, hA⟩
    obtain ⟨one, rfl⟩ := Int.eq_ofNat_of_zero_le hs0
    have ho : one < M.length := by omega
    refine tG hg (tForR (fun t (A : BM) => Mat M.length A ∧ (∀ u v, u < M.length → v < M.length → u < one → gt A u v = !decide (outsAt M u = outsAt M v)) ∧ ∀ v, v < M.length → (v : Int) < t → gt A one v = !decide (outsAt M one = outsAt M v)) (by omega) ⟨hm, fun u v hu hv h => hA u v hu hv (by omega), fun v _ h => absurd h (by omega)⟩ ?_ ?_)
    · rintro t A ht0 ht1 ⟨hm, hA1, hA2⟩
      obtain ⟨two, rfl⟩ := Int.eq_ofNat_of_zero_le ht0
      have ht : two < M.length := by omega
      refine outs_at ho hlen (outs_at ht hlen ?_)
      refine hm.wr ho ht (k := fun A' => some (Fl.next (ρ := List Int) A')) (tR ?_)
      refine ⟨hm.set ho _, fun u v hu hv h => ?_, fun v hv h => ?_⟩
      · rw [gt_st hm ho ht, if_neg (by omega)]
        exact hA1 u v hu hv h
      · rw [gt_st hm ho ht]
        by_cases e : v = two
        · subst e
          rw [if_pos ⟨rfl, rfl⟩]
        · rw [if_neg (fun z => e z.2)]
          exact hA2 v hv (by omega)
    · rintro A ⟨hm, hA1, hA2⟩
      refine tR ⟨hm, fun u v hu hv h => ?_⟩
      by_cases e : u = one
      · subst e
        exact hA2 v hv (by omega)
      · exact hA1 u v hu hv (by omega)
  · rintro A ⟨hm, hA⟩
    have hA : ∀ u v, u < M.length → v < M.length → gt A u v = !decide (outsAt M u = outsAt M v) := fun u v hu hv => hA u v hu hv (by omega)
    have i0 : AInv M R A := ⟨hm, fun s t hs ht => by
      rw [hA s t hs ht, hA t s ht hs]
      congr 1
      rw [Bool.eq_iff_iff, decide_eq_true_eq, decide_eq_true_eq]
      exact ⟨Eq.symm, Eq.symm⟩, fun s t hs ht h => by
      rw [hA s t hs ht] at h
      exact out_ne (by simpa using h)⟩
    have f0 : Full M R 0 A := FullZ M hA
    clear hA hm
    -- the turns
    refine tG hg (tForR (fun k (A : BM) => AInv M R A ∧ Full M R k.toNat A) (by omega) ⟨i0, f0⟩ ?_ ?_)
    · rintro k A0 hk0 hk1 ⟨hi, hf⟩
      refine tG hg (tForR (fun s (x : BM × Bool) => Pass M R A0 x.1 x.2 ∧ ∀ u v, u < M.length → v < u → (u : Int) < s → Seen M R A0 x.1 u v) (by omega) ⟨⟨hi, fun _ _ _ _ h => h, fun _ => rfl⟩, fun u v _ _ h => absurd h (by omega)⟩ ?_ ?_)
      · rintro s ⟨A1, c1⟩ hs0 hs1 ⟨hp1, hseen1⟩
        dsimp only at hp1 hseen1
        obtain ⟨one, rfl⟩ := Int.eq_ofNat_of_zero_le hs0
        have ho : one < M.length := by omega
        refine tG ⟨by omega, by omega⟩ (tForR (fun t (x : BM × Bool) => Pass M R A0 x.1 x.2 ∧ (∀ u v, u < M.length → v < u → u < one → Seen M R A0 x.1 u v) ∧ ∀ v, v < one → (v : Int) < t → Seen M R A0 x.1 one v) (by omega) ⟨hp1, fun u v hu hv h => hseen1 u v hu hv (by omega), fun v _ h => absurd h (by omega)⟩ ?_ ?_)
        · rintro t ⟨A, c⟩ ht0 ht1 ⟨hp, hs1, hs2⟩
          dsimp only at hp hs1 hs2
          obtain ⟨two, rfl⟩ := Int.eq_ofNat_of_zero_le ht0
          have ht : two < M.length := by omega
          have hto : two < one := by omega
          refine hp.i.m.rd ho ht ?_
          cases hg1 : gt A one two with
          | true =>
            refine tR ⟨hp, hs1, fun v hv h => ?_⟩
            by_cases e : v = two
            · subst e
              exact .inl hg1
            · exact hs2 v hv (by omega)
          | false =>
            have hrow : ∀ {s : Nat}, s < M.length → atI M (s : Int) = some (rowAt M s) := fun {s} hs => by rw [atI_pos (by omega), Int.toNat_natCast]; exact (rowAt_mem hs).2
            have hrl : (rowAt M one).length = R := w.len _ (rowAt_mem ho).1
            have key : ∀ {β : Type} {Q : β → Prop} (kn : BM × Bool → Option β) (kr : List Int → Option β), (∀ A' c', Pass M R A0 A' c' → (∀ u v, u < M.length → v < M.length → gt A u v = true → gt A' u v = true) → Seen M R A0 A' one two → Tot (kn (A', c')) Q) →
                Tot (flK (forF (ρ := List (Int)) (rangeL 0 ((rowAt M one).length : Int)) ((A, c) : BM × Bool) fun r_193 (apart_191, changed_192) =>
                  (atI M (one : Int)).bind fun v_194 =>
                  (atI v_194 r_193).bind fun v_196 =>
                  (atI apart_191 v_196.1).bind fun v_198 =>
                  (atI M (two : Int)).bind fun v_200 =>
                  (atI v_200 r_193).bind fun v_202 =>
                  (atI v_198 v_202.1).bind fun v_204 =>
                  bif v_204 then (
                  (ixN (apart_191).length (one : Int)).bind fun j_210 =>
                  ((apart_191)[j_210]?).bind fun row_206 =>
                  (setI row_206 (two : Int) true).bind fun row_208 =>
                  (ixN (((apart_191).set j_210 row_208)).length (two : Int)).bind fun j_216 =>
                  ((((apart_191).set j_210 row_208))[j_216]?).bind fun row_212 =>
                  (setI row_212 (one : Int) true).bind fun row_214 =>
                  some (.brk (((((apart_191).set j_210 row_208)).set j_216 row_214), true)))
                  else (
                  some (.next (apart_191, changed_192)))) kn kr) Q := by
              intro β Q kn kr hK
              refine tForR (fun r (x : BM × Bool) => x = (A, c) ∧ ∀ q : Nat, (q : Int) < r → gt A (nxAt M one q) (nxAt M two q) = false) (by omega) ⟨rfl, fun q h => absurd h (by omega)⟩ ?_ ?_
              · rintro r x hr0 hr1 ⟨rfl, hq⟩
                obtain ⟨q, rfl⟩ := Int.eq_ofNat_of_zero_le hr0
                have hqR : q < R := by omega
                obtain ⟨v1, e1, _, e2⟩ := w.row ho hqR
                obtain ⟨v2, e3, _, e4⟩ := w.row ht hqR
                have n1 := w.nx ho hqR
                have n2 := w.nx ht hqR
                obtain ⟨rw1, g1, g2⟩ := hp.i.m.at n1 n2
                refine tE (hrow ho) (tE (a := v1) (by rw [atI_pos (by omega), Int.toNat_natCast]; exact e1) (tE (a := rw1) (by rw [e2, atI_pos (by omega), Int.toNat_natCast]; exact g1) (tE (hrow ht) (tE (a := v2) (by rw [atI_pos (by omega), Int.toNat_natCast]; exact e3) (tE (a := gt A (nxAt M one q) (nxAt M two q)) (by rw [e4, atI_pos (by omega), Int.toNat_natCast]; exact g2) ?_)))))
                cases hgq : gt A (nxAt M one q) (nxAt M two q) with
                | false =>
                  refine tR ⟨rfl, fun q' h => ?_⟩
                  by_cases e : q' = q
                  · rw [e]; exact hgq
                  · exact hq q' (by omega)
                | true =>
                  have na : ¬ Alk M R one two := fun a => hp.i.ok _ _ n1 n2 hgq (a.nx hqR)
                  have m1 := hp.i.m.set (t := two) ho true
                  have m2 := m1.set (t := one) ht true
                  have gg : ∀ u v, gt (st (st A one two true) two one true) u v = if (u = one ∧ v = two) ∨ (u = two ∧ v = one) then true else gt A u v := fun u v => by
                    rw [gt_st m1 ht ho, gt_st hp.i.m ho ht]
                    by_cases a : u = two ∧ v = one
                    · rw [if_pos a, if_pos (.inr a)]
                    · rw [if_neg a]
                      by_cases b : u = one ∧ v = two
                      · rw [if_pos b, if_pos (.inl b)]
                      · rw [if_neg b, if_neg (fun z => z.elim b a)]
                  have hup : ∀ u v, gt A u v = true → gt (st (st A one two true) two one true) u v = true := fun u v h => by
                    rw [gg]
                    split
                    · rfl
                    · exact h
                  refine hp.i.m.wr ho ht (b := true) (k := fun A1 => (ixN A1.length (two : Int)).bind fun j_216 => (A1[j_216]?).bind fun row_212 => (setI row_212 (one : Int) true).bind fun row_214 => some (Fl.brk (ρ := List Int) (A1.set j_216 row_214, true))) (m1.wr ht ho (b := true) (k := fun A2 => some (Fl.brk (ρ := List Int) (A2, true))) (tR (hK _ true ⟨⟨m2, fun u v hu hv => ?_, fun u v hu hv h => ?_⟩, fun u v hu hv h => hup u v (hp.up u v hu hv h), fun z => nomatch z⟩ (fun u v _ _ h => hup u v h) (.inl ?_))))
                  · rw [gg, gg]
                    by_cases a : (u = one ∧ v = two) ∨ (u = two ∧ v = one)
                    · rw [if_pos a, if_pos (by omega)]
                    · rw [if_neg a, if_neg (by omega)]
                      exact hp.i.sy u v hu hv
                  · rw [gg] at h
                    by_cases a : (u = one ∧ v = two) ∨ (u = two ∧ v = one)
                    · rcases a with ⟨rfl, rfl⟩ | ⟨rfl, rfl⟩
                      · exact na
                      · exact fun z => na z.symm
                    · rw [if_neg a] at h
                      exact hp.i.ok u v hu hv h
                  · rw [gg, if_pos (.inl ⟨rfl, rfl⟩)]
              · rintro x ⟨rfl, hq⟩
                refine hK A c hp (fun _ _ _ _ h => h) (.inr fun r hr => ?_)
                have h1 := hq r (by omega)
                cases h2 : gt A0 (nxAt M one r) (nxAt M two r) with
                | false => rfl
                | true =>
                  rw [hp.up _ _ (w.nx ho hr) (w.nx ht hr) h2] at h1
                  cases h1
            refine tE (hrow ho) (tG ⟨by omega, by omega⟩ (key _ _ fun A' c' hp' hup hsn => tR ⟨hp', fun u v hu hv h => (hs1 u v hu hv h).up (hup u v hu (by omega)), fun v hv h => ?_⟩))
            by_cases e : v = two
            · subst e
              exact hsn
            · exact (hs2 v hv (by omega)).up (hup one v ho (by omega))
        · rintro ⟨A, c⟩ ⟨hp, hs1, hs2⟩
          refine tR ⟨hp, fun u v hu hv h => ?_⟩
          by_cases e : u = one
          · subst e
            exact hs2 v hv (by omega)
          · exact hs1 u v hu hv (by omega)
      · rintro ⟨A, c⟩ ⟨hp, hsn⟩
        dsimp only at hp hsn
        have hsn : ∀ u v, u < M.length → v < u → Seen M R A0 A u v := fun u v hu hv => hsn u v hu hv (by omega)
        have seen : ∀ u v, u < M.length → v < M.length → u ≠ v → gt A u v = true ∨ ∀ r, r < R → gt A0 (nxAt M u r) (nxAt M v r) = false := fun u v hu hv hne => by
          rcases Nat.lt_or_gt_of_ne hne with q | q
          · rcases hsn v u hv q with h | h
            · exact .inl (by rw [hp.i.sy u v hu hv]; exact h)
            · exact .inr fun r hr => by rw [hi.sy _ _ (w.nx hu hr) (w.nx hv hr)]; exact h r hr
          · exact hsn u v hu q
        cases c with
        | true =>
          refine tR ⟨hp.i, fun u v hu hv e => ?_⟩
          rw [show (k + 1).toNat = k.toNat + 1 by omega] at e
          by_cases huv : u = v
          · subst huv
            exact absurd (EqK.refl _ _) e
          · rcases seen u v hu hv huv with h | h
            · exact h
            · refine hp.up u v hu hv (hf u v hu hv fun e1 => e ⟨e1, fun r hr => ?_⟩)
              apply Classical.byContradiction
              intro e2
              have h3 := h r hr
              rw [hf _ _ (w.nx hu hr) (w.nx hv hr) e2] at h3
              cases h3
        | false =>
          have hA := hp.st rfl
          subst hA
          refine tR ?_
          refine apart_end w (by omega) hi.m (fun s t hs ht => ⟨fun e => ?_, fun a => ?_⟩) (β := Unit) fun f hf => hf
          · refine Alk.bisim (B := fun s t => s < M.length ∧ t < M.length ∧ gt A s t = false) (fun s t ⟨hs, ht, e⟩ => ?_) (fun s t ⟨hs, ht, e⟩ r hr => ?_) ⟨hs, ht, e⟩
            · apply Classical.byContradiction
              intro hne
              have : ¬ EqK M R k.toNat s t := fun q => hne q.low
              rw [hf s t hs ht this] at e
              cases e
            · refine ⟨w.nx hs hr, w.nx ht hr, ?_⟩
              by_cases hst : s = t
              · subst hst
                cases h2 : gt A (nxAt M s r) (nxAt M s r) with
                | false => rfl
                | true => exact absurd (Alk.refl _) (hi.ok _ _ (w.nx hs hr) (w.nx hs hr) h2)
              · rcases seen s t hs ht hst with h | h
                · rw [h] at e; cases e
                · exact h r hr
          · cases h2 : gt A s t with
            | false => rfl
            | true => exact absurd a (hi.ok s t hs ht h2)
    · rintro A ⟨hi, hf⟩
      rw [Int.toNat_natCast] at hf
      refine apart_end w (by omega) hi.m (fun s t hs ht => ⟨fun e => alk_of_n w hs ht ?_, fun a => ?_⟩) (β := Unit) fun f hf => hf
      · apply Classical.byContradiction
        intro hne
        rw [hf s t hs ht hne] at e
        cases e
      · cases h2 : gt A s t with
        | false => rfl
        | true => exact absurd a (hi.ok s t hs ht h2)
end K24

/-! K24R -/
namespace K24
open PySem PySem.Spec L2 Ty
/-! ### the reached classes, in the order in which they are met -/
def fN (f : List Int) (s : Nat) : Nat := ((f[s]?).getD 0).toNat
section
variable {M : MvT} {R : Nat} {f : List Int}
theorem fN_at (h : FirstOf M R f) {s : Nat} (hs : s < M.length) : f[s]? = some (fN f s : Int) ∧ fN f s ≤ s ∧ Alk M R (fN f s) s ∧ ∀ u, u < fN f s → ¬ Alk M R u s := by
  obtain ⟨t, e, t1, t2, t3⟩ := h.2 s hs
  have : fN f s = t := by unfold fN; rw [e]; simp
  rw [this]
  exact ⟨e, t1, t2, t3⟩
theorem fN_lt (h : FirstOf M R f) {s : Nat} (hs : s < M.length) : fN f s < M.length := by
  have := (fN_at h hs).2.1
  omega
theorem fN_eq (h : FirstOf M R f) {s t : Nat} (hs : s < M.length) (ht : t < M.length) (a : Alk M R s t) : fN f s = fN f t := by
  obtain ⟨_, _, s2, s3⟩ := fN_at h hs
  obtain ⟨_, _, t2, t3⟩ := fN_at h ht
  rcases Nat.lt_trichotomy (fN f s) (fN f t) with q | q | q
  · exact absurd (s2.trans a) (t3 _ q)
  · exact q
  · exact absurd (t2.trans a.symm) (s3 _ q)
theorem fN_idem (h : FirstOf M R f) {s : Nat} (hs : s < M.length) : fN f (fN f s) = fN f s := fN_eq h (fN_lt h hs) hs (fN_at h hs).2.2.1
theorem fN_zero (h : FirstOf M R f) (hn : 1 ≤ M.length) : fN f 0 = 0 := by
  have := (fN_at h (s := 0) (by omega)).2.1
  omega
end
def ins (S : List Nat) (v : Nat) : List Nat := if v ∈ S then S else S ++ [v]
def pos (S : List Nat) (v : Nat) : Nat := (idxL S v).getD 0
def eS (f : List Int) (x : List Nat × List (Int × Int)) (p : Int × Int) : List Nat × List (Int × Int) := (ins x.1 (fN f p.1.toNat), x.2 ++ [(((pos (ins x.1 (fN f p.1.toNat)) (fN f p.1.toNat) : Nat) : Int), p.2)])
def tS (f : List Int) (M : MvT) (x : List Nat × MvT) : List Nat × MvT :=
  let q := (rowAt M ((x.1[x.2.length]?).getD 0)).foldl (eS f) (x.1, [])
  (q.1, x.2 ++ [q.2])
def itS (f : List Int) (M : MvT) : Nat → List Nat × MvT
  | 0 => ([0], [])
  | j + 1 => tS f M (itS f M j)
/-- each index is at most one more than those before -/
def can : Nat → List Nat → Option Nat
  | p, [] => some p
  | p, v :: r => if v < p then can p r else if v = p then can (p + 1) r else none
theorem idxL_snoc (S : List Nat) (v u : Nat) : idxL (S ++ [v]) u = (idxL S u).or (if v = u then some S.length else none) := by
  unfold idxL
  rw [List.findIdx?_append]
  congr 1
  by_cases e : v = u <;> simp [List.findIdx?_cons, e]
theorem idxL_none {S : List Nat} {v : Nat} (h : v ∉ S) : idxL S v = none := by
  unfold idxL
  rw [List.findIdx?_eq_none_iff]
  intro x hx
  simp
  rintro rfl
  exact h hx
theorem idxL_pos {S : List Nat} {v : Nat} (h : v ∈ S) : idxL S v = some (pos S v) ∧ pos S v < S.length ∧ S[pos S v]? = some v := by
  obtain ⟨n, h1, h2⟩ := idxL_mem h
  have : pos S v = n := by unfold pos; rw [h1]; rfl
  rw [this]
  exact ⟨h1, h2, (idxL_at h1).1⟩
theorem mem_ins {S : List Nat} {v : Nat} : v ∈ ins S v := by
  unfold ins
  split
  · assumption
  · simp
theorem ins_pre (S : List Nat) (v : Nat) : ∃ m, ins S v = S ++ m := by
  unfold ins
  split
  · exact ⟨[], by simp⟩
  · exact ⟨[v], rfl⟩
theorem ins_nodup {S : List Nat} {v : Nat} (h : S.Nodup) : (ins S v).Nodup := by
  unfold ins
  split
  · exact h
  · rename_i hn
    rw [List.nodup_append]
    exact ⟨h, by simp, fun a ha b hb => by rw [List.mem_singleton.mp hb]; rintro rfl; exact hn ha⟩
theorem ins_can {S : List Nat} {v : Nat} : (pos (ins S v) v < S.length ∧ ins S v = S) ∨ (pos (ins S v) v = S.length ∧ (ins S v).length = S.length + 1) := by
  unfold ins
  split
  · rename_i h
    exact .inl ⟨(idxL_pos h).2.1, rfl⟩
  · rename_i h
    refine .inr ⟨?_, by simp⟩
    unfold pos
    rw [idxL_snoc, idxL_none h]
    simp
structure Sv (M : MvT) (f : List Int) (S : List Nat) : Prop where
  nd : S.Nodup
  ok : ∀ v ∈ S, v < M.length ∧ fN f v = v
  z : S[0]? = some 0
theorem Sv.len {M : MvT} {f : List Int} {S : List Nat} (h : Sv M f S) : S.length ≤ M.length := by
  have := nodup_le (l' := List.range M.length) h.nd fun v hv => List.mem_range.mpr (h.ok v hv).1
  simpa using this
theorem Sv.ins {M : MvT} {f : List Int} {S : List Nat} (h : Sv M f S) {v : Nat} (hv : v < M.length ∧ fN f v = v) : Sv M f (ins S v) := by
  refine ⟨ins_nodup h.nd, fun u hu => ?_, ?_⟩
  · unfold K24.ins at hu
    split at hu
    · exact h.ok u hu
    · rcases List.mem_append.mp hu with q | q
      · exact h.ok u q
      · rw [List.mem_singleton.mp q]; exact hv
  · obtain ⟨m, e⟩ := ins_pre S v
    have h0 : 0 < S.length := by
      have := h.z
      exact (List.getElem?_eq_some_iff.mp this).1
    rw [e, List.getElem?_append_left h0]
    exact h.z
/-- the entry of a state: walked in part -/
structure Ent (M : MvT) (R : Nat) (f : List Int) (S0 : List Nat) (s : Nat) (j : Nat) (x : List Nat × List (Int × Int)) : Prop where
  sv : Sv M f x.1
  pre : ∃ m, x.1 = S0 ++ m
  len : x.2.length = j
  at_ : ∀ r, r < j → ∃ b : Nat, x.2[r]? = some ((b : Int), (((rowAt M s)[r]?).getD (0, 0)).2) ∧ x.1[b]? = some (fN f (nxAt M s r))
  can : can S0.length (x.2.map fun p => p.1.toNat) = some x.1.length
theorem can_snoc : ∀ (l : List Nat) (p v q : Nat), can p l = some q → can p (l ++ [v]) = if v < q then some q else if v = q then some (q + 1) else none
  | [], p, v, q, h => by
    cases h
    show (if v < p then some p else if v = p then some (p + 1) else none) = _
    rfl
  | u :: l, p, v, q, h => by
    unfold K24.can at h
    show (if u < p then can p (l ++ [v]) else if u = p then can (p + 1) (l ++ [v]) else none) = _
    split at h
    · rename_i hu
      rw [if_pos hu]
      exact can_snoc l p v q h
    · rename_i hu
      rw [if_neg hu]
      split at h
      · rename_i he
        rw [if_pos he]
        exact can_snoc l (p + 1) v q h
      · cases h
theorem Ent.step {M : MvT} {R : Nat} {f : List Int} {S0 : List Nat} {s j : Nat} {x : List Nat × List (Int × Int)} (w : MOk M R) (hf : FirstOf M R f) (hs : s < M.length) (h : Ent M R f S0 s j x) {p : Int × Int} (hp : (rowAt M s)[j]? = some p) : Ent M R f S0 s (j + 1) (eS f x p) := by
  have hj : j < R := by
    rw [← w.len _ (rowAt_mem hs).1]
    exact (List.getElem?_eq_some_iff.mp hp).1
  have hn := w.nx hs hj
  have hpn : p.1.toNat = nxAt M s j := by unfold nxAt; rw [hp]; rfl
  have hfv : fN f (nxAt M s j) < M.length ∧ fN f (fN f (nxAt M s j)) = fN f (nxAt M s j) := ⟨fN_lt hf hn, fN_idem hf hn⟩
  obtain ⟨sv, ⟨m, pre⟩, len, at_, cn⟩ := h
  obtain ⟨m2, e2⟩ := ins_pre x.1 (fN f (nxAt M s j))
  have ev : eS f x p = (ins x.1 (fN f (nxAt M s j)), x.2 ++ [(((pos (ins x.1 (fN f (nxAt M s j))) (fN f (nxAt M s j)) : Nat) : Int), p.2)]) := by unfold eS; rw [hpn]
  rw [ev]
  obtain ⟨_, q2, q3⟩ := idxL_pos (S := ins x.1 (fN f (nxAt M s j))) (v := fN f (nxAt M s j)) mem_ins
  refine ⟨sv.ins hfv, ⟨m ++ m2, by rw [e2, pre, List.append_assoc]⟩, by simp [len], fun r hr => ?_, ?_⟩
  · by_cases q : r < j
    · obtain ⟨b, b1, b2⟩ := at_ r q
      refine ⟨b, by rw [List.getElem?_append_left (by omega)]; exact b1, ?_⟩
      dsimp only
      rw [e2, List.getElem?_append_left (List.getElem?_eq_some_iff.mp b2).1]
      exact b2
    · have : r = j := by omega
      subst this
      refine ⟨pos (ins x.1 (fN f (nxAt M s r))) (fN f (nxAt M s r)), ?_, q3⟩
      rw [List.getElem?_append_right (by omega), len, Nat.sub_self, hp]
      rfl
  · dsimp only
    rw [List.map_append, List.map_cons, List.map_nil, can_snoc _ _ _ _ cn]
    rw [Int.toNat_natCast]
    rcases ins_can (S := x.1) (v := fN f (nxAt M s j)) with ⟨a, b⟩ | ⟨a, b⟩
    · rw [if_pos a, b]
    · rw [if_neg (by omega), if_pos a, b]
theorem Ent.fold {M : MvT} {R : Nat} {f : List Int} {S0 : List Nat} {s : Nat} (w : MOk M R) (hf : FirstOf M R f) (hs : s < M.length) : ∀ (row : List (Int × Int)) (j : Nat) (x : List Nat × List (Int × Int)), (rowAt M s).drop j = row → j ≤ R → Ent M R f S0 s j x → Ent M R f S0 s R (row.foldl (eS f) x)
  | [], j, x, e, hj, h => by
    have hl := congrArg List.length e
    rw [List.length_drop, w.len _ (rowAt_mem hs).1] at hl
    have hl : R - j = 0 := hl
    have : j = R := by omega
    subst this
    exact h
  | p :: row, j, x, e, hj, h => by
    have hp : (rowAt M s)[j]? = some p := by
      have := congrArg (fun l => l[0]?) e
      simpa using this
    have hlt : j < R := by
      rw [← w.len _ (rowAt_mem hs).1]
      exact (List.getElem?_eq_some_iff.mp hp).1
    have hd : (rowAt M s).drop (j + 1) = row := by
      have := congrArg List.tail e
      simpa [List.tail_drop] using this
    exact Ent.fold w hf hs row (j + 1) _ hd hlt (h.step w hf hs hp)
/-- behind j turns -/
structure Bf (M : MvT) (R : Nat) (f : List Int) (j : Nat) (x : List Nat × MvT) : Prop where
  sv : Sv M f x.1
  len : x.2.length = j
  le : j ≤ x.1.length
  at_ : ∀ a, a < j → ∃ s E, x.1[a]? = some s ∧ s < M.length ∧ x.2[a]? = some E ∧ E.length = R ∧ ∀ r, r < R → ∃ b : Nat, E[r]? = some ((b : Int), (((rowAt M s)[r]?).getD (0, 0)).2) ∧ x.1[b]? = some (fN f (nxAt M s r))
theorem bf_zero {M : MvT} {R : Nat} {f : List Int} (w : MOk M R) (hf : FirstOf M R f) : Bf M R f 0 (itS f M 0) := by
  refine ⟨⟨by simp [itS], fun v hv => ?_, rfl⟩, rfl, Nat.zero_le _, fun a ha => absurd ha (Nat.not_lt_zero _)⟩
  have hv : v ∈ [0] := hv
  rw [List.mem_singleton.mp hv]
  exact ⟨w.n, fN_zero hf w.n⟩
theorem bf_ent {M : MvT} {R : Nat} {f : List Int} (w : MOk M R) (hf : FirstOf M R f) {j : Nat} {x : List Nat × MvT} (h : Bf M R f j x) (hj : j < x.1.length) : ∃ s, x.1[j]? = some s ∧ s < M.length ∧ Ent M R f x.1 s R ((rowAt M s).foldl (eS f) (x.1, [])) ∧ tS f M x = (((rowAt M s).foldl (eS f) (x.1, [])).1, x.2 ++ [((rowAt M s).foldl (eS f) (x.1, [])).2]) := by
  have e : x.1[j]? = some x.1[j] := List.getElem?_eq_getElem hj
  have hs := (h.sv.ok _ (List.getElem_mem hj)).1
  refine ⟨_, e, hs, Ent.fold w hf hs (rowAt M x.1[j]) 0 _ rfl (Nat.zero_le _) ⟨h.sv, ⟨[], by simp⟩, rfl, fun r hr => absurd hr (Nat.not_lt_zero _), rfl⟩, ?_⟩
  unfold tS
  rw [h.len, e]
  rfl
theorem bf_succ {M : MvT} {R : Nat} {f : List Int} (w : MOk M R) (hf : FirstOf M R f) {j : Nat} {x : List Nat × MvT} (h : Bf M R f j x) (hj : j < x.1.length) : Bf M R f (j + 1) (tS f M x) := by
  obtain ⟨s, e, hs, hE, eT⟩ := bf_ent w hf h hj
  rw [eT]
  generalize (rowAt M s).foldl (eS f) (x.1, []) = q at hE
  obtain ⟨sv, ⟨m, pre⟩, len, at_, _⟩ := hE
  have up : ∀ {a v : Nat}, x.1[a]? = some v → q.1[a]? = some v := fun {a v} ha => by
    rw [pre, List.getElem?_append_left (List.getElem?_eq_some_iff.mp ha).1]
    exact ha
  refine ⟨sv, by simp [h.len], ?_, fun a ha => ?_⟩
  · have := (List.getElem?_eq_some_iff.mp (up e)).1
    exact this
  · by_cases q' : a < j
    · obtain ⟨s', E, e1, e2, e3, e4, e5⟩ := h.at_ a q'
      refine ⟨s', E, up e1, e2, by rw [List.getElem?_append_left (by rw [h.len]; exact q')]; exact e3, e4, fun r hr => ?_⟩
      obtain ⟨b, b1, b2⟩ := e5 r hr
      exact ⟨b, b1, up b2⟩
    · have : a = j := by omega
      subst this
      refine ⟨s, q.2, up e, hs, ?_, len, at_⟩
      rw [List.getElem?_append_right (by rw [h.len]; exact Nat.le_refl _), h.len, Nat.sub_self]
      rfl
/-- the turn where nothing new is left -/
theorem bf_stop {M : MvT} {R : Nat} {f : List Int} (w : MOk M R) (hf : FirstOf M R f) : ∃ J, J ≤ M.length ∧ Bf M R f J (itS f M J) ∧ (itS f M J).1.length = J ∧ ∀ j, j < J → Bf M R f j (itS f M j) ∧ j < (itS f M j).1.length := by
  have all : ∀ j, (∀ i, i < j → (itS f M i).1.length ≠ i) → Bf M R f j (itS f M j) := by
    intro j
    induction j with
    | zero => intro _; exact bf_zero w hf
    | succ j ih =>
      intro h
      have b := ih fun i hi => h i (by omega)
      have := h j (by omega)
      have := b.le
      exact bf_succ w hf b (by omega)
  have ex : ∃ J, (itS f M J).1.length = J := by
    apply Classical.byContradiction
    intro hn
    have b := all (M.length + 1) fun i _ e => hn ⟨i, e⟩
    have h1 := b.le
    have h2 := b.sv.len
    omega
  obtain ⟨J0, hJ0⟩ := ex
  obtain ⟨J, _, hJ, hmin⟩ := least_of (P := fun J => (itS f M J).1.length = J) J0 hJ0
  have b := all J fun i hi e => hmin i hi e
  refine ⟨J, by have := b.sv.len; omega, b, hJ, fun j hj => ?_⟩
  have bj := all j fun i hi e => hmin i (by omega) e
  refine ⟨bj, ?_⟩
  have h1 := bj.le
  have h2 := hmin j hj
  omega
end K24

/-! K24S -/
namespace K24
open PySem PySem.Spec L2 Ty
structure Gd (i o : Int) (M : MvT) : Prop where
  hi : 0 ≤ i ∧ i ≤ 6
  ho : 0 ≤ o ∧ o ≤ 32
  w : MOk M (2 ^ Int.toNat i)
  n : M.length ≤ 1000
  a : ∀ e ∈ M, ∀ v ∈ e, 0 ≤ v.2 ∧ v.2 < 2 ^ Int.toNat o
theorem powE {i : Int} (h : 0 ≤ i) : (1 : Int) * 2 ^ i.toNat = ((2 ^ i.toNat : Nat) : Int) := by rw [Int.one_mul, Int.natCast_pow]; rfl
theorem pow_le {i n : Nat} (h : i ≤ n) : 2 ^ i ≤ 2 ^ n := Nat.pow_le_pow_right (by decide) h
theorem minit_ok {i o : Int} {M : MvT} (g : Gd i o M) : m_Machine_init i o M = some (⟨i, o, M⟩, ()) := by
  obtain ⟨hi, ho, w, hn, ha⟩ := g
  have h1 := w.n
  refine Tot.eq ?_
  unfold m_Machine_init
  refine tC (fun z => ?_) (fun _ => tD (fun z => ?_) (fun _ => tG ⟨by omega, by omega⟩ (tLe fun rows er => ?_)))
  · exfalso
    rw [decide_eq_true hi.1, decide_eq_true hi.2, decide_eq_true ho.1, decide_eq_true ho.2] at z
    exact absurd z (by decide)
  · omega
  rw [powE hi.1] at er
  have hR : 2 ^ i.toNat ≤ 2 ^ 6 := pow_le (by omega)
  have hlen := w.len
  have hrng := w.rng
  generalize 2 ^ i.toNat = R at er hR hlen
  have hR0 : 0 ≤ rows := by rw [er]; exact Int.natCast_nonneg _
  have hR2 : rows ≤ 64 := by rw [er]; exact Int.ofNat_le.mpr hR
  refine tForX (fun _ _ => True) trivial (fun j p u hp _ => ?_) (fun _ _ => ?_)
  · obtain ⟨E, hE, rfl⟩ := enum_at hp
    have hj := (List.getElem?_eq_some_iff.mp hp).1
    rw [enum_len] at hj
    have hEm := List.mem_of_getElem? hE
    have e1 : (E.length : Int) = rows := by rw [hlen E hEm, er]
    refine tD (fun z => ?_) (fun _ => ?_)
    · exfalso
      have z : (j : Int) = 1000 := z
      omega
    · have em : (if ((E).length : Int) > rows then ((E).length : Int) else rows) = rows := by rw [e1]; exact if_neg (by omega)
      have en : (if ((E).length : Int) < rows then ((E).length : Int) else rows) = rows := by rw [e1]; exact if_neg (by omega)
      dsimp only
      rw [em, en]
      refine tG ⟨by omega, by omega⟩ (tForR (fun _ _ => True) hR0 trivial (fun k _ hk1 hk2 _ => ?_) (fun _ _ => tR trivial))
      refine tE (a := false) (cF (decide_eq_false (by omega)) ?_) (tR trivial)
      obtain ⟨v, hv⟩ := atI_ex (xs := E) (i := k) hk1 (by omega)
      have hvm := mem_of_atI hv
      have q1 := hrng E hEm v hvm
      have q2 := ha E hEm v hvm
      refine bI hv (bI (a := true) ?_ rfl)
      unfold m_is_move
      refine bI (cT (by rw [Bool.and_eq_true, decide_eq_true_eq, decide_eq_true_eq]; exact q1) (bI (cT (decide_eq_true q2.1) (gI ⟨by omega, by omega⟩ ?_)) rfl)) (rfl : some true = _)
      rw [Int.one_mul]
      exact congrArg some (decide_eq_true q2.2)
  · refine tG (line_le (by omega)) (tFm (g := fun x => x) (fun _ _ => rfl) (tR ?_))
    rw [List.map_id']
/-! ### both walks -/
def cs (S : List Nat) : List Int := S.map fun (n : Nat) => (n : Int)
theorem cs_at (S : List Nat) (j : Nat) : (cs S)[j]? = (S[j]?).map fun (n : Nat) => (n : Int) := List.getElem?_map ..
theorem cs_len (S : List Nat) : (cs S).length = S.length := List.length_map ..
theorem cs_idx (S : List Nat) (v : Nat) : idxL (cs S) (v : Int) = idxL S v := by
  unfold idxL cs
  rw [List.findIdx?_map]
  congr 1
  funext x
  show decide (((x : Nat) : Int) = (v : Int)) = decide (x = v)
  by_cases e : x = v
  · rw [decide_eq_true e, decide_eq_true (by rw [e])]
  · rw [decide_eq_false e, decide_eq_false (show ¬ ((x : Nat) : Int) = (v : Int) from fun z => e (Int.ofNat.inj z))]
theorem cs_mem (S : List Nat) (v : Nat) : (v : Int) ∈ cs S ↔ v ∈ S := by
  unfold cs
  rw [List.mem_map]
  constructor
  · rintro ⟨x, hx, e⟩
    rw [← Int.ofNat.inj e]; exact hx
  · intro h
    exact ⟨v, h, rfl⟩
theorem fA {M : MvT} {R : Nat} {f : List Int} (hf : FirstOf M R f) {s : Nat} (hs : s < M.length) : atI f (s : Int) = some (fN f s : Int) := by
  rw [atI_pos (by omega), Int.toNat_natCast]
  exact (fN_at hf hs).1
def Kn (S : List Nat) (kn : List (Int × Int)) : Prop := kn.length ≤ S.length ∧ ∀ v : Nat, dget kn (v : Int) = (idxL S v).map fun (n : Nat) => (n : Int)
theorem Kn.ins {S : List Nat} {kn : List (Int × Int)} (h : Kn S kn) {v : Nat} (hv : v ∉ S) : Kn (S ++ [v]) (dput kn (v : Int) (S.length : Int)) := by
  refine ⟨?_, fun u => ?_⟩
  · have := dput_len kn (v : Int) (S.length : Int)
    rw [List.length_append]
    show _ ≤ S.length + 1
    have := h.1
    omega
  · rw [dget_put, h.2 u, idxL_snoc]
    by_cases e : u = v
    · subst e
      rw [if_pos rfl, if_pos rfl, idxL_none hv]
      rfl
    · rw [if_neg (by intro z; exact e (Int.ofNat.inj z)), if_neg (fun z => e z.symm)]
      cases idxL S u <;> rfl

theorem cs_ins {S : List Nat} {v : Nat} : cs (K24.ins S v) = if v ∈ S then cs S else cs S ++ [(v : Int)] := by
  unfold K24.ins
  split
  · rfl
  · unfold cs; rw [List.map_append]; rfl
theorem row_at {M : MvT} {s : Nat} (hs : s < M.length) : atI M (s : Int) = some (rowAt M s) := by rw [atI_pos (by omega), Int.toNat_natCast]; exact (rowAt_mem hs).2
theorem least_ok {i o : Int} {M : MvT} (g : Gd i o M) {f : List Int} (hf : FirstOf M (2 ^ i.toNat) f) {J : Nat} (hJ : J ≤ M.length) (hS : (itS f M J).1.length = J) (hB : ∀ j, j < J → Bf M (2 ^ i.toNat) f j (itS f M j) ∧ j < (itS f M j).1.length)
    (hA : m_alike_states ⟨i, o, M⟩ = some f) (hI : m_Machine_init i o (itS f M J).2 = some (⟨i, o, (itS f M J).2⟩, ())) (hL : (itS f M J).2.length = J) : m_least_machine ⟨i, o, M⟩ = some ⟨i, o, (itS f M J).2⟩ := by
  have hn := g.n
  refine Tot.eq ?_
  unfold m_least_machine
  refine tE hA ?_
  refine tWhile (fun (x : List Int × List (Int × Int) × MvT) => ∃ j, j ≤ J ∧ x.1 = cs (itS f M j).1 ∧ Kn (itS f M j).1 x.2.1 ∧ x.2.2 = (itS f M j).2 ∧ x.2.2.length = j) (fun x => J - x.2.2.length) _ (by show J - 0 < M.length + 2; omega) ⟨0, Nat.zero_le _, rfl, ⟨Nat.le_refl _, fun v => ?_⟩, rfl, rfl⟩ ?_
  · show dget [((0 : Int), (0 : Int))] (v : Int) = (idxL [0] v).map fun (n : Nat) => (n : Int)
    rw [dget_cons]
    by_cases e : v = 0
    · subst e; rfl
    · rw [if_neg (show ¬ (0 : Int) = (v : Int) by omega), idxL_none (by simpa using e)]; rfl
  rintro ⟨S, kn, mv⟩ ⟨j, hj, e1, hk, e2, e3⟩
  dsimp only at e1 hk e2 e3 ⊢
  subst e1
  refine tD (fun z => ?_) (fun z => tR ?_)
  · rw [e3, cs_len] at z
    have hjJ : j < J := by
      rcases Nat.lt_or_ge j J with q | q
      · exact q
      · have : j = J := by omega
        subst this
        omega
    obtain ⟨b, hlt⟩ := hB j hjJ
    obtain ⟨s, es, hs, hE, eT⟩ := bf_ent g.w hf b hlt
    rw [e3]
    refine tE (a := (s : Int)) (by rw [atI_pos (by omega), Int.toNat_natCast, cs_at, es]; rfl) (tE (row_at hs) ?_)
    refine tForX (fun r (x : List Int × List (Int × Int) × List (Int × Int)) => ∃ y : List Nat × List (Int × Int), x.1 = cs y.1 ∧ Kn y.1 x.2.1 ∧ x.2.2 = y.2 ∧ Ent M (2 ^ i.toNat) f (itS f M j).1 s r y ∧ ((rowAt M s).drop r).foldl (eS f) y = (rowAt M s).foldl (eS f) ((itS f M j).1, [])) ⟨((itS f M j).1, []), rfl, hk, rfl, ⟨b.sv, ⟨[], by simp⟩, rfl, fun r hr => absurd hr (Nat.not_lt_zero _), rfl⟩, rfl⟩ ?_ ?_
    · rintro r p ⟨S2, kn2, en⟩ hp ⟨y, f1, f2, f3, f4, f5⟩
      dsimp only at f1 f2 f3 ⊢
      subst f1 f3
      have hr : r < 2 ^ i.toNat := by
        rw [← g.w.len _ (rowAt_mem hs).1]
        exact (List.getElem?_eq_some_iff.mp hp).1
      have hnx := g.w.nx hs hr
      have hpn : p.1 = (nxAt M s r : Int) := by
        obtain ⟨v, a1, _, a2⟩ := g.w.row hs hr
        rw [hp] at a1; cases a1
        exact a2
      have hst := f4.step g.w hf hs hp
      have hyl := f4.sv.len
      have hyl2 := hst.sv.len
      have ev : eS f y p = (K24.ins y.1 (fN f (nxAt M s r)), y.2 ++ [(((pos (K24.ins y.1 (fN f (nxAt M s r))) (fN f (nxAt M s r)) : Nat) : Int), p.2)]) := by unfold eS; rw [hpn, Int.toNat_natCast]
      obtain ⟨i1, i2, i3⟩ := idxL_pos (S := K24.ins y.1 (fN f (nxAt M s r))) (v := fN f (nxAt M s r)) mem_ins
      have hdrop : (rowAt M s).drop r = p :: (rowAt M s).drop (r + 1) := by
        have hrl : r < (rowAt M s).length := (List.getElem?_eq_some_iff.mp hp).1
        rw [List.drop_eq_getElem_cons hrl, (List.getElem?_eq_some_iff.mp hp).2]
      have h5 : ((rowAt M s).drop (r + 1)).foldl (eS f) (eS f y p) = (rowAt M s).foldl (eS f) ((itS f M j).1, []) := by rw [← f5, hdrop]; rfl
      have hlenY : y.2.length < 16777216 := by
        have h1 := f4.len
        have h2 : 2 ^ i.toNat ≤ 2 ^ 6 := pow_le (by have := g.hi; omega)
        omega
      refine tE (a := (fN f (nxAt M s r) : Int)) (by rw [hpn]; exact fA hf hnx) ?_
      rw [f2.2]
      refine tB (R := fun (q : List Int × List (Int × Int)) => q.1 = cs (K24.ins y.1 (fN f (nxAt M s r))) ∧ Kn (K24.ins y.1 (fN f (nxAt M s r))) q.2) ?_ ?_
      · by_cases hm : fN f (nxAt M s r) ∈ y.1
        · rw [(idxL_pos hm).1]
          refine tR ⟨?_, ?_⟩
          · rw [cs_ins, if_pos hm]
          · unfold K24.ins; rw [if_pos hm]; exact f2
        · rw [idxL_none hm]
          have hk1 := f2.1
          refine tG (line_lt (by omega)) (tG (line_lt (by rw [cs_len]; omega)) (tR ⟨?_, ?_⟩))
          · rw [cs_ins, if_neg hm]
          · unfold K24.ins; rw [if_neg hm, cs_len]; exact f2.ins hm
      · rintro ⟨S3, kn3⟩ ⟨q1, q2⟩
        dsimp only at q1 q2 ⊢
        refine tE (a := ((pos (K24.ins y.1 (fN f (nxAt M s r))) (fN f (nxAt M s r)) : Nat) : Int)) (by rw [q2.2, i1]; rfl) (tG (line_lt hlenY) (tR ⟨eS f y p, ?_, ?_, ?_, hst, h5⟩))
        · rw [q1, ev]
        · rw [ev]; exact q2
        · rw [ev]
    · rintro ⟨S2, kn2, en⟩ ⟨y, f1, f2, f3, f4, f5⟩
      dsimp only at f1 f2 f3 ⊢
      rw [List.drop_length] at f5
      have f5 : y = (rowAt M s).foldl (eS f) ((itS f M j).1, []) := f5
      rw [← f5] at eT
      have eT' : itS f M (j + 1) = (y.1, (itS f M j).2 ++ [y.2]) := eT
      refine tG (line_lt (by omega)) (tR ⟨⟨j + 1, by omega, ?_, ?_, ?_, ?_⟩, ?_⟩)
      · rw [eT', f1]
      · rw [eT']; exact f2
      · rw [eT', e2, f3]
      · dsimp only
        rw [List.length_append, e3]; rfl
      · dsimp only
        rw [List.length_append, e3]
        show J - (j + 1) < J - j
        omega
  · rw [e3, cs_len] at z
    have hjJ : j = J := by
      apply Classical.byContradiction
      intro hne
      have := (hB j (by omega)).2
      omega
    subst hjJ
    rw [e2]
    exact tE hI (tR rfl)
theorem lleast_ok {M : MvT} {R : Nat} (w : MOk M R) (hR : R ≤ 100000) (hn : M.length ≤ 1000) {f : List Int} (hf : FirstOf M R f) {J : Nat} (hJ : J ≤ M.length) (hS : (itS f M J).1.length = J) (hB : ∀ j, j < J → Bf M R f j (itS f M j) ∧ j < (itS f M j).1.length)
    (hA : m__law_alike M = some f) : m__law_least M = some (itS f M J).2 := by
  refine Tot.eq ?_
  unfold m__law_least
  refine tE hA (tG ⟨by omega, by omega⟩ ?_)
  refine tForR (fun k (x : List Int × MvT) => k ≤ J ∧ x.1 = cs (itS f M k.toNat).1 ∧ x.2 = (itS f M k.toNat).2) (by omega) ⟨by omega, rfl, rfl⟩ ?_ ?_
  · rintro k ⟨S, mv⟩ hk0 hk1 ⟨hkJ, e1, e2⟩
    obtain ⟨j, rfl⟩ := Int.eq_ofNat_of_zero_le hk0
    rw [Int.toNat_natCast] at e1 e2
    dsimp only at e1 e2 ⊢
    subst e1
    refine tD (fun z => tR ?_) (fun z => ?_)
    · rw [cs_len] at z
      have hjJ : j = J := by
        apply Classical.byContradiction
        intro hne
        have := (hB j (by omega)).2
        omega
      subst hjJ
      rw [e2]
      exact tR rfl
    · rw [cs_len] at z
      have hjJ : j < J := by
        rcases Nat.lt_or_ge j J with q | q
        · exact q
        · have : j = J := by omega
          subst this
          omega
      obtain ⟨b, hlt⟩ := hB j hjJ
      obtain ⟨s, es, hs, hE, eT⟩ := bf_ent w hf b hlt
      have hml : mv.length ≤ 1000 := by rw [e2, b.len]; omega
      refine tE (a := (s : Int)) (by rw [atI_pos (by omega), Int.toNat_natCast, cs_at, es]; rfl) (tE (row_at hs) ?_)
      refine tForX (fun r (x : List Int × List (Int × Int)) => ∃ y : List Nat × List (Int × Int), x.1 = cs y.1 ∧ x.2 = y.2 ∧ Ent M R f (itS f M j).1 s r y ∧ ((rowAt M s).drop r).foldl (eS f) y = (rowAt M s).foldl (eS f) ((itS f M j).1, [])) ⟨((itS f M j).1, []), rfl, rfl, ⟨b.sv, ⟨[], by simp⟩, rfl, fun r hr => absurd hr (Nat.not_lt_zero _), rfl⟩, rfl⟩ ?_ ?_
      · rintro r p ⟨S2, en⟩ hp ⟨y, f1, f3, f4, f5⟩
        dsimp only at f1 f3 ⊢
        subst f1 f3
        have hr : r < R := by
          rw [← w.len _ (rowAt_mem hs).1]
          exact (List.getElem?_eq_some_iff.mp hp).1
        have hnx := w.nx hs hr
        have hpn : p.1 = (nxAt M s r : Int) := by
          obtain ⟨v, a1, _, a2⟩ := w.row hs hr
          rw [hp] at a1; cases a1
          exact a2
        have hst := f4.step w hf hs hp
        have hyl := f4.sv.len
        have ev : eS f y p = (K24.ins y.1 (fN f (nxAt M s r)), y.2 ++ [(((pos (K24.ins y.1 (fN f (nxAt M s r))) (fN f (nxAt M s r)) : Nat) : Int), p.2)]) := by unfold eS; rw [hpn, Int.toNat_natCast]
        obtain ⟨i1, i2, i3⟩ := idxL_pos (S := K24.ins y.1 (fN f (nxAt M s r))) (v := fN f (nxAt M s r)) mem_ins
        have hdrop : (rowAt M s).drop r = p :: (rowAt M s).drop (r + 1) := by
          have hrl : r < (rowAt M s).length := (List.getElem?_eq_some_iff.mp hp).1
          rw [List.drop_eq_getElem_cons hrl, (List.getElem?_eq_some_iff.mp hp).2]
        have h5 : ((rowAt M s).drop (r + 1)).foldl (eS f) (eS f y p) = (rowAt M s).foldl (eS f) ((itS f M j).1, []) := by rw [← f5, hdrop]; rfl
        have hfa : atI f p.1 = some (fN f (nxAt M s r) : Int) := by rw [hpn]; exact fA hf hnx
        have hlenY := f4.len
        refine tE hfa ?_
        refine tB (R := fun (q : List Int) => q = cs (K24.ins y.1 (fN f (nxAt M s r)))) ?_ ?_
        · by_cases hm : fN f (nxAt M s r) ∈ y.1
          · rw [decide_eq_true ((cs_mem _ _).mpr hm)]
            exact tR (by rw [cs_ins, if_pos hm])
          · rw [decide_eq_false (fun z => hm ((cs_mem _ _).mp z))]
            exact tE hfa (tG (line_lt (by rw [cs_len]; omega)) (tR (by rw [cs_ins, if_neg hm])))
        · rintro S3 rfl
          refine tE hfa (tE (a := pos (K24.ins y.1 (fN f (nxAt M s r))) (fN f (nxAt M s r))) (by rw [cs_idx, i1]) (tG (line_lt (by omega)) (tR ⟨eS f y p, ?_, ?_, hst, h5⟩)))
          · rw [ev]
          · rw [ev]
      · rintro ⟨S2, en⟩ ⟨y, f1, f3, f4, f5⟩
        dsimp only at f1 f3 ⊢
        rw [List.drop_length] at f5
        have f5 : y = (rowAt M s).foldl (eS f) ((itS f M j).1, []) := f5
        rw [← f5] at eT
        have eT' : itS f M (j + 1) = (y.1, (itS f M j).2 ++ [y.2]) := eT
        refine tG (line_lt (by omega)) (tR ⟨by omega, ?_, ?_⟩)
        · rw [show ((j : Int) + 1).toNat = j + 1 by omega, eT', f1]
        · rw [show ((j : Int) + 1).toNat = j + 1 by omega, eT', e2, f3]
  · rintro ⟨S, mv⟩ ⟨hkJ, e1, e2⟩
    have : M.length = J := by omega
    rw [Int.toNat_natCast, this] at e2
    exact tR e2
end K24

/-! K24T -/
namespace K24
open PySem PySem.Spec L2 Ty
/-- the least machine L of M: its state a stands for the state S[a] of M -/
structure Red (M : MvT) (R : Nat) (f : List Int) (S : List Nat) (L : MvT) : Prop where
  sv : Sv M f S
  len : L.length = S.length
  at_ : ∀ a, a < S.length → ∃ s E, S[a]? = some s ∧ s < M.length ∧ L[a]? = some E ∧ E.length = R ∧ ∀ r, r < R → ∃ b : Nat, E[r]? = some ((b : Int), (((rowAt M s)[r]?).getD (0, 0)).2) ∧ S[b]? = some (fN f (nxAt M s r))
section
variable {M : MvT} {R : Nat} {f : List Int} {S : List Nat} {L : MvT}
theorem Red.mok (h : Red M R f S L) : MOk L R := by
  have hz := (List.getElem?_eq_some_iff.mp h.sv.z).1
  have all : ∀ e ∈ L, ∃ a, a < S.length ∧ L[a]? = some e := fun e he => by
    obtain ⟨a, ha⟩ := List.getElem?_of_mem he
    exact ⟨a, by rw [← h.len]; exact (List.getElem?_eq_some_iff.mp ha).1, ha⟩
  refine ⟨by rw [h.len]; omega, fun e he => ?_, fun e he v hv => ?_⟩
  · obtain ⟨a, ha, e1⟩ := all e he
    obtain ⟨s, E, _, _, e2, e3, _⟩ := h.at_ a ha
    rw [e1] at e2; cases e2
    exact e3
  · obtain ⟨a, ha, e1⟩ := all e he
    obtain ⟨s, E, _, _, e2, e3, e4⟩ := h.at_ a ha
    rw [e1] at e2; cases e2
    obtain ⟨r, hr⟩ := List.getElem?_of_mem hv
    obtain ⟨b, b1, b2⟩ := e4 r (by rw [← e3]; exact (List.getElem?_eq_some_iff.mp hr).1)
    rw [hr] at b1; cases b1
    have := (List.getElem?_eq_some_iff.mp b2).1
    rw [h.len]
    dsimp only
    omega
theorem Red.st (w : MOk M R) (h : Red M R f S L) {a : Nat} (ha : a < L.length) : ∃ s, S[a]? = some s ∧ s < M.length ∧ fN f s = s ∧ outsAt L a = outsAt M s ∧ ∀ r, r < R → S[nxAt L a r]? = some (fN f (nxAt M s r)) ∧ ((rowAt L a)[r]?).getD (0, 0) = ((nxAt L a r : Int), (((rowAt M s)[r]?).getD (0, 0)).2) := by
  obtain ⟨s, E, e1, e2, e3, e4, e5⟩ := h.at_ a (by rw [← h.len]; exact ha)
  have hE : rowAt L a = E := by unfold rowAt; rw [e3]; rfl
  refine ⟨s, e1, e2, (h.sv.ok s (List.mem_of_getElem? e1)).2, ?_, fun r hr => ?_⟩
  · unfold outsAt
    rw [hE]
    refine List.ext_getElem? fun r => ?_
    rw [List.getElem?_map, List.getElem?_map]
    have hl := w.len _ (rowAt_mem e2).1
    by_cases hr : r < R
    · obtain ⟨b, b1, _⟩ := e5 r hr
      rw [b1]
      rw [List.getElem?_eq_getElem (by omega)]
      rfl
    · rw [List.getElem?_eq_none (by omega), List.getElem?_eq_none (by omega)]
  · obtain ⟨b, b1, b2⟩ := e5 r hr
    have : nxAt L a r = b := by unfold nxAt; rw [hE, b1]; rfl
    rw [this]
    exact ⟨b2, by rw [hE, b1]; rfl⟩
theorem nodup_at {S : List Nat} (h : S.Nodup) {a b v : Nat} (ha : S[a]? = some v) (hb : S[b]? = some v) : a = b := by
  have h1 := (List.getElem?_eq_some_iff.mp ha).1
  have h2 := (List.getElem?_eq_some_iff.mp hb).1
  have e : S[a]? = S[b]? := by rw [ha, hb]
  exact (List.getElem?_inj h1 h).mp e
theorem Red.nx_lt (w : MOk M R) (h : Red M R f S L) {a r : Nat} (ha : a < L.length) (hr : r < R) : nxAt L a r < L.length := h.mok.nx ha hr
/-- alike in L: the same state -/
theorem Red.alk (w : MOk M R) (hf : FirstOf M R f) (h : Red M R f S L) {a b : Nat} (ha : a < L.length) (hb : b < L.length) (e : Alk L R a b) : a = b := by
  obtain ⟨s, a1, a2, a3, _⟩ := h.st w ha
  obtain ⟨t, b1, b2, b3, _⟩ := h.st w hb
  have : Alk M R s t := by
    refine Alk.bisim (B := fun x y => x < M.length ∧ y < M.length ∧ ∃ a b, a < L.length ∧ b < L.length ∧ S[a]? = some (fN f x) ∧ S[b]? = some (fN f y) ∧ Alk L R a b) (fun x y hB => ?_) (fun x y hB r hr => ?_) ⟨a2, b2, a, b, ha, hb, by rw [a3]; exact a1, by rw [b3]; exact b1, e⟩
    · obtain ⟨hx, hy, a, b, ha, hb, e1, e2, e3⟩ := hB
      obtain ⟨s, c1, c2, c3, c4, _⟩ := h.st w ha
      obtain ⟨t, d1, d2, d3, d4, _⟩ := h.st w hb
      rw [e1] at c1; cases c1
      rw [e2] at d1; cases d1
      rw [← (fN_at hf hx).2.2.1 0, ← (fN_at hf hy).2.2.1 0, ← c4, ← d4]
      exact e3 0
    · obtain ⟨hx, hy, a, b, ha, hb, e1, e2, e3⟩ := hB
      obtain ⟨s, c1, c2, c3, c4, c5⟩ := h.st w ha
      obtain ⟨t, d1, d2, d3, d4, d5⟩ := h.st w hb
      rw [e1] at c1; cases c1
      rw [e2] at d1; cases d1
      refine ⟨w.nx hx hr, w.nx hy hr, _, _, h.nx_lt w ha hr, h.nx_lt w hb hr, ?_, ?_, e3.nx hr⟩
      · rw [(c5 r hr).1]
        exact congrArg some (fN_eq hf (w.nx c2 hr) (w.nx hx hr) ((fN_at hf hx).2.2.1.nx hr))
      · rw [(d5 r hr).1]
        exact congrArg some (fN_eq hf (w.nx d2 hr) (w.nx hy hr) ((fN_at hf hy).2.2.1.nx hr))
  have hst : s = t := by rw [← a3, ← b3]; exact fN_eq hf a2 b2 this
  subst hst
  exact nodup_at h.sv.nd a1 b1
theorem Red.first (w : MOk M R) (hf : FirstOf M R f) (h : Red M R f S L) : FirstOf L R (cs (List.range L.length)) := by
  refine ⟨by rw [cs_len, List.length_range], fun s hs => ⟨s, by rw [cs_at, List.getElem?_range hs]; rfl, Nat.le_refl _, Alk.refl s, fun u hu e => ?_⟩⟩
  have := h.alk w hf (by omega) hs e
  omega
theorem fN_id {n v : Nat} (h : v < n) : fN (cs (List.range n)) v = v := by
  unfold fN
  rw [cs_at, List.getElem?_range h]
  simp
theorem can_le : ∀ (l : List Nat) (p q : Nat), can p l = some q → p ≤ q
  | [], p, q, h => by cases h; exact Nat.le_refl _
  | v :: l, p, q, h => by
    unfold can at h
    split at h
    · exact can_le l p q h
    · split at h
      · have := can_le l (p + 1) q h
        omega
      · cases h
theorem fold_can {n : Nat} : ∀ (row : List (Int × Int)) (p q : Nat) (acc : List (Int × Int)), can p (row.map fun x => x.1.toNat) = some q → q ≤ n → (∀ x ∈ row, 0 ≤ x.1) → row.foldl (eS (cs (List.range n))) (List.range p, acc) = (List.range q, acc ++ row)
  | [], p, q, acc, h, _, _ => by cases h; simp
  | x :: row, p, q, acc, h, hq, h0 => by
    have hx0 := h0 x List.mem_cons_self
    rw [List.map_cons] at h
    unfold can at h
    rw [List.foldl_cons]
    have hpos : ∀ {m v : Nat}, v < m → pos (List.range m) v = v := fun {m v} hv => by
      obtain ⟨_, _, q3⟩ := idxL_pos (S := List.range m) (v := v) (List.mem_range.mpr hv)
      have := (List.getElem?_eq_some_iff.mp q3)
      obtain ⟨w1, w2⟩ := this
      simpa using w2
    split at h
    · rename_i hv
      have hpq := can_le _ _ _ h
      have ev : eS (cs (List.range n)) (List.range p, acc) x = (List.range p, acc ++ [x]) := by
        unfold eS
        rw [fN_id (by omega)]
        have hi : K24.ins (List.range p) x.1.toNat = List.range p := by unfold K24.ins; rw [if_pos (List.mem_range.mpr hv)]
        dsimp only
        rw [hi, hpos hv, Int.toNat_of_nonneg hx0]
      rw [ev, fold_can row p q _ h hq fun y hy => h0 y (List.mem_cons_of_mem _ hy), List.append_assoc]
      rfl
    · split at h
      · rename_i hv hv2
        have hpq := can_le _ _ _ h
        have ev : eS (cs (List.range n)) (List.range p, acc) x = (List.range (p + 1), acc ++ [x]) := by
          unfold eS
          rw [fN_id (by omega)]
          have hi : K24.ins (List.range p) x.1.toNat = List.range (p + 1) := by
            unfold K24.ins
            rw [if_neg (fun z => by rw [List.mem_range] at z; omega), hv2, List.range_succ]
          dsimp only
          rw [hi, hpos (by omega), Int.toNat_of_nonneg hx0]
        rw [ev, fold_can row (p + 1) q _ h hq fun y hy => h0 y (List.mem_cons_of_mem _ hy), List.append_assoc]
        rfl
      · cases h
end
theorem red_of {M : MvT} {R : Nat} {f : List Int} {J : Nat} (b : Bf M R f J (itS f M J)) (hS : (itS f M J).1.length = J) : Red M R f (itS f M J).1 (itS f M J).2 := ⟨b.sv, by rw [b.len, hS], fun a ha => b.at_ a (by rw [← hS]; exact ha)⟩
/-- a prefix of the walk -/
theorem it_pre {M : MvT} {R : Nat} {f : List Int} (w : MOk M R) (hf : FirstOf M R f) {J : Nat} (hB : ∀ j, j < J → Bf M R f j (itS f M j) ∧ j < (itS f M j).1.length) : ∀ d j, j + d = J → (itS f M j).2 = (itS f M J).2.take j ∧ (j ≤ J → (itS f M j).2.length = j → True)
  | 0, j, h => by
    have : j = J := by omega
    subst this
    refine ⟨?_, fun _ _ => trivial⟩
    have hl : (itS f M j).2.length = j := by
      have : ∀ m, (itS f M m).2.length = m := by
        intro m
        induction m with
        | zero => rfl
        | succ m ih => show ((itS f M m).2 ++ [_]).length = m + 1; rw [List.length_append, ih]; rfl
      exact this j
    rw [List.take_of_length_le (by omega)]
  | d + 1, j, h => by
    obtain ⟨e, _⟩ := it_pre w hf hB d (j + 1) (by omega)
    have hl : ∀ m, (itS f M m).2.length = m := by
      intro m
      induction m with
      | zero => rfl
      | succ m ih => show ((itS f M m).2 ++ [_]).length = m + 1; rw [List.length_append, ih]; rfl
    have es : (itS f M (j + 1)).2 = (itS f M j).2 ++ [((rowAt M (((itS f M j).1[(itS f M j).2.length]?).getD 0)).foldl (eS f) ((itS f M j).1, [])).2] := rfl
    refine ⟨?_, fun _ _ => trivial⟩
    have h1 : (itS f M (j + 1)).2.take j = (itS f M j).2 := by
      rw [es, List.take_append_of_le_length (by rw [hl]; exact Nat.le_refl _), List.take_of_length_le (by rw [hl]; exact Nat.le_refl _)]
    rw [← h1, e, List.take_take]
    congr 1
    omega
theorem it_self {M : MvT} {R : Nat} {f : List Int} (w : MOk M R) (hf : FirstOf M R f) {J : Nat} (b : Bf M R f J (itS f M J)) (hS : (itS f M J).1.length = J) (hB : ∀ j, j < J → Bf M R f j (itS f M j) ∧ j < (itS f M j).1.length) :
    ∀ j, j ≤ J → itS (cs (List.range (itS f M J).2.length)) (itS f M J).2 j = (List.range (itS f M j).1.length, (itS f M J).2.take j) ∧ (itS f M j).1.length ≤ J := by
  have hLl : (itS f M J).2.length = J := b.len
  have mono : ∀ d j, j + d = J → (itS f M j).1.length ≤ J := by
    intro d
    induction d with
    | zero => intro j h; have : j = J := by omega
              subst this; rw [hS]; exact Nat.le_refl _
    | succ d ih =>
      intro j h
      obtain ⟨b', hlt⟩ := hB j (by omega)
      obtain ⟨s, _, hs, hE, eT⟩ := bf_ent w hf b' hlt
      have h1 := ih (j + 1) (by omega)
      have h2 : (itS f M (j + 1)).1 = ((rowAt M s).foldl (eS f) ((itS f M j).1, [])).1 := congrArg Prod.fst eT
      obtain ⟨m, hm⟩ := hE.pre
      rw [h2, hm, List.length_append] at h1
      omega
  intro j
  induction j with
  | zero => intro _; exact ⟨rfl, mono J 0 (by omega)⟩
  | succ j ih =>
    intro hj
    obtain ⟨e, hle⟩ := ih (by omega)
    obtain ⟨b', hlt⟩ := hB j (by omega)
    obtain ⟨s, es, hs, hE, eT⟩ := bf_ent w hf b' hlt
    have eS1 : (itS f M (j + 1)).1 = ((rowAt M s).foldl (eS f) ((itS f M j).1, [])).1 := congrArg Prod.fst eT
    have eS2 : (itS f M (j + 1)).2 = (itS f M j).2 ++ [((rowAt M s).foldl (eS f) ((itS f M j).1, [])).2] := congrArg Prod.snd eT
    have hm := mono (J - (j + 1)) (j + 1) (by omega)
    have hpre := (it_pre w hf hB (J - (j + 1)) (j + 1) (by omega)).1
    have hLj : (itS f M J).2[j]? = some ((rowAt M s).foldl (eS f) ((itS f M j).1, [])).2 := by
      have : ((itS f M J).2.take (j + 1))[j]? = (itS f M J).2[j]? := List.getElem?_take_of_lt (by omega)
      rw [← this, ← hpre, eS2, List.getElem?_append_right (by rw [b'.len]; exact Nat.le_refl _), b'.len, Nat.sub_self]
      rfl
    have hrow : rowAt (itS f M J).2 j = ((rowAt M s).foldl (eS f) ((itS f M j).1, [])).2 := by unfold rowAt; rw [hLj]; rfl
    refine ⟨?_, hm⟩
    show tS _ _ (itS _ _ j) = _
    rw [e]
    unfold tS
    have hjl : ((itS f M J).2.take j).length = j := by rw [List.length_take]; omega
    dsimp only
    rw [hjl, List.getElem?_range hlt, Option.getD_some, hrow, fold_can _ _ _ _ hE.can (by rw [hLl, ← eS1]; exact hm) (fun x hx => ?_)]
    · dsimp only
      rw [← eS1, List.nil_append]
      congr 1
      rw [List.take_succ, hLj]
      rfl
    · obtain ⟨r, hr⟩ := List.getElem?_of_mem hx
      have hrR : r < R := by rw [← hE.len]; exact (List.getElem?_eq_some_iff.mp hr).1
      obtain ⟨v, v1, _⟩ := hE.at_ r hrR
      rw [hr] at v1; cases v1
      exact Int.natCast_nonneg _
/-! ### the answers to a course -/
def turnR {ρ : Type} (mv : MvT) (o : Int) (row : List Int) (s : Int × List (List Int)) : Option (Fl ρ (Int × List (List Int))) :=
  (atI mv s.1).bind fun v_125 =>
  (m_number_of row).bind fun r_127 =>
  (atI v_125 r_127).bind fun v_129 =>
  (m_row_of o v_129.2).bind fun r_131 =>
  guardO ((s.2).length < sizeLine) <|
  some (.next (v_129.1, (s.2 ++ [r_131])))
end K24

/-! K24U -/
namespace K24
open PySem PySem.Spec L2 Ty
theorem cell_ok (ns : List Int) (k : Int) (hk : 0 ≤ k) : ∃ v, m__law_cell ns k = some v := by
  suffices h : Tot (m__law_cell ns k) fun _ => True by
    obtain ⟨v, hv, _⟩ := h
    exact ⟨v, hv⟩
  unfold m__law_cell
  refine tB (R := fun b => b = true → k < (ns.length : Int)) (tD (fun h => tAt hk h fun v _ => tR fun _ => h) (fun _ => tR fun z => nomatch z)) fun b hb => ?_
  refine tC (fun hz => tAt hk (hb hz) fun v _ => tR trivial) (fun _ => tL (tB (R := fun _ => True) (tD (fun h => tG h (tAt (Int.emod_nonneg _ (by omega)) (Int.emod_lt_of_pos _ h) fun v _ => tL (tR trivial))) (fun _ => tR trivial)) fun c _ => tL (tR trivial)))
/-! ### rows of bits and their numbers -/
def bitsR (n : Nat) (x : Int) : List Int := (List.range n).map fun k => x / 2 ^ (n - 1 - k) % 2
theorem lrow_ok {n : Nat} (x : Int) (hn : n ≤ 100) : m__law_row (n : Int) x = some (bitsR n x) := by
  refine Tot.eq ?_
  unfold m__law_row
  refine tG ⟨by omega, by omega⟩ (tG (line_le (by rw [rangeL_len]; omega)) (tFm (g := fun k : Int => x / 2 ^ (n - 1 - k.toNat) % 2) (fun k hk => ?_) (tR ?_)))
  · have hk := mem_rangeL hk
    refine gI (by omega) ?_
    rw [show ((n : Int) - 1 - k).toNat = n - 1 - k.toNat by omega]
  · rw [rangeL_nat, List.map_map]
    rfl
theorem row_same : m_row_of = m__law_row := by
  funext n x
  unfold m_row_of m__law_row
  simp only [PyProof.Rows.bitAnd_m1]
def num (bs : List Int) : Int := bs.foldl (fun a b => 2 * a + b) 0
theorem number_loop {ρ : Type} : ∀ (bs : List Int) (a : Int), forF (ρ := ρ) bs a (fun bit number => letO ((2 : Int) * number + bit) fun n => some (.next n)) = some (.next (bs.foldl (fun a b => 2 * a + b) a))
  | [], a => rfl
  | b :: bs, a => by
    unfold forF
    exact number_loop bs _
theorem number_ok (bs : List Int) : m_number_of bs = some (num bs) := by
  unfold m_number_of
  rw [number_loop]; rfl
theorem lnumber_same : m__law_number = m_number_of := rfl
theorem num_range : ∀ (bs : List Int) (a : Int) (n : Nat), (∀ b ∈ bs, b = 0 ∨ b = 1) → 0 ≤ a → a < 2 ^ n → 0 ≤ bs.foldl (fun a b => 2 * a + b) a ∧ bs.foldl (fun a b => 2 * a + b) a < 2 ^ (n + bs.length)
  | [], a, n, _, h0, h1 => ⟨h0, h1⟩
  | b :: bs, a, n, hb, h0, h1 => by
    have hb0 := hb b List.mem_cons_self
    have := num_range bs (2 * a + b) (n + 1) (fun c hc => hb c (List.mem_cons_of_mem _ hc)) (by omega) (by rw [Int.pow_succ]; omega)
    rw [List.foldl_cons, List.length_cons, show n + (bs.length + 1) = n + 1 + bs.length by omega]
    exact this
theorem fmO_filter {α : Type} (p : α → Bool) : ∀ xs : List α, fmO xs (fun x => bif p x then some (some x) else some none) = some (xs.filter p)
  | [] => rfl
  | x :: xs => by
    unfold fmO
    rw [fmO_filter p xs, List.filter_cons]
    dsimp only
    cases p x <;> rfl
def notBit (b : Int) : Bool := !decide (b = 0) && !decide (b = 1)
theorem no_notBit {r : List Int} (h : ∀ b ∈ r, b = 0 ∨ b = 1) : r.filter notBit = [] := List.filter_eq_nil_iff.mpr fun b hb => by
  rcases h b hb with rfl | rfl <;> decide
theorem turnR_ok {M : MvT} {R : Nat} (w : MOk M R) {i o : Int} (hR : R = 2 ^ i.toNat) (hi : 0 ≤ i) (ho : 0 ≤ o ∧ o ≤ 32) {row : List Int} (r1 : (row.length : Int) = i) (r2 : ∀ b ∈ row, b = 0 ∨ b = 1) {s : Nat} (hs : s < M.length) {ans : List (List Int)} (hl : ans.length ≤ 1000) {ρ : Type} :
    turnR (ρ := ρ) M o row ((s : Int), ans) = some (.next ((nxAt M s (num row).toNat : Int), ans ++ [bitsR o.toNat (((rowAt M s)[(num row).toNat]?).getD (0, 0)).2])) ∧ (num row).toNat < R := by
  have hnum := num_range row 0 0 r2 (by decide) (by decide)
  rw [Nat.zero_add] at hnum
  have hil : i.toNat = row.length := by omega
  have hlt : (num row).toNat < R := by
    have h2 : num row < 2 ^ row.length := hnum.2
    have h3 : num row < ((2 ^ row.length : Nat) : Int) := by rw [Int.natCast_pow]; exact h2
    rw [hR, hil]
    have h0 : 0 ≤ num row := hnum.1
    omega
  obtain ⟨v, e, _, e2⟩ := w.row hs hlt
  have h0 : 0 ≤ num row := hnum.1
  refine ⟨?_, hlt⟩
  unfold turnR
  refine bI (row_at hs) (bI (number_ok row) (bI (a := v) (by rw [atI_pos h0]; exact e) (bI (a := bitsR o.toNat v.2) ?_ (gI (line_lt (by dsimp only; omega)) ?_))))
  · rw [row_same]
    have := lrow_ok (n := o.toNat) v.2 (by omega)
    rw [Int.toNat_of_nonneg ho.1] at this
    exact this
  · rw [e, e2]; rfl
theorem sim_loop {M : MvT} {R : Nat} {f : List Int} {S : List Nat} {L : MvT} (w : MOk M R) (hf : FirstOf M R f) (h : Red M R f S L) {i o : Int} (hR : R = 2 ^ i.toNat) (hi : 0 ≤ i) (ho : 0 ≤ o ∧ o ≤ 32) : ∀ (c : List (List Int)) (a s : Nat) (ans : List (List Int)), ans.length + c.length ≤ 1000 → (∀ r ∈ c, (r.length : Int) = i ∧ ∀ b ∈ r, b = 0 ∨ b = 1) → a < L.length → s < M.length → S[a]? = some (fN f s) →
    ∃ ans', (∀ ρ : Type, ∃ z, forF (ρ := ρ) c ((a : Int), ans) (turnR L o) = some (.next (z, ans'))) ∧ ∀ ρ : Type, ∃ z, forF (ρ := ρ) c ((s : Int), ans) (turnR M o) = some (.next (z, ans'))
  | [], a, s, ans, _, _, _, _, _ => ⟨ans, fun _ => ⟨_, rfl⟩, fun _ => ⟨_, rfl⟩⟩
  | r :: c, a, s, ans, hl, hr, ha, hs, e => by
    obtain ⟨r1, r2⟩ := hr r List.mem_cons_self
    rw [List.length_cons] at hl
    have tL := fun ρ => turnR_ok h.mok hR hi ho r1 r2 ha (ans := ans) (by omega) (ρ := ρ)
    have tM := fun ρ => turnR_ok w hR hi ho r1 r2 hs (ans := ans) (by omega) (ρ := ρ)
    have hlt := (tM Unit).2
    obtain ⟨s', c1, c2, c3, c4, c5⟩ := h.st w ha
    rw [e] at c1; cases c1
    obtain ⟨d1, d2⟩ := c5 _ hlt
    have hk := (fN_at hf hs).2.2.1
    have eans : (((rowAt L a)[(num r).toNat]?).getD (0, 0)).2 = (((rowAt M s)[(num r).toNat]?).getD (0, 0)).2 := by
      rw [d2]
      dsimp only
      have h0 := hk 0
      have h0 : outsAt M (fN f s) = outsAt M s := h0
      have := congrArg (fun l => (l[(num r).toNat]?).getD 0) h0
      unfold outsAt at this
      simp only [List.getElem?_map] at this
      obtain ⟨v, v1, _⟩ := w.row c2 hlt
      obtain ⟨u, u1, _⟩ := w.row hs hlt
      rw [v1, u1] at this ⊢
      exact this
    obtain ⟨ans', q1, q2⟩ := sim_loop w hf h hR hi ho c (nxAt L a (num r).toNat) (nxAt M s (num r).toNat) (ans ++ [bitsR o.toNat (((rowAt M s)[(num r).toNat]?).getD (0, 0)).2]) (by rw [List.length_append]; show ans.length + 1 + c.length ≤ _; omega) (fun q hq => hr q (List.mem_cons_of_mem _ hq)) (h.nx_lt w ha hlt) (w.nx hs hlt) (by
      rw [d1]
      exact congrArg some (fN_eq hf (w.nx c2 hlt) (w.nx hs hlt) (hk.nx hlt)))
    refine ⟨ans', fun ρ => ?_, fun ρ => ?_⟩
    · obtain ⟨z, hz⟩ := q1 ρ
      refine ⟨z, ?_⟩
      unfold forF
      rw [(tL ρ).1, eans]
      exact hz
    · obtain ⟨z, hz⟩ := q2 ρ
      refine ⟨z, ?_⟩
      unfold forF
      rw [(tM ρ).1]
      exact hz
theorem run_ok {M : MvT} {R : Nat} {f : List Int} {S : List Nat} {L : MvT} (w : MOk M R) (hf : FirstOf M R f) (h : Red M R f S L) {i o : Int} (hR : R = 2 ^ i.toNat) (hi : 0 ≤ i) (ho : 0 ≤ o ∧ o ≤ 32) {c : List (List Int)} (hl : c.length ≤ 1000) (hc : ∀ r ∈ c, (r.length : Int) = i ∧ ∀ b ∈ r, b = 0 ∨ b = 1) (hr : ∀ r ∈ c, r.length ≤ 1000) :
    ∃ ans, m_run_machine ⟨i, o, L⟩ c = some ans ∧ m__law_run o M c = some ans := by
  have hz := (List.getElem?_eq_some_iff.mp h.sv.z).1
  obtain ⟨ans, q1, q2⟩ := sim_loop w hf h hR hi ho c 0 0 [] (by simpa using hl) hc (by rw [h.len]; exact hz) (by have := w.n; omega) (by rw [fN_zero hf w.n]; exact h.sv.z)
  refine ⟨ans, ?_, ?_⟩
  · refine Tot.eq ?_
    unfold m_run_machine
    refine tForX (fun _ _ => True) trivial (fun j p u hp _ => ?_) (fun _ _ => ?_)
    · obtain ⟨row, hrow, rfl⟩ := enum_at hp
      have hj := (List.getElem?_eq_some_iff.mp hrow).1
      have hm := List.mem_of_getElem? hrow
      obtain ⟨r1, r2⟩ := hc row hm
      have hb := fmO_filter notBit row
      rw [no_notBit r2] at hb
      refine tC (fun z => ?_) (fun _ => tG (line_le (by have := hr row hm; dsimp only; omega)) (tE hb (tC (fun z => absurd z (by decide)) (fun _ => tR trivial))))
      exfalso
      rw [Bool.or_eq_true, decide_eq_true_eq, Bool.not_eq_true', decide_eq_false_iff_not] at z
      dsimp only at z
      omega
    · obtain ⟨z, hz⟩ := q1 (List (List Int))
      refine Tot.of (v := ans) ?_ rfl
      refine Eq.trans (b := flK (forF (ρ := List (List Int)) c ((0 : Int), ([] : List (List Int))) (turnR L o)) (fun s => some s.2) (fun _ => none)) rfl ?_
      rw [show ((0 : Nat) : Int) = 0 from rfl] at hz
      rw [hz]; rfl
  · obtain ⟨z, hz⟩ := q2 (List (List Int))
    unfold m__law_run
    rw [lnumber_same, ← row_same]
    refine Eq.trans (b := flK (forF (ρ := List (List Int)) c ((0 : Int), ([] : List (List Int))) (turnR M o)) (fun s => some s.2) (fun _ => none)) rfl ?_
    rw [show ((0 : Nat) : Int) = 0 from rfl] at hz
    rw [hz]; rfl
/-! ### the drawn machines -/
structure Dm (R O : Nat) (n : Nat) (N : Int) (mv : MvT) : Prop where
  n : mv.length = n
  l : ∀ e ∈ mv, e.length = R
  r : ∀ e ∈ mv, ∀ v ∈ e, (0 ≤ v.1 ∧ v.1 < N) ∧ 0 ≤ v.2 ∧ v.2 < (O : Int)
theorem Dm.snoc {R O n : Nat} {N : Int} {mv : MvT} (h : Dm R O n N mv) {e : List (Int × Int)} (h1 : e.length = R) (h2 : ∀ v ∈ e, (0 ≤ v.1 ∧ v.1 < N) ∧ 0 ≤ v.2 ∧ v.2 < (O : Int)) : Dm R O (n + 1) N (mv ++ [e]) := by
  refine ⟨by rw [List.length_append, h.n]; rfl, fun e' he => ?_, fun e' he => ?_⟩
  · rcases List.mem_append.mp he with q | q
    · exact h.l e' q
    · rw [List.mem_singleton.mp q]; exact h1
  · rcases List.mem_append.mp he with q | q
    · exact h.r e' q
    · rw [List.mem_singleton.mp q]; exact h2
theorem moves_ok (ns : List Int) {i o s : Int} (hi : 0 ≤ i ∧ i ≤ 6) (ho : 0 ≤ o ∧ o ≤ 32) (hs : 1 ≤ s ∧ s ≤ 1000) : Tot (m__law_moves ns 4 i o s) fun mv => Dm (2 ^ i.toNat) (2 ^ o.toNat) s.toNat s mv := by
  have hp := powE hi.1
  have hq := powE ho.1
  have hp3 := pow_le (i := i.toNat) (n := 6) (by omega)
  have hq0 : 0 < 2 ^ o.toNat := Nat.pow_pos (by decide)
  unfold m__law_moves
  rw [hp, hq]
  clear hp hq
  generalize 2 ^ i.toNat = R at hp3 ⊢
  generalize 2 ^ o.toNat = O at hq0 ⊢
  refine tG ⟨by omega, by omega⟩ (tForR (fun k (m : MvT) => Dm R O k.toNat s m) (by omega) ⟨rfl, fun e he => (nomatch he), fun e he => (nomatch he)⟩ ?_ ?_)
  · rintro k m hk1 hk2 hm
    have hml := hm.n
    refine tG ⟨by omega, by omega⟩ (tG ⟨by omega, by omega⟩ (tForR (fun r (e : List (Int × Int)) => (e.length : Int) = r ∧ ∀ v ∈ e, (0 ≤ v.1 ∧ v.1 < s) ∧ 0 ≤ v.2 ∧ v.2 < (O : Int)) (by omega) ⟨rfl, fun v hv => (nomatch hv)⟩ ?_ ?_))
    · rintro r e hr1 hr2 ⟨he, hv⟩
      obtain ⟨c, hc⟩ := cell_ok ns (4 + k) (by omega)
      refine tE hc (tG ⟨by omega, by omega⟩ (tLe fun cell _ => tG (by omega) (tG ⟨by omega, by omega⟩ (tG (by omega) (tG (line_lt (by omega)) (tR ⟨?_, fun v hv' => ?_⟩))))))
      · rw [List.length_append]
        show ((e.length + 1 : Nat) : Int) = _
        omega
      · rcases List.mem_append.mp hv' with q | q
        · exact hv v q
        · rw [List.mem_singleton.mp q]
          exact ⟨⟨Int.emod_nonneg _ (by omega), Int.emod_lt_of_pos _ (by omega)⟩, Int.emod_nonneg _ (by omega), Int.emod_lt_of_pos _ (by omega)⟩
    · rintro e ⟨he, hv⟩
      refine tG (line_lt (by omega)) (tR ?_)
      rw [show (k + 1).toNat = k.toNat + 1 by omega]
      exact hm.snoc (by omega) hv
  · rintro m hm
    exact tR hm
theorem blown_ok (ns : List Int) {R O n : Nat} {mv : MvT} (hn : 1 ≤ n ∧ n ≤ 10) (hR : R ≤ 64) (h : Dm R O n n mv) {c : Int} (hc : 2 ≤ c ∧ c ≤ 10) : Tot (m__law_blown ns 12 mv c) fun m => Dm R O (n * c.toNat) (n * c) m := by
  have hml := h.n
  unfold m__law_blown
  refine tLe fun cn ec => ?_
  subst ec
  rw [hml]
  refine tG ⟨by omega, by omega⟩ (tForR (fun k (m : MvT) => Dm R O (n * k.toNat) (n * c) m) (by omega) ⟨by rw [Int.toNat_zero, Nat.mul_zero]; rfl, fun e he => (nomatch he), fun e he => (nomatch he)⟩ ?_ ?_)
  · rintro k m hk1 hk2 hm
    refine tG ⟨by omega, by omega⟩ (tForR (fun s (m : MvT) => Dm R O (n * k.toNat + s.toNat) (n * c) m) (by omega) (by rw [Int.toNat_zero, Nat.add_zero]; exact hm) ?_ ?_)
    · rintro s m hs1 hs2 hm
      obtain ⟨e0, he0⟩ := atI_ex (xs := mv) hs1 (by omega)
      have he0m := mem_of_atI he0
      have hel := h.l e0 he0m
      have hbig : n * k.toNat + s.toNat ≤ 100 := by
        have h1 : n * k.toNat ≤ 10 * 9 := Nat.mul_le_mul hn.2 (by omega)
        omega
      have hmn := hm.n
      refine tE he0 (tG ⟨by omega, by omega⟩ (tForR (fun r (e : List (Int × Int)) => (e.length : Int) = r ∧ ∀ v ∈ e, (0 ≤ v.1 ∧ v.1 < n * c) ∧ 0 ≤ v.2 ∧ v.2 < (O : Int)) (by omega) ⟨rfl, fun v hv => (nomatch hv)⟩ ?_ ?_))
      · rintro r e hr1 hr2 ⟨he, hv⟩
        obtain ⟨cell, hcell⟩ := cell_ok ns (12 + k) (by omega)
        obtain ⟨v, hvv⟩ := atI_ex (xs := e0) hr1 hr2
        have hvr := h.r e0 he0m v (mem_of_atI hvv)
        refine tE hcell (tG ⟨by omega, by omega⟩ (tLe fun q _ => tE he0 (tE hvv (tG (by omega) (tG (.inl ⟨by omega, by omega⟩) (tE he0 (tE hvv (tG (line_lt (by omega)) (tR ⟨?_, fun u hu => ?_⟩)))))))))
        · rw [List.length_append]
          show ((e.length + 1 : Nat) : Int) = _
          omega
        · rcases List.mem_append.mp hu with q' | q'
          · exact hv u q'
          · rw [List.mem_singleton.mp q']
            have h0 := Int.emod_nonneg q (b := c) (by omega)
            have h1 := Int.emod_lt_of_pos q (b := c) (by omega)
            refine ⟨⟨?_, ?_⟩, hvr.2⟩
            · dsimp only
              have := Int.mul_nonneg (a := (n : Int)) (b := q % c) (by omega) h0
              omega
            · dsimp only
              have h2 : (n : Int) * (q % c + 1) ≤ (n : Int) * c := Int.mul_le_mul_of_nonneg_left (by omega) (by omega)
              rw [Int.mul_add, Int.mul_one] at h2
              omega
      · rintro e ⟨he, hv⟩
        refine tG (line_lt (by omega)) (tR ?_)
        rw [show (s + 1).toNat = s.toNat + 1 by omega, ← Nat.add_assoc]
        exact hm.snoc (by omega) hv
    · rintro m hm
      refine tR ?_
      rw [show (k + 1).toNat = k.toNat + 1 by omega, Nat.mul_succ]
      rw [Int.toNat_natCast] at hm
      exact hm
  · rintro m hm
    exact tR hm
theorem rowst_ok {n : Int} (hn : 8 ≤ n ∧ n ≤ 100) : Tot (m__law_row_of_states n) fun m => Dm 2 2 n.toNat n m := by
  unfold m__law_row_of_states
  refine tG ⟨by omega, by omega⟩ (tG (line_le (by rw [rangeL_len]; omega)) (tFmX (fun j (e : List (Int × Int)) => e.length = 2 ∧ ∀ v ∈ e, (0 ≤ v.1 ∧ v.1 < n) ∧ 0 ≤ v.2 ∧ v.2 < ((2 : Nat) : Int)) (fun j x hx => ⟨_, rfl, rfl, fun v hv => ?_⟩) fun ys h1 h2 => tR ⟨by rw [h1, rangeL_len], fun e he => ?_, fun e he => ?_⟩))
  · obtain ⟨rfl, hj⟩ := rangeL_at hx
    rcases List.mem_cons.mp hv with rfl | hv
    · dsimp only
      refine ⟨?_, ?_⟩
      · split <;> omega
      · split <;> omega
    · rw [List.mem_singleton.mp hv]
      dsimp only
      omega
  · obtain ⟨j, hj⟩ := List.getElem?_of_mem he
    exact (h2 j e hj).1
  · obtain ⟨j, hj⟩ := List.getElem?_of_mem he
    exact (h2 j e hj).2
theorem gd_of {i o : Int} {n : Nat} {mv : MvT} (hi : 0 ≤ i ∧ i ≤ 6) (ho : 0 ≤ o ∧ o ≤ 32) (hn : 1 ≤ n ∧ n ≤ 1000) (h : Dm (2 ^ i.toNat) (2 ^ o.toNat) n n mv) : Gd i o mv := by
  have hl := h.n
  refine ⟨hi, ho, ⟨by omega, h.l, fun e he v hv => ?_⟩, by omega, fun e he v hv => ?_⟩
  · have := h.r e he v hv
    omega
  · have := (h.r e he v hv).2
    rw [Int.natCast_pow] at this
    exact this
theorem lrow_tot {n : Int} (x : Int) (h : 0 ≤ n ∧ n ≤ 100) : Tot (m__law_row n x) fun r => (r.length : Int) = n ∧ ∀ b ∈ r, b = 0 ∨ b = 1 := by
  obtain ⟨k, rfl⟩ := Int.eq_ofNat_of_zero_le h.1
  refine .of (lrow_ok x (by omega)) ⟨by unfold bitsR; simp, fun b hb => ?_⟩
  unfold bitsR at hb
  obtain ⟨j, _, rfl⟩ := List.mem_map.mp hb
  have := Int.emod_nonneg (x / 2 ^ (k - 1 - j)) (b := 2) (by decide)
  have := Int.emod_lt_of_pos (x / 2 ^ (k - 1 - j)) (b := 2) (by decide)
  omega
theorem law_ok (ns : List Int) : m_law ns = some true := by
  refine Tot.eq ?_
  unfold m_law
  obtain ⟨b, hb⟩ := cell_ok ns 0 (by decide)
  obtain ⟨c1, hc1⟩ := cell_ok ns 1 (by decide)
  refine tE hb (tLe fun i0 ei => tLe fun o0 eo => ?_)
  have hi0 : 0 ≤ i0 ∧ i0 ≤ 2 := by omega
  have ho0 : 0 ≤ o0 ∧ o0 ≤ 3 := by omega
  refine tB (moves_ok ns (i := i0) (o := o0) (s := 1 + b / 12 % 7) (by omega) (by omega) (by omega)) fun mv0 h0 => ?_
  obtain ⟨n0, hn0⟩ : ∃ n : Nat, 1 + b / 12 % 7 = n := ⟨(1 + b / 12 % 7).toNat, by omega⟩
  rw [hn0, Int.toNat_natCast] at h0
  have hR6 : 2 ^ i0.toNat ≤ 2 ^ 6 := pow_le (by omega)
  refine tB (R := fun m => ∃ n : Nat, (1 ≤ n ∧ n ≤ 100) ∧ Dm (2 ^ i0.toNat) (2 ^ o0.toNat) n n m) (tD (fun _ => tB (blown_ok ns (n := n0) (by omega) hR6 h0 (c := 2 + b / 252 % 4) (by omega)) fun m hm => tR ⟨n0 * (2 + b / 252 % 4).toNat, ⟨?_, ?_⟩, ?_⟩) (fun _ => tR ⟨n0, by omega, h0⟩)) ?_
  · have := Nat.mul_le_mul (show 1 ≤ n0 by omega) (show 1 ≤ (2 + b / 252 % 4).toNat by omega)
    omega
  · have := Nat.mul_le_mul (show n0 ≤ 10 by omega) (show (2 + b / 252 % 4).toNat ≤ 10 by omega)
    omega
  · rw [Int.natCast_mul, Int.toNat_of_nonneg (by omega)]
    exact hm
  rintro mv1 ⟨n1, hn1, h1⟩
  refine tB (R := fun (x : Int × Int × MvT) => (0 ≤ x.1 ∧ x.1 ≤ 2) ∧ Gd x.1 x.2.1 x.2.2 ∧ x.2.2.length ≤ 100) (tD (fun _ => tB (rowst_ok (n := 8 + b / 80056 % 53) (by omega)) fun m hm => tR ⟨by dsimp only; omega, gd_of (n := (8 + b / 80056 % 53).toNat) (by dsimp only; omega) (by dsimp only; omega) (by omega) (by dsimp only; rw [Int.toNat_of_nonneg (by omega)]; exact hm), by dsimp only; rw [hm.n]; omega⟩) (fun _ => tR ⟨by dsimp only; omega, gd_of (n := n1) (by dsimp only; omega) (by dsimp only; omega) (by omega) h1, by dsimp only; rw [h1.n]; omega⟩)) ?_
  rintro ⟨i, o, M⟩ ⟨hi2, g, hM⟩
  dsimp only at hi2 g hM ⊢
  have hR64 : 2 ^ i.toNat ≤ 2 ^ 6 := pow_le (by omega)
  have w := g.w
  obtain ⟨f, hA, hf⟩ := alike_ok (S := ⟨i, o, M⟩) w (by dsimp only; omega) (by omega)
  obtain ⟨f', hA', hf'⟩ := alike_law w (by omega) (by omega)
  have ef := hf.eq hf'
  subst ef
  obtain ⟨J, hJ, bJ, hS, hB⟩ := bf_stop w hf
  have hred := red_of bJ hS
  have hLl : (itS f M J).2.length = J := bJ.len
  have gL : Gd i o (itS f M J).2 := by
    refine ⟨g.hi, g.ho, hred.mok, by omega, fun e he v hv => ?_⟩
    obtain ⟨a, ha⟩ := List.getElem?_of_mem he
    obtain ⟨s, E, _, s2, s3, s4, s5⟩ := hred.at_ a (by rw [← hred.len]; exact (List.getElem?_eq_some_iff.mp ha).1)
    rw [ha] at s3; cases s3
    obtain ⟨r, hr⟩ := List.getElem?_of_mem hv
    obtain ⟨x, x1, _⟩ := s5 r (by rw [← s4]; exact (List.getElem?_eq_some_iff.mp hr).1)
    rw [hr] at x1; cases x1
    obtain ⟨u, u1, _⟩ := w.row s2 (show r < 2 ^ i.toNat by rw [← s4]; exact (List.getElem?_eq_some_iff.mp hr).1)
    rw [u1]
    exact g.a _ (rowAt_mem s2).1 u (List.mem_of_getElem? u1)
  have hleast := least_ok g hf hJ hS hB hA (minit_ok gL) hLl
  have hdue := lleast_ok w (by omega) (by omega) hf hJ hS hB hA'
  -- the least machine's own least machine
  have hfL := hred.first w hf
  have hself := it_self w hf bJ hS hB
  obtain ⟨fL, hAL, hfL'⟩ := alike_ok (S := ⟨i, o, (itS f M J).2⟩) hred.mok (by dsimp only; omega) (by omega)
  have efL := hfL'.eq hfL
  subst efL
  obtain ⟨J2, hJ2, bJ2, hS2, hB2⟩ := bf_stop hred.mok hfL
  have hJJ : J2 = J := by
    have h1 := (hself J2 (by rw [hLl] at hJ2; exact hJ2)).1
    rw [h1] at hS2
    dsimp only at hS2
    rw [List.length_range] at hS2
    rcases Nat.lt_or_ge J2 J with q | q
    · have := (hB J2 q).2
      omega
    · rw [hLl] at hJ2
      omega
  subst hJJ
  have e2 : (itS (cs (List.range (itS f M J2).2.length)) (itS f M J2).2 J2).2 = (itS f M J2).2 := by
    rw [(hself J2 (Nat.le_refl _)).1]
    dsimp only
    rw [List.take_of_length_le (by omega)]
  have hleast2 := least_ok gL hfL hJ2 hS2 hB2 hAL (by rw [e2]; exact minit_ok gL) (by rw [e2]; exact hLl)
  rw [e2] at hleast2
  refine tE (minit_ok g) (tE hA (tE (a := false) ?_ (tC (fun z => nomatch z) fun _ => tE hleast (tE hdue (tC (fun z => ?_) fun _ => tE (a := false) ?_ (tC (fun z => nomatch z) fun _ => tE hc1 ?_))))))
  · exact cF rfl (bI hA' (by rw [decide_eq_true rfl]; rfl))
  · exfalso
    rw [decide_eq_true rfl, decide_eq_true rfl] at z
    exact absurd z (by decide)
  · rw [decide_eq_true rfl]
    refine cF rfl (bI (a := false) ?_ rfl)
    rw [decide_eq_true rfl]
    exact cF rfl (bI hleast2 (by rw [decide_eq_true rfl]; rfl))
  · refine tG ⟨by omega, by omega⟩ (tG (line_le (by rw [rangeL_len]; omega)) (tFmX (fun _ (r : List Int) => (r.length : Int) = i ∧ ∀ b ∈ r, b = 0 ∨ b = 1) (fun j x hx => ?_) fun ys h1 h2 => ?_))
    · obtain ⟨hx1, hx2⟩ := rangeL_at hx
      obtain ⟨v, hv⟩ := cell_ok ns (30 + x) (by omega)
      have hp := powE (i := i) (by omega)
      have hp0 : 0 < 2 ^ i.toNat := Nat.pow_pos (by decide)
      obtain ⟨r, hr, hl⟩ := lrow_tot (n := i) (v % (1 * 2 ^ i.toNat)) (by omega)
      exact ⟨r, bI hv (gI ⟨by omega, by omega⟩ (gI (by rw [hp]; exact Int.ofNat_lt.mpr hp0) (bI hr rfl))), hl⟩
    · have hmem : ∀ r ∈ ys, (r.length : Int) = i ∧ ∀ b ∈ r, b = 0 ∨ b = 1 := fun r hr => by
        obtain ⟨j, hj⟩ := List.getElem?_of_mem hr
        exact h2 j r hj
      obtain ⟨ans, a1, a2⟩ := run_ok w hf hred rfl g.hi.1 g.ho (c := ys) (by rw [h1, rangeL_len]; omega) hmem (fun r hr => by have := (hmem r hr).1; omega)
      exact tE a1 (tE a2 (tR (decide_eq_true rfl)))
end K24

/-! K24Z -/
namespace K24
open PySem PySem.Spec L2 Ty
def spLaw (K : PySem.W.Frag) : Sp := fun vs H Q _ => ∃ (a : Addr) (ns : List Int), vs = [.ref a] ∧ SqL K H a (ns.map V.int) ∧ ns.length ≤ 63 ∧ ∀ H2, Q (.bl true) H2
section
variable {P : Program} {w : World} {K : PySem.W.Frag} {mg : Str → Option Value} {base : Heap}
theorem ok_top (T : Txt P K mg) : FnOk P w K mg base CX0 5 T.f_law T.d_law ["script"] (spLaw K) := (ok_law T).imp fun vs H Q E ⟨a, ns, ev, hS, hl, hq⟩ => by
  subst ev
  refine ⟨ns, true, H, law_ok ns, fun _ _ h => h, ?_, fun v F2 H2 fp W2 p2 => ?_⟩
  · exact Slots.cons (fp := []) ⟨rfl, _, rfl, a, rfl, hS⟩ .nil
  · rw [(val_P p2).2]; exact hq H2
end
theorem all_mk {l : PySem.W.OpenLaw} {w : World} {K : PySem.W.Frag} {h : Heap} {mg : Str → Option Value} {fa : Addr} (X : K.In h) (G : h.Ns mainGlobals mg) (hfa : mg "law" = some (.ref fa))
    {f1 : Addr}
    {od1 an1 : Option Addr}
    {sl1 : Array (Option Value)}
    {oc1 kV1 dc1 pm1 cd1 ct1 : Value}
    {f2 : Addr}
    {od2 an2 : Option Addr}
    {sl2 : Array (Option Value)}
    {oc2 kV2 dc2 pm2 cd2 ct2 : Value}
    {f3 : Addr}
    {od3 an3 : Option Addr}
    {sl3 : Array (Option Value)}
    {oc3 kV3 dc3 pm3 cd3 ct3 : Value}
    {f4 : Addr}
    {od4 an4 : Option Addr}
    {sl4 : Array (Option Value)}
    {oc4 kV4 dc4 pm4 cd4 ct4 : Value}
    {f5 : Addr}
    {od5 an5 : Option Addr}
    {sl5 : Array (Option Value)}
    {oc5 kV5 dc5 pm5 cd5 ct5 : Value}
    {f6 : Addr}
    {od6 an6 : Option Addr}
    {sl6 : Array (Option Value)}
    {oc6 kV6 dc6 pm6 cd6 ct6 : Value}
    {f7 : Addr}
    {od7 an7 : Option Addr}
    {sl7 : Array (Option Value)}
    {oc7 kV7 dc7 pm7 cd7 ct7 : Value}
    {f8 : Addr}
    {od8 an8 : Option Addr}
    {sl8 : Array (Option Value)}
    {oc8 kV8 dc8 pm8 cd8 ct8 : Value}
    {f9 : Addr}
    {od9 an9 : Option Addr}
    {sl9 : Array (Option Value)}
    {oc9 kV9 dc9 pm9 cd9 ct9 : Value}
    {f10 : Addr}
    {od10 an10 : Option Addr}
    {sl10 : Array (Option Value)}
    {oc10 kV10 dc10 pm10 cd10 ct10 : Value}
    {f11 : Addr}
    {od11 an11 : Option Addr}
    {sl11 : Array (Option Value)}
    {oc11 kV11 dc11 pm11 cd11 ct11 : Value}
    {f12 : Addr}
    {od12 an12 : Option Addr}
    {sl12 : Array (Option Value)}
    {oc12 kV12 dc12 pm12 cd12 ct12 : Value}
    {f13 : Addr}
    {od13 an13 : Option Addr}
    {sl13 : Array (Option Value)}
    {oc13 kV13 dc13 pm13 cd13 ct13 : Value}
    {f14 : Addr}
    {od14 an14 : Option Addr}
    {sl14 : Array (Option Value)}
    {oc14 kV14 dc14 pm14 cd14 ct14 : Value}
    {f15 : Addr}
    {od15 an15 : Option Addr}
    {sl15 : Array (Option Value)}
    {oc15 kV15 dc15 pm15 cd15 ct15 : Value}
    {f16 : Addr}
    {od16 an16 : Option Addr}
    {sl16 : Array (Option Value)}
    {oc16 kV16 dc16 pm16 cd16 ct16 : Value}
    {f17 : Addr}
    {od17 an17 : Option Addr}
    {sl17 : Array (Option Value)}
    {oc17 kV17 dc17 pm17 cd17 ct17 : Value}
    {f18 : Addr}
    {od18 an18 : Option Addr}
    {sl18 : Array (Option Value)}
    {oc18 kV18 dc18 pm18 cd18 ct18 : Value}
    {CMachine : Addr}
    {tMOST_INPUTS : Tok}
    {tMOST_OUTPUTS : Tok}
    {tMOST_ROWS : Tok}
    {tMOST_STATES : Tok}
    (aCMachine : PySem.W.nsIn K mainGlobals "Machine" = some (some (.ref CMachine)))
    (a1 : PySem.W.nsIn K mainGlobals "_law_cell" = some (some (.ref f1)))
    (l1 : K.lookup f1 = some ⟨oc1, od1, .func (PySem.W.fnOf "_law_cell" "_law_cell" (defArgs s__law_cell) (defBody s__law_cell) (defScope s__law_cell) .none kV1 dc1 pm1 an1 cd1 ct1), sl1⟩)
    (c1 : PySem.W.codeIn K cd1 "_law_cell" = true)
    (k1 : PySem.W.keepIn K (.ref f1) = true)
    (a2 : PySem.W.nsIn K mainGlobals "_law_moves" = some (some (.ref f2)))
    (l2 : K.lookup f2 = some ⟨oc2, od2, .func (PySem.W.fnOf "_law_moves" "_law_moves" (defArgs s__law_moves) (defBody s__law_moves) (defScope s__law_moves) .none kV2 dc2 pm2 an2 cd2 ct2), sl2⟩)
    (c2 : PySem.W.codeIn K cd2 "_law_moves" = true)
    (k2 : PySem.W.keepIn K (.ref f2) = true)
    (a3 : PySem.W.nsIn K mainGlobals "is_move" = some (some (.ref f3)))
    (l3 : K.lookup f3 = some ⟨oc3, od3, .func (PySem.W.fnOf "is_move" "is_move" (defArgs s_is_move) (defBody s_is_move) (defScope s_is_move) .none kV3 dc3 pm3 an3 cd3 ct3), sl3⟩)
    (c3 : PySem.W.codeIn K cd3 "is_move" = true)
    (k3 : PySem.W.keepIn K (.ref f3) = true)
    (a4 : PySem.W.findIn K (.ref CMachine) "__init__" = some (some (.ref f4)))
    (l4 : K.lookup f4 = some ⟨oc4, od4, .func (PySem.W.fnOf "__init__" "Machine.__init__" (defArgs s_Machine_init) (defBody s_Machine_init) (defScope s_Machine_init) .none kV4 dc4 pm4 an4 cd4 ct4), sl4⟩)
    (c4 : PySem.W.codeIn K cd4 "Machine.__init__" = true)
    (k4 : PySem.W.keepIn K (.ref f4) = true)
    (i4 : PySem.W.isFn K (.ref f4) = true)
    (a5 : PySem.W.nsIn K mainGlobals "numbered" = some (some (.ref f5)))
    (l5 : K.lookup f5 = some ⟨oc5, od5, .func (PySem.W.fnOf "numbered" "numbered" (defArgs s_numbered) (defBody s_numbered) (defScope s_numbered) .none kV5 dc5 pm5 an5 cd5 ct5), sl5⟩)
    (c5 : PySem.W.codeIn K cd5 "numbered" = true)
    (k5 : PySem.W.keepIn K (.ref f5) = true)
    (a6 : PySem.W.nsIn K mainGlobals "alike_states" = some (some (.ref f6)))
    (l6 : K.lookup f6 = some ⟨oc6, od6, .func (PySem.W.fnOf "alike_states" "alike_states" (defArgs s_alike_states) (defBody s_alike_states) (defScope s_alike_states) .none kV6 dc6 pm6 an6 cd6 ct6), sl6⟩)
    (c6 : PySem.W.codeIn K cd6 "alike_states" = true)
    (k6 : PySem.W.keepIn K (.ref f6) = true)
    (a7 : PySem.W.nsIn K mainGlobals "least_machine" = some (some (.ref f7)))
    (l7 : K.lookup f7 = some ⟨oc7, od7, .func (PySem.W.fnOf "least_machine" "least_machine" (defArgs s_least_machine) (defBody s_least_machine) (defScope s_least_machine) .none kV7 dc7 pm7 an7 cd7 ct7), sl7⟩)
    (c7 : PySem.W.codeIn K cd7 "least_machine" = true)
    (k7 : PySem.W.keepIn K (.ref f7) = true)
    (a8 : PySem.W.nsIn K mainGlobals "_law_alike" = some (some (.ref f8)))
    (l8 : K.lookup f8 = some ⟨oc8, od8, .func (PySem.W.fnOf "_law_alike" "_law_alike" (defArgs s__law_alike) (defBody s__law_alike) (defScope s__law_alike) .none kV8 dc8 pm8 an8 cd8 ct8), sl8⟩)
    (c8 : PySem.W.codeIn K cd8 "_law_alike" = true)
    (k8 : PySem.W.keepIn K (.ref f8) = true)
    (a9 : PySem.W.nsIn K mainGlobals "_law_least" = some (some (.ref f9)))
    (l9 : K.lookup f9 = some ⟨oc9, od9, .func (PySem.W.fnOf "_law_least" "_law_least" (defArgs s__law_least) (defBody s__law_least) (defScope s__law_least) .none kV9 dc9 pm9 an9 cd9 ct9), sl9⟩)
    (c9 : PySem.W.codeIn K cd9 "_law_least" = true)
    (k9 : PySem.W.keepIn K (.ref f9) = true)
    (a10 : PySem.W.nsIn K mainGlobals "_law_blown" = some (some (.ref f10)))
    (l10 : K.lookup f10 = some ⟨oc10, od10, .func (PySem.W.fnOf "_law_blown" "_law_blown" (defArgs s__law_blown) (defBody s__law_blown) (defScope s__law_blown) .none kV10 dc10 pm10 an10 cd10 ct10), sl10⟩)
    (c10 : PySem.W.codeIn K cd10 "_law_blown" = true)
    (k10 : PySem.W.keepIn K (.ref f10) = true)
    (a11 : PySem.W.nsIn K mainGlobals "_law_row_of_states" = some (some (.ref f11)))
    (l11 : K.lookup f11 = some ⟨oc11, od11, .func (PySem.W.fnOf "_law_row_of_states" "_law_row_of_states" (defArgs s__law_row_of_states) (defBody s__law_row_of_states) (defScope s__law_row_of_states) .none kV11 dc11 pm11 an11 cd11 ct11), sl11⟩)
    (c11 : PySem.W.codeIn K cd11 "_law_row_of_states" = true)
    (k11 : PySem.W.keepIn K (.ref f11) = true)
    (a12 : PySem.W.nsIn K mainGlobals "_law_row" = some (some (.ref f12)))
    (l12 : K.lookup f12 = some ⟨oc12, od12, .func (PySem.W.fnOf "_law_row" "_law_row" (defArgs s__law_row) (defBody s__law_row) (defScope s__law_row) .none kV12 dc12 pm12 an12 cd12 ct12), sl12⟩)
    (c12 : PySem.W.codeIn K cd12 "_law_row" = true)
    (k12 : PySem.W.keepIn K (.ref f12) = true)
    (a13 : PySem.W.nsIn K mainGlobals "number_of" = some (some (.ref f13)))
    (l13 : K.lookup f13 = some ⟨oc13, od13, .func (PySem.W.fnOf "number_of" "number_of" (defArgs s_number_of) (defBody s_number_of) (defScope s_number_of) .none kV13 dc13 pm13 an13 cd13 ct13), sl13⟩)
    (c13 : PySem.W.codeIn K cd13 "number_of" = true)
    (k13 : PySem.W.keepIn K (.ref f13) = true)
    (a14 : PySem.W.nsIn K mainGlobals "row_of" = some (some (.ref f14)))
    (l14 : K.lookup f14 = some ⟨oc14, od14, .func (PySem.W.fnOf "row_of" "row_of" (defArgs s_row_of) (defBody s_row_of) (defScope s_row_of) .none kV14 dc14 pm14 an14 cd14 ct14), sl14⟩)
    (c14 : PySem.W.codeIn K cd14 "row_of" = true)
    (k14 : PySem.W.keepIn K (.ref f14) = true)
    (a15 : PySem.W.nsIn K mainGlobals "run_machine" = some (some (.ref f15)))
    (l15 : K.lookup f15 = some ⟨oc15, od15, .func (PySem.W.fnOf "run_machine" "run_machine" (defArgs s_run_machine) (defBody s_run_machine) (defScope s_run_machine) .none kV15 dc15 pm15 an15 cd15 ct15), sl15⟩)
    (c15 : PySem.W.codeIn K cd15 "run_machine" = true)
    (k15 : PySem.W.keepIn K (.ref f15) = true)
    (a16 : PySem.W.nsIn K mainGlobals "_law_number" = some (some (.ref f16)))
    (l16 : K.lookup f16 = some ⟨oc16, od16, .func (PySem.W.fnOf "_law_number" "_law_number" (defArgs s__law_number) (defBody s__law_number) (defScope s__law_number) .none kV16 dc16 pm16 an16 cd16 ct16), sl16⟩)
    (c16 : PySem.W.codeIn K cd16 "_law_number" = true)
    (k16 : PySem.W.keepIn K (.ref f16) = true)
    (a17 : PySem.W.nsIn K mainGlobals "_law_run" = some (some (.ref f17)))
    (l17 : K.lookup f17 = some ⟨oc17, od17, .func (PySem.W.fnOf "_law_run" "_law_run" (defArgs s__law_run) (defBody s__law_run) (defScope s__law_run) .none kV17 dc17 pm17 an17 cd17 ct17), sl17⟩)
    (c17 : PySem.W.codeIn K cd17 "_law_run" = true)
    (k17 : PySem.W.keepIn K (.ref f17) = true)
    (a18 : PySem.W.nsIn K mainGlobals "law" = some (some (.ref f18)))
    (l18 : K.lookup f18 = some ⟨oc18, od18, .func (PySem.W.fnOf "law" "law" (defArgs s_law) (defBody s_law) (defScope s_law) .none kV18 dc18 pm18 an18 cd18 ct18), sl18⟩)
    (c18 : PySem.W.codeIn K cd18 "law" = true)
    (k18 : PySem.W.keepIn K (.ref f18) = true)
    (pgMachine : PySem.W.plainGet K CMachine Str.empty = true)
    (hdMachine : PySem.W.hasDictIn K CMachine = true)
    (poMachine : PySem.W.plainOver K CMachine = true)
    (saMachine : PySem.W.findIn K (.ref CMachine) "__setattr__" = some (some (.builtin "object.__setattr__")))
    (mkMachine : PySem.W.makesIn K CMachine = true)
    (kcMachine : PySem.W.keepIn K (.ref CMachine) = true)
    (nMachine_input_count : PySem.W.findIn K (.ref CMachine) "input_count" = some none)
    (nMachine_output_count : PySem.W.findIn K (.ref CMachine) "output_count" = some none)
    (nMachine_moves : PySem.W.findIn K (.ref CMachine) "moves" = some none)
    (qhaMachine : PySem.W.findIn K (.ref CMachine) "__class__" = some (some (.builtin "object.__class__")))
    (qhnMachine : PySem.W.specialIn K (.builtin "object.__class__") "__get__" = some (some (.builtin "getset_descriptor.__get__")))
    (qhtMachine : PySem.W.takesIn K (.builtin "object.__class__") = some true)
    (qhmMachine : PySem.W.mroIn K CMachine (.type "object") = some true)
    (z_enumerate : PySem.W.nsIn K mainGlobals "enumerate" = some none)
    (z_int : PySem.W.nsIn K mainGlobals "int" = some none)
    (z_isinstance : PySem.W.nsIn K mainGlobals "isinstance" = some none)
    (z_len : PySem.W.nsIn K mainGlobals "len" = some none)
    (z_list : PySem.W.nsIn K mainGlobals "list" = some none)
    (z_max : PySem.W.nsIn K mainGlobals "max" = some none)
    (z_min : PySem.W.nsIn K mainGlobals "min" = some none)
    (z_range : PySem.W.nsIn K mainGlobals "range" = some none)
    (z_tuple : PySem.W.nsIn K mainGlobals "tuple" = some none)
    (z_MOST_INPUTS : PySem.W.nsIn K mainGlobals "MOST_INPUTS" = some (some (.int 6 tMOST_INPUTS)))
    (z_MOST_OUTPUTS : PySem.W.nsIn K mainGlobals "MOST_OUTPUTS" = some (some (.int 32 tMOST_OUTPUTS)))
    (z_MOST_ROWS : PySem.W.nsIn K mainGlobals "MOST_ROWS" = some (some (.int 1000 tMOST_ROWS)))
    (z_MOST_STATES : PySem.W.nsIn K mainGlobals "MOST_STATES" = some (some (.int 1000 tMOST_STATES)))
    : ∃ fd : FuncData, (∀ (s : Shared) (v : Value), BindsTo s fd ⟨[v], []⟩ [("script", v)]) ∧ ∀ base : Heap, K.In base → base.Ns mainGlobals mg → FnOk l.prog w K mg base CX0 5 fa fd ["script"] (spLaw K) := by
  have e := hfa.symm.trans (PySem.W.mg_of X G a18)
  cases e
  refine ⟨PySem.W.fnOf "law" "law" (defArgs s_law) (defBody s_law) (defScope s_law) .none kV18 dc18 pm18 an18 cd18 ct18, fun s v => .of_eq rfl, fun base _ _ => ?_⟩
  have T : { T : Txt l.prog K mg // T.f_law = fa ∧ T.d_law = PySem.W.fnOf "law" "law" (defArgs s_law) (defBody s_law) (defScope s_law) .none kV18 dc18 pm18 an18 cd18 ct18 } := ⟨{
    f__law_cell := f1
    d__law_cell := _
    F__law_cell := fun_mk (st := s__law_cell) l1 c1 k1
    b__law_cell := (fun_mk (st := s__law_cell) l1 c1 k1).binds (ps := ["script", "k"]) fun _ _ _ _ _ _ us hl => match us, hl with | [_, _], _ => rfl
    g__law_cell := PySem.W.mg_of X G a1
    k__law_cell := k1
    f__law_moves := f2
    d__law_moves := _
    F__law_moves := fun_mk (st := s__law_moves) l2 c2 k2
    b__law_moves := (fun_mk (st := s__law_moves) l2 c2 k2).binds (ps := ["script", "at", "inputs", "outputs", "states"]) fun _ _ _ _ _ _ us hl => match us, hl with | [_, _, _, _, _], _ => rfl
    g__law_moves := PySem.W.mg_of X G a2
    k__law_moves := k2
    f_is_move := f3
    d_is_move := _
    F_is_move := fun_mk (st := s_is_move) l3 c3 k3
    b_is_move := (fun_mk (st := s_is_move) l3 c3 k3).binds (ps := ["move", "state_count", "output_count"]) fun _ _ _ _ _ _ us hl => match us, hl with | [_, _, _], _ => rfl
    g_is_move := PySem.W.mg_of X G a3
    k_is_move := k3
    f_Machine_init := f4
    d_Machine_init := _
    F_Machine_init := fun_mk (st := s_Machine_init) l4 c4 k4
    b_Machine_init := (fun_mk (st := s_Machine_init) l4 c4 k4).binds (ps := ["self", "input_count", "output_count", "moves"]) fun _ _ _ _ _ _ us hl => match us, hl with | [_, _, _, _], _ => rfl
    f_numbered := f5
    d_numbered := _
    F_numbered := fun_mk (st := s_numbered) l5 c5 k5
    b_numbered := (fun_mk (st := s_numbered) l5 c5 k5).binds (ps := ["keys"]) fun _ _ _ _ _ _ us hl => match us, hl with | [_], _ => rfl
    g_numbered := PySem.W.mg_of X G a5
    k_numbered := k5
    f_alike_states := f6
    d_alike_states := _
    F_alike_states := fun_mk (st := s_alike_states) l6 c6 k6
    b_alike_states := (fun_mk (st := s_alike_states) l6 c6 k6).binds (ps := ["machine"]) fun _ _ _ _ _ _ us hl => match us, hl with | [_], _ => rfl
    g_alike_states := PySem.W.mg_of X G a6
    k_alike_states := k6
    f_least_machine := f7
    d_least_machine := _
    F_least_machine := fun_mk (st := s_least_machine) l7 c7 k7
    b_least_machine := (fun_mk (st := s_least_machine) l7 c7 k7).binds (ps := ["machine"]) fun _ _ _ _ _ _ us hl => match us, hl with | [_], _ => rfl
    g_least_machine := PySem.W.mg_of X G a7
    k_least_machine := k7
    f__law_alike := f8
    d__law_alike := _
    F__law_alike := fun_mk (st := s__law_alike) l8 c8 k8
    b__law_alike := (fun_mk (st := s__law_alike) l8 c8 k8).binds (ps := ["moves"]) fun _ _ _ _ _ _ us hl => match us, hl with | [_], _ => rfl
    g__law_alike := PySem.W.mg_of X G a8
    k__law_alike := k8
    f__law_least := f9
    d__law_least := _
    F__law_least := fun_mk (st := s__law_least) l9 c9 k9
    b__law_least := (fun_mk (st := s__law_least) l9 c9 k9).binds (ps := ["moves"]) fun _ _ _ _ _ _ us hl => match us, hl with | [_], _ => rfl
    g__law_least := PySem.W.mg_of X G a9
    k__law_least := k9
    f__law_blown := f10
    d__law_blown := _
    F__law_blown := fun_mk (st := s__law_blown) l10 c10 k10
    b__law_blown := (fun_mk (st := s__law_blown) l10 c10 k10).binds (ps := ["script", "at", "moves", "copies"]) fun _ _ _ _ _ _ us hl => match us, hl with | [_, _, _, _], _ => rfl
    g__law_blown := PySem.W.mg_of X G a10
    k__law_blown := k10
    f__law_row_of_states := f11
    d__law_row_of_states := _
    F__law_row_of_states := fun_mk (st := s__law_row_of_states) l11 c11 k11
    b__law_row_of_states := (fun_mk (st := s__law_row_of_states) l11 c11 k11).binds (ps := ["count"]) fun _ _ _ _ _ _ us hl => match us, hl with | [_], _ => rfl
    g__law_row_of_states := PySem.W.mg_of X G a11
    k__law_row_of_states := k11
    f__law_row := f12
    d__law_row := _
    F__law_row := fun_mk (st := s__law_row) l12 c12 k12
    b__law_row := (fun_mk (st := s__law_row) l12 c12 k12).binds (ps := ["count", "number"]) fun _ _ _ _ _ _ us hl => match us, hl with | [_, _], _ => rfl
    g__law_row := PySem.W.mg_of X G a12
    k__law_row := k12
    f_number_of := f13
    d_number_of := _
    F_number_of := fun_mk (st := s_number_of) l13 c13 k13
    b_number_of := (fun_mk (st := s_number_of) l13 c13 k13).binds (ps := ["bits"]) fun _ _ _ _ _ _ us hl => match us, hl with | [_], _ => rfl
    g_number_of := PySem.W.mg_of X G a13
    k_number_of := k13
    f_row_of := f14
    d_row_of := _
    F_row_of := fun_mk (st := s_row_of) l14 c14 k14
    b_row_of := (fun_mk (st := s_row_of) l14 c14 k14).binds (ps := ["count", "number"]) fun _ _ _ _ _ _ us hl => match us, hl with | [_, _], _ => rfl
    g_row_of := PySem.W.mg_of X G a14
    k_row_of := k14
    f_run_machine := f15
    d_run_machine := _
    F_run_machine := fun_mk (st := s_run_machine) l15 c15 k15
    b_run_machine := (fun_mk (st := s_run_machine) l15 c15 k15).binds (ps := ["machine", "course"]) fun _ _ _ _ _ _ us hl => match us, hl with | [_, _], _ => rfl
    g_run_machine := PySem.W.mg_of X G a15
    k_run_machine := k15
    f__law_number := f16
    d__law_number := _
    F__law_number := fun_mk (st := s__law_number) l16 c16 k16
    b__law_number := (fun_mk (st := s__law_number) l16 c16 k16).binds (ps := ["row"]) fun _ _ _ _ _ _ us hl => match us, hl with | [_], _ => rfl
    g__law_number := PySem.W.mg_of X G a16
    k__law_number := k16
    f__law_run := f17
    d__law_run := _
    F__law_run := fun_mk (st := s__law_run) l17 c17 k17
    b__law_run := (fun_mk (st := s__law_run) l17 c17 k17).binds (ps := ["outputs", "moves", "course"]) fun _ _ _ _ _ _ us hl => match us, hl with | [_, _, _], _ => rfl
    g__law_run := PySem.W.mg_of X G a17
    k__law_run := k17
    f_law := fa
    d_law := _
    F_law := fun_mk (st := s_law) l18 c18 k18
    b_law := (fun_mk (st := s_law) l18 c18 k18).binds (ps := ["script"]) fun _ _ _ _ _ _ us hl => match us, hl with | [_], _ => rfl
    g_law := PySem.W.mg_of X G a18
    k_law := k18
    C_Machine := CMachine
    cl_Machine := ⟨pgMachine, hdMachine, poMachine, saMachine⟩
    g_Machine := PySem.W.mg_of X G aCMachine
    at_Machine_input_count := ⟨⟨pgMachine, hdMachine, poMachine, saMachine⟩, nMachine_input_count⟩
    at_Machine_output_count := ⟨⟨pgMachine, hdMachine, poMachine, saMachine⟩, nMachine_output_count⟩
    at_Machine_moves := ⟨⟨pgMachine, hdMachine, poMachine, saMachine⟩, nMachine_moves⟩
    ic_Machine := ⟨⟨pgMachine, hdMachine, poMachine, saMachine⟩, qhaMachine, qhnMachine, qhtMachine, qhmMachine⟩
    mk_Machine := ⟨mkMachine, a4, i4, kcMachine⟩
    g_enumerate := PySem.W.mg_none_of X G z_enumerate
    g_int := PySem.W.mg_none_of X G z_int
    g_isinstance := PySem.W.mg_none_of X G z_isinstance
    g_len := PySem.W.mg_none_of X G z_len
    g_list := PySem.W.mg_none_of X G z_list
    g_max := PySem.W.mg_none_of X G z_max
    g_min := PySem.W.mg_none_of X G z_min
    g_range := PySem.W.mg_none_of X G z_range
    g_tuple := PySem.W.mg_none_of X G z_tuple
    t_MOST_INPUTS := tMOST_INPUTS
    g_MOST_INPUTS := PySem.W.mg_of X G z_MOST_INPUTS
    t_MOST_OUTPUTS := tMOST_OUTPUTS
    g_MOST_OUTPUTS := PySem.W.mg_of X G z_MOST_OUTPUTS
    t_MOST_ROWS := tMOST_ROWS
    g_MOST_ROWS := PySem.W.mg_of X G z_MOST_ROWS
    t_MOST_STATES := tMOST_STATES
    g_MOST_STATES := PySem.W.mg_of X G z_MOST_STATES
  }, rfl, rfl⟩
  obtain ⟨T, e1, e2⟩ := T
  rw [← e1, ← e2]
  exact ok_top T
theorem walk {l : PySem.W.OpenLaw} {q : Program} {loose : List Str} {XP : (Str → Option Value) → Heap → Prop} {YP : World → Heap → Prop} {d : DefRec} {K : Params → PySem.W.Frag} (hn : l.most = some 63) (hdf : d.params.defaults = [])
    (hY : ∀ (w : World) (h : Heap), YP w h → (K w.params).In h)
    (F : ∀ (w : World) (mg : Str → Option Value) (fa : Addr) (h : Heap), (K w.params).In h → h.Ns mainGlobals mg → mg d.name = some (.ref fa) →
      ∃ fd : FuncData, (∀ (s : Shared) (u : Value), BindsTo s fd ⟨[u], []⟩ [("script", u)]) ∧ ∀ base : Heap, (K w.params).In base → base.Ns mainGlobals mg → FnOk l.prog w (K w.params) mg base CX0 5 fa fd ["script"] (spLaw (K w.params))) :
    PySem.W.WalkO q loose XP YP l.row.toRowW d [] (fun f vs => PySem.call f vs) :=
  L2.walk_of (n := 63) (k := 5) (x := "script") (CX := fun _ => CX0) (sp := fun w => spLaw (K w.params)) hn (by decide) hdf ⟨rfl, by decide, by decide⟩ hY F (fun _ _ a ns hl _ hS => ⟨a, ns, rfl, hS, hl, fun _ => rfl⟩) fun _ _ _ _ _ z => z
end K24
open PySem PySem.W PyProof.Rows in
set_option maxRecDepth 100000 in
set_option maxHeartbeats 0 in
theorem PySem.Challenge.cw_evergate_k24_least_machines_holds : PySem.Challenge.rw_evergate_k24_least_machines.Holds := by
  w_on; o_law; k_head; (case hw => w_witness2)
  k_fill
  refine K24.walk (l := PySem.Challenge.rw_evergate_k24_least_machines) rfl rfl (fun w h Y => PySem.W.kIn_of Y) ?F
  case F =>
    intro w mg fa h KX G hmg
    refine' K24.all_mk KX G hmg ?aCMachine ?a1 ?l1 ?c1 ?k1 ?a2 ?l2 ?c2 ?k2 ?a3 ?l3 ?c3 ?k3 ?a4 ?l4 ?c4 ?k4 ?i4 ?a5 ?l5 ?c5 ?k5 ?a6 ?l6 ?c6 ?k6 ?a7 ?l7 ?c7 ?k7 ?a8 ?l8 ?c8 ?k8 ?a9 ?l9 ?c9 ?k9 ?a10 ?l10 ?c10 ?k10 ?a11 ?l11 ?c11 ?k11 ?a12 ?l12 ?c12 ?k12 ?a13 ?l13 ?c13 ?k13 ?a14 ?l14 ?c14 ?k14 ?a15 ?l15 ?c15 ?k15 ?a16 ?l16 ?c16 ?k16 ?a17 ?l17 ?c17 ?k17 ?a18 ?l18 ?c18 ?k18 ?pgMachine ?hdMachine ?poMachine ?saMachine ?mkMachine ?kcMachine ?nMachine_input_count ?nMachine_output_count ?nMachine_moves ?qhaMachine ?qhnMachine ?qhtMachine ?qhmMachine ?z_enumerate ?z_int ?z_isinstance ?z_len ?z_list ?z_max ?z_min ?z_range ?z_tuple ?z_MOST_INPUTS ?z_MOST_OUTPUTS ?z_MOST_ROWS ?z_MOST_STATES
    (case aCMachine => k_is)
    (case a1 => k_is)
    (case l1 => k_is)
    (case c1 => k_is)
    (case k1 => k_is)
    (case a2 => k_is)
    (case l2 => k_is)
    (case c2 => k_is)
    (case k2 => k_is)
    (case a3 => k_is)
    (case l3 => k_is)
    (case c3 => k_is)
    (case k3 => k_is)
    (case a4 => k_is)
    (case l4 => k_is)
    (case c4 => k_is)
    (case k4 => k_is)
    (case i4 => k_is)
    (case a5 => k_is)
    (case l5 => k_is)
    (case c5 => k_is)
    (case k5 => k_is)
    (case a6 => k_is)
    (case l6 => k_is)
    (case c6 => k_is)
    (case k6 => k_is)
    (case a7 => k_is)
    (case l7 => k_is)
    (case c7 => k_is)
    (case k7 => k_is)
    (case a8 => k_is)
    (case l8 => k_is)
    (case c8 => k_is)
    (case k8 => k_is)
    (case a9 => k_is)
    (case l9 => k_is)
    (case c9 => k_is)
    (case k9 => k_is)
    (case a10 => k_is)
    (case l10 => k_is)
    (case c10 => k_is)
    (case k10 => k_is)
    (case a11 => k_is)
    (case l11 => k_is)
    (case c11 => k_is)
    (case k11 => k_is)
    (case a12 => k_is)
    (case l12 => k_is)
    (case c12 => k_is)
    (case k12 => k_is)
    (case a13 => k_is)
    (case l13 => k_is)
    (case c13 => k_is)
    (case k13 => k_is)
    (case a14 => k_is)
    (case l14 => k_is)
    (case c14 => k_is)
    (case k14 => k_is)
    (case a15 => k_is)
    (case l15 => k_is)
    (case c15 => k_is)
    (case k15 => k_is)
    (case a16 => k_is)
    (case l16 => k_is)
    (case c16 => k_is)
    (case k16 => k_is)
    (case a17 => k_is)
    (case l17 => k_is)
    (case c17 => k_is)
    (case k17 => k_is)
    (case a18 => k_is)
    (case l18 => k_is)
    (case c18 => k_is)
    (case k18 => k_is)
    (case pgMachine => k_is)
    (case hdMachine => k_is)
    (case poMachine => k_is)
    (case saMachine => k_is)
    (case mkMachine => k_is)
    (case kcMachine => k_is)
    (case nMachine_input_count => k_is)
    (case nMachine_output_count => k_is)
    (case nMachine_moves => k_is)
    (case qhaMachine => k_is)
    (case qhnMachine => k_is)
    (case qhtMachine => k_is)
    (case qhmMachine => k_is)
    (case z_enumerate => k_is)
    (case z_int => k_is)
    (case z_isinstance => k_is)
    (case z_len => k_is)
    (case z_list => k_is)
    (case z_max => k_is)
    (case z_min => k_is)
    (case z_range => k_is)
    (case z_tuple => k_is)
    (case z_MOST_INPUTS => k_is)
    (case z_MOST_OUTPUTS => k_is)
    (case z_MOST_ROWS => k_is)
    (case z_MOST_STATES => k_is)
#print axioms PySem.Challenge.cw_evergate_k24_least_machines_holds

