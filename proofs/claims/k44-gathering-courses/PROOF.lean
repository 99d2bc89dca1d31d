import PyProof.Rows.All
import Wide.All
import OpenK.AllK
import Wide.FinOn
import HandS.ForMost
import HandS.ForExc
import HandS.Walk
import PyProof.Rows.TupDisplay
import HandS.IsInst
import HandS.ExcIs
import HandS.ExcField
import HandS.TryOnly
import HandS.SetFor
import HandS.Strs
import HandS.Conv
import KE.BitLaws
import PySem.Challenge.RW_evergate_k44_gathering_courses
set_option Elab.async false
set_option linter.all false
set_option maxRecDepth 100000
set_option maxHeartbeats 4000000
/-! Ty1 -/
namespace Ty
open PySem PySem.Spec L2

/-! ### slots: what is known of a value -/
structure Slot where
  P : Hp → Hp → List Addr → Option V → Prop
  mono : ∀ {F H F' H' : Hp} {fp : List Addr} {o : Option V}, Same F F' → Same H H' → P F H fp o → P F' H' fp o
  st : Prop
  mm : st → ∀ {F H F' H' : Hp} {fp : List Addr} {o : Option V}, Same F F' → (∀ a ∈ fp, H' a = H a) → P F H fp o → P F' H' fp o

inductive Slots (F H : Hp) : List Addr → List (Option V) → List Slot → Prop
  | nil : Slots F H [] [] []
  | cons {fp os : List Addr} {o : Option V} {σ : List (Option V)} {s : Slot} {Γ : List Slot} : s.P F H fp o → Slots F H os σ Γ → Slots F H (fp ++ os) (o :: σ) (s :: Γ)

theorem Slots.mono {F H F' H' : Hp} (hF : Same F F') (hH : Same H H') : ∀ {os σ Γ}, Slots F H os σ Γ → Slots F' H' os σ Γ
  | _, _, _, .nil => .nil
  | _, _, _, .cons p r => .cons (Slot.mono _ hF hH p) (Slots.mono hF hH r)

/-- all slots of the list bear a change elsewhere -/
def Stb (Γ : List Slot) : Prop := ∀ s ∈ Γ, s.st
theorem Stb.nil : Stb [] := fun _ h => nomatch h
theorem Stb.cons {s : Slot} {Γ : List Slot} (h : s.st) (r : Stb Γ) : Stb (s :: Γ) := fun x hx => by
  rcases List.mem_cons.mp hx with rfl | hx
  · exact h
  · exact r x hx
theorem Slots.mm {F H F' H' : Hp} (hF : Same F F') {os σ Γ} (h : Slots F H os σ Γ) : Stb Γ → (∀ a ∈ os, H' a = H a) → Slots F' H' os σ Γ := by
  induction h with
  | nil => intro _ _; exact .nil
  | @cons fp os o σ s Γ p r ih =>
    intro b k
    exact .cons (s.mm (b s List.mem_cons_self) hF (fun a ha => k a (List.mem_append_left _ ha)) p)
      (ih (fun x hx => b x (List.mem_cons_of_mem _ hx)) (fun a ha => k a (List.mem_append_right _ ha)))
theorem Slots.length {F H : Hp} : ∀ {os σ Γ}, Slots F H os σ Γ → σ.length = Γ.length
  | _, _, _, .nil => rfl
  | _, _, _, .cons _ r => congrArg (· + 1) r.length
theorem Slots.append {F H : Hp} : ∀ {os σ Γ os' σ' Γ'}, Slots F H os σ Γ → Slots F H os' σ' Γ' → Slots F H (os ++ os') (σ ++ σ') (Γ ++ Γ')
  | _, _, _, _, _, _, .nil, s => s
  | _, _, _, _, _, _, .cons p r, s => by
    rw [List.append_assoc]
    exact .cons p (Slots.append r s)

/-- the i-th slot taken out, and something put in its place -/
theorem Slots.at {F H : Hp} : ∀ {os σ Γ i s}, Slots F H os σ Γ → Γ[i]? = some s →
    ∃ o fp r, σ[i]? = some o ∧ s.P F H fp o ∧ os.Perm (fp ++ r) ∧
      ∀ {F' H' : Hp} {fp' : List Addr} {o' : Option V} {s' : Slot}, s'.P F' H' fp' o' →
        (∀ s0 ∈ Γ, ∀ fp0 o0, (∀ a ∈ fp0, a ∈ r) → s0.P F H fp0 o0 → s0.P F' H' fp0 o0) →
        ∃ os', Slots F' H' os' (σ.set i o') (Γ.set i s') ∧ os'.Perm (fp' ++ r)
  | _, _, _, i, s, .nil, e => by simp at e
  | _, _, _, 0, s, .cons (fp := fp) (os := os) (o := o) (σ := σ) (s := s0) (Γ := Γ) p r, e => by
    simp at e; subst e
    refine ⟨o, fp, os, rfl, p, List.Perm.refl _, ?_⟩
    intro F' H' fp' o' s' q k
    have all : ∀ {os σ Γ'}, Slots F H os σ Γ' → (∀ s ∈ Γ', ∀ fp0 o0, (∀ a ∈ fp0, a ∈ os) → s.P F H fp0 o0 → s.P F' H' fp0 o0) → Slots F' H' os σ Γ' := by
      intro os σ Γ' h
      induction h with
      | nil => intro _; exact .nil
      | cons p r ih =>
        intro k
        exact .cons (k _ List.mem_cons_self _ _ (fun a ha => List.mem_append_left _ ha) p) (ih fun s hs fp0 o0 hf q => k s (List.mem_cons_of_mem _ hs) fp0 o0 (fun a ha => List.mem_append_right _ (hf a ha)) q)
    exact ⟨fp' ++ os, .cons q (all r fun s hs fp0 o0 hf q => k s (List.mem_cons_of_mem _ hs) fp0 o0 hf q), List.Perm.refl _⟩
  | _, _, _, i + 1, s, .cons (fp := fp) (os := os) (o := o) (σ := σ) (s := s0) (Γ := Γ) p r, e => by
    obtain ⟨o1, fp1, r1, e1, p1, q1, k1⟩ := Slots.at (i := i) (s := s) r (by simpa using e)
    refine ⟨o1, fp1, fp ++ r1, by simpa using e1, p1, ?_, ?_⟩
    · refine (List.Perm.append_left fp q1).trans ?_
      rw [← List.append_assoc, ← List.append_assoc]
      exact List.Perm.append_right r1 List.perm_append_comm
    · intro F' H' fp' o' s' q k
      obtain ⟨os', h1, h2⟩ := k1 q (fun s hs fp0 o0 hf q => k s (List.mem_cons_of_mem _ hs) fp0 o0 (fun a ha => List.mem_append_right _ (hf a ha)) q)
      refine ⟨fp ++ os', .cons (k s0 List.mem_cons_self fp o (fun a ha => List.mem_append_left _ ha) p) h1, ?_⟩
      refine (List.Perm.append_left fp h2).trans ?_
      rw [← List.append_assoc, ← List.append_assoc]
      exact List.Perm.append_right r1 List.perm_append_comm

/-! ### the world: the caller's heaps, the frozen heap F, the heap H, what is owned -/
structure Bs where
  F : Hp
  H : Hp
  os : List Addr
structure Wo (B : Bs) (F H : Hp) (os : List Addr) : Prop where
  sub : Same F H
  nd : os.Nodup
  oF : ∀ a ∈ os, F a = none
  oH : ∀ a ∈ os, ∃ o, H a = some o
  bF : Same B.F F
  bH : ∀ a o, B.H a = some o → a ∉ B.os → H a = some o
  bN : ∀ a o, F a = some o → B.F a = some o ∨ B.H a = none ∨ a ∈ B.os
  bO : ∀ a ∈ os, B.H a = none ∨ a ∈ B.os
section
variable {B : Bs} {F H F' H' : Hp} {os os' : List Addr}
theorem Wo.perm (W : Wo B F H os) (p : os.Perm os') : Wo B F H os' :=
  ⟨W.sub, p.nodup_iff.mp W.nd, fun a h => W.oF a (p.mem_iff.mpr h), fun a h => W.oH a (p.mem_iff.mpr h), W.bF, W.bH, W.bN, fun a h => W.bO a (p.mem_iff.mpr h)⟩
theorem Wo.drop {a b : List Addr} (W : Wo B F H (a ++ b)) : Wo B F H b :=
  ⟨W.sub, (List.nodup_append.mp W.nd).2.1, fun x h => W.oF x (List.mem_append_right _ h), fun x h => W.oH x (List.mem_append_right _ h), W.bF, W.bH, W.bN, fun x h => W.bO x (List.mem_append_right _ h)⟩
theorem Wo.dropR {a b : List Addr} (W : Wo B F H (a ++ b)) : Wo B F H a := (W.perm List.perm_append_comm).drop
theorem Wo.bFree (W : Wo B F H os) {p : Addr} (h : H p = none) : B.H p = none ∨ p ∈ B.os := by
  cases q : B.H p with
  | none => exact .inl rfl
  | some o =>
    refine .inr ?_
    by_cases hp : p ∈ B.os
    · exact hp
    · rw [W.bH p o q hp] at h; cases h
theorem Wo.free (W : Wo B F H os) {p : Addr} (h : H p = none) : F p = none ∧ p ∉ os := by
  refine ⟨?_, fun hp => ?_⟩
  · cases q : F p with
    | none => rfl
    | some o => rw [W.sub p o q] at h; cases h
  · obtain ⟨o, e⟩ := W.oH p hp
    rw [e] at h; cases h
theorem same_upd {H : Hp} {p : Addr} {o : HO} (h : H p = none) : Same H (upd H p o) := fun a u e => by
  rw [upd_ne (ne_of_none e h)]; exact e
/-- a new frozen object -/
theorem Wo.newF (W : Wo B F H os) {p : Addr} {o : HO} (h : H p = none) : Wo B (upd F p o) (upd H p o) os := by
  obtain ⟨f0, n0⟩ := W.free h
  refine ⟨fun a u e => ?_, W.nd, fun a ha => ?_, fun a ha => ?_, fun a u e => ?_, fun a u e hb => ?_, fun a u e => ?_, W.bO⟩
  · by_cases q : a = p
    · subst q; rw [upd_same] at e ⊢; exact e
    · rw [upd_ne q] at e ⊢; exact W.sub a u e
  · rw [upd_ne (fun q => n0 (by rw [← q]; exact ha))]; exact W.oF a ha
  · rw [upd_ne (fun q => n0 (by rw [← q]; exact ha))]; exact W.oH a ha
  · exact same_upd f0 a u (W.bF a u e)
  · exact same_upd h a u (W.bH a u e hb)
  · by_cases q : a = p
    · subst q; exact .inr (W.bFree h)
    · rw [upd_ne q] at e; exact W.bN a u e
/-- a new owned object -/
theorem Wo.newO (W : Wo B F H os) {p : Addr} {o : HO} (h : H p = none) : Wo B F (upd H p o) (p :: os) := by
  obtain ⟨f0, n0⟩ := W.free h
  refine ⟨fun a u e => same_upd h a u (W.sub a u e), List.nodup_cons.mpr ⟨n0, W.nd⟩, fun a ha => ?_, fun a ha => ?_, W.bF, fun a u e hb => same_upd h a u (W.bH a u e hb), W.bN, fun a ha => ?_⟩
  · rcases List.mem_cons.mp ha with rfl | ha
    · exact f0
    · exact W.oF a ha
  · rcases List.mem_cons.mp ha with rfl | ha
    · exact ⟨o, upd_same⟩
    · obtain ⟨u, e⟩ := W.oH a ha; exact ⟨u, same_upd h a u e⟩
  · rcases List.mem_cons.mp ha with rfl | ha
    · exact W.bFree h
    · exact W.bO a ha
/-- an owned object changes -/
theorem Wo.write (W : Wo B F H os) {p : Addr} {o : HO} (hp : p ∈ os) : Wo B F (upd H p o) os := by
  have nf : ∀ a u, F a = some u → a ≠ p := fun a u e q => by subst q; rw [W.oF a hp] at e; cases e
  refine ⟨fun a u e => by rw [upd_ne (nf a u e)]; exact W.sub a u e, W.nd, W.oF, fun a ha => ?_, W.bF, fun a u e hb => ?_, W.bN, W.bO⟩
  · by_cases q : a = p
    · subst q; exact ⟨o, upd_same⟩
    · rw [upd_ne q]; exact W.oH a ha
  · have q : a ≠ p := fun q => by
      subst q
      rcases W.bO a hp with z | z
      · rw [z] at e; cases e
      · exact hb z
    rw [upd_ne q]; exact W.bH a u e hb
/-- owned objects become frozen -/
theorem Wo.freeze {a b : List Addr} (W : Wo B F H (a ++ b)) : ∃ F', Wo B F' H b ∧ Same F F' ∧ ∀ x ∈ a, F' x = H x := by
  classical
  have nd := List.nodup_append.mp W.nd
  refine ⟨fun x => if x ∈ a then H x else F x, ⟨fun x o e => ?_, nd.2.1, fun x hx => ?_, fun x hx => W.oH x (List.mem_append_right _ hx), fun x o e => ?_, W.bH, fun x o e => ?_, fun x hx => W.bO x (List.mem_append_right _ hx)⟩, fun x o e => ?_, fun x hx => if_pos hx⟩
  · by_cases q : x ∈ a
    · simp only [q, if_true] at e; exact e
    · simp only [q, if_false] at e; exact W.sub x o e
  · have q : x ∉ a := fun q => (nd.2.2 x q x hx) rfl
    simp only [q, if_false]; exact W.oF x (List.mem_append_right _ hx)
  · have q : x ∉ a := fun q => by
      have z := W.oF x (List.mem_append_left _ q)
      rw [W.bF x o e] at z; cases z
    simp only [q, if_false]; exact W.bF x o e
  · by_cases q : x ∈ a
    · exact .inr (W.bO x (List.mem_append_left _ q))
    · simp only [q, if_false] at e; exact W.bN x o e
  · have q : x ∉ a := fun q => by
      have z := W.oF x (List.mem_append_left _ q)
      rw [e] at z; cases z
    simp only [q, if_false]; exact e
end

/-- a state told from an entry within -/
theorem Wo.trans {B : Bs} {F1 H1 F2 H2 : Hp} {os1 os2 : List Addr} (W1 : Wo B F1 H1 os1) (W2 : Wo ⟨F1, H1, os1⟩ F2 H2 os2) : Wo B F2 H2 os2 := by
  refine ⟨W2.sub, W2.nd, W2.oF, W2.oH, W1.bF.trans W2.bF, fun a o e hb => ?_, fun a o e => ?_, fun a ha => ?_⟩
  · refine W2.bH a o (W1.bH a o e hb) fun z => ?_
    rcases W1.bO a z with q | q
    · rw [q] at e; cases e
    · exact hb q
  · rcases W2.bN a o e with q | q | q
    · exact W1.bN a o q
    · exact .inr (W1.bFree q)
    · exact .inr (W1.bO a q)
  · rcases W2.bO a ha with q | q
    · exact W1.bFree q
    · exact W1.bO a q
theorem Wo.self {B : Bs} {F H : Hp} {os : List Addr} (W : Wo B F H os) : Wo ⟨F, H, os⟩ F H os :=
  ⟨W.sub, W.nd, W.oF, W.oH, fun _ _ h => h, fun _ _ h _ => h, fun _ _ h => .inl h, fun _ h => .inr h⟩

/-! ### the state of a frame -/
def Sta (B : Bs) (F H : Hp) (σ : List (Option V)) (Γ : List Slot) : Prop := ∃ os, Wo B F H os ∧ Slots F H os σ Γ
end Ty

/-! Ty2 -/
namespace Ty
open PySem PySem.Spec L2

/-! ### kinds of values -/
/-- frozen data: what of the frozen heap makes v the datum a -/
structure VP (α : Type) where
  R : Hp → V → α → Prop
  mono : ∀ {F F' : Hp} {v : V} {a : α}, Same F F' → R F v a → R F' v a
/-- owned data: at the addresses fp -/
structure OP (α : Type) where
  P : Hp → Hp → List Addr → V → α → Prop
  mono : ∀ {F H F' H' : Hp} {fp : List Addr} {v : V} {a : α}, Same F F' → Same H H' → P F H fp v a → P F' H' fp v a
  mm : ∀ {F H F' H' : Hp} {fp : List Addr} {v : V} {a : α}, Same F F' → (∀ x ∈ fp, H' x = H x) → P F H fp v a → P F' H' fp v a
section
variable {α β γ : Type}
def val (p : VP α) (a : α) : Slot where
  P := fun F _ fp o => fp = [] ∧ ∃ v, o = some v ∧ p.R F v a
  mono := fun hF _ h => let ⟨e, v, ev, r⟩ := h; ⟨e, v, ev, p.mono hF r⟩
  st := True
  mm := fun _ {_ _ _ _ _ _} hF _ h => let ⟨e, v, ev, r⟩ := h; ⟨e, v, ev, p.mono hF r⟩
def dead : Slot where
  P := fun _ _ fp _ => fp = []
  mono := fun {_ _ _ _ _ _} _ _ h => h
  st := True
  mm := fun {_ _ _ _ _ _ _} _ _ h => h
def own (O : OP α) (a : α) : Slot where
  P := fun F H fp o => ∃ v, o = some v ∧ O.P F H fp v a
  mono := fun hF hH h => let ⟨v, ev, r⟩ := h; ⟨v, ev, O.mono hF hH r⟩
  st := True
  mm := fun _ {_ _ _ _ _ _} hF hH h => let ⟨v, ev, r⟩ := h; ⟨v, ev, O.mm hF hH r⟩
/-- something owned that is looked at: its data by the whole heap -/
def bor (p : VP α) (a : α) : Slot where
  P := fun _ H fp o => fp = [] ∧ ∃ v, o = some v ∧ p.R H v a
  mono := fun _ hH h => let ⟨e, v, ev, r⟩ := h; ⟨e, v, ev, p.mono hH r⟩
  st := False
  mm := fun h => h.elim

theorem Paired.mon {α β : Type} {R R' : α → β → Prop} (h : ∀ a b, R a b → R' a b) : ∀ {xs ys}, Paired R xs ys → Paired R' xs ys
  | _, _, .nil => .nil
  | _, _, .cons r t => .cons (h _ _ r) (Paired.mon h t)
def pInt : VP Int := ⟨fun _ v i => v = .int i, fun _ h => h⟩
def pBl : VP Bool := ⟨fun _ v b => v = .bl b, fun _ h => h⟩
def pStr : VP Str := ⟨fun _ v s => v = .str s, fun _ h => h⟩
def pNon : VP Unit := ⟨fun _ v _ => v = .non, fun _ h => h⟩
def pOpt (p : VP α) : VP (Option α) where
  R := fun F v o => match o with | none => v = .non | some a => p.R F v a ∧ v ≠ .non
  mono := fun {F F' v a} hF h => by
    cases a with
    | none => exact h
    | some a => exact ⟨p.mono hF h.1, h.2⟩
def pL (p : VP α) : VP (List α) where
  R := fun F v xs => ∃ l vs, v = .ref l ∧ F l = some (.lst vs) ∧ Paired (p.R F) vs xs
  mono := fun hF h => let ⟨l, vs, e, h1, h2⟩ := h; ⟨l, vs, e, hF _ _ h1, Paired.mon (fun _ _ r => p.mono hF r) h2⟩
/-- a tuple of any length -/
def pTup (p : VP α) : VP (List α) where
  R := fun F v xs => ∃ l vs, v = .ref l ∧ F l = some (.tup vs) ∧ Paired (p.R F) vs xs
  mono := fun hF h => let ⟨l, vs, e, h1, h2⟩ := h; ⟨l, vs, e, hF _ _ h1, Paired.mon (fun _ _ r => p.mono hF r) h2⟩
def pT2 (p : VP α) (q : VP β) : VP (α × β) where
  R := fun F v x => ∃ l a b, v = .ref l ∧ F l = some (.tup [a, b]) ∧ p.R F a x.1 ∧ q.R F b x.2
  mono := fun hF h => let ⟨l, a, b, e, h1, h2, h3⟩ := h; ⟨l, a, b, e, hF _ _ h1, p.mono hF h2, q.mono hF h3⟩
def pT3 (p : VP α) (q : VP β) (r : VP γ) : VP (α × β × γ) where
  R := fun F v x => ∃ l a b c, v = .ref l ∧ F l = some (.tup [a, b, c]) ∧ p.R F a x.1 ∧ q.R F b x.2.1 ∧ r.R F c x.2.2
  mono := fun hF h => let ⟨l, a, b, c, e, h1, h2, h3, h4⟩ := h; ⟨l, a, b, c, e, hF _ _ h1, p.mono hF h2, q.mono hF h3, r.mono hF h4⟩
/-- the script: it may be locked -/
def pScr (K : PySem.W.Frag) : VP (List Int) where
  R := fun F v ns => ∃ l, v = .ref l ∧ SqL K F l (ns.map V.int)
  mono := fun hF h => let ⟨l, e, h1⟩ := h; ⟨l, e, Same.seq hF h1⟩
/-- an owned list of frozen items -/
def oL (p : VP α) : OP (List α) where
  P := fun F H fp v xs => ∃ l vs, v = .ref l ∧ fp = [l] ∧ H l = some (.lst vs) ∧ Paired (p.R F) vs xs
  mono := fun hF hH h => let ⟨l, vs, e, ef, h1, h2⟩ := h; ⟨l, vs, e, ef, hH _ _ h1, Paired.mon (fun _ _ r => p.mono hF r) h2⟩
  mm := fun hF hH h => let ⟨l, vs, e, ef, h1, h2⟩ := h; ⟨l, vs, e, ef, by rw [hH l (by rw [ef]; exact List.mem_cons_self)]; exact h1, Paired.mon (fun _ _ r => p.mono hF r) h2⟩
/-- an owned list that is looked at: its items frozen -/
def borL (p : VP α) (xs : List α) : Slot where
  P := fun F H fp o => fp = [] ∧ ∃ l vs, o = some (.ref l) ∧ H l = some (.lst vs) ∧ Paired (p.R F) vs xs
  mono := fun hF hH h => let ⟨ef, l, vs, e, h1, h2⟩ := h; ⟨ef, l, vs, e, hH _ _ h1, Paired.mon (fun _ _ r => p.mono hF r) h2⟩
  st := False
  mm := fun h => h.elim
end
abbrev vInt (i : Int) : Slot := val pInt i
abbrev vBl (b : Bool) : Slot := val pBl b
abbrev vStr (s : Str) : Slot := val pStr s
abbrev vNon : Slot := val pNon ()

/-! ### views -/
section
variable {α β γ : Type}
/-- a list whose items are frozen, frozen or owned itself -/
def LV (s : Slot) (p : VP α) (xs : List α) : Prop := ∀ F H fp o, Same F H → s.P F H fp o → ∃ l vs, o = some (.ref l) ∧ H l = some (.lst vs) ∧ Paired (p.R F) vs xs
theorem LV.val {p : VP α} {xs : List α} : LV (val (pL p) xs) p xs := fun F H fp o hS h => let ⟨_, v, e, l, vs, ev, h1, h2⟩ := h; ⟨l, vs, by rw [e, ev], hS _ _ h1, h2⟩
theorem LV.own {p : VP α} {xs : List α} : LV (own (oL p) xs) p xs := fun F H fp o _ h => let ⟨v, e, l, vs, ev, _, h1, h2⟩ := h; ⟨l, vs, by rw [e, ev], h1, h2⟩
theorem LV.bor {p : VP α} {xs : List α} : LV (borL p xs) p xs := fun F H fp o _ h => let ⟨_, l, vs, e, h1, h2⟩ := h; ⟨l, vs, e, h1, h2⟩
/-- a list that may be locked -/
def SV (K : PySem.W.Frag) (s : Slot) (p : VP α) (xs : List α) : Prop := ∀ F H fp o, Same F H → s.P F H fp o → ∃ l vs, o = some (.ref l) ∧ SqL K H l vs ∧ Paired (p.R F) vs xs
theorem LV.sv {K : PySem.W.Frag} {s : Slot} {p : VP α} {xs : List α} (h : LV s p xs) : SV K s p xs := fun F H fp o hS q => let ⟨l, vs, e, h1, h2⟩ := h F H fp o hS q; ⟨l, vs, e, SqL.of h1, h2⟩
theorem paired_map_int {F : Hp} : ∀ (ns : List Int), Paired (pInt.R F) (ns.map V.int) ns
  | [] => .nil
  | _ :: r => .cons rfl (paired_map_int r)
theorem map_int_of {F : Hp} : ∀ {vs : List V} {ns : List Int}, Paired (pInt.R F) vs ns → vs = ns.map V.int
  | _, _, .nil => rfl
  | _, _, .cons r t => by rw [show _ = V.int _ from r, map_int_of t]; rfl
theorem SV.scr {K : PySem.W.Frag} {ns : List Int} : SV K (Ty.val (pScr K) ns) pInt ns := fun F H fp o hS h => let ⟨_, v, e, l, ev, h1⟩ := h; ⟨l, _, by rw [e, ev], Same.seq hS h1, paired_map_int ns⟩
/-- a tuple of any length -/
def TV (s : Slot) (p : VP α) (xs : List α) : Prop := ∀ F H fp o, Same F H → s.P F H fp o → ∃ l vs, o = some (.ref l) ∧ H l = some (.tup vs) ∧ Paired (p.R F) vs xs
theorem TV.val {p : VP α} {xs : List α} : TV (Ty.val (pTup p) xs) p xs := fun F H fp o hS h => let ⟨_, v, e, l, vs, ev, h1, h2⟩ := h; ⟨l, vs, by rw [e, ev], hS _ _ h1, h2⟩
/-- a value without a heap -/
def Flat (p : VP α) : Prop := ∀ F F' v a, p.R F v a → p.R F' v a
theorem Flat.int : Flat pInt := fun _ _ _ _ h => h
theorem Flat.bl : Flat pBl := fun _ _ _ _ h => h
theorem Flat.str : Flat pStr := fun _ _ _ _ h => h
theorem Flat.non : Flat pNon := fun _ _ _ _ h => h
theorem Flat.opt {p : VP α} (h : Flat p) : Flat (pOpt p) := fun F F' v a q => by
  cases a with
  | none => exact q
  | some a => exact ⟨h F F' v a q.1, q.2⟩
/-- any value, its data by the whole heap -/
def Vw (s : Slot) (p : VP α) (a : α) : Prop := ∀ F H fp o, Same F H → s.P F H fp o → ∃ v, o = some v ∧ p.R H v a
theorem Vw.val {p : VP α} {a : α} : Vw (Ty.val p a) p a := fun F H fp o hS h => let ⟨_, v, e, r⟩ := h; ⟨v, e, p.mono hS r⟩
theorem Vw.bor {p : VP α} {a : α} : Vw (Ty.bor p a) p a := fun F H fp o hS h => let ⟨_, v, e, r⟩ := h; ⟨v, e, r⟩
theorem LV.vw {s : Slot} {p : VP α} {xs : List α} (h : LV s p xs) : Vw s (pL p) xs := fun F H fp o hS q => let ⟨l, vs, e, h1, h2⟩ := h F H fp o hS q; ⟨_, e, l, vs, rfl, h1, Paired.mon (fun _ _ r => p.mono hS r) h2⟩
theorem val_P {p : VP α} {a : α} {F H : Hp} {fp : List Addr} {v : V} (h : (Ty.val p a).P F H fp (some v)) : fp = [] ∧ p.R F v a := by
  obtain ⟨e, v', ev, r⟩ := h
  cases ev; exact ⟨e, r⟩
end

/-! ### contexts: a body, or a block of a comprehension, whatever the state where it starts -/
structure Fa (P : Program) (w : World) (K : PySem.W.Frag) (mg : Str → Option Value) (base : Heap) (k : Nat) where
  I : Type
  X : I → Cx
  hP : ∀ i, (X i).prog = P
  hw : ∀ i, (X i).w = w
  hK : ∀ i, (X i).K = K
  hM : ∀ i, (X i).mg = mg
  hB : ∀ i, (X i).base = base
  cm : Bool
  hC : ∀ i, (X i).calm = cm
  hR : cm = true → ∀ i, Room k (X i).A
  hU : ∀ i, (X i).A.units + 64 < cLine
  W : WX
  tk : ∀ i, Takes (X i) W
  hN : ∀ i, (X i).N.Nodup
  hO : ∀ i, PassesOwn (model (X i).prog (X i).w) (X i).A (X i).env (X i).xe
section
variable {P : Program} {w : World} {K : PySem.W.Frag} {mg : Str → Option Value} {base : Heap} {k : Nat}
/-- where an expression stands: the world, and the frame told by Γ somewhere within what is owned -/
structure In (B : Bs) (F H : Hp) (os : List Addr) (σ : List (Option V)) (Γ : List Slot) : Prop where
  W : Wo B F H os
  S : ∃ o2 r, os.Perm (o2 ++ r) ∧ Slots F H o2 σ Γ
theorem In.step {B : Bs} {F H F' H' : Hp} {fp os : List Addr} {σ : List (Option V)} {Γ : List Slot} (I : In B F H os σ Γ) (hF : Same F F') (hH : Same H H') (W : Wo B F' H' (fp ++ os)) : In B F' H' (fp ++ os) σ Γ := by
  obtain ⟨_, o2, r, p, S⟩ := I
  exact ⟨W, o2, r ++ fp, (List.perm_append_comm.trans (List.Perm.append_right fp p)).trans (by rw [List.append_assoc]), S.mono hF hH⟩
theorem In.step0 {B : Bs} {F H F' H' : Hp} {os : List Addr} {σ : List (Option V)} {Γ : List Slot} (I : In B F H os σ Γ) (hF : Same F F') (hH : Same H H') (W : Wo B F' H' os) : In B F' H' os σ Γ := I.step (fp := []) hF hH W
/-- e gives a value told by r; all that was stands, what is new is the value's -/
def XV (Y : Fa P w K mg base k) (e : Expr) (Γ : List Slot) (r : Slot) : Prop :=
  ∃ t : TE, (∀ i, PE (Y.X i) e t) ∧ ∀ (B : Bs) (F H : Hp) (os : List Addr) (σ : List (Option V)) (Q : VK), In B F H os σ Γ →
    (∀ v F' H' fp, Same F F' → Same H H' → Wo B F' H' (fp ++ os) → r.P F' H' fp (some v) → Q v H') → t σ H Q
def XT (Y : Fa P w K mg base k) (e : Expr) (Γ : List Slot) (b : Bool) : Prop :=
  ∃ t : TT, (∀ i, PT (Y.X i) e t) ∧ ∀ (B : Bs) (F H : Hp) (os : List Addr) (σ : List (Option V)) (Q : Bool → Hp → Prop), In B F H os σ Γ →
    (∀ F' H', Same F F' → Same H H' → Wo B F' H' os → Q b H') → t σ H Q
def XW (Y : Fa P w K mg base k) (e : Expr) (Γ : List Slot) (b : Bool) : Prop :=
  ∃ t : TT, (∀ i, PW (Y.X i) e t) ∧ ∀ (B : Bs) (F H : Hp) (os : List Addr) (σ : List (Option V)) (Q : Bool → Hp → Prop), In B F H os σ Γ →
    (∀ F' H', Same F F' → Same H H' → Wo B F' H' os → Q b H') → t σ H Q
def XA (Y : Fa P w K mg base k) (es : List Expr) (Γ As : List Slot) : Prop :=
  ∃ t : TA, (∀ i, PA (Y.X i) es t) ∧ ∀ (B : Bs) (F H : Hp) (os : List Addr) (σ : List (Option V)) (Q : List V → Hp → Prop), In B F H os σ Γ →
    (∀ vs F' H' fp, Same F F' → Same H H' → Wo B F' H' (fp ++ os) → Slots F' H' fp (vs.map some) As → Q vs H') → t σ H Q
/-- a two-place operation on values -/
def Op2 (r : R2) (a b c : Slot) : Prop := ∀ (B : Bs) (F H : Hp) (x y : V) (fx fy os : List Addr) (Q : VK), Wo B F H (fy ++ (fx ++ os)) → a.P F H fx (some x) → b.P F H fy (some y) →
  (∀ v F' H' fp, Same F F' → Same H H' → Wo B F' H' (fp ++ os) → c.P F' H' fp (some v) → Q v H') → r x y H Q
def Op1 (r : V → Hp → VK → Prop) (a c : Slot) : Prop := ∀ (B : Bs) (F H : Hp) (x : V) (fx os : List Addr) (Q : VK), Wo B F H (fx ++ os) → a.P F H fx (some x) →
  (∀ v F' H' fp, Same F F' → Same H H' → Wo B F' H' (fp ++ os) → c.P F' H' fp (some v) → Q v H') → r x H Q
/-- a call of a known value -/
def OpA (r : List V → Hp → VK → Prop) (As : List Slot) (c : Slot) : Prop := ∀ (B : Bs) (F H : Hp) (vs : List V) (fx os : List Addr) (Q : VK), Wo B F H (fx ++ os) → Slots F H fx (vs.map some) As →
  (∀ v F' H' fp, Same F F' → Same H H' → Wo B F' H' (fp ++ os) → c.P F' H' fp (some v) → Q v H') → r vs H Q
variable {Y : Fa P w K mg base k} {e ea eb : Expr} {es : List Expr} {Γ : List Slot} {a b c r : Slot} {pos : Pos}

theorem same_refl {H : Hp} : Same H H := fun _ _ h => h
theorem val_no {α : Type} {p : VP α} {z : α} {F H : Hp} {fp : List Addr} {v : Option V} (h : (val p z).P F H fp v) : fp = [] := h.1
/-! ### atoms -/
theorem x_c {v : V} {t : VP Unit → Unit} : True := trivial
theorem x_int {z : Int} {j : Nat} : XV Y (.Constant (.int z) j pos) Γ (vInt z) :=
  ⟨_, fun _ => pe_int, fun _ F H os σ Q I q => q _ F H [] same_refl same_refl I.W ⟨rfl, _, rfl, rfl⟩⟩
theorem x_bl {z : Bool} {j : Nat} : XV Y (.Constant (.bool z) j pos) Γ (vBl z) :=
  ⟨_, fun _ => pe_bl, fun _ F H os σ Q I q => q _ F H [] same_refl same_refl I.W ⟨rfl, _, rfl, rfl⟩⟩
theorem x_str {z : Str} {j : Nat} : XV Y (.Constant (.str z) j pos) Γ (vStr z) :=
  ⟨_, fun _ => pe_str, fun _ F H os σ Q I q => q _ F H [] same_refl same_refl I.W ⟨rfl, _, rfl, rfl⟩⟩
theorem x_non {j : Nat} : XV Y (.Constant .none j pos) Γ vNon :=
  ⟨_, fun _ => pe_non, fun _ F H os σ Q I q => q _ F H [] same_refl same_refl I.W ⟨rfl, _, rfl, rfl⟩⟩
theorem In.slot {B : Bs} {F H : Hp} {os : List Addr} {σ : List (Option V)} {i : Nat} {s : Slot} (I : In B F H os σ Γ) (hs : Γ[i]? = some s) : ∃ o fp, σ[i]? = some o ∧ s.P F H fp o := by
  obtain ⟨_, o2, r, p, S⟩ := I
  obtain ⟨o, fp, _, e, p, _⟩ := S.at hs
  exact ⟨o, fp, e, p⟩
/-- a name -/
theorem x_var {α : Type} {p : VP α} {z : α} (i : Nat) {x : Str} (hs : Γ[i]? = some (val p z) := by rfl) (hN : ∀ j, (Y.X j).N[i]? = some x := by intro _; rfl)
    (hv : ∀ j, Vis (Y.X j).env.scope x := by intro _; first | exact Or.inl rfl | exact Or.inr (Or.inl rfl) | exact Or.inr (Or.inr rfl)) (hd : (x == ("__debug__" : Str)) = false := by decide) (hcd : (x == ("__classdict__" : Str)) = false := by decide) : XV Y (.Name x pos) Γ (val p z) := by
  refine ⟨_, fun j => pe_var (hN j) (hv j) hd hcd, fun B F H os σ Q I q => ?_⟩
  obtain ⟨o, fp, e, ef, v, ev, h⟩ := I.slot hs
  subst ev
  exact ⟨v, e, q v F H [] same_refl same_refl I.W ⟨rfl, v, rfl, h⟩⟩
/-- an owned list's name, looked at -/
theorem x_varL {α : Type} {p : VP α} {z : List α} (i : Nat) {x : Str} (hs : Γ[i]? = some (own (oL p) z) := by rfl) (hN : ∀ j, (Y.X j).N[i]? = some x := by intro _; rfl)
    (hv : ∀ j, Vis (Y.X j).env.scope x := by intro _; first | exact Or.inl rfl | exact Or.inr (Or.inl rfl) | exact Or.inr (Or.inr rfl)) (hd : (x == ("__debug__" : Str)) = false := by decide) (hcd : (x == ("__classdict__" : Str)) = false := by decide) : XV Y (.Name x pos) Γ (borL p z) := by
  refine ⟨_, fun j => pe_var (hN j) (hv j) hd hcd, fun B F H os σ Q I q => ?_⟩
  obtain ⟨o, fp, e, v, ev, l, vs, el, _, h1, h2⟩ := I.slot hs
  subst ev; subst el
  exact ⟨_, e, q _ F H [] same_refl same_refl I.W ⟨rfl, l, vs, rfl, h1, h2⟩⟩
/-- a module's constant -/
theorem x_glob {α : Type} {p : VP α} {z : α} {x : Str} {v : V} {u : Value} (hm : mg x = some u) (hr : RelV v u) (hz : ∀ F, p.R F v z) (hg : ∀ j, Gl (Y.X j) x := by intro _; rfl) (hd : (x == ("__debug__" : Str)) = false := by decide) : XV Y (.Name x pos) Γ (val p z) :=
  ⟨_, fun j => pe_glob (hg j) (by rw [Y.hM]; exact hm) hr hd, fun _ F H os σ Q I q => q v F H [] same_refl same_refl I.W ⟨rfl, _, rfl, hz F⟩⟩

/-! ### operators -/
/-- two in a row -/
theorem two {ta tb : TE} {B : Bs} {F H : Hp} {os : List Addr} {σ : List (Option V)} {Q : VK} {R : V → V → Hp → Prop} (I : In B F H os σ Γ)
    (ra : ∀ (B : Bs) (F H : Hp) (os : List Addr) (σ : List (Option V)) (Q : VK), In B F H os σ Γ → (∀ v F' H' fp, Same F F' → Same H H' → Wo B F' H' (fp ++ os) → a.P F' H' fp (some v) → Q v H') → ta σ H Q)
    (rb : ∀ (B : Bs) (F H : Hp) (os : List Addr) (σ : List (Option V)) (Q : VK), In B F H os σ Γ → (∀ v F' H' fp, Same F F' → Same H H' → Wo B F' H' (fp ++ os) → b.P F' H' fp (some v) → Q v H') → tb σ H Q)
    (h : ∀ x y F' H' fx fy, Same F F' → Same H H' → Wo B F' H' (fy ++ (fx ++ os)) → a.P F' H' fx (some x) → b.P F' H' fy (some y) → R x y H') : ta σ H fun x H1 => tb σ H1 fun y H2 => R x y H2 := by
  refine ra B F H os σ _ I fun x F1 H1 fx f1 e1 W1 p1 => ?_
  refine rb B F1 H1 _ σ _ (I.step f1 e1 W1) fun y F2 H2 fy f2 e2 W2 p2 => ?_
  exact h x y F2 H2 fx fy (f1.trans f2) (e1.trans e2) W2 (a.mono f2 e2 p1) p2
theorem x_op {op : Operator} {r2 : R2} (ho : ∀ i, OpR (Y.X i) (binaryOp op) r2) (h : Op2 r2 a b c) (ha : XV Y ea Γ a) (hb : XV Y eb Γ b) : XV Y (.BinOp ea op eb pos) Γ c := by
  obtain ⟨ta, pa, ra⟩ := ha
  obtain ⟨tb, pb, rb⟩ := hb
  refine ⟨_, fun i => pe_op (ho i) (pa i) (pb i), fun B F H os σ Q I q => ?_⟩
  refine two (Q := Q) I ra rb fun x y F2 H2 fx fy f2 e2 W2 p1 p2 => ?_
  exact h B F2 H2 x y fx fy os Q W2 p1 p2 fun v F3 H3 fp f3 e3 W3 p3 => q v F3 H3 fp (f2.trans f3) (e2.trans e3) W3 p3
theorem x_cmp {op : CmpOp} {r2 : R2} (ho : ∀ i, OpR (Y.X i) (compareOp op) r2) (h : Op2 r2 a b c) (hm : behindInMarks op eb = false) (ha : XV Y ea Γ a) (hb : XV Y eb Γ b) : XV Y (.Compare ea [op] [eb] pos) Γ c := by
  obtain ⟨ta, pa, ra⟩ := ha
  obtain ⟨tb, pb, rb⟩ := hb
  refine ⟨_, fun i => pe_cmpR (ho i) (pa i) (pb i) hm, fun B F H os σ Q I q => ?_⟩
  refine two (Q := Q) I ra rb fun x y F2 H2 fx fy f2 e2 W2 p1 p2 => ?_
  exact h B F2 H2 x y fx fy os Q W2 p1 p2 fun v F3 H3 fp f3 e3 W3 p3 => q v F3 H3 fp (f2.trans f3) (e2.trans e3) W3 p3
theorem vbl {z : Bool} {F H : Hp} {fp : List Addr} {v : V} (h : (vBl z).P F H fp (some v)) : v = .bl z := (val_P h).2
theorem vint {z : Int} {F H : Hp} {fp : List Addr} {v : V} (h : (vInt z).P F H fp (some v)) : v = .int z := (val_P h).2
theorem vstr {z : Str} {F H : Hp} {fp : List Addr} {v : V} (h : (vStr z).P F H fp (some v)) : v = .str z := (val_P h).2
theorem Wo.flat {α : Type} {p : VP α} {z : α} {B : Bs} {F H F1 H1 : Hp} {fp os : List Addr} {v : Option V} (W : Wo B F H (fp ++ os)) (h : (val p z).P F1 H1 fp v) : Wo B F H os := W.drop
theorem xt_cmp {op : CmpOp} {r2 : R2} {z : Bool} (ho : ∀ i, OpR (Y.X i) (compareOp op) r2) (h : Op2 r2 a b (vBl z)) (hm : behindInMarks op eb = false) (ha : XV Y ea Γ a) (hb : XV Y eb Γ b) : XT Y (.Compare ea [op] [eb] pos) Γ z := by
  obtain ⟨ta, pa, ra⟩ := ha
  obtain ⟨tb, pb, rb⟩ := hb
  refine ⟨_, fun i => pt_cmpR (ho i) (pa i) (pb i) hm, fun B F H os σ Q I q => ?_⟩
  refine two (Q := fun _ _ => True) I ra rb fun x y F2 H2 fx fy f2 e2 W2 p1 p2 => ?_
  exact h B F2 H2 x y fx fy os _ W2 p1 p2 fun v F3 H3 fp f3 e3 W3 p3 => ⟨z, vbl p3, q F3 H3 (f2.trans f3) (e2.trans e3) W3.drop⟩
/-- a op1 b op2 c, b an int -/
theorem xt_chain {op op' : CmpOp} {r2 r2' : R2} {ec : Expr} {z z' u : Bool} {n : Int} (ho : ∀ i, OpR (Y.X i) (compareOp op) r2) (ho' : ∀ i, OpR (Y.X i) (compareOp op') r2') (h : Op2 r2 a (vInt n) (vBl z)) (h' : z = true → Op2 r2' (vInt n) c (vBl z'))
    (hu : u = (z && z')) (ha : XV Y ea Γ a) (hb : XV Y eb Γ (vInt n)) (hc : z = true → XV Y ec Γ c) (hm : lastMarks [op, op'] [eb, ec] = false := by with_unfolding_all rfl) : XT Y (.Compare ea [op, op'] [eb, ec] pos) Γ u := by
  subst hu
  obtain ⟨ta, pa, ra⟩ := ha
  obtain ⟨tb, pb, rb⟩ := hb
  cases z with
  | true =>
    obtain ⟨tc, pc, rc⟩ := hc rfl
    refine ⟨_, fun i => pt_chain (ho i) (ho' i) (pa i) (pb i) (pc i) hm, fun B F H os σ Q I q => ?_⟩
    refine two (Q := fun _ _ => True) I ra rb fun x y F2 H2 fx fy f2 e2 W2 p1 p2 => ?_
    obtain rfl := val_no p2
    refine h B F2 H2 x y fx [] os _ W2 p1 p2 fun v F3 H3 fp f3 e3 W3 p3 => ?_
    refine ⟨true, vbl p3, ?_⟩
    show tc σ H3 _
    have W3' := W3.drop
    refine rc B F3 H3 os σ _ (I.step0 (f2.trans f3) (e2.trans e3) W3') fun z4 F4 H4 fp4 f4 e4 W4 p4 => ?_
    refine h' rfl B F4 H4 y z4 [] fp4 os _ W4 ((vInt n).mono (f3.trans f4) (e3.trans e4) p2) p4 fun v5 F5 H5 fp5 f5 e5 W5 p5 => ?_
    exact ⟨z', vbl p5, q F5 H5 (((f2.trans f3).trans f4).trans f5) (((e2.trans e3).trans e4).trans e5) W5.drop⟩
  | false =>
    have dum : ∃ tc, ∀ i, PE (Y.X i) ec tc := ⟨fun _ _ _ => False, fun i => ⟨fun _ _ _ _ _ _ h => h.elim⟩⟩
    obtain ⟨tc, pc⟩ := dum
    refine ⟨_, fun i => pt_chain (ho i) (ho' i) (pa i) (pb i) (pc i) hm, fun B F H os σ Q I q => ?_⟩
    refine two (Q := fun _ _ => True) I ra rb fun x y F2 H2 fx fy f2 e2 W2 p1 p2 => ?_
    refine h B F2 H2 x y fx fy os _ W2 p1 p2 fun v F3 H3 fp f3 e3 W3 p3 => ?_
    refine ⟨false, vbl p3, ?_⟩
    show ∃ k, V.bl false = .bl k ∧ _
    exact ⟨false, rfl, q F3 H3 (f2.trans f3) (e2.trans e3) W3.drop⟩
theorem x_chain {op op' : CmpOp} {r2 r2' : R2} {ec : Expr} {z z' u : Bool} {n : Int} (ho : ∀ i, OpR (Y.X i) (compareOp op) r2) (ho' : ∀ i, OpR (Y.X i) (compareOp op') r2') (h : Op2 r2 a (vInt n) (vBl z)) (h' : z = true → Op2 r2' (vInt n) c (vBl z'))
    (hu : u = (z && z')) (ha : XV Y ea Γ a) (hb : XV Y eb Γ (vInt n)) (hc : z = true → XV Y ec Γ c) (hm : lastMarks [op, op'] [eb, ec] = false := by with_unfolding_all rfl) : XV Y (.Compare ea [op, op'] [eb, ec] pos) Γ (vBl u) := by
  subst hu
  obtain ⟨ta, pa, ra⟩ := ha
  obtain ⟨tb, pb, rb⟩ := hb
  cases z with
  | true =>
    obtain ⟨tc, pc, rc⟩ := hc rfl
    refine ⟨_, fun i => pe_chain (ho i) (ho' i) (pa i) (pb i) (pc i) hm, fun B F H os σ Q I q => ?_⟩
    refine two (Q := fun _ _ => True) I ra rb fun x y F2 H2 fx fy f2 e2 W2 p1 p2 => ?_
    obtain rfl := val_no p2
    refine h B F2 H2 x y fx [] os _ W2 p1 p2 fun v F3 H3 fp f3 e3 W3 p3 => ?_
    refine ⟨true, vbl p3, ?_⟩
    show tc σ H3 _
    have W3' := W3.drop
    refine rc B F3 H3 os σ _ (I.step0 (f2.trans f3) (e2.trans e3) W3') fun z4 F4 H4 fp4 f4 e4 W4 p4 => ?_
    refine h' rfl B F4 H4 y z4 [] fp4 os _ W4 ((vInt n).mono (f3.trans f4) (e3.trans e4) p2) p4 fun v5 F5 H5 fp5 f5 e5 W5 p5 => ?_
    exact q v5 F5 H5 fp5 (((f2.trans f3).trans f4).trans f5) (((e2.trans e3).trans e4).trans e5) W5 p5
  | false =>
    have dum : ∃ tc, ∀ i, PE (Y.X i) ec tc := ⟨fun _ _ _ => False, fun i => ⟨fun _ _ _ _ _ _ h => h.elim⟩⟩
    obtain ⟨tc, pc⟩ := dum
    refine ⟨_, fun i => pe_chain (ho i) (ho' i) (pa i) (pb i) (pc i) hm, fun B F H os σ Q I q => ?_⟩
    refine two (Q := fun _ _ => True) I ra rb fun x y F2 H2 fx fy f2 e2 W2 p1 p2 => ?_
    refine h B F2 H2 x y fx fy os _ W2 p1 p2 fun v F3 H3 fp f3 e3 W3 p3 => ?_
    refine ⟨false, vbl p3, ?_⟩
    show Q (.bl false) H3
    exact q _ F3 H3 [] (f2.trans f3) (e2.trans e3) W3.drop ⟨rfl, _, rfl, rfl⟩
theorem x_un {op : UnaryOp} {r1 : V → Hp → VK → Prop} (ho : ∀ i, UnR (Y.X i) (unaryOp op) r1) (h : Op1 r1 a c) (ha : XV Y ea Γ a) : XV Y (.UnaryOp op ea pos) Γ c := by
  obtain ⟨ta, pa, ra⟩ := ha
  refine ⟨_, fun i => pe_un (ho i) (pa i), fun B F H os σ Q I q => ?_⟩
  refine ra B F H os σ _ I fun x F1 H1 fx f1 e1 W1 p1 => ?_
  exact h B F1 H1 x fx os Q W1 p1 fun v F3 H3 fp f3 e3 W3 p3 => q v F3 H3 fp (f1.trans f3) (e1.trans e3) W3 p3

/-! ### tests -/
theorem xt_val {z : Bool} (h : XV Y e Γ (vBl z)) (he : ∀ i whole, isTrue e (Y.X i).env whole = (do let v ← whole; standAt e.pos; holding [v] (truthy v)) := by intro _ _; rfl) : XT Y e Γ z := by
  obtain ⟨t, p, r⟩ := h
  refine ⟨_, fun i => pt_val (p i) (he i), fun B F H os σ Q I q => ?_⟩
  refine r B F H os σ _ I fun v F1 H1 fp f1 e1 W1 p1 => ?_
  exact ⟨z, vbl p1, q F1 H1 f1 e1 W1.drop⟩
theorem xw_pt {z : Bool} (h : XW Y e Γ z) : XT Y e Γ z := let ⟨t, p, r⟩ := h; ⟨t, fun i => (p i).pt, r⟩
theorem xw_and1 {z : Bool} (h : XT Y e Γ z) : XW Y (.BoolOp .And [e] pos) Γ z := let ⟨t, p, r⟩ := h; ⟨t, fun i => pw_and1 (p i), r⟩
theorem xw_or1 {z : Bool} (h : XT Y e Γ z) : XW Y (.BoolOp .Or [e] pos) Γ z := let ⟨t, p, r⟩ := h; ⟨t, fun i => pw_or1 (p i), r⟩
theorem pw_dum {i : Y.I} : PW (Y.X i) e (fun _ _ _ => False) := ⟨fun _ _ _ _ _ _ _ h => h.elim⟩
theorem pe_dum {i : Y.I} : PE (Y.X i) e (fun _ _ _ => False) := ⟨fun _ _ _ _ _ _ h => h.elim⟩
theorem xw_and {z z' u : Bool} (h : XT Y ea Γ z) (h2 : z = true → XW Y (.BoolOp .And (eb :: es) pos) Γ z') (hu : u = (z && z')) : XW Y (.BoolOp .And (ea :: eb :: es) pos) Γ u := by
  subst hu
  obtain ⟨t, p, r⟩ := h
  cases z with
  | true =>
    obtain ⟨t2, p2, r2⟩ := h2 rfl
    refine ⟨_, fun i => pw_and (p i) (p2 i), fun B F H os σ Q I q => ?_⟩
    refine r B F H os σ _ I fun F1 H1 f1 e1 W1 => ?_
    show t2 σ H1 Q
    exact r2 B F1 H1 os σ _ (I.step0 f1 e1 W1) fun F2 H2 f2 e2 W2 => q F2 H2 (f1.trans f2) (e1.trans e2) W2
  | false =>
    refine ⟨_, fun i => pw_and (p i) pw_dum, fun B F H os σ Q I q => ?_⟩
    refine r B F H os σ _ I fun F1 H1 f1 e1 W1 => ?_
    show Q false H1
    exact q F1 H1 f1 e1 W1
theorem xw_or {z z' u : Bool} (h : XT Y ea Γ z) (h2 : z = false → XW Y (.BoolOp .Or (eb :: es) pos) Γ z') (hu : u = (z || z')) : XW Y (.BoolOp .Or (ea :: eb :: es) pos) Γ u := by
  subst hu
  obtain ⟨t, p, r⟩ := h
  cases z with
  | false =>
    obtain ⟨t2, p2, r2⟩ := h2 rfl
    refine ⟨_, fun i => pw_or (p i) (p2 i), fun B F H os σ Q I q => ?_⟩
    refine r B F H os σ _ I fun F1 H1 f1 e1 W1 => ?_
    show t2 σ H1 Q
    exact r2 B F1 H1 os σ _ (I.step0 f1 e1 W1) fun F2 H2 f2 e2 W2 => q F2 H2 (f1.trans f2) (e1.trans e2) W2
  | true =>
    refine ⟨_, fun i => pw_or (p i) pw_dum, fun B F H os σ Q I q => ?_⟩
    refine r B F H os σ _ I fun F1 H1 f1 e1 W1 => ?_
    show Q true H1
    exact q F1 H1 f1 e1 W1
theorem xt_not {z u : Bool} (h : XT Y e Γ z) (hu : u = !z) : XT Y (.UnaryOp .Not e pos) Γ u := by
  subst hu
  obtain ⟨t, p, r⟩ := h
  exact ⟨_, fun i => pt_not (p i), fun B F H os σ Q I q => r B F H os σ _ I fun F1 H1 f1 e1 W1 => q F1 H1 f1 e1 W1⟩
/-- as values, all bools -/
theorem x_one {op : BoolOp} (h : XV Y e Γ r) : XV Y (.BoolOp op [e] pos) Γ r := let ⟨t, p, r⟩ := h; ⟨t, fun i => pe_one (p i), r⟩
theorem x_and {z z' u : Bool} (h : XV Y ea Γ (vBl z)) (h2 : z = true → XV Y (.BoolOp .And (eb :: es) pos) Γ (vBl z')) (hu : u = (z && z')) : XV Y (.BoolOp .And (ea :: eb :: es) pos) Γ (vBl u) := by
  subst hu
  obtain ⟨t, p, r⟩ := h
  cases z with
  | true =>
    obtain ⟨t2, p2, r2⟩ := h2 rfl
    refine ⟨_, fun i => pe_and (p i) (p2 i), fun B F H os σ Q I q => ?_⟩
    refine r B F H os σ _ I fun v F1 H1 fp f1 e1 W1 p1 => ?_
    refine ⟨true, vbl p1, ?_⟩
    show t2 σ H1 Q
    exact r2 B F1 H1 os σ _ (I.step0 f1 e1 W1.drop) fun v F2 H2 fp f2 e2 W2 p2 => q v F2 H2 fp (f1.trans f2) (e1.trans e2) W2 p2
  | false =>
    refine ⟨_, fun i => pe_and (p i) pe_dum, fun B F H os σ Q I q => ?_⟩
    refine r B F H os σ _ I fun v F1 H1 fp f1 e1 W1 p1 => ?_
    refine ⟨false, vbl p1, ?_⟩
    show Q (.bl false) H1
    exact q _ F1 H1 [] f1 e1 W1.drop ⟨rfl, _, rfl, rfl⟩
theorem x_or {z z' u : Bool} (h : XV Y ea Γ (vBl z)) (h2 : z = false → XV Y (.BoolOp .Or (eb :: es) pos) Γ (vBl z')) (hu : u = (z || z')) : XV Y (.BoolOp .Or (ea :: eb :: es) pos) Γ (vBl u) := by
  subst hu
  obtain ⟨t, p, r⟩ := h
  cases z with
  | false =>
    obtain ⟨t2, p2, r2⟩ := h2 rfl
    refine ⟨_, fun i => pe_or (p i) (p2 i), fun B F H os σ Q I q => ?_⟩
    refine r B F H os σ _ I fun v F1 H1 fp f1 e1 W1 p1 => ?_
    refine ⟨false, vbl p1, ?_⟩
    show t2 σ H1 Q
    exact r2 B F1 H1 os σ _ (I.step0 f1 e1 W1.drop) fun v F2 H2 fp f2 e2 W2 p2 => q v F2 H2 fp (f1.trans f2) (e1.trans e2) W2 p2
  | true =>
    refine ⟨_, fun i => pe_or (p i) pe_dum, fun B F H os σ Q I q => ?_⟩
    refine r B F H os σ _ I fun v F1 H1 fp f1 e1 W1 p1 => ?_
    refine ⟨true, vbl p1, ?_⟩
    show Q (.bl true) H1
    exact q _ F1 H1 [] f1 e1 W1.drop ⟨rfl, _, rfl, rfl⟩
theorem x_not {z u : Bool} (h : XV Y e Γ (vBl z)) (hu : u = !z) : XV Y (.UnaryOp .Not e pos) Γ (vBl u) := by
  subst hu
  obtain ⟨t, p, r⟩ := h
  refine ⟨_, fun i => pe_not (p i), fun B F H os σ Q I q => ?_⟩
  refine r B F H os σ _ I fun v F1 H1 fp f1 e1 W1 p1 => ?_
  exact ⟨z, vbl p1, q _ F1 H1 [] f1 e1 W1.drop ⟨rfl, _, rfl, rfl⟩⟩
theorem x_ite {ec : Expr} {z : Bool} (hc : XT Y ec Γ z) (h1 : z = true → XV Y ea Γ r) (h2 : z = false → XV Y eb Γ r) : XV Y (.IfExp ec ea eb pos) Γ r := by
  obtain ⟨t, p, rr⟩ := hc
  cases z with
  | true =>
    obtain ⟨t2, p2, r2⟩ := h1 rfl
    refine ⟨_, fun i => pe_ifExp (p i) (p2 i) pe_dum, fun B F H os σ Q I q => ?_⟩
    refine rr B F H os σ _ I fun F1 H1 f1 e1 W1 => ?_
    show t2 σ H1 Q
    exact r2 B F1 H1 os σ _ (I.step0 f1 e1 W1) fun v F2 H2 fp f2 e2 W2 p2 => q v F2 H2 fp (f1.trans f2) (e1.trans e2) W2 p2
  | false =>
    obtain ⟨t2, p2, r2⟩ := h2 rfl
    refine ⟨_, fun i => pe_ifExp (p i) pe_dum (p2 i), fun B F H os σ Q I q => ?_⟩
    refine rr B F H os σ _ I fun F1 H1 f1 e1 W1 => ?_
    show t2 σ H1 Q
    exact r2 B F1 H1 os σ _ (I.step0 f1 e1 W1) fun v F2 H2 fp f2 e2 W2 p2 => q v F2 H2 fp (f1.trans f2) (e1.trans e2) W2 p2
/-- another reading of the value -/
theorem XV.as (h : XV Y e Γ a) (k : ∀ F H fp o, Same F H → a.P F H fp o → b.P F H fp o) : XV Y e Γ b := by
  obtain ⟨t, p, r⟩ := h
  exact ⟨t, p, fun B F H os σ Q I q => r B F H os σ _ I fun v F1 H1 fp f1 e1 W1 p1 => q v F1 H1 fp f1 e1 W1 (k F1 H1 fp _ W1.sub p1)⟩

/-! ### arguments -/
theorem xa_nil : XA Y [] Γ [] := ⟨_, fun _ => pa_nil, fun B F H os σ Q I q => q [] F H [] same_refl same_refl I.W .nil⟩
theorem xa_cons {As : List Slot} (h : XV Y e Γ a) (hr : XA Y es Γ As) (hs : ∀ i, starEach (e :: es) (Y.X i).env = (false, eval e (Y.X i).env) :: starEach es (Y.X i).env := by intro _; rfl) : XA Y (e :: es) Γ (a :: As) := by
  obtain ⟨t, p, r⟩ := h
  obtain ⟨t2, p2, r2⟩ := hr
  refine ⟨_, fun i => pa_cons (p i) (p2 i) (hs i), fun B F H os σ Q I q => ?_⟩
  refine r B F H os σ _ I fun v F1 H1 fp f1 e1 W1 p1 => ?_
  refine r2 B F1 H1 _ σ _ (I.step f1 e1 W1) fun vs F2 H2 fp2 f2 e2 W2 S2 => ?_
  refine q (v :: vs) F2 H2 (fp ++ fp2) (f1.trans f2) (e1.trans e2) (W2.perm ?_) (.cons (a.mono f2 e2 p1) S2)
  rw [← List.append_assoc]
  exact List.Perm.append_right os List.perm_append_comm
end

/-! ### ints, bools, texts -/
section
variable {a b c : Slot} {i j : Int}
theorem o_II {g : Int → Int → V} (h : ∀ F H, c.P F H [] (some (g i j))) : Op2 (rI0 g) (vInt i) (vInt j) c := fun B F H x y fx fy os Q W p1 p2 q => by
  obtain rfl := vint p1
  obtain rfl := vint p2
  exact ⟨i, j, rfl, rfl, q _ F H [] same_refl same_refl W.drop.drop (h F H)⟩
theorem o_IIc {C : Int → Int → Prop} {g : Int → Int → V} (hC : C i j) (h : ∀ F H, c.P F H [] (some (g i j))) : Op2 (rI C g) (vInt i) (vInt j) c := fun B F H x y fx fy os Q W p1 p2 q => by
  obtain rfl := vint p1
  obtain rfl := vint p2
  exact ⟨i, j, rfl, rfl, hC, q _ F H [] same_refl same_refl W.drop.drop (h F H)⟩
theorem o_int {g : Int → Int → Int} : Op2 (rI0 fun i j => .int (g i j)) (vInt i) (vInt j) (vInt (g i j)) := o_II fun _ _ => ⟨rfl, _, rfl, rfl⟩
theorem o_bl {g : Int → Int → Bool} : Op2 (rI0 fun i j => .bl (g i j)) (vInt i) (vInt j) (vBl (g i j)) := o_II fun _ _ => ⟨rfl, _, rfl, rfl⟩
theorem o_intC {C : Int → Int → Prop} {g : Int → Int → Int} (hC : C i j) : Op2 (rI C fun i j => .int (g i j)) (vInt i) (vInt j) (vInt (g i j)) := o_IIc hC fun _ _ => ⟨rfl, _, rfl, rfl⟩
/-- == of flat values -/
theorem o_eq {α β : Type} {p : VP α} {q' : VP β} {u : α} {v : β} {z : Bool} (h : ∀ F x y, p.R F x u → q'.R F y v → scal x y = true ∧ decide (x = y) = z) : Op2 rEq (val p u) (val q' v) (vBl z) := fun B F H x y fx fy os Q W p1 p2 q => by
  obtain ⟨e1, e2⟩ := h F x y (val_P p1).2 (val_P p2).2
  exact ⟨e1, by rw [e2]; exact q _ F H [] same_refl same_refl W.drop.drop ⟨rfl, _, rfl, rfl⟩⟩
theorem o_ne {α β : Type} {p : VP α} {q' : VP β} {u : α} {v : β} {z : Bool} (h : ∀ F x y, p.R F x u → q'.R F y v → scal x y = true ∧ (!decide (x = y)) = z) : Op2 rNe (val p u) (val q' v) (vBl z) := fun B F H x y fx fy os Q W p1 p2 q => by
  obtain ⟨e1, e2⟩ := h F x y (val_P p1).2 (val_P p2).2
  exact ⟨e1, by rw [e2]; exact q _ F H [] same_refl same_refl W.drop.drop ⟨rfl, _, rfl, rfl⟩⟩
theorem o_eqI : Op2 rEq (vInt i) (vInt j) (vBl (decide (i = j))) := o_eq fun F x y h1 h2 => by
  cases h1; cases h2
  refine ⟨rfl, ?_⟩
  by_cases e : i = j <;> simp [e]
theorem o_neI : Op2 rNe (vInt i) (vInt j) (vBl (!decide (i = j))) := o_ne fun F x y h1 h2 => by
  cases h1; cases h2
  refine ⟨rfl, ?_⟩
  by_cases e : i = j <;> simp [e]
theorem o_eqS {x y : Str} : Op2 rEq (vStr x) (vStr y) (vBl (decide (x = y))) := o_eq fun F x1 y1 h1 h2 => by
  cases h1; cases h2
  refine ⟨rfl, ?_⟩
  by_cases e : x = y <;> simp [e]
theorem o_neS {x y : Str} : Op2 rNe (vStr x) (vStr y) (vBl (!decide (x = y))) := o_ne fun F x1 y1 h1 h2 => by
  cases h1; cases h2
  refine ⟨rfl, ?_⟩
  by_cases e : x = y <;> simp [e]
theorem o_eqB {x y : Bool} : Op2 rEq (vBl x) (vBl y) (vBl (decide (x = y))) := o_eq fun F x1 y1 h1 h2 => by
  cases h1; cases h2
  refine ⟨rfl, ?_⟩
  by_cases e : x = y <;> simp [e]
end
end Ty

/-! Ty3 -/
namespace Ty
open PySem PySem.Spec L2

section
variable {P : Program} {w : World} {K : PySem.W.Frag} {mg : Str → Option Value} {base : Heap} {k : Nat}
variable {Y : Fa P w K mg base k} {i : Y.I} {e ea eb tg iter : Expr} {es : List Expr} {st : Stmt} {rest body orelse : List Stmt} {Γ Γ' Γ1 Γ2 : List Slot} {a b c r : Slot} {pos : Pos} {B : Bs} {D : Ends}

/-! ### slots read otherwise: frozen, forgotten -/
/-- s may be read as s': what of its own (x) is frozen or forgotten, what (y) stays its own -/
def WkS (s s' : Slot) : Prop := ∀ (F H : Hp) (fp : List Addr) (o : Option V), Same F H → s.P F H fp o → ∃ x y, fp = x ++ y ∧ ∀ F', Same F F' → Same F' H → (∀ q ∈ x, F' q = H q) → s'.P F' H y o
theorem WkS.refl {s : Slot} : WkS s s := fun F H fp o _ h => ⟨[], fp, rfl, fun F' hF _ _ => s.mono hF (fun _ _ h => h) h⟩
theorem WkS.dead {s : Slot} : WkS s dead := fun F H fp o _ h => ⟨fp, [], by simp, fun _ _ _ _ => rfl⟩
theorem WkS.list {α : Type} {p : VP α} {xs : List α} : WkS (own (oL p) xs) (val (pL p) xs) := fun F H fp o _ h => by
  obtain ⟨v, e, l, vs, el, ef, h1, h2⟩ := h
  subst ef
  exact ⟨[l], [], rfl, fun F' hF hs hx => ⟨rfl, v, e, l, vs, el, by rw [hx l List.mem_cons_self]; exact h1, Paired.mon (fun _ _ r => p.mono hF r) h2⟩⟩
/-- the same value, said otherwise -/
theorem WkS.val {α β : Type} {p : VP α} {q : VP β} {x : α} {y : β} (h : ∀ F v, p.R F v x → q.R F v y) : WkS (val p x) (val q y) := fun F H fp o _ g => by
  obtain ⟨e, v, ev, r⟩ := g
  exact ⟨[], fp, rfl, fun F' hF _ _ => ⟨e, v, ev, h F' v (p.mono hF r)⟩⟩
theorem WkS.opt {α : Type} {p : VP α} {x : α} (h : ∀ F v, p.R F v x → v ≠ .non) : WkS (Ty.val p x) (Ty.val (pOpt p) (Option.some x)) := WkS.val fun F v r => ⟨r, h F v r⟩
theorem WkS.optN {α : Type} {p : VP α} : WkS vNon (Ty.val (pOpt p) (Option.none : Option α)) := WkS.val fun F v r => r
inductive WkL : List Slot → List Slot → Prop
  | nil : WkL [] []
  | cons {s s' : Slot} {Γ Γ' : List Slot} : WkS s s' → WkL Γ Γ' → WkL (s :: Γ) (s' :: Γ')
theorem WkL.refl : ∀ {Γ : List Slot}, WkL Γ Γ
  | [] => .nil
  | _ :: _ => .cons .refl WkL.refl
theorem Slots.wk {F H : Hp} (hS : Same F H) {Γ Γ' : List Slot} (w : WkL Γ Γ') : ∀ {os σ}, Slots F H os σ Γ → ∃ x y, os.Perm (x ++ y) ∧ ∀ F', Same F F' → Same F' H → (∀ q ∈ x, F' q = H q) → Slots F' H y σ Γ' := by
  induction w with
  | nil => intro os σ h; cases h; exact ⟨[], [], .refl _, fun _ _ _ _ => .nil⟩
  | cons h w ih =>
    intro os σ g
    cases g with
    | @cons fp os o σ _ _ p q =>
      obtain ⟨x1, y1, e1, k1⟩ := h F H fp o hS p
      obtain ⟨x2, y2, e2, k2⟩ := ih q
      refine ⟨x1 ++ x2, y1 ++ y2, ?_, fun F' hF hs hx => .cons (k1 F' hF hs fun q hq => hx q (List.mem_append_left _ hq)) (k2 F' hF hs fun q hq => hx q (List.mem_append_right _ hq))⟩
      subst e1
      refine (List.Perm.append_left (x1 ++ y1) e2).trans ?_
      rw [List.append_assoc, List.append_assoc]
      refine List.Perm.append_left x1 ?_
      rw [← List.append_assoc, ← List.append_assoc]
      exact List.Perm.append_right y2 List.perm_append_comm
theorem Sta.wk {F H : Hp} {σ : List (Option V)} (S : Sta B F H σ Γ) (w : WkL Γ Γ') : ∃ F', Sta B F' H σ Γ' := by
  obtain ⟨os, W, S1⟩ := S
  obtain ⟨x, y, e, kk⟩ := S1.wk W.sub w
  obtain ⟨F', W', hF, hx⟩ := (W.perm e).freeze
  exact ⟨F', y, W', kk F' hF W'.sub hx⟩
theorem XV.wk (h : XV Y e Γ a) (hw : WkS a b) : XV Y e Γ b := by
  obtain ⟨t, p, rd⟩ := h
  refine ⟨t, p, fun B F H os σ Q I q => rd B F H os σ _ I fun v F1 H1 fp f1 e1 W1 p1 => ?_⟩
  obtain ⟨x, y, e, kk⟩ := hw F1 H1 fp _ W1.sub p1
  subst e
  rw [List.append_assoc] at W1
  obtain ⟨F', W', hF, hx⟩ := W1.freeze
  exact q v F' H1 y (f1.trans hF) e1 W' (kk F' hF W'.sub hx)

/-! ### statements -/
/-- the rest of a block, run from here -/
def cont (X : Cx) (rest : List Stmt) (D : Ends) : L2.St → Hp → Prop := fun σ H => ∀ pins s, Inv X pins σ H s → wpAny (model X.prog X.w) X.A (execs rest X.env) (SP X pins D) X.xe s
def Go (Y : Fa P w K mg base k) (i : Y.I) (sts : List Stmt) (D : Ends) (B : Bs) (Γ : List Slot) : Prop := ∀ F H σ, Sta B F H σ Γ → cont (Y.X i) sts D σ H
/-- a state that Γ tells -/
def Nx (B : Bs) (Γ : List Slot) : L2.St → Hp → Prop := fun σ H => ∃ F, Sta B F H σ Γ
/-- a value that is left, nothing else kept -/
def Fi (B : Bs) (s : Slot) : VK := fun v H => ∃ F fp, Wo B F H fp ∧ s.P F H fp (some v)
theorem pss_cont {X : Cx} : PSs X body (fun D σ H => cont X body D σ H) := ⟨fun pins s σ H D I h => h pins s I⟩
theorem go_nil (h : ∀ σ H, Nx B Γ σ H → D.nx σ H) : Go Y i [] D B Γ := fun F H σ S pins s I => wpAny_execs_nil ⟨σ, H, I, h σ H ⟨F, S⟩⟩
theorem go_ps {t : TS} (hp : PS (Y.X i) st t) (h : ∀ F H σ, Sta B F H σ Γ → t { D with nx := cont (Y.X i) rest D } σ H) : Go Y i (st :: rest) D B Γ := fun F H σ S pins s I => by
  refine wpAny_execs_cons (thn (hp.run pins s σ H _ I (h F H σ S)) fun f s1 q => ?_)
  cases f with
  | next =>
    obtain ⟨σ', H', I', q⟩ := q
    exact q pins s1 I'
  | ret v => exact q
  | brk => exact q
  | cont => exact q
theorem go_wk (h : Go Y i rest D B Γ') (hw : WkL Γ Γ') : Go Y i rest D B Γ := fun F H σ S => let ⟨F', S'⟩ := S.wk hw; h F' H σ S'
/-- the end of a branch: what follows the if -/
theorem go_join (h : Go Y i rest D B Γ) : Go Y i [] { D with nx := cont (Y.X i) rest D } B Γ := go_nil fun σ H ⟨F, S⟩ => h F H σ S
theorem go_nx (hw : WkL Γ Γ') : Go Y i [] { D with nx := Nx B Γ' } B Γ := go_nil fun σ H ⟨F, S⟩ => S.wk hw
theorem go_pass (h : Go Y i rest D B Γ) : Go Y i (.Pass pos :: rest) D B Γ := go_ps ps_pass fun F H σ S => h F H σ S
theorem go_break (h : ∀ σ H, Nx B Γ σ H → D.bk σ H) : Go Y i (.Break pos :: rest) D B Γ := go_ps ps_break fun F H σ S => h σ H ⟨F, S⟩
theorem go_cont (h : ∀ σ H, Nx B Γ σ H → D.ct σ H) : Go Y i (.Continue pos :: rest) D B Γ := go_ps ps_continue fun F H σ S => h σ H ⟨F, S⟩
theorem go_never (h : False) : Go Y i rest D B Γ := h.elim
/-- an expression run from a state -/
theorem Sta.in {F H : Hp} {σ : List (Option V)} {os : List Addr} (W : Wo B F H os) (S : Slots F H os σ Γ) : In B F H os σ Γ := ⟨W, os, [], by simp, S⟩
theorem Sta.to {F H F' H' : Hp} {σ : List (Option V)} {os : List Addr} (S : Slots F H os σ Γ) (hF : Same F F') (hH : Same H H') (W : Wo B F' H' os) : Sta B F' H' σ Γ := ⟨os, W, S.mono hF hH⟩
theorem go_ret (h : XV Y e Γ r) (hd : ∀ v H, Fi B r v H → D.rt v H) : Go Y i (.Return (some e) pos :: rest) D B Γ := by
  obtain ⟨t, p, rd⟩ := h
  refine go_ps (ps_ret (p i)) fun F H σ ⟨os, W, S⟩ => ?_
  exact rd B F H os σ _ (Sta.in W S) fun v F1 H1 fp f1 e1 W1 p1 => hd v H1 ⟨F1, fp, W1.dropR, p1⟩
theorem go_retN (hd : ∀ v H, Fi B vNon v H → D.rt v H) : Go Y i (.Return none pos :: rest) D B Γ := by
  refine go_ps ps_retN fun F H σ ⟨os, W, S⟩ => ?_
  exact hd .non H ⟨F, [], Wo.drop (a := os) (b := []) (by simpa using W), rfl, _, rfl, rfl⟩
theorem go_expr (h : XV Y e Γ r) (hg : Go Y i rest D B Γ) (hs : swapsWith e none pos.line (Y.X i).env = pure false := by rfl) : Go Y i (.Expr e pos :: rest) D B Γ := by
  obtain ⟨t, p, rd⟩ := h
  refine go_ps (ps_expr (p i) hs) fun F H σ ⟨os, W, S⟩ => ?_
  exact rd B F H os σ _ (Sta.in W S) fun v F1 H1 fp f1 e1 W1 p1 => hg F1 H1 σ (Sta.to S f1 e1 W1.drop)
theorem go_if {z : Bool} (hc : XT Y e Γ z) (h1 : z = true → Go Y i body { D with nx := cont (Y.X i) rest D } B Γ) (h2 : z = false → Go Y i orelse { D with nx := cont (Y.X i) rest D } B Γ) : Go Y i (.If e body orelse pos :: rest) D B Γ := by
  obtain ⟨t, p, rd⟩ := hc
  refine go_ps (ps_if (p i) pss_cont pss_cont) fun F H σ ⟨os, W, S⟩ => ?_
  refine rd B F H os σ _ (Sta.in W S) fun F1 H1 f1 e1 W1 => ?_
  cases z with
  | true =>
    show cont (Y.X i) body _ σ H1
    exact h1 rfl F1 H1 σ (Sta.to S f1 e1 W1)
  | false =>
    show cont (Y.X i) orelse _ σ H1
    exact h2 rfl F1 H1 σ (Sta.to S f1 e1 W1)
theorem cont_mono {X : Cx} {sts : List Stmt} {D D' : Ends} {σ : L2.St} {H : Hp} (h : cont X sts D σ H) (h1 : ∀ σ H, D.nx σ H → D'.nx σ H) (h2 : ∀ v H, D.rt v H → D'.rt v H) (h3 : ∀ σ H, D.bk σ H → D'.bk σ H) (h4 : ∀ σ H, D.ct σ H → D'.ct σ H) : cont X sts D' σ H := fun pins s I => by
  refine thn (h pins s I) fun f s1 q => ?_
  cases f with
  | next => obtain ⟨σ', H', I', q⟩ := q; exact ⟨σ', H', I', h1 _ _ q⟩
  | ret v => obtain ⟨x, σ', H', I', r, q⟩ := q; exact ⟨x, σ', H', I', r, h2 _ _ q⟩
  | brk => obtain ⟨σ', H', I', q⟩ := q; exact ⟨σ', H', I', h3 _ _ q⟩
  | cont => obtain ⟨σ', H', I', q⟩ := q; exact ⟨σ', H', I', h4 _ _ q⟩
/-- both branches come to the one state Γ', from which it goes on -/
theorem go_ifJ (Γ' : List Slot) {z : Bool} (hc : XT Y e Γ z) (h1 : z = true → Go Y i body { D with nx := Nx B Γ' } B Γ) (h2 : z = false → Go Y i orelse { D with nx := Nx B Γ' } B Γ) (hg : Go Y i rest D B Γ') : Go Y i (.If e body orelse pos :: rest) D B Γ :=
  go_if hc (fun hz F H σ S => cont_mono (h1 hz F H σ S) (fun σ' H' ⟨F', S'⟩ => hg F' H' σ' S') (fun _ _ q => q) (fun _ _ q => q) (fun _ _ q => q))
    (fun hz F H σ S => cont_mono (h2 hz F H σ S) (fun σ' H' ⟨F', S'⟩ => hg F' H' σ' S') (fun _ _ q => q) (fun _ _ q => q) (fun _ _ q => q))

/-! ### targets -/
/-- the target takes a value told by r; ws: the slots that it writes -/
def XG (Y : Fa P w K mg base k) (tg : Expr) (ws : List Nat) (r : Slot) (Γ Γ' : List Slot) : Prop :=
  (Γ'.length = Γ.length ∧ ∀ j, j ∉ ws → Γ'[j]? = Γ[j]?) ∧ ∃ g : TG, (∀ i, PG (Y.X i) tg g) ∧ ∀ (F H : Hp) (fp os : List Addr) (σ : List (Option V)) (v : V) (Q : L2.St → Hp → Prop), Same F H → r.P F H fp (some v) → Slots F H os σ Γ →
    (∀ σ' os' d, (σ'.length = σ.length ∧ ∀ j, j ∉ ws → σ'[j]? = σ[j]?) → (fp ++ os).Perm (d ++ os') → Slots F H os' σ' Γ' → Q σ' H) → g v σ H Q
def XGs (Y : Fa P w K mg base k) (tgs : List Expr) (ws : List Nat) (rs : List Slot) (Γ Γ' : List Slot) : Prop :=
  (Γ'.length = Γ.length ∧ ∀ j, j ∉ ws → Γ'[j]? = Γ[j]?) ∧ ∃ g : TGs, (∀ i, PGs (Y.X i) tgs g) ∧ ∀ (F H : Hp) (fp os : List Addr) (σ : List (Option V)) (vs : List V) (Q : L2.St → Hp → Prop), Same F H → Slots F H fp (vs.map some) rs → Slots F H os σ Γ →
    (∀ σ' os' d, (σ'.length = σ.length ∧ ∀ j, j ∉ ws → σ'[j]? = σ[j]?) → (fp ++ os).Perm (d ++ os') → Slots F H os' σ' Γ' → Q σ' H) → g vs σ H Q
theorem Slots.put {F H : Hp} {fp os : List Addr} {o : Option V} {σ : List (Option V)} {j : Nat} (S : Slots F H os σ Γ) (h : r.P F H fp o) (hj : j < Γ.length) : ∃ os' d, Slots F H os' (σ.set j o) (Γ.set j r) ∧ (fp ++ os).Perm (d ++ os') := by
  obtain ⟨o3, fp3, r3, e3, p3, q3, k3⟩ := S.at (List.getElem?_eq_getElem hj)
  obtain ⟨os', h1, h2⟩ := k3 h (fun s0 _ fp0 o0 _ x => x)
  refine ⟨os', fp3, h1, ?_⟩
  refine (List.Perm.append_left fp q3).trans ?_
  rw [← List.append_assoc]
  refine (List.Perm.append_right r3 List.perm_append_comm).trans ?_
  rw [List.append_assoc]
  exact List.Perm.append_left fp3 h2.symm
theorem xg_name (j : Nat) {x : Str} (hj : Nat.blt j Γ.length = true := by rfl) (hi : ∀ i, (Y.X i).N[j]? = some x := by intro _; rfl) (hx : ∀ i, Loc (Y.X i).env.scope x := by intro _; first | exact Or.inl rfl | exact Or.inr rfl)
    (hf : ∀ i, (Y.X i).fn x = true ∨ (Y.X i).env.scope.names.lookup x = some .local := by intro _; first | exact Or.inl rfl | exact Or.inr rfl) : XG Y (.Name x pos) [j] r Γ (Γ.set j r) := by
  refine ⟨⟨by simp, fun q hq => List.getElem?_set_ne (fun z => hq (by simp [z]))⟩, _, fun i => pg_name (Y.hN i) (hi i) (hx i) (hf i), fun F H fp os σ v Q hS p S q => ?_⟩
  obtain ⟨os', d, h1, h2⟩ := S.put p (Nat.le_of_ble_eq_true hj)
  exact q _ os' d ⟨by simp, fun q hq => List.getElem?_set_ne (fun z => hq (by simp [z]))⟩ h2 h1
theorem xgs_nil : XGs Y [] [] [] Γ Γ := by
  refine ⟨⟨rfl, fun _ _ => rfl⟩, _, fun i => pgs_nil, fun F H fp os σ vs Q hS p S q => ?_⟩
  have e := p.length
  obtain rfl : vs = [] := List.eq_nil_of_length_eq_zero (by simpa using e)
  exact ⟨rfl, q σ os fp ⟨rfl, fun _ _ => rfl⟩ (.refl _) S⟩
theorem Slots.cons_inv {F H : Hp} {fp : List Addr} {o : Option V} {σ : List (Option V)} {s : Slot} {Γ : List Slot} (S : Slots F H fp (o :: σ) (s :: Γ)) : ∃ f1 f2, fp = f1 ++ f2 ∧ s.P F H f1 o ∧ Slots F H f2 σ Γ := by
  cases S with
  | cons p r => exact ⟨_, _, rfl, p, r⟩
theorem xgs_cons {t : Expr} {ts : List Expr} {w1 w2 : List Nat} {rs : List Slot} (h1 : XG Y t w1 r Γ Γ1) (h2 : XGs Y ts w2 rs Γ1 Γ2) (hs : ∀ i, (assignEach (t :: ts) (Y.X i).env).map (·.2) = assign t (Y.X i).env :: (assignEach ts (Y.X i).env).map (·.2) := by intro _; rfl) : XGs Y (t :: ts) (w1 ++ w2) (r :: rs) Γ Γ2 := by
  obtain ⟨⟨l1, k1⟩, g1, p1, q1⟩ := h1
  obtain ⟨⟨l2, k2⟩, g2, p2, q2⟩ := h2
  refine ⟨⟨by rw [l2, l1], fun j hj => ?_⟩, _, fun i => pgs_cons (p1 i) (p2 i) (hs i), fun F H fp os σ vs Q hS p S q => ?_⟩
  · rw [k2 j (fun z => hj (List.mem_append_right _ z)), k1 j (fun z => hj (List.mem_append_left _ z))]
  · match vs, p with
    | [], p => have e := p.length; simp at e
    | v :: vs, p =>
      obtain ⟨f1, f2, rfl, pv, pr⟩ := Slots.cons_inv p
      refine ⟨v, vs, rfl, q1 F H f1 os σ v _ hS pv S fun σ1 os1 d1 ⟨m1, n1⟩ W1 S1 => ?_⟩
      refine q2 F H f2 os1 σ1 vs _ hS pr S1 fun σ2 os2 d2 ⟨m2, n2⟩ W3 S2 => q σ2 os2 (d1 ++ d2) ⟨by rw [m2, m1], fun j hj => ?_⟩ ?_ S2
      · rw [n2 j (fun z => hj (List.mem_append_right _ z)), n1 j (fun z => hj (List.mem_append_left _ z))]
      · have a1 : (f1 ++ f2 ++ os).Perm (f2 ++ (f1 ++ os)) := by
          rw [← List.append_assoc]
          exact List.Perm.append_right os List.perm_append_comm
        refine a1.trans ((List.Perm.append_left f2 W1).trans ?_)
        have a2 : (f2 ++ (d1 ++ os1)).Perm (d1 ++ (f2 ++ os1)) := by
          rw [← List.append_assoc, ← List.append_assoc]
          exact List.Perm.append_right os1 List.perm_append_comm
        refine a2.trans ?_
        rw [List.append_assoc]
        exact List.Perm.append_left d1 W3
theorem xg_tup2 {α β : Type} {p : VP α} {q : VP β} {x : α × β} {t1 t2 : Expr} {n : Nat} {ws : List Nat} (h : XGs Y [t1, t2] ws [val p x.1, val q x.2] Γ Γ') (hn : ∀ i, (assignEach [t1, t2] (Y.X i).env).length = 2 := by intro _; rfl) (hst : ∀ i, (assignEach [t1, t2] (Y.X i).env).findIdx? (·.1) = none := by intro _; rfl) (hcm : Y.cm = true := by rfl) :
    XG Y (.Tuple [t1, t2] n pos) ws (val (pT2 p q) x) Γ Γ' := by
  obtain ⟨kk, g, pp, qq⟩ := h
  refine ⟨kk, _, fun i => by have := pg_tup (X := Y.X i) (k := n) (pos := pos) ((Y.hC i).trans hcm) (pp i) (hn i) (hst i); rw [Y.hK i] at this; exact this, fun F H fp os σ v Q hS pv S q => ?_⟩
  obtain ⟨rfl, l, a, b, ev, h1, h2, h3⟩ := val_P pv
  subst ev
  exact ⟨l, [a, b], rfl, SqT.of (hS _ _ h1), rfl, qq F H [] os σ [a, b] Q hS (Slots.cons (fp := []) ⟨rfl, _, rfl, h2⟩ (Slots.cons (fp := []) ⟨rfl, _, rfl, h3⟩ .nil)) S q⟩
theorem xg_tup3 {α β γ : Type} {p : VP α} {q : VP β} {u : VP γ} {x : α × β × γ} {t1 t2 t3 : Expr} {n : Nat} {ws : List Nat} (h : XGs Y [t1, t2, t3] ws [val p x.1, val q x.2.1, val u x.2.2] Γ Γ') (hn : ∀ i, (assignEach [t1, t2, t3] (Y.X i).env).length = 3 := by intro _; rfl) (hst : ∀ i, (assignEach [t1, t2, t3] (Y.X i).env).findIdx? (·.1) = none := by intro _; rfl) (hcm : Y.cm = true := by rfl) :
    XG Y (.Tuple [t1, t2, t3] n pos) ws (val (pT3 p q u) x) Γ Γ' := by
  obtain ⟨kk, g, pp, qq⟩ := h
  refine ⟨kk, _, fun i => by have := pg_tup (X := Y.X i) (k := n) (pos := pos) ((Y.hC i).trans hcm) (pp i) (hn i) (hst i); rw [Y.hK i] at this; exact this, fun F H fp os σ v Q hS pv S q => ?_⟩
  obtain ⟨rfl, l, a, b, c, ev, h1, h2, h3, h4⟩ := val_P pv
  subst ev
  exact ⟨l, [a, b, c], rfl, SqT.of (hS _ _ h1), rfl, qq F H [] os σ [a, b, c] Q hS (Slots.cons (fp := []) ⟨rfl, _, rfl, h2⟩ (Slots.cons (fp := []) ⟨rfl, _, rfl, h3⟩ (Slots.cons (fp := []) ⟨rfl, _, rfl, h4⟩ .nil))) S q⟩
/-- x = e -/
theorem go_set (j : Nat) {x : Str} {pos' : Pos} (he : XV Y e Γ r) (hg : Go Y i rest D B (Γ.set j r)) (hj : Nat.blt j Γ.length = true := by rfl) (hi : (Y.X i).N[j]? = some x := by rfl) (hx : Loc (Y.X i).env.scope x := by first | exact Or.inl rfl | exact Or.inr rfl)
    (hs : swapsWith e (some (.Name x pos')) pos.line (Y.X i).env = pure false := by rfl) (hf : (Y.X i).fn x = true ∨ (Y.X i).env.scope.names.lookup x = some .local := by first | exact Or.inl rfl | exact Or.inr rfl) : Go Y i (.Assign [.Name x pos'] e pos :: rest) D B Γ := by
  obtain ⟨t, p, rd⟩ := he
  refine go_ps (ps_set (Y.hN i) hi hx (p i) hs hf) fun F H σ ⟨os, W, S⟩ => ?_
  refine rd B F H os σ _ (Sta.in W S) fun v F1 H1 fp f1 e1 W1 p1 => ?_
  obtain ⟨os', d, h1, h2⟩ := (S.mono f1 e1).put p1 (Nat.le_of_ble_eq_true hj)
  exact hg F1 H1 _ ⟨os', (W1.perm h2).drop, h1⟩
/-- target = e -/
theorem go_asg {ws : List Nat} (he : XV Y e Γ r) (ht : XG Y tg ws r Γ Γ') (hg : Go Y i rest D B Γ') (hs : swapsWithSole [tg] e pos.line (Y.X i).env = pure false := by rfl) (hw : swappedStores [tg] e (Y.X i).env = pure none := by rfl) (h1 : (assignEach [tg] (Y.X i).env).map (·.2) = [assign tg (Y.X i).env] := by rfl) :
    Go Y i (.Assign [tg] e pos :: rest) D B Γ := by
  obtain ⟨t, p, rd⟩ := he
  obtain ⟨_, g, pg, qg⟩ := ht
  refine go_ps (ps_asg (p i) (pg i) hs hw h1) fun F H σ ⟨os, W, S⟩ => ?_
  refine rd B F H os σ _ (Sta.in W S) fun v F1 H1 fp f1 e1 W1 p1 => ?_
  exact qg F1 H1 fp os σ v _ W1.sub p1 (S.mono f1 e1) fun σ' os' d _ W' S' => hg F1 H1 σ' ⟨os', (W1.perm W').drop, S'⟩
/-- x op= e, ints -/
theorem go_augI (j : Nat) {op : Operator} {f : Int → Int → Int} {x : Str} {pos' : Pos} {u v : Int} (ho : PIp (Y.X i) op (ipI f)) (he : XV Y e Γ (vInt v)) (hg : Go Y i rest D B (Γ.set j (vInt (f u v)))) (hv : Γ[j]? = some (vInt u) := by rfl) (hi : (Y.X i).N[j]? = some x := by rfl)
    (hx : Loc (Y.X i).env.scope x := by first | exact Or.inl rfl | exact Or.inr rfl) (hf : (Y.X i).fn x = true ∨ (Y.X i).env.scope.names.lookup x = some .local := by first | exact Or.inl rfl | exact Or.inr rfl) : Go Y i (.AugAssign (.Name x pos') op e pos :: rest) D B Γ := by
  obtain ⟨t, p, rd⟩ := he
  refine go_ps (ps_aug (Y.hN i) hi hx (p i) ho hf) fun F H σ ⟨os, W, S⟩ => ?_
  obtain ⟨o, fp, es, hp⟩ := (Sta.in W S).slot hv
  obtain ⟨_, v0, ev, rfl⟩ := hp
  subst ev
  refine ⟨_, es, rd B F H os σ _ (Sta.in W S) fun y F1 H1 fp f1 e1 W1 p1 => ?_⟩
  obtain rfl := vint p1
  obtain ⟨os', d, h1, h2⟩ := (S.mono f1 e1).put (r := vInt (f u v)) (fp := []) (o := some (.int (f u v))) ⟨rfl, _, rfl, rfl⟩ (List.getElem?_eq_some_iff.mp hv).1
  exact ⟨u, v, rfl, rfl, hg F1 H1 _ ⟨os', (W1.drop.perm h2).drop, h1⟩⟩

/-! ### what is walked -/
/-- an iterator of things told by rs; ro: while the whole heap stands -/
def Wk (ro : Prop) (J : It) (F H : Hp) (rs : List Slot) : Prop := ∀ F1 H1, Same F F1 → (ro → Same H H1) → Same F1 H1 → J.stop rs.length H1 ∧
  ∀ (n : Nat) (r : Slot), rs[n]? = some r → J.go n H1 ∧ ∀ v H2, J.yld n H1 v H2 → Same H1 H2 ∧ ∀ (B : Bs) (os : List Addr), Wo B F1 H1 os → ∃ F2, Same F1 F2 ∧ Wo B F2 H2 os ∧ r.P F2 H2 [] (some v)
def XI (Y : Fa P w K mg base k) (tg iter : Expr) (Γ : List Slot) (ro : Prop) (rs : List Slot) : Prop :=
  ∃ wi : TI, (∀ i, PI (Y.X i) tg iter wi) ∧ ∀ (B : Bs) (F H : Hp) (os : List Addr) (σ : List (Option V)) (R : It → Hp → Prop), In B F H os σ Γ → (∀ J F' H', Same F F' → Same H H' → Wo B F' H' os → Wk ro J F' H' rs → R J H') → wi σ H R
theorem XI.ro {ro : Prop} {rs : List Slot} (h : XI Y tg iter Γ False rs) : XI Y tg iter Γ ro rs := by
  obtain ⟨wi, p, q⟩ := h
  exact ⟨wi, p, fun B F H os σ R I k => q B F H os σ R I fun J F' H' f e W w' => k J F' H' f e W fun F1 H1 a _ c => w' F1 H1 a (fun z => z.elim) c⟩
theorem paired_at {α β : Type} {G : α → β → Prop} : ∀ {xs : List α} {ys : List β}, Paired G xs ys → ∀ {n : Nat} {x : α}, xs[n]? = some x → ∃ y, ys[n]? = some y ∧ G x y
  | _, _, .nil, n, x, e => by simp at e
  | _, _, .cons r t, 0, x, e => by simp at e; subst e; exact ⟨_, rfl, r⟩
  | _, _, .cons r t, n + 1, x, e => paired_at t (n := n) (by simpa using e)
theorem paired_at' {α β : Type} {G : α → β → Prop} : ∀ {xs : List α} {ys : List β}, Paired G xs ys → ∀ {n : Nat} {y : β}, ys[n]? = some y → ∃ x, xs[n]? = some x ∧ G x y
  | _, _, .nil, n, x, e => by simp at e
  | _, _, .cons r t, 0, x, e => by simp at e; subst e; exact ⟨_, rfl, r⟩
  | _, _, .cons r t, n + 1, x, e => paired_at' t (n := n) (by simpa using e)
/-- over a list that stands still, by what is known of it at every heap that comes -/
theorem wk_list {α : Type} {p : VP α} {xs : List α} {ro : Prop} {F H : Hp} {l : Addr} {vs : List V} (hl : ∀ F1 H1, Same F F1 → (ro → Same H H1) → Same F1 H1 → SqL K H1 l vs) (hp : Paired (p.R F) vs xs) : Wk ro (Itl K l) F H (xs.map (val p)) := by
  intro F1 H1 a b c
  have q := hl F1 H1 a b c
  have hlen := Paired.length hp
  refine ⟨⟨vs, q, by simp [hlen]⟩, fun n r hr => ?_⟩
  rw [List.getElem?_map] at hr
  obtain ⟨x, ex, er⟩ := Option.map_eq_some_iff.mp hr
  obtain ⟨v, ev, rv⟩ := paired_at' hp ex
  refine ⟨⟨vs, v, q, ev⟩, fun u H2 y => ?_⟩
  obtain ⟨e1, y⟩ := y
  subst e1
  refine ⟨fun _ _ h => h, fun B os W => ⟨F1, same_refl, W, ?_⟩⟩
  have e2 := y vs q
  rw [ev] at e2
  cases e2
  subst er
  exact ⟨rfl, v, rfl, p.mono a rv⟩
theorem xi_list {α : Type} {p : VP α} {xs : List α} (h : XV Y iter Γ (val (pL p) xs)) : XI Y tg iter Γ False (xs.map (val p)) := by
  obtain ⟨t, pe, rd⟩ := h
  refine ⟨_, fun i => by have := pi_list (X := Y.X i) (tg := tg) (pe i); rw [Y.hK i] at this; exact this, fun B F H os σ R I kk => ?_⟩
  refine rd B F H os σ _ I fun v F1 H1 fp f1 e1 W1 p1 => ?_
  obtain ⟨_, l, vs, ev, h1, h2⟩ := val_P p1
  subst ev
  exact ⟨l, rfl, ⟨vs, SqL.of (W1.sub _ _ h1)⟩, kk _ F1 H1 f1 e1 W1.drop (wk_list (fun F2 H2 a _ c => SqL.of (c _ _ (a _ _ h1))) h2)⟩
theorem xi_scr {ns : List Int} (h : XV Y iter Γ (val (pScr K) ns)) : XI Y tg iter Γ False (ns.map (val pInt)) := by
  obtain ⟨t, pe, rd⟩ := h
  refine ⟨_, fun i => by have := pi_list (X := Y.X i) (tg := tg) (pe i); rw [Y.hK i] at this; exact this, fun B F H os σ R I kk => ?_⟩
  refine rd B F H os σ _ I fun v F1 H1 fp f1 e1 W1 p1 => ?_
  obtain ⟨_, l, ev, h1⟩ := val_P p1
  subst ev
  exact ⟨l, rfl, ⟨_, Same.seq W1.sub h1⟩, kk _ F1 H1 f1 e1 W1.drop (wk_list (fun F2 H2 a _ c => Same.seq c (Same.seq a h1)) (paired_map_int ns))⟩
theorem xi_bor {α : Type} {p : VP α} {xs : List α} (h : XV Y iter Γ (borL p xs)) : XI Y tg iter Γ True (xs.map (val p)) := by
  obtain ⟨t, pe, rd⟩ := h
  refine ⟨_, fun i => by have := pi_list (X := Y.X i) (tg := tg) (pe i); rw [Y.hK i] at this; exact this, fun B F H os σ R I kk => ?_⟩
  refine rd B F H os σ _ I fun v F1 H1 fp f1 e1 W1 p1 => ?_
  obtain ⟨_, l, vs, ev, h1, h2⟩ := p1
  cases ev
  exact ⟨l, rfl, ⟨vs, SqL.of h1⟩, kk _ F1 H1 f1 e1 W1.drop (wk_list (fun F2 H2 a b c => SqL.of (b trivial _ _ h1)) h2)⟩
theorem xi_tup {α : Type} {p : VP α} {xs : List α} (h : XV Y iter Γ (val (pTup p) xs)) : XI Y tg iter Γ False (xs.map (val p)) := by
  obtain ⟨t, pe, rd⟩ := h
  refine ⟨_, fun i => by have := pi_tup (X := Y.X i) (tg := tg) (pe i); rw [Y.hK i] at this; exact this, fun B F H os σ R I kk => ?_⟩
  refine rd B F H os σ _ I fun v F1 H1 fp f1 e1 W1 p1 => ?_
  obtain ⟨_, l, vs, ev, h1, hp⟩ := val_P p1
  subst ev
  refine ⟨l, rfl, ⟨vs, SqT.of (W1.sub _ _ h1)⟩, kk _ F1 H1 f1 e1 W1.drop ?_⟩
  intro F2 H2 a b c
  have q : SqT K H2 l vs := SqT.of (c _ _ (a _ _ h1))
  have hlen := Paired.length hp
  refine ⟨⟨vs, q, by simp [hlen]⟩, fun n r hr => ?_⟩
  rw [List.getElem?_map] at hr
  obtain ⟨x, ex, er⟩ := Option.map_eq_some_iff.mp hr
  obtain ⟨v, ev, rv⟩ := paired_at' hp ex
  refine ⟨⟨vs, v, q, ev⟩, fun u H3 y => ?_⟩
  obtain ⟨e1, y⟩ := y
  subst e1
  refine ⟨fun _ _ h => h, fun B os W => ⟨F2, same_refl, W, ?_⟩⟩
  have e2 := y vs q
  rw [ev] at e2
  cases e2
  subst er
  exact ⟨rfl, v, rfl, p.mono a rv⟩
/-- lo, lo + 1, .. below hi -/
def rangeL (lo hi : Int) : List Int := (List.range (hi - lo).toNat).map fun (n : Nat) => lo + (n : Int)
theorem wk_range {ro : Prop} {F H : Hp} {lo hi : Int} : Wk ro (Itr lo (hi - lo).toNat) F H ((rangeL lo hi).map (val pInt)) := by
  intro F1 H1 a b c
  refine ⟨by show (hi - lo).toNat ≤ _; simp [rangeL], fun n r hr => ?_⟩
  rw [List.getElem?_map] at hr
  obtain ⟨x, ex, er⟩ := Option.map_eq_some_iff.mp hr
  unfold rangeL at ex
  rw [List.getElem?_map] at ex
  obtain ⟨m, em, e3⟩ := Option.map_eq_some_iff.mp ex
  have hn : n < (hi - lo).toNat := by
    have := (List.getElem?_eq_some_iff.mp em).1
    simpa using this
  rw [List.getElem?_range hn] at em
  cases em
  refine ⟨hn, fun u H2 y => ?_⟩
  obtain ⟨e1, e2⟩ := y
  subst e1; subst e2; subst er; subst e3
  exact ⟨fun _ _ h => h, fun B os W => ⟨F1, same_refl, W, rfl, _, rfl, rfl⟩⟩
theorem xi_range1 {n : Int} {p' : Pos} (hm : mg "range" = none) (h : XV Y e Γ (vInt n)) (hn : -(2 ^ 62) ≤ n ∧ n < 2 ^ 62) (hg : ∀ i, Gl (Y.X i) "range" := by intro _; rfl) (hs : ∀ i, starEach [e] (Y.X i).env = [(false, eval e (Y.X i).env)] := by intro _; rfl) : XI Y tg (.Call (.Name "range" p') [e] [] pos) Γ False ((rangeL 0 n).map (val pInt)) := by
  obtain ⟨t, pe, rd⟩ := h
  refine ⟨_, fun i => pi_range1 (hg i) (by rw [Y.hM]; exact hm) (pa_cons (pe i) pa_nil (by rw [hs i]; rfl)) (hs i), fun B F H os σ R I kk => ?_⟩
  refine rd B F H os σ _ I fun v F1 H1 fp f1 e1 W1 p1 => ?_
  obtain rfl := vint p1
  refine ⟨n, rfl, hn.1, hn.2, ?_⟩
  have := kk (Itr 0 (n - 0).toNat) F1 H1 f1 e1 W1.drop wk_range
  rw [Int.sub_zero] at this
  exact this
theorem xi_range2 {m n : Int} {p' : Pos} (hm : mg "range" = none) (ha : XV Y ea Γ (vInt m)) (hb : XV Y eb Γ (vInt n)) (hn : -(2 ^ 62) ≤ m ∧ m < 2 ^ 62 ∧ -(2 ^ 62) ≤ n ∧ n < 2 ^ 62) (hg : ∀ i, Gl (Y.X i) "range" := by intro _; rfl)
    (hs : ∀ i, starEach [ea, eb] (Y.X i).env = [(false, eval ea (Y.X i).env), (false, eval eb (Y.X i).env)] := by intro _; rfl) (hs2 : ∀ i, starEach [eb] (Y.X i).env = [(false, eval eb (Y.X i).env)] := by intro _; rfl) : XI Y tg (.Call (.Name "range" p') [ea, eb] [] pos) Γ False ((rangeL m n).map (val pInt)) := by
  obtain ⟨t, pe, rd⟩ := ha
  obtain ⟨t2, pe2, rd2⟩ := hb
  refine ⟨_, fun i => pi_range2 (hg i) (by rw [Y.hM]; exact hm) (pa_cons (pe i) (pa_cons (pe2 i) pa_nil (by rw [hs2 i]; rfl)) (by rw [hs i, hs2 i])) (hs i) (hs2 i), fun B F H os σ R I kk => ?_⟩
  refine rd B F H os σ _ I fun v F1 H1 fp f1 e1 W1 p1 => ?_
  obtain rfl := vint p1
  refine rd2 B F1 H1 os σ _ (I.step0 f1 e1 W1.drop) fun v2 F2 H2 fp2 f2 e2 W2 p2 => ?_
  obtain rfl := vint p2
  exact ⟨m, n, rfl, hn, kk _ F2 H2 (f1.trans f2) (e1.trans e2) W2.drop wk_range⟩
/-- enumerate(xs) of a list that stands still -/
theorem xi_enum {α : Type} {p : VP α} {xs : List α} {p' tpos : Pos} {elts : List Expr} {kk : Nat} (hm : mg "enumerate" = none) (h : XV Y e Γ (val (pL p) xs)) (hg : ∀ i, Gl (Y.X i) "enumerate" := by intro _; rfl) (hs : ∀ i, starEach [e] (Y.X i).env = [(false, eval e (Y.X i).env)] := by intro _; rfl) :
    XI Y (.Tuple elts kk tpos) (.Call (.Name "enumerate" p') [e] [] pos) Γ False ((xs.zipIdx).map fun (x : α × Nat) => val (pT2 pInt p) ((x.2 : Int), x.1)) := by
  obtain ⟨t, pe, rd⟩ := h
  refine ⟨_, fun i => by have := pi_enum (X := Y.X i) (p := p') (pos := pos) (tpos := tpos) (elts := elts) (kk := kk) (hg i) (by rw [Y.hM]; exact hm) (pa_cons (pe i) pa_nil (by rw [hs i]; rfl)) (hs i); rw [Y.hK i] at this; exact this, fun B F H os σ R I q => ?_⟩
  refine rd B F H os σ _ I fun v F1 H1 fp f1 e1 W1 p1 => ?_
  obtain ⟨_, l, vs, ev, h1, hp⟩ := val_P p1
  subst ev
  refine ⟨l, vs, rfl, SqL.of (W1.sub _ _ h1), q _ F1 H1 f1 e1 W1.drop ?_⟩
  intro F2 H2 a b c
  have ql : SqL K H2 l vs := SqL.of (c _ _ (a _ _ h1))
  have hlen := Paired.length hp
  refine ⟨⟨vs, ql, by simp [hlen]⟩, fun n r hr => ?_⟩
  rw [List.getElem?_map] at hr
  obtain ⟨x, ex, er⟩ := Option.map_eq_some_iff.mp hr
  rw [List.getElem?_zipIdx] at ex
  obtain ⟨x', ex', e3⟩ := Option.map_eq_some_iff.mp ex
  subst e3
  obtain ⟨v, ev, rv⟩ := paired_at' hp ex'
  refine ⟨⟨vs, v, ql, ev⟩, fun u H3 y => ?_⟩
  obtain ⟨T, x2, e4, hT, e5, y⟩ := y
  subst e4; subst e5
  have e2 := y vs ql
  rw [ev] at e2
  cases e2
  subst er
  refine ⟨same_upd hT, fun B os W => ?_⟩
  have hF2 := (W.free hT).1
  exact ⟨upd F2 T (.tup [.int (n : Nat), v]), same_upd hF2, W.newF hT, rfl, _, rfl, T, _, _, rfl, upd_same, by simp [pInt], p.mono (fun _ _ z => same_upd hF2 _ _ (a _ _ z)) rv⟩

/-! ### loops -/
/-- how a loop's turn (or the loop) ends -/
inductive Fl (ρ S : Type) where
  | next (s : S)
  | brk (s : S)
  | ret (r : ρ)
def forF {α S ρ : Type} : List α → S → (α → S → Option (Fl ρ S)) → Option (Fl ρ S)
  | [], s, _ => some (.next s)
  | x :: xs, s, f => (f x s).bind fun
    | .next s' => forF xs s' f
    | .brk s' => some (.brk s')
    | .ret r => some (.ret r)
def whileF {S ρ : Type} : Nat → S → (S → Option (Fl ρ S)) → Option (Fl ρ S)
  | 0, _, _ => none
  | n + 1, s, f => (f s).bind fun
    | .next s' => whileF n s' f
    | .brk s' => some (.brk s')
    | .ret r => some (.ret r)
/-- what a turn's ways out lead to -/
def LE {ρ S : Type} (B : Bs) (Γf : S → List Slot) (Sr : ρ → Slot) (out : Fl ρ S) : Ends where
  nx := fun σ H => ∃ s', out = .next s' ∧ Nx B (Γf s') σ H
  ct := fun σ H => ∃ s', out = .next s' ∧ Nx B (Γf s') σ H
  bk := fun σ H => ∃ s', out = .brk s' ∧ Nx B (Γf s') σ H
  rt := fun v H => ∃ r, out = .ret r ∧ Fi B (Sr r) v H
/-- a target's reading from what runs it -/
def contG (X : Cx) (tg : Expr) : TG := fun v σ H Q => ∀ (pins : List (Addr × Obj)) (s : Shared) (u : Value), Inv X pins σ H s → RelV v u → wpAny (model X.prog X.w) X.A (assign tg X.env u) (fun _ s' => ∃ σ' H', Inv X pins σ' H' s' ∧ Q σ' H') X.xe s
theorem pg_contG {X : Cx} : PG X tg (contG X tg) := ⟨fun pins s σ H v u Q I r h => h pins s u I r⟩
def contT (X : Cx) (e : Expr) : TT := fun σ H Q => ∀ (pins : List (Addr × Obj)) (s : Shared), Inv X pins σ H s → wpAny (model X.prog X.w) X.A (isTrue e X.env (eval e X.env)) (TP X pins σ Q) X.xe s
theorem pt_contT {X : Cx} : PT X e (contT X e) := ⟨fun pins s σ H Q I h => h pins s I⟩
/-- the entry made the base, and back -/
theorem Sta.enter {F H : Hp} {σ : L2.St} (S : Sta B F H σ Γ) : ∃ os, Wo B F H os ∧ Sta ⟨F, H, os⟩ F H σ Γ := by
  obtain ⟨os, W, S⟩ := S
  exact ⟨os, W, os, W.self, S⟩
theorem Sta.leave {F1 H1 F H : Hp} {os : List Addr} {σ : L2.St} (W : Wo B F1 H1 os) (S : Sta ⟨F1, H1, os⟩ F H σ Γ) : Sta B F H σ Γ := by
  obtain ⟨o2, W2, S⟩ := S
  exact ⟨o2, W.trans W2, S⟩
theorem Fi.leave {F1 H1 : Hp} {os : List Addr} {v : V} {H : Hp} (W : Wo B F1 H1 os) (S : Fi ⟨F1, H1, os⟩ r v H) : Fi B r v H := by
  obtain ⟨F, fp, W2, p⟩ := S
  exact ⟨F, fp, W.trans W2, p⟩
theorem Sta.bF {F H : Hp} {σ : L2.St} (S : Sta B F H σ Γ) : Same B.F F := let ⟨_, W, _⟩ := S; W.bF
theorem Sta.sub {F H : Hp} {σ : L2.St} (S : Sta B F H σ Γ) : Same F H := let ⟨_, W, _⟩ := S; W.sub
theorem go_for {α T ρ : Type} {xs : List α} {rs : α → Slot} (Γf : T → List Slot) {Sr : ρ → Slot} {s0 : T} {f : α → T → Option (Fl ρ T)} {o : Fl ρ T}
    (hi : XI Y tg iter Γ False (xs.map rs)) (h0 : WkL Γ (Γf s0)) (ho : forF xs s0 f = some o)
    (hb : ∀ B1 x s out, x ∈ xs → f x s = some out → (∀ r, out = .ret r → o = .ret r) → (∀ F H os, Wo B1 F H os → Wo B F H os) → ∃ ws Γ1, XG Y tg ws (rs x) (Γf s) Γ1 ∧ Go Y i body (LE B1 Γf Sr out) B1 Γ1)
    (hr : ∀ s, (o = .next s ∨ o = .brk s) → Go Y i rest D B (Γf s)) (hret : ∀ r, o = .ret r → ∀ v H, Fi B (Sr r) v H → D.rt v H)
    (hs : ∀ x, foldedSetIterable iter (Y.X i).env x = pure x := by intro _; rfl) (hcm : Y.cm = true := by rfl) : Go Y i (.For tg iter body [] pos :: rest) D B Γ := by
  obtain ⟨wi, pi, qi⟩ := hi
  refine go_ps (ps_for (Y.hO i) ((Y.hC i).trans hcm) (pi i) pg_contG pss_cont hs) fun F H σ ⟨os0, W0, S0⟩ => ?_
  refine qi B F H os0 σ _ (Sta.in W0 S0) fun J F1 H1 f1 e1 W1 wk => ?_
  obtain ⟨os, W, S1⟩ := (Sta.to S0 f1 e1 W1).enter
  obtain ⟨F2, S2⟩ := S1.wk h0
  refine ⟨fun n m σ' H' => n ≤ xs.length ∧ m = xs.length - n ∧ ∃ (s : T) (F' : Hp), Sta ⟨F1, H1, os⟩ F' H' σ' (Γf s) ∧ forF (xs.drop n) s f = some o, ⟨xs.length - 0, Nat.zero_le _, rfl, s0, F2, S2, by simpa using ho⟩, ?_⟩
  rintro n m σ' H' ⟨hn, rfl, s, F', S', hfo⟩
  obtain ⟨w1, w2⟩ := wk F' H' S'.bF (fun z => z.elim) S'.sub
  by_cases hlt : n < xs.length
  · have hx : xs[n]? = some xs[n] := List.getElem?_eq_getElem hlt
    have hdrop : xs.drop n = xs[n] :: xs.drop (n + 1) := List.drop_eq_getElem_cons hlt
    rw [hdrop] at hfo
    unfold forF at hfo
    obtain ⟨out, hout, hfo⟩ := Option.bind_eq_some_iff.mp hfo
    obtain ⟨g1, g2⟩ := w2 n (rs xs[n]) (by rw [List.getElem?_map, hx]; rfl)
    obtain ⟨ws, Γ1, hxg, hgo⟩ := hb ⟨F1, H1, os⟩ xs[n] s out (List.getElem_mem hlt) hout (fun r e => by subst e; simpa using hfo.symm) (fun _ _ _ W' => W.trans W')
    refine .inr ⟨g1, fun σ2 H2 => ∃ s', out = .next s' ∧ Nx ⟨F1, H1, os⟩ (Γf s') σ2 H2, ?_, ?_⟩
    · rintro σ2 H2 ⟨s', rfl, F3, S3⟩
      exact ⟨xs.length - (n + 1), by omega, hlt, rfl, s', F3, S3, hfo⟩
    · intro v H2 y
      obtain ⟨e2, push⟩ := g2 v H2 y
      obtain ⟨o4, W4, S4⟩ := S'
      obtain ⟨F4, f4, W5, p5⟩ := push _ _ W4
      obtain ⟨_, g, pg, qg⟩ := hxg
      intro pins s9 u I r
      refine (pg i).run pins s9 σ' H2 v u _ I r (qg F4 H2 [] o4 σ' v _ W5.sub p5 (S4.mono f4 e2) fun σ5 o5 d _ W6 S5 => ?_)
      refine cont_mono (hgo F4 H2 σ5 ⟨o5, (W5.perm (by simpa using W6)).drop, S5⟩) (fun _ _ z => z) (fun v H z => ?_) (fun σ6 H6 z => ?_) (fun _ _ z => z)
      · obtain ⟨r, rfl, S6⟩ := z
        exact hret r (by simpa using hfo.symm) v H (S6.leave W)
      · obtain ⟨s', rfl, F6, S6⟩ := z
        exact hr s' (.inr (by simpa using hfo.symm)) F6 H6 σ6 (S6.leave W)
  · have e : n = xs.length := by omega
    subst e
    refine .inl ⟨by simpa using w1, ?_⟩
    rw [List.drop_length] at hfo
    unfold forF at hfo
    exact hr s (.inl (by simpa using hfo.symm)) F' H' σ' (S'.leave W)
theorem go_while {T ρ : Type} (Γf : T → List Slot) {Sr : ρ → Slot} {n : Nat} {s0 : T} {f : T → Option (Fl ρ T)} {o : Fl ρ T}
    (h0 : WkL Γ (Γf s0)) (ho : whileF n s0 f = some o)
    (hb : ∀ B1 s out, f s = some out → (∀ r, out = .ret r → o = .ret r) → (∀ F H os, Wo B1 F H os → Wo B F H os) → ∃ z : Bool, XT Y e (Γf s) z ∧ (z = true → Go Y i body (LE B1 Γf Sr out) B1 (Γf s)) ∧ (z = false → out = .brk s))
    (hr : ∀ s, o = .brk s → Go Y i rest D B (Γf s)) (hret : ∀ r, o = .ret r → ∀ v H, Fi B (Sr r) v H → D.rt v H) : Go Y i (.While e body [] pos :: rest) D B Γ := by
  refine go_ps (ps_while (Y.hO i) (pt_contT) pss_cont) fun F H σ S => ?_
  obtain ⟨os, W, S1⟩ := S.enter
  obtain ⟨F2, S2⟩ := S1.wk h0
  refine ⟨fun m σ' H' => ∃ (s : T) (F' : Hp), Sta ⟨F, H, os⟩ F' H' σ' (Γf s) ∧ whileF m s f = some o, ⟨n, s0, F2, S2, ho⟩, ?_⟩
  rintro m σ' H' ⟨s, F', S', hfo⟩
  cases m with
  | zero => cases hfo
  | succ m =>
    unfold whileF at hfo
    obtain ⟨out, hout, hfo⟩ := Option.bind_eq_some_iff.mp hfo
    obtain ⟨z, ⟨t, pt, rd⟩, hgo, hbr⟩ := hb ⟨F, H, os⟩ s out hout (fun r e => by subst e; simpa using hfo.symm) (fun _ _ _ W' => W.trans W')
    intro pins s9 I
    obtain ⟨o4, W4, S4⟩ := S'
    refine (pt i).run pins s9 σ' H' _ I (rd _ F' H' o4 σ' _ (Sta.in W4 S4) fun F3 H3 f3 e3 W3 => ?_)
    have S3 := Sta.to S4 f3 e3 W3
    cases z with
    | true =>
      show ∃ N : L2.St → Hp → Prop, _ ∧ _
      refine ⟨fun σ2 H2 => ∃ s', out = .next s' ∧ Nx ⟨F, H, os⟩ (Γf s') σ2 H2, ?_, ?_⟩
      · rintro σ2 H2 ⟨s', rfl, F4, S4⟩
        exact ⟨m, Nat.lt_succ_self m, s', F4, S4, hfo⟩
      · refine cont_mono (hgo rfl F3 H3 σ' S3) (fun _ _ z => z) (fun v H z => ?_) (fun σ6 H6 z => ?_) (fun _ _ z => z)
        · obtain ⟨r, rfl, S6⟩ := z
          exact hret r (by simpa using hfo.symm) v H (S6.leave W)
        · obtain ⟨s', rfl, F6, S6⟩ := z
          exact hr s' (by simpa using hfo.symm) F6 H6 σ6 (S6.leave W)
    | false =>
      show cont (Y.X i) rest D σ' H3
      obtain rfl := hbr rfl
      exact hr s (by simpa using hfo.symm) F3 H3 σ' (S3.leave W)
end
end Ty

/-! Ty4 -/
namespace Ty
open PySem PySem.Spec L2

section
variable {P : Program} {w : World} {K : PySem.W.Frag} {mg : Str → Option Value} {base : Heap} {k : Nat}
variable {Y : Fa P w K mg base k} {i : Y.I} {e ea eb eo tg iter : Expr} {es : List Expr} {st : Stmt} {rest body orelse : List Stmt} {Γ Γ' Γ1 Γ2 As : List Slot} {a b c r s s' : Slot} {pos : Pos} {B : Bs} {D : Ends} {x : Str} {p' : Pos}

/-! ### calls of builtins -/
theorem x_callB {id : String} {rr : List V → Hp → VK → Prop} (hc : ∀ i, CallR (Y.X i) (.builtin id) rr) (hm : mg x = none) (hv : bootBuiltins x = some (.builtin id)) (h : OpA rr As c) (ha : XA Y (e :: es) Γ As) (hg : ∀ i, Gl (Y.X i) x := by intro _; rfl) (hn : x ≠ "__name__" := by decide) (hdb : (x == ("__debug__" : Str)) = false := by decide)
    (he : ∀ i, starEach (e :: es) (Y.X i).env = (false, eval e (Y.X i).env) :: starEach es (Y.X i).env := by intro _; rfl) (hpl : ∀ i, (backTo pos (starEach es (Y.X i).env)).any (·.1) = false := by intro _; rfl) : XV Y (.Call (.Name x p') (e :: es) [] pos) Γ c := by
  obtain ⟨t, pa, rd⟩ := ha
  refine ⟨_, fun i => pe_callB (hc i) (hg i) (by rw [Y.hM]; exact hm) hv (pa i) hn hdb (he i) (hpl i), fun B F H os σ Q I q => ?_⟩
  refine rd B F H os σ _ I fun vs F1 H1 fp f1 e1 W1 S1 => ?_
  exact h B F1 H1 vs fp os Q W1 S1 fun v F2 H2 fp2 f2 e2 W2 p2 => q v F2 H2 fp2 (f1.trans f2) (e1.trans e2) W2 p2
theorem x_callTy {id : String} {rr : List V → Hp → VK → Prop} (hc : ∀ i, CallR (Y.X i) (.type id) rr) (hm : mg x = none) (hv : bootBuiltins x = some (.type id)) (h : OpA rr As c) (ha : XA Y (e :: es) Γ As) (hg : ∀ i, Gl (Y.X i) x := by intro _; rfl) (hn : x ≠ "__name__" := by decide) (hdb : (x == ("__debug__" : Str)) = false := by decide)
    (he : ∀ i, starEach (e :: es) (Y.X i).env = (false, eval e (Y.X i).env) :: starEach es (Y.X i).env := by intro _; rfl) (hpl : ∀ i, (backTo pos (starEach es (Y.X i).env)).any (·.1) = false := by intro _; rfl) : XV Y (.Call (.Name x p') (e :: es) [] pos) Γ c := by
  obtain ⟨t, pa, rd⟩ := ha
  refine ⟨_, fun i => pe_callTy (hc i) (hg i) (by rw [Y.hM]; exact hm) hv (pa i) hn hdb (he i) (hpl i), fun B F H os σ Q I q => ?_⟩
  refine rd B F H os σ _ I fun vs F1 H1 fp f1 e1 W1 S1 => ?_
  exact h B F1 H1 vs fp os Q W1 S1 fun v F2 H2 fp2 f2 e2 W2 p2 => q v F2 H2 fp2 (f1.trans f2) (e1.trans e2) W2 p2
/-- one argument -/
theorem opA1 {rr : List V → Hp → VK → Prop} (h : Op1 (fun x H Q => rr [x] H Q) a c) : OpA rr [a] c := fun B F H vs fx os Q W S q => by
  match vs, S with
  | [], S => have e := S.length; simp at e
  | [v], S =>
    obtain ⟨f1, f2, rfl, p, S2⟩ := Slots.cons_inv S
    rw [List.append_assoc] at W
    have W' : Wo B F H (f1 ++ os) := (W.perm (by rw [← List.append_assoc, ← List.append_assoc]; exact List.Perm.append_right os List.perm_append_comm)).drop
    exact h B F H v f1 os Q W' p q
  | _ :: _ :: _, S => have e := S.length; simp at e
theorem opA2 {rr : List V → Hp → VK → Prop} (h : Op2 (fun x y H Q => rr [x, y] H Q) a b c) : OpA rr [a, b] c := fun B F H vs fx os Q W S q => by
  match vs, S with
  | [], S => have e := S.length; simp at e
  | [_], S => have e := S.length; simp at e
  | [v, u], S =>
    obtain ⟨f1, f2, rfl, p, S2⟩ := Slots.cons_inv S
    obtain ⟨f3, f4, rfl, p2, S3⟩ := Slots.cons_inv S2
    have W' : Wo B F H (f4 ++ (f3 ++ (f1 ++ os))) := W.perm (by
      have e1 : (f1 ++ (f3 ++ f4)).Perm (f4 ++ (f3 ++ f1)) := by
        refine List.perm_append_comm.trans ?_
        rw [← List.append_assoc]
        exact List.Perm.append_right f1 List.perm_append_comm
      have e2 := List.Perm.append_right os e1
      rw [List.append_assoc f4, List.append_assoc f3] at e2
      exact e2)
    exact h B F H v u f1 f3 os Q W'.drop p p2 q
  | _ :: _ :: _ :: _, S => have e := S.length; simp at e
theorem xa1 (h : XV Y e Γ a) (hs : ∀ i, starEach [e] (Y.X i).env = (false, eval e (Y.X i).env) :: starEach [] (Y.X i).env := by intro _; rfl) : XA Y [e] Γ [a] := xa_cons h xa_nil hs
theorem xa2 (h : XV Y ea Γ a) (h2 : XV Y eb Γ b) (hs2 : ∀ i, starEach [eb] (Y.X i).env = (false, eval eb (Y.X i).env) :: starEach [] (Y.X i).env := by intro _; rfl) (hs : ∀ i, starEach [ea, eb] (Y.X i).env = (false, eval ea (Y.X i).env) :: starEach [eb] (Y.X i).env := by intro _; rfl) : XA Y [ea, eb] Γ [a, b] := xa_cons h (xa_cons h2 xa_nil hs2) hs

/-! ### len, list(), tuple(), int(), max, min -/
def rLenK (K : PySem.W.Frag) : List V → Hp → VK → Prop := fun xs H Q => ∃ p ys, xs = [.ref p] ∧ (SqL K H p ys ∨ SqT K H p ys) ∧ Q (.int ys.length) H
def rListK (K : PySem.W.Frag) : List V → Hp → VK → Prop := fun xs H Q => ∃ p ys, xs = [.ref p] ∧ (SqL K H p ys ∨ SqT K H p ys) ∧ ∀ l, H l = none → Q (.ref l) (upd H l (.lst ys))
def rTupK (K : PySem.W.Frag) : List V → Hp → VK → Prop := fun xs H Q => ∃ p ys, xs = [.ref p] ∧ ((SqL K H p ys ∧ ∀ l, H l = none → Q (.ref l) (upd H l (.tup ys))) ∨ (SqT K H p ys ∧ Q (.ref p) H))
theorem c_len (Y : Fa P w K mg base k) (i : Y.I) : CallR (Y.X i) (.builtin "len") (rLenK K) := by have h := call_len_seq (X := Y.X i); rw [Y.hK i] at h; exact h
theorem c_list (Y : Fa P w K mg base k) (i : Y.I) : CallR (Y.X i) (.type "list") (rListK K) := by have h := call_list_of (X := Y.X i); rw [Y.hK i] at h; exact h
theorem c_tup (Y : Fa P w K mg base k) (i : Y.I) : CallR (Y.X i) (.type "tuple") (rTupK K) := by have h := call_tuple_of (X := Y.X i); rw [Y.hK i] at h; exact h
section
variable {α β : Type} {p : VP α} {q : VP β} {xs : List α}
theorem o_lenL (hs : SV K s p xs) : OpA (rLenK K) [s] (vInt (xs.length : Int)) := opA1 fun B F H v fx os Q W pv q => by
  obtain ⟨l, vs, ev, h1, h2⟩ := hs F H fx _ W.sub pv
  cases ev
  exact ⟨l, vs, rfl, .inl h1, q _ F H [] same_refl same_refl W.drop ⟨rfl, _, rfl, by show V.int _ = V.int _; rw [Paired.length h2]⟩⟩
theorem o_lenT (hs : TV s p xs) : OpA (rLenK K) [s] (vInt (xs.length : Int)) := opA1 fun B F H v fx os Q W pv q => by
  obtain ⟨l, vs, ev, h1, h2⟩ := hs F H fx _ W.sub pv
  cases ev
  exact ⟨l, vs, rfl, .inr (SqT.of h1), q _ F H [] same_refl same_refl W.drop ⟨rfl, _, rfl, by show V.int _ = V.int _; rw [Paired.length h2]⟩⟩
/-- a list made anew -/
theorem newL {B : Bs} {F H : Hp} {os : List Addr} {vs : List V} {l : Addr} {Q : VK} (W : Wo B F H os) (hl : H l = none) (hp : Paired (p.R F) vs xs)
    (q : ∀ v F' H' fp, Same F F' → Same H H' → Wo B F' H' (fp ++ os) → (own (oL p) xs).P F' H' fp (some v) → Q v H') : Q (.ref l) (upd H l (.lst vs)) :=
  q _ F _ [l] same_refl (same_upd hl) (W.newO hl) ⟨_, rfl, l, vs, rfl, rfl, upd_same, hp⟩
theorem o_listL (hs : SV K s p xs) : OpA (rListK K) [s] (own (oL p) xs) := opA1 fun B F H v fx os Q W pv q => by
  obtain ⟨l, vs, ev, h1, h2⟩ := hs F H fx _ W.sub pv
  cases ev
  exact ⟨l, vs, rfl, .inl h1, fun l' hl => newL W.drop hl h2 q⟩
theorem o_listT (hs : TV s p xs) : OpA (rListK K) [s] (own (oL p) xs) := opA1 fun B F H v fx os Q W pv q => by
  obtain ⟨l, vs, ev, h1, h2⟩ := hs F H fx _ W.sub pv
  cases ev
  exact ⟨l, vs, rfl, .inr (SqT.of h1), fun l' hl => newL W.drop hl h2 q⟩
/-- a frozen object made anew -/
theorem newF {B : Bs} {F H : Hp} {os : List Addr} {u : HO} {l : Addr} {Q : VK} {r : Slot} (W : Wo B F H os) (hl : H l = none) (hp : ∀ F', Same F F' → F' l = some u → r.P F' (upd H l u) [] (some (.ref l)))
    (q : ∀ v F' H' fp, Same F F' → Same H H' → Wo B F' H' (fp ++ os) → r.P F' H' fp (some v) → Q v H') : Q (.ref l) (upd H l u) :=
  q _ (upd F l u) _ [] (same_upd (W.free hl).1) (same_upd hl) (W.newF hl) (hp _ (same_upd (W.free hl).1) upd_same)
theorem o_tupL (hs : SV K s p xs) : OpA (rTupK K) [s] (val (pTup p) xs) := opA1 fun B F H v fx os Q W pv q => by
  obtain ⟨l, vs, ev, h1, h2⟩ := hs F H fx _ W.sub pv
  cases ev
  exact ⟨l, vs, rfl, .inl ⟨h1, fun l' hl => newF (r := val (pTup p) xs) W.drop hl (fun F' f e => ⟨rfl, _, rfl, l', vs, rfl, e, Paired.mon (fun _ _ r => p.mono f r) h2⟩) q⟩⟩
theorem o_intI {z : Int} : OpA (fun xs H Q => (∃ i, xs = [V.int i] ∧ Q (.int i) H) ∨ ∃ k, xs = [V.bl k] ∧ Q (.int (if k then 1 else 0)) H) [vInt z] (vInt z) := opA1 fun B F H v fx os Q W pv q => by
  obtain rfl := vint pv
  exact .inl ⟨z, rfl, q _ F H [] same_refl same_refl W.drop ⟨rfl, _, rfl, rfl⟩⟩
theorem o_intB {z : Bool} : OpA (fun xs H Q => (∃ i, xs = [V.int i] ∧ Q (.int i) H) ∨ ∃ k, xs = [V.bl k] ∧ Q (.int (if k then 1 else 0)) H) [vBl z] (vInt (if z then 1 else 0)) := opA1 fun B F H v fx os Q W pv q => by
  obtain rfl := vbl pv
  exact .inr ⟨z, rfl, q _ F H [] same_refl same_refl W.drop ⟨rfl, _, rfl, rfl⟩⟩
theorem o_max2 {m n : Int} : OpA (fun xs H Q => ∃ i j, xs = [V.int i, V.int j] ∧ Q (.int (if j > i then j else i)) H) [vInt m, vInt n] (vInt (if n > m then n else m)) := opA2 fun B F H x y fx fy os Q W p1 p2 q => by
  obtain rfl := vint p1
  obtain rfl := vint p2
  exact ⟨m, n, rfl, q _ F H [] same_refl same_refl W.drop.drop ⟨rfl, _, rfl, rfl⟩⟩
theorem o_min2 {m n : Int} : OpA (fun xs H Q => ∃ i j, xs = [V.int i, V.int j] ∧ Q (.int (if j < i then j else i)) H) [vInt m, vInt n] (vInt (if n < m then n else m)) := opA2 fun B F H x y fx fy os Q W p1 p2 q => by
  obtain rfl := vint p1
  obtain rfl := vint p2
  exact ⟨m, n, rfl, q _ F H [] same_refl same_refl W.drop.drop ⟨rfl, _, rfl, rfl⟩⟩

/-! ### displays -/
theorem slots_vals {F H : Hp} : ∀ {vs : List V} {xs : List α} {fp : List Addr}, Slots F H fp (vs.map some) (xs.map (val p)) → Paired (p.R F) vs xs
  | [], [], _, _ => .nil
  | [], _ :: _, _, S => by have e := S.length; simp at e
  | _ :: _, [], _, S => by have e := S.length; simp at e
  | v :: vs, x :: xs, fp, S => by
    rw [List.map_cons, List.map_cons] at S
    obtain ⟨f1, f2, rfl, pv, S2⟩ := Slots.cons_inv S
    exact .cons (val_P pv).2 (slots_vals S2)
theorem x_lst (ha : XA Y es Γ (xs.map (val p))) (hz : xs.length ≤ sizeLine) : XV Y (.List es pos) Γ (own (oL p) xs) := by
  obtain ⟨t, pa, rd⟩ := ha
  refine ⟨_, fun i => pe_lst (pa i), fun B F H os σ Q I q => ?_⟩
  refine rd B F H os σ _ I fun vs F1 H1 fp f1 e1 W1 S1 => ?_
  have hp := slots_vals S1
  exact ⟨by rw [Paired.length hp]; exact hz, fun p' hl => newL W1.drop hl hp fun v F' H' fp' f2 e2 => q v F' H' fp' (f1.trans f2) (e1.trans e2)⟩
theorem x_tupN (ha : XA Y es Γ (xs.map (val p))) (hz : xs.length ≤ sizeLine) {n : Nat} : XV Y (.Tuple es n pos) Γ (val (pTup p) xs) := by
  obtain ⟨t, pa, rd⟩ := ha
  refine ⟨_, fun i => pe_tup (pa i), fun B F H os σ Q I q => ?_⟩
  refine rd B F H os σ _ I fun vs F1 H1 fp f1 e1 W1 S1 => ?_
  have hp := slots_vals S1
  exact ⟨by rw [Paired.length hp]; exact hz, fun p' hl => newF (r := val (pTup p) xs) W1.drop hl (fun F' f e => ⟨rfl, _, rfl, p', vs, rfl, e, Paired.mon (fun _ _ r => p.mono f r) hp⟩) fun v F' H' fp' f2 e2 => q v F' H' fp' (f1.trans f2) (e1.trans e2)⟩
theorem x_tup2 {n : Nat} {u : α} {v : β} (ha : XA Y [ea, eb] Γ [val p u, val q v]) : XV Y (.Tuple [ea, eb] n pos) Γ (val (pT2 p q) (u, v)) := by
  obtain ⟨t, pa, rd⟩ := ha
  refine ⟨_, fun i => pe_tup (pa i), fun B F H os σ Q I kk => ?_⟩
  refine rd B F H os σ _ I fun vs F1 H1 fp f1 e1 W1 S1 => ?_
  match vs, S1 with
  | [], S => have e := S.length; simp at e
  | [_], S => have e := S.length; simp at e
  | [v1, v2], S =>
    obtain ⟨g1, g2, rfl, p1, S2⟩ := Slots.cons_inv S
    obtain ⟨g3, g4, rfl, p2, S3⟩ := Slots.cons_inv S2
    exact ⟨by show 2 ≤ sizeLine; decide, fun p' hl => newF (r := val (pT2 p q) (u, v)) W1.drop hl (fun F' f e => ⟨rfl, _, rfl, p', v1, v2, rfl, e, p.mono f (val_P p1).2, q.mono f (val_P p2).2⟩) fun v F' H' fp' f2 e2 => kk v F' H' fp' (f1.trans f2) (e1.trans e2)⟩
  | _ :: _ :: _ :: _, S => have e := S.length; simp at e
theorem x_tup3 {γ : Type} {o : VP γ} {n : Nat} {e3 : Expr} {u : α} {v : β} {z : γ} (ha : XA Y [ea, eb, e3] Γ [val p u, val q v, val o z]) : XV Y (.Tuple [ea, eb, e3] n pos) Γ (val (pT3 p q o) (u, v, z)) := by
  obtain ⟨t, pa, rd⟩ := ha
  refine ⟨_, fun i => pe_tup (pa i), fun B F H os σ Q I kk => ?_⟩
  refine rd B F H os σ _ I fun vs F1 H1 fp f1 e1 W1 S1 => ?_
  match vs, S1 with
  | [], S => have e := S.length; simp at e
  | [_], S => have e := S.length; simp at e
  | [_, _], S => have e := S.length; simp at e
  | [v1, v2, v3], S =>
    obtain ⟨g1, g2, rfl, p1, S2⟩ := Slots.cons_inv S
    obtain ⟨g3, g4, rfl, p2, S3⟩ := Slots.cons_inv S2
    obtain ⟨g5, g6, rfl, p3, S4⟩ := Slots.cons_inv S3
    exact ⟨by show 3 ≤ sizeLine; decide, fun p' hl => newF (r := val (pT3 p q o) (u, v, z)) W1.drop hl (fun F' f e => ⟨rfl, _, rfl, p', v1, v2, v3, rfl, e, p.mono f (val_P p1).2, q.mono f (val_P p2).2, o.mono f (val_P p3).2⟩) fun v F' H' fp' f2 e2 => kk v F' H' fp' (f1.trans f2) (e1.trans e2)⟩
  | _ :: _ :: _ :: _ :: _, S => have e := S.length; simp at e

/-! ### subscripts -/
theorem paired_atI {F : Hp} {vs : List V} (h : Paired (p.R F) vs xs) {z : Int} {u : α} (hz : atI xs z = some u) : ∃ v, atI vs z = some v ∧ p.R F v u := by
  unfold atI at hz ⊢
  rw [← Paired.length h] at hz
  cases e : ixN vs.length z with
  | none => rw [e] at hz; cases hz
  | some j =>
    rw [e] at hz
    exact paired_at' h (by simpa using hz)
theorem x_ix {z : Int} {u : α} (ha : XV Y ea Γ s) (hs : SV K s p xs) (hb : XV Y eb Γ (vInt z)) (hz : atI xs z = some u) (hx : PlainIx eb := by exact fun _ _ => rfl) : XV Y (.Subscript ea eb pos) Γ (val p u) := by
  obtain ⟨ta, pa, ra⟩ := ha
  obtain ⟨tb, pb, rb⟩ := hb
  refine ⟨_, fun i => by have h := ix_list (X := Y.X i); rw [Y.hK i] at h; exact pe_ix h (pa i) (pb i) hx, fun B F H os σ Q I q => ?_⟩
  refine two (Q := fun _ _ => True) I ra rb fun x y F2 H2 fx fy f2 e2 W2 p1 p2 => ?_
  obtain rfl := vint p2
  obtain ⟨l, vs, ev, h1, h2⟩ := hs F2 H2 fx _ W2.sub p1
  cases ev
  obtain ⟨v, hv, rv⟩ := paired_atI h2 hz
  exact ⟨l, vs, z, v, rfl, rfl, h1, hv, q v F2 H2 [] f2 e2 W2.drop.drop ⟨rfl, _, rfl, rv⟩⟩
theorem x_ixT {z : Int} {u : α} (ha : XV Y ea Γ s) (hs : TV s p xs) (hb : XV Y eb Γ (vInt z)) (hz : atI xs z = some u) (hx : PlainIx eb := by exact fun _ _ => rfl) : XV Y (.Subscript ea eb pos) Γ (val p u) := by
  obtain ⟨ta, pa, ra⟩ := ha
  obtain ⟨tb, pb, rb⟩ := hb
  refine ⟨_, fun i => by have h := ix_tup (X := Y.X i); rw [Y.hK i] at h; exact pe_ix h (pa i) (pb i) hx, fun B F H os σ Q I q => ?_⟩
  refine two (Q := fun _ _ => True) I ra rb fun x y F2 H2 fx fy f2 e2 W2 p1 p2 => ?_
  obtain rfl := vint p2
  obtain ⟨l, vs, ev, h1, h2⟩ := hs F2 H2 fx _ W2.sub p1
  cases ev
  obtain ⟨v, hv, rv⟩ := paired_atI h2 hz
  exact ⟨l, vs, z, v, rfl, rfl, SqT.of h1, hv, q v F2 H2 [] f2 e2 W2.drop.drop ⟨rfl, _, rfl, rv⟩⟩
/-- an item of a tuple of known places -/
theorem x_ixC {z : Int} {u : β} {t0 : VP α} {y : α} (ht : ∀ F v, t0.R F v y → ∃ l vs v', v = .ref l ∧ F l = some (.tup vs) ∧ atI vs z = some v' ∧ q.R F v' u) (ha : XV Y ea Γ (val t0 y)) (hb : XV Y eb Γ (vInt z)) (hx : PlainIx eb := by exact fun _ _ => rfl) : XV Y (.Subscript ea eb pos) Γ (val q u) := by
  obtain ⟨ta, pa, ra⟩ := ha
  obtain ⟨tb, pb, rb⟩ := hb
  refine ⟨_, fun i => by have h := ix_tup (X := Y.X i); rw [Y.hK i] at h; exact pe_ix h (pa i) (pb i) hx, fun B F H os σ Q I kk => ?_⟩
  refine two (Q := fun _ _ => True) I ra rb fun x y F2 H2 fx fy f2 e2 W2 p1 p2 => ?_
  obtain rfl := vint p2
  obtain ⟨l, vs, v', ev, h1, h2, h3⟩ := ht F2 _ (val_P p1).2
  subst ev
  exact ⟨l, vs, z, v', rfl, rfl, SqT.of (W2.sub _ _ h1), h2, kk v' F2 H2 [] f2 e2 W2.drop.drop ⟨rfl, _, rfl, h3⟩⟩
theorem x_fst {u : α × β} (ha : XV Y ea Γ (val (pT2 p q) u)) (hb : XV Y eb Γ (vInt 0)) (hx : PlainIx eb := by exact fun _ _ => rfl) : XV Y (.Subscript ea eb pos) Γ (val p u.1) :=
  x_ixC (t0 := pT2 p q) (y := u) (fun F v h => let ⟨l, a, b, e, h1, h2, h3⟩ := h; ⟨l, _, a, e, h1, rfl, h2⟩) ha hb hx
theorem x_snd {u : α × β} (ha : XV Y ea Γ (val (pT2 p q) u)) (hb : XV Y eb Γ (vInt 1)) (hx : PlainIx eb := by exact fun _ _ => rfl) : XV Y (.Subscript ea eb pos) Γ (val q u.2) :=
  x_ixC (t0 := pT2 p q) (y := u) (fun F v h => let ⟨l, a, b, e, h1, h2, h3⟩ := h; ⟨l, _, b, e, h1, rfl, h3⟩) ha hb hx
theorem x_t31 {γ : Type} {o : VP γ} {u : α × β × γ} (ha : XV Y ea Γ (val (pT3 p q o) u)) (hb : XV Y eb Γ (vInt 0)) (hx : PlainIx eb := by exact fun _ _ => rfl) : XV Y (.Subscript ea eb pos) Γ (val p u.1) :=
  x_ixC (t0 := pT3 p q o) (y := u) (fun F v h => let ⟨l, a, b, c, e, h1, h2, h3, h4⟩ := h; ⟨l, _, a, e, h1, rfl, h2⟩) ha hb hx
theorem x_t32 {γ : Type} {o : VP γ} {u : α × β × γ} (ha : XV Y ea Γ (val (pT3 p q o) u)) (hb : XV Y eb Γ (vInt 1)) (hx : PlainIx eb := by exact fun _ _ => rfl) : XV Y (.Subscript ea eb pos) Γ (val q u.2.1) :=
  x_ixC (t0 := pT3 p q o) (y := u) (fun F v h => let ⟨l, a, b, c, e, h1, h2, h3, h4⟩ := h; ⟨l, _, b, e, h1, rfl, h3⟩) ha hb hx
theorem x_t33 {γ : Type} {o : VP γ} {u : α × β × γ} (ha : XV Y ea Γ (val (pT3 p q o) u)) (hb : XV Y eb Γ (vInt 2)) (hx : PlainIx eb := by exact fun _ _ => rfl) : XV Y (.Subscript ea eb pos) Γ (val o u.2.2) :=
  x_ixC (t0 := pT3 p q o) (y := u) (fun F v h => let ⟨l, a, b, c, e, h1, h2, h3, h4⟩ := h; ⟨l, _, c, e, h1, rfl, h4⟩) ha hb hx

/-! ### list + list, list * int, in -/
theorem Paired.app {α β : Type} {G : α → β → Prop} : ∀ {xs : List α} {ys : List β} {us : List α} {ws : List β}, Paired G xs ys → Paired G us ws → Paired G (xs ++ us) (ys ++ ws)
  | _, _, _, _, .nil, h => h
  | _, _, _, _, .cons r t, h => .cons r (Paired.app t h)
theorem o_cat {ys : List α} (h1 : LV a p xs) (h2 : LV b p ys) (hz : xs.length + ys.length ≤ sizeLine) : Op2 rCat a b (own (oL p) (xs ++ ys)) := fun B F H x y fx fy os Q W p1 p2 q => by
  obtain ⟨l2, vs2, e2, g2, r2⟩ := h2 F H fy _ W.sub p2
  obtain ⟨l1, vs1, e1, g1, r1⟩ := h1 F H fx _ W.sub p1
  cases e1; cases e2
  exact ⟨l1, l2, vs1, vs2, rfl, rfl, g1, g2, by rw [Paired.length r1, Paired.length r2]; exact hz, fun p' hp => newL W.drop.drop hp (Paired.app r1 r2) q⟩
theorem Paired.rep {α β : Type} {G : α → β → Prop} {xs : List α} {ys : List β} (h : Paired G xs ys) : ∀ n : Nat, Paired G (List.replicate n xs).flatten (List.replicate n ys).flatten
  | 0 => .nil
  | n + 1 => by rw [List.replicate_succ, List.replicate_succ, List.flatten_cons, List.flatten_cons]; exact Paired.app h (Paired.rep h n)
theorem o_rep {z : Int} (h1 : LV a p xs) (hz : -(2 ^ 63) ≤ z ∧ z < 2 ^ 63 ∧ xs.length * z.toNat ≤ sizeLine) : Op2 rRep a (vInt z) (own (oL p) (List.replicate z.toNat xs).flatten) := fun B F H x y fx fy os Q W p1 p2 q => by
  obtain rfl := vint p2
  obtain ⟨l1, vs1, e1, g1, r1⟩ := h1 F H fx _ W.sub p1
  cases e1
  exact ⟨l1, z, vs1, rfl, rfl, g1, hz.1, hz.2.1, by rw [Paired.length r1]; exact hz.2.2, fun p' hp => newL W.drop.drop hp (Paired.rep r1 _) q⟩
/-- items that == tells as equality does -/
def Eqv (p : VP α) [DecidableEq α] : Prop := ∀ F v a, p.R F v a → flatV v = true ∧ ∀ F' v' a', p.R F' v' a' → eqV v' v = decide (a' = a)
theorem Eqv.int : Eqv pInt := fun F v a h => by
  cases h
  refine ⟨rfl, fun F' v' a' h' => ?_⟩
  cases h'
  show (a' == a) = _
  rw [Bool.eq_iff_iff]; simp
theorem Eqv.str : Eqv pStr := fun F v a h => by
  cases h
  refine ⟨rfl, fun F' v' a' h' => ?_⟩
  cases h'
  show (a' == a) = _
  rw [Bool.eq_iff_iff]; simp
theorem inV_of [DecidableEq α] (E : Eqv p) {F F' : Hp} {v : V} {u : α} (hu : p.R F' v u) : ∀ {vs : List V} {xs : List α}, Paired (p.R F) vs xs → inV v vs = decide (u ∈ xs) ∧ vs.all flatV = true
  | _, _, .nil => ⟨by simp [inV], rfl⟩
  | _, _, .cons r t => by
    obtain ⟨i1, i2⟩ := inV_of E hu t
    have h1 := (E _ _ _ hu).2 _ _ _ r
    refine ⟨?_, by rw [List.all_cons, (E _ _ _ r).1, i2]; rfl⟩
    unfold inV at i1 ⊢
    rw [List.any_cons, i1, h1, ← Bool.decide_or]
    exact decide_eq_decide.mpr ⟨fun z => z.elim (fun z => List.mem_cons.mpr (.inl z.symm)) fun z => List.mem_cons_of_mem _ z, fun z => (List.mem_cons.mp z).elim (fun z => .inl z.symm) .inr⟩
theorem o_inL [DecidableEq α] (E : Eqv p) {u : α} (hs : SV K s p xs) : Op2 (rIn K false) (val p u) s (vBl (decide (u ∈ xs))) := fun B F H x y fx fy os Q W p1 p2 q => by
  obtain ⟨l, vs, ev, h1, h2⟩ := hs F H fy _ W.sub p2
  cases ev
  have hu := (val_P p1).2
  obtain ⟨i1, i2⟩ := inV_of E hu h2
  exact ⟨l, vs, rfl, .inl h1, (E _ _ _ hu).1, i2, q _ F H [] same_refl same_refl W.drop.drop ⟨rfl, _, rfl, by show V.bl (inV _ _) = V.bl _; rw [i1]⟩⟩
theorem o_ninL [DecidableEq α] (E : Eqv p) {u : α} (hs : SV K s p xs) : Op2 (rIn K true) (val p u) s (vBl (!decide (u ∈ xs))) := fun B F H x y fx fy os Q W p1 p2 q => by
  obtain ⟨l, vs, ev, h1, h2⟩ := hs F H fy _ W.sub p2
  cases ev
  have hu := (val_P p1).2
  obtain ⟨i1, i2⟩ := inV_of E hu h2
  exact ⟨l, vs, rfl, .inl h1, (E _ _ _ hu).1, i2, q _ F H [] same_refl same_refl W.drop.drop ⟨rfl, _, rfl, by show V.bl (!(inV _ _)) = V.bl _; rw [i1]⟩⟩
theorem o_inT [DecidableEq α] (E : Eqv p) {u : α} (hs : TV s p xs) : Op2 (rIn K false) (val p u) s (vBl (decide (u ∈ xs))) := fun B F H x y fx fy os Q W p1 p2 q => by
  obtain ⟨l, vs, ev, h1, h2⟩ := hs F H fy _ W.sub p2
  cases ev
  have hu := (val_P p1).2
  obtain ⟨i1, i2⟩ := inV_of E hu h2
  exact ⟨l, vs, rfl, .inr (SqT.of h1), (E _ _ _ hu).1, i2, q _ F H [] same_refl same_refl W.drop.drop ⟨rfl, _, rfl, by show V.bl (inV _ _) = V.bl _; rw [i1]⟩⟩
theorem c_in (Y : Fa P w K mg base k) (i : Y.I) : OpR (Y.X i) (compareOp .In) (rIn K false) := by have h := op_in_seq (X := Y.X i); rw [Y.hK i] at h; exact h
theorem c_nin (Y : Fa P w K mg base k) (i : Y.I) : OpR (Y.X i) (compareOp .NotIn) (rIn K true) := by have h := op_notIn_seq (X := Y.X i); rw [Y.hK i] at h; exact h

/-! ### == of data -/
structure DE (p : VP α) [DecidableEq α] (ok : α → Prop) where
  enc : α → PyData
  dp : ∀ (K : PySem.W.Frag) F v a, p.R F v a → Dp K F v (enc a)
  sh : ∀ a, ok a → (enc a).canLay0 = true
  d : Nat
  hd : ∀ a, (enc a).depth ≤ d
  eq : ∀ a b, PyData.eqv (enc a) (enc b) = decide (a = b)
theorem Dp.mono {F F' : Hp} (h : Same F F') : ∀ {v d}, Dp K F v d → Dp K F' v d := fun {v d} q => by
  refine Dp.rec (motive_1 := fun v d _ => Dp K F' v d) (motive_2 := fun vs ds _ => DpAll K F' vs ds) ?_ ?_ ?_ ?_ ?_ ?_ ?_ ?_ q
  · exact .non
  · exact fun b => .bl b
  · exact fun b => .int b
  · exact fun b => .str b
  · exact fun {a xs ds} s _ ih => .lst (Same.seq h s) ih
  · intro a xs ds s _ ih
    refine .tup ?_ ih
    rcases s with (s | ⟨o, s⟩) | s
    · exact .inl (.inl (h _ _ s))
    · exact .inl (.inr ⟨o, h _ _ s⟩)
    · exact .inr s
  · exact .nil
  · exact fun _ _ i1 i2 => .cons i1 i2
def DE.int : DE pInt (fun _ => True) := ⟨fun i => .int i, fun K F v a h => by cases h; exact .int a, fun _ _ => rfl, 0, fun _ => Nat.le_refl _, fun a b => by rw [PyData.eqv, Bool.eq_iff_iff]; simp⟩
def DE.bl : DE pBl (fun _ => True) := ⟨fun i => .bool i, fun K F v a h => by cases h; exact .bl a, fun _ _ => rfl, 0, fun _ => Nat.le_refl _, fun a b => by rw [PyData.eqv, Bool.eq_iff_iff]; simp⟩
def DE.str : DE pStr (fun x => PyData.strOk x = true) := ⟨fun i => .str i, fun K F v a h => by cases h; exact .str a, fun a h => by rw [PyData.canLay0]; exact h, 0, fun _ => Nat.le_refl _, fun a b => by rw [PyData.eqv, Bool.eq_iff_iff]; simp⟩
theorem eqvAll_map {enc : α → PyData} [DecidableEq α] (h : ∀ a b, PyData.eqv (enc a) (enc b) = decide (a = b)) : ∀ xs ys : List α, PyData.eqvAll (xs.map enc) (ys.map enc) = decide (xs = ys)
  | [], [] => by simp [PyData.eqvAll]
  | [], _ :: _ => by simp [PyData.eqvAll]
  | _ :: _, [] => by simp [PyData.eqvAll]
  | x :: xs, y :: ys => by
    rw [List.map_cons, List.map_cons, PyData.eqvAll, h, eqvAll_map h xs ys, Bool.eq_iff_iff]
    simp
theorem dpAll_of {F : Hp} {enc : α → PyData} (h : ∀ v a, p.R F v a → Dp K F v (enc a)) : ∀ {vs : List V} {xs : List α}, Paired (p.R F) vs xs → DpAll K F vs (xs.map enc)
  | _, _, .nil => .nil
  | _, _, .cons r t => .cons (h _ _ r) (dpAll_of h t)
theorem canAll {enc : α → PyData} {ok : α → Prop} (h : ∀ a, ok a → (enc a).canLay0 = true) : ∀ xs : List α, (∀ a ∈ xs, ok a) → PyData.canLayAll0 (xs.map enc) = true
  | [], _ => by simp [PyData.canLayAll0]
  | x :: xs, k => by
    rw [List.map_cons, PyData.canLayAll0, h x (k x List.mem_cons_self), canAll h xs fun a ha => k a (List.mem_cons_of_mem _ ha)]; rfl
theorem depthAll_le {enc : α → PyData} {d : Nat} (h : ∀ a, (enc a).depth ≤ d) : ∀ xs : List α, PyData.depthAll (xs.map enc) ≤ d
  | [] => by simp [PyData.depthAll]
  | x :: xs => by
    rw [List.map_cons, PyData.depthAll]
    exact Nat.max_le.mpr ⟨h x, depthAll_le h xs⟩
def DE.list [DecidableEq α] {ok : α → Prop} (E : DE p ok) : DE (pL p) (fun xs => ∀ a ∈ xs, ok a) where
  enc := fun xs => .list (xs.map E.enc)
  dp := fun K F v a h => let ⟨l, vs, e, h1, h2⟩ := h; by subst e; exact .lst (SqL.of h1) (dpAll_of (E.dp K F) h2)
  sh := fun a h => by rw [PyData.canLay0]; exact canAll E.sh a h
  d := E.d + 1
  hd := fun a => by rw [PyData.depth]; exact Nat.succ_le_succ (depthAll_le E.hd a)
  eq := fun a b => by rw [PyData.eqv]; exact eqvAll_map E.eq a b
def DE.tup [DecidableEq α] {ok : α → Prop} (E : DE p ok) : DE (pTup p) (fun xs => ∀ a ∈ xs, ok a) where
  enc := fun xs => .tuple (xs.map E.enc)
  dp := fun K F v a h => let ⟨l, vs, e, h1, h2⟩ := h; by subst e; exact .tup (SqT.of h1) (dpAll_of (E.dp K F) h2)
  sh := fun a h => by rw [PyData.canLay0]; exact canAll E.sh a h
  d := E.d + 1
  hd := fun a => by rw [PyData.depth]; exact Nat.succ_le_succ (depthAll_le E.hd a)
  eq := fun a b => by rw [PyData.eqv]; exact eqvAll_map E.eq a b
def DE.t2 [DecidableEq α] [DecidableEq β] {ok : α → Prop} {ok' : β → Prop} (E : DE p ok) (E' : DE q ok') : DE (pT2 p q) (fun x => ok x.1 ∧ ok' x.2) where
  enc := fun x => .tuple [E.enc x.1, E'.enc x.2]
  dp := fun K F v a h => let ⟨l, u, w, e, h1, h2, h3⟩ := h; by subst e; exact .tup (SqT.of h1) (.cons (E.dp K F _ _ h2) (.cons (E'.dp K F _ _ h3) .nil))
  sh := fun a h => by simp [PyData.canLay0, PyData.canLayAll0, E.sh _ h.1, E'.sh _ h.2]
  d := max E.d E'.d + 1
  hd := fun a => by
    simp only [PyData.depth, PyData.depthAll]
    have h1 := E.hd a.1
    have h2 := E'.hd a.2
    omega
  eq := fun a b => by
    simp only [PyData.eqv, PyData.eqvAll, E.eq, E'.eq]
    rw [Bool.eq_iff_iff]
    simp [Prod.ext_iff]
def DE.t3 {γ : Type} {o : VP γ} [DecidableEq α] [DecidableEq β] [DecidableEq γ] {ok : α → Prop} {ok' : β → Prop} {ok2 : γ → Prop} (E : DE p ok) (E' : DE q ok') (E2 : DE o ok2) : DE (pT3 p q o) (fun x => ok x.1 ∧ ok' x.2.1 ∧ ok2 x.2.2) where
  enc := fun x => .tuple [E.enc x.1, E'.enc x.2.1, E2.enc x.2.2]
  dp := fun K F v a h => let ⟨l, u, w, z, e, h1, h2, h3, h4⟩ := h; by subst e; exact .tup (SqT.of h1) (.cons (E.dp K F _ _ h2) (.cons (E'.dp K F _ _ h3) (.cons (E2.dp K F _ _ h4) .nil)))
  sh := fun a h => by simp [PyData.canLay0, PyData.canLayAll0, E.sh _ h.1, E'.sh _ h.2.1, E2.sh _ h.2.2]
  d := max E.d (max E'.d E2.d) + 1
  hd := fun a => by
    simp only [PyData.depth, PyData.depthAll]
    have h1 := E.hd a.1
    have h2 := E'.hd a.2.1
    have h3 := E2.hd a.2.2
    omega
  eq := fun a b => by
    simp only [PyData.eqv, PyData.eqvAll, E.eq, E'.eq, E2.eq]
    rw [Bool.eq_iff_iff]
    simp [Prod.ext_iff]
def DE.opt [DecidableEq α] {ok : α → Prop} (E : DE p ok) (hn : ∀ a b, PyData.eqv (E.enc a) .none = false ∧ PyData.eqv .none (E.enc b) = false) : DE (pOpt p) (fun x => ∀ a, x = some a → ok a) where
  enc := fun x => match x with | none => .none | some a => E.enc a
  dp := fun K F v a h => by
    cases a with
    | none => cases h; exact .non
    | some a => exact E.dp K F v a h.1
  sh := fun a h => by
    cases a with
    | none => rfl
    | some a => exact E.sh a (h a rfl)
  d := E.d
  hd := fun a => by
    cases a with
    | none => exact Nat.zero_le _
    | some a => exact E.hd a
  eq := fun a b => by
    cases a with
    | none =>
      cases b with
      | none => rfl
      | some b => simp [(hn b b).2]
    | some a =>
      cases b with
      | none => simp [(hn a a).1]
      | some b => simp [E.eq]
theorem o_eqD [DecidableEq α] {ok : α → Prop} (E : DE p ok) (hE : E.d ≤ 64 := by decide) {u v : α} (ha : Vw a p u) (hb : Vw b p v) (h1 : ok u) (h2 : ok v) : Op2 (rEqD K) a b (vBl (decide (u = v))) := fun B F H x y fx fy os Q W p1 p2 q => by
  obtain ⟨y', ey, ry⟩ := hb F H fy _ W.sub p2
  obtain ⟨x', ex, rx⟩ := ha F H fx _ W.sub p1
  cases ex; cases ey
  have sh : ∀ z, ok z → SeqAt.shaped (E.enc z) = true := fun z hz => by
    unfold SeqAt.shaped
    rw [E.sh z hz, decide_eq_true (Nat.le_trans (E.hd z) hE)]; rfl
  exact ⟨E.enc u, E.enc v, E.dp K H _ _ rx, E.dp K H _ _ ry, sh u h1, sh v h2, q _ F H [] same_refl same_refl W.drop.drop ⟨rfl, _, rfl, by rw [E.eq]; rfl⟩⟩
theorem o_neD [DecidableEq α] {ok : α → Prop} (E : DE p ok) (hE : E.d ≤ 64 := by decide) {u v : α} (ha : Vw a p u) (hb : Vw b p v) (h1 : ok u) (h2 : ok v) : Op2 (rNeD K) a b (vBl (!decide (u = v))) := fun B F H x y fx fy os Q W p1 p2 q => by
  obtain ⟨y', ey, ry⟩ := hb F H fy _ W.sub p2
  obtain ⟨x', ex, rx⟩ := ha F H fx _ W.sub p1
  cases ex; cases ey
  have sh : ∀ z, ok z → SeqAt.shaped (E.enc z) = true := fun z hz => by
    unfold SeqAt.shaped
    rw [E.sh z hz, decide_eq_true (Nat.le_trans (E.hd z) hE)]; rfl
  exact ⟨E.enc u, E.enc v, E.dp K H _ _ rx, E.dp K H _ _ ry, sh u h1, sh v h2, q _ F H [] same_refl same_refl W.drop.drop ⟨rfl, _, rfl, by rw [E.eq]; rfl⟩⟩
theorem c_eqD (Y : Fa P w K mg base k) (i : Y.I) : OpR (Y.X i) (compareOp .Eq) (rEqD K) := by have h := op_eqD (X := Y.X i) (Y.hU i); rw [Y.hK i] at h; exact h
theorem c_neD (Y : Fa P w K mg base k) (i : Y.I) : OpR (Y.X i) (compareOp .NotEq) (rNeD K) := by have h := op_neD (X := Y.X i) (Y.hU i); rw [Y.hK i] at h; exact h

/-! ### owned lists that change -/
/-- a place that holds something owned -/
def PL (Y : Fa P w K mg base k) (e : Expr) (Γ : List Slot) (s : Slot) (up : Slot → List Slot) : Prop :=
  ∃ (t : TE) (Pv : L2.St → Hp → V → Prop), (∀ i, PE (Y.X i) e t) ∧ (∀ σ H H' v, Same H H' → Pv σ H v → Pv σ H' v) ∧
    (∀ (B : Bs) (F H : Hp) (os : List Addr) (σ : List (Option V)) (Q : VK), In B F H os σ Γ → (∀ v, Pv σ H v → Q v H) → t σ H Q) ∧
    ∀ (F H : Hp) (os : List Addr) (σ : List (Option V)) (v : V), Slots F H os σ Γ → Pv σ H v → ∃ fp r, os.Perm (fp ++ r) ∧ s.P F H fp (some v) ∧
      ∀ (F' H' : Hp) (fp' : List Addr) (s' : Slot), Same F F' → (∀ q ∈ r, H' q = H q) → s'.P F' H' fp' (some v) → ∃ os', Slots F' H' os' σ (up s') ∧ os'.Perm (fp' ++ r)
theorem pl_name (j : Nat) (hst : Stb Γ) (hs : Γ[j]? = some s := by rfl) (hso : ∀ F H fp o, s.P F H fp o → ∃ v, o = some v) (hN : ∀ i, (Y.X i).N[j]? = some x := by intro _; rfl)
    (hv : ∀ i, Vis (Y.X i).env.scope x := by intro _; first | exact Or.inl rfl | exact Or.inr (Or.inl rfl) | exact Or.inr (Or.inr rfl)) (hd : (x == ("__debug__" : Str)) = false := by decide) (hcd : (x == ("__classdict__" : Str)) = false := by decide) : PL Y (.Name x pos) Γ s (fun s' => Γ.set j s') := by
  refine ⟨_, fun σ H v => σ[j]? = some (some v), fun i => pe_var (hN i) (hv i) hd hcd, fun σ H H' v _ h => h, fun B F H os σ Q I q => ?_, fun F H os σ v S hv => ?_⟩
  · obtain ⟨o, fp, e, h⟩ := I.slot hs
    obtain ⟨v, rfl⟩ := hso F H fp o h
    exact ⟨v, e, q v e⟩
  · obtain ⟨o, fp, r, e, p, q, kk⟩ := S.at hs
    rw [hv] at e; cases e
    refine ⟨fp, r, q, p, fun F' H' fp' s' hF hk hs' => ?_⟩
    obtain ⟨os', h1, h2⟩ := kk hs' (fun s0 h0 fp0 o0 hf hp => s0.mm (hst s0 h0) hF (fun z hz => hk z (hf z hz)) hp)
    have es : σ.set j (some v) = σ := by
      obtain ⟨hj, e⟩ := List.getElem?_eq_some_iff.mp hv
      rw [← e]; exact List.set_getElem_self hj
    rw [es] at h1
    exact ⟨os', h1, h2⟩
theorem own_some {O : OP α} {u : α} : ∀ F H fp o, (own O u).P F H fp o → ∃ v, o = some v := fun F H fp o h => let ⟨v, e, _⟩ := h; ⟨v, e⟩
/-- what must be seen of the text of a call o.m(e) of a built-in's method -/
structure Bm1 (X : Cx) (o : Expr) (name : Str) (apos : Pos) (e : Expr) (cpos : Pos) : Prop where
  base : attributeBase o name X.env (eval o X.env) = eval o X.env
  few : ((backTo cpos (starEach [e] X.env)).all (fun x => !x.1) && (backToKw cpos (keywordEach [] X.env)).all (fun x => x.1.isSome) && decide (([e] : List Expr).length + ([] : List Keyword).length + (if ([] : List Keyword).isEmpty then 0 else 1) < 30)) = true
  line : (apos.endLine == cpos.line) = true
  st : starEach [e] X.env = (false, eval e X.env) :: starEach [] X.env
  pl : (backTo cpos (starEach [] X.env)).any (·.1) = false
/-- an owned object at l within a place is rewritten -/
theorem pl_write {F H : Hp} {os r : List Addr} {σ : List (Option V)} {l : Addr} {u : HO} {fy : List Addr} {s' : Slot} {v : V} {up : Slot → List Slot} (W : Wo B F H (fy ++ os)) (hp : os.Perm ([l] ++ r)) (hs' : s'.P F (upd H l u) [l] (some v))
    (kk : ∀ (F' H' : Hp) (fp' : List Addr) (s' : Slot), Same F F' → (∀ q ∈ r, H' q = H q) → s'.P F' H' fp' (some v) → ∃ os', Slots F' H' os' σ (up s') ∧ os'.Perm (fp' ++ r)) : Sta B F (upd H l u) σ (up s') := by
  have W1 : Wo B F H ([l] ++ r) := W.drop.perm hp
  have nr : ∀ q ∈ r, q ≠ l := fun q hq e => (List.nodup_append.mp W1.nd).2.2 l (by simp) q hq e.symm
  obtain ⟨os', h1, h2⟩ := kk F (upd H l u) [l] s' same_refl (fun q hq => upd_ne (nr q hq)) hs'
  exact ⟨os', (W1.write (by simp)).perm h2.symm, h1⟩
/-- xs.append(e) -/
theorem go_append {up : Slot → List Slot} {apos cpos : Pos} {u : α} (ho : PL Y eo Γ (own (oL p) xs) up) (he : XV Y e Γ (val p u)) (hz : xs.length < sizeLine) (hg : Go Y i rest D B (up (own (oL p) (xs ++ [u]))))
    (hb : Bm1 (Y.X i) eo "append" apos e cpos := by exact ⟨rfl, rfl, rfl, rfl, rfl⟩)
    (hs : swapsWith (.Call (.Attribute eo "append" apos) [e] [] cpos) none pos.line (Y.X i).env = pure false := by rfl) : Go Y i (.Expr (.Call (.Attribute eo "append" apos) [e] [] cpos) pos :: rest) D B Γ := by
  obtain ⟨t, Pv, pe, pst, rd, up'⟩ := ho
  obtain ⟨t2, pe2, rd2⟩ := he
  refine go_ps (ps_expr (pe_bm PySem.F.plainAttrs_list PySem.F.slot_list_append PySem.F.type_list_append mt_append (pe i) (pa_cons (pe2 i) pa_nil hb.st) hb.base hb.few hb.line hb.st hb.pl) hs) fun F H σ ⟨os, W, S⟩ => ?_
  refine rd B F H os σ _ (Sta.in W S) fun v hv => ?_
  obtain ⟨fp, r, hr, hp, _⟩ := up' F H os σ v S hv
  obtain ⟨v0, ev, l, vs, el, ef, h1, h2⟩ := hp
  cases ev; subst el; subst ef
  refine ⟨.inl ⟨rfl, vs, SqL.of h1⟩, rd2 B F H os σ _ (Sta.in W S) fun y F1 H1 fy f1 e1 W1 p1 => ?_⟩
  obtain ⟨fp1, r1, hr1, hp1, kk1⟩ := up' F1 H1 os σ _ (S.mono f1 e1) (pst _ _ _ _ e1 hv)
  obtain ⟨v1, ev1, l1, vs1, el1, ef1, g1, g2⟩ := hp1
  cases ev1; cases el1; subst ef1
  have ry := (val_P p1).2
  refine ⟨l, vs1, y, rfl, rfl, g1, by rw [Paired.length g2]; exact hz, ?_⟩
  exact hg F1 _ σ (pl_write W1 hr1 ⟨_, rfl, l, _, rfl, rfl, upd_same, Paired.app g2 (.cons ry .nil)⟩ kk1)
/-- xs[j] = e -/
theorem Paired.put {α β : Type} {G : α → β → Prop} {x : α} {y : β} (h : G x y) : ∀ {xs : List α} {ys : List β} (n : Nat), Paired G xs ys → Paired G (xs.set n x) (ys.set n y)
  | _, _, _, .nil => .nil
  | _, _, 0, .cons _ t => .cons h t
  | _, _, n + 1, .cons r t => .cons r (Paired.put h n t)
/-- the list behind xs[z] = u -/
def setI {α : Type} (xs : List α) (z : Int) (u : α) : Option (List α) := (ixN xs.length z).map fun j => xs.set j u
/-- what must be seen of the text of o[i] = e -/
structure Si (X : Cx) (o ei e : Expr) (pos' : Pos) (ln : Nat) : Prop where
  ha : ∀ v, assign (.Subscript o ei pos') X.env v = (do
      let ov ← holding [v] (eval o X.env)
      let iv ← holding [v, ov] (eval ei X.env)
      standAt pos'
      holding [v, ov, iv] (setItem ov iv v)
      release [v, ov, iv] [])
  hs : swapsWithSole [.Subscript o ei pos'] e ln X.env = pure false
  hw : swappedStores [.Subscript o ei pos'] e X.env = pure none
  h1 : (assignEach [.Subscript o ei pos'] X.env).map (·.2) = [assign (.Subscript o ei pos') X.env]
theorem go_setitem {up : Slot → List Slot} {pos' : Pos} {u : α} {z : Int} {xs' : List α} (ho : PL Y eo Γ (own (oL p) xs) up) (hi : XV Y eb Γ (vInt z)) (he : XV Y e Γ (val p u)) (hz : setI xs z u = some xs') (hg : Go Y i rest D B (up (own (oL p) xs')))
    (hsi : Si (Y.X i) eo eb e pos' pos.line := by exact ⟨fun _ => rfl, rfl, rfl, rfl⟩) : Go Y i (.Assign [.Subscript eo eb pos'] e pos :: rest) D B Γ := by
  obtain ⟨t, Pv, pe, pst, rd, up'⟩ := ho
  obtain ⟨t2, pe2, rd2⟩ := he
  obtain ⟨t3, pe3, rd3⟩ := hi
  refine go_ps (ps_asg (pe2 i) (pg_sub (pe i) (pe3 i) set_list hsi.ha) hsi.hs hsi.hw hsi.h1) fun F H σ ⟨os, W, S⟩ => ?_
  refine rd2 B F H os σ _ (Sta.in W S) fun y F1 H1 fy f1 e1 W1 p1 => ?_
  have I1 := (Sta.in W S).step f1 e1 W1
  refine rd B F1 H1 _ σ _ I1 fun v hv => ?_
  refine rd3 B F1 H1 _ σ _ I1 fun y2 F2 H2 fy2 f2 e2 W2 p2 => ?_
  obtain rfl := vint p2
  have ry := (val_P ((val p u).mono f2 e2 p1)).2
  obtain ⟨fp1, r1, hr1, hp1, kk1⟩ := up' F2 H2 os σ _ (S.mono (f1.trans f2) (e1.trans e2)) (pst _ _ _ _ e2 hv)
  obtain ⟨v1, ev1, l1, vs1, el1, ef1, g1, g2⟩ := hp1
  cases ev1; subst el1; subst ef1
  unfold setI at hz
  obtain ⟨j, hj, rfl⟩ := Option.map_eq_some_iff.mp hz
  refine ⟨l1, vs1, z, j, rfl, rfl, g1, by rw [Paired.length g2]; exact hj, ?_⟩
  refine hg F2 _ σ (pl_write (fy := fy2 ++ fy) (by rw [List.append_assoc]; exact W2) hr1 ⟨_, rfl, l1, _, rfl, rfl, upd_same, Paired.put ry j g2⟩ kk1)
end
end
end Ty

/-! Ty5 -/
namespace Ty
open PySem PySem.Spec L2
open PyProof.Rows (envOfC)

section
variable {P : Program} {w : World} {K : PySem.W.Frag} {mg : Str → Option Value} {base : Heap} {k : Nat}

/-! ### defs -/
/-- a pure def: on frozen arguments it gives what its mirror gives, and all else stands -/
def spP {ι ρ : Type} (As : ι → List Slot) (m : ι → Option ρ) (Sr : ρ → Slot) : Sp := fun vs H Q _ => ∃ (z : ι) (r : ρ) (F : Hp), m z = some r ∧ Same F H ∧ Slots F H [] (vs.map some) (As z) ∧
  ∀ v F' H' fp, Wo ⟨F, H, []⟩ F' H' fp → (Sr r).P F' H' fp (some v) → Q v H'
/-- the body's context -/
def fb (P : Program) (w : World) (K : PySem.W.Frag) (mg : Str → Option Value) (base : Heap) (N : List Str) (qual : Str) (st : Stmt) (f : Addr) (cdv : Value) (A : Around) (outer : List Env) (s : Shared) (H : Hp) (E : XK) (k : Nat) (hr : Room k (A.deeper (envOfC qual (defScope st) s.heap.objs.size f cdv))) (nd : N.Nodup) : Fa P w K mg base k where
  I := Unit
  X := fun _ => (cxOf CX0 P w K mg base N qual (defScope st) f cdv A outer s H E).nox
  hP := fun _ => rfl
  hw := fun _ => rfl
  hK := fun _ => rfl
  hM := fun _ => rfl
  hB := fun _ => rfl
  cm := true
  hC := fun _ => rfl
  hR := fun _ _ => hr
  hU := fun _ => hr.units
  W := fun _ _ _ _ => False
  tk := fun _ => takes0
  hN := fun _ => nd
  hO := fun _ => PassesOwn.never
/-- the ends of a def's body -/
def DF (B : Bs) (s : Slot) : Ends := { nx := fun _ H => Fi B s .non H, rt := Fi B s }
theorem slots_dead {F H : Hp} : ∀ n : Nat, Slots F H [] (List.replicate n none) (List.replicate n dead)
  | 0 => .nil
  | n + 1 => by
    rw [List.replicate_succ, List.replicate_succ]
    exact Slots.cons (fp := []) rfl (slots_dead n)
theorem wo_nil {F H : Hp} (h : Same F H) : Wo ⟨F, H, []⟩ F H [] := ⟨h, List.nodup_nil, fun _ z => (nomatch z), fun _ z => (nomatch z), fun _ _ h => h, fun _ _ h _ => h, fun _ _ h => .inl h, fun _ z => (nomatch z)⟩
theorem fn_pure {ι ρ : Type} {As : ι → List Slot} {m : ι → Option ρ} {Sr : ρ → Slot} {x qual : Str} {st : Stmt} {f : Addr} {fd : FuncData} {N ps : List Str} (Fn : Fun K x qual st f fd) (S : FnScope N ps (defScope st)) (hlen : ∀ z, (As z).length = ps.length)
    (body : ∀ (cdv : Value) (A : Around) (outer : List Env) (s : Shared) (H : Hp) (E : XK) (hr : Room k (A.deeper (envOfC qual (defScope st) s.heap.objs.size f cdv))) (z : ι) (r : ρ) (B : Bs), m z = some r →
      Go (fb P w K mg base N qual st f cdv A outer s H E k hr S.nd) () (defBody st) (DF B (Sr r)) B (As z ++ List.replicate (N.length - ps.length) dead)) : FnOk P w K mg base CX0 (k + 1) f fd ps (spP As m Sr) := by
  refine Fn.ok S (fun vs H Q E h => ?_) (fun cdv A outer s H vs Q E hr h => ?_)
  · obtain ⟨z, r, F, _, _, Sl, _⟩ := h
    have e := Sl.length
    rw [List.length_map] at e
    rw [e, hlen]
  · obtain ⟨z, r, F, hm, hS, Sl, q⟩ := h
    refine ⟨_, pss_cont, ?_⟩
    have go := body cdv A outer s H E hr z r ⟨F, H, []⟩ hm
    have S0 : Sta ⟨F, H, []⟩ F H (L2.start N vs) (As z ++ List.replicate (N.length - ps.length) dead) := by
      refine ⟨[], wo_nil hS, ?_⟩
      unfold L2.start
      have e := Sl.length
      rw [List.length_map, hlen] at e
      rw [e]
      exact Slots.append Sl (slots_dead _)
    exact cont_mono (go F H _ S0) (fun σ H' ⟨F', fp, W', p'⟩ => q .non F' H' fp W' p') (fun v H' ⟨F', fp, W', p'⟩ => q v F' H' fp W' p') (fun _ _ z => z.elim) (fun _ _ z => z.elim)
variable {Y : Fa P w K mg base k} {i : Y.I} {e ea eb eo tg iter elt : Expr} {es : List Expr} {rest body : List Stmt} {Γ Γ' Γ1 Γ2 : List Slot} {a b c r s : Slot} {pos : Pos} {B : Bs} {D : Ends} {x : Str} {p' : Pos}
/-- all of them own nothing -/
def NoOwn : List Slot → Prop
  | [] => True
  | s :: r => (∀ F H fp o, s.P F H fp o → fp = []) ∧ NoOwn r
theorem no_val {α : Type} {p : VP α} {u : α} : ∀ F H fp o, (val p u).P F H fp o → fp = [] := fun F H fp o h => h.1
theorem no_bor {α : Type} {p : VP α} {u : α} : ∀ F H fp o, (bor p u).P F H fp o → fp = [] := fun F H fp o h => h.1
theorem no_borL {α : Type} {p : VP α} {u : List α} : ∀ F H fp o, (borL p u).P F H fp o → fp = [] := fun F H fp o h => h.1
theorem NoOwn.nil {F H : Hp} : ∀ {As : List Slot} {fp : List Addr} {vs : List V}, NoOwn As → Slots F H fp (vs.map some) As → fp = []
  | [], _, [], _, S => by cases S; rfl
  | [], _, _ :: _, _, S => by have e := S.length; simp at e
  | _ :: _, _, [], _, S => by have e := S.length; simp at e
  | s :: As, fp, v :: vs, h, S => by
    rw [List.map_cons] at S
    obtain ⟨f1, f2, rfl, p, S2⟩ := Slots.cons_inv S
    rw [h.1 F H f1 _ p, NoOwn.nil h.2 S2]; rfl
/-- behind a pure call -/
theorem Wo.called {F H F' H' : Hp} {os fp : List Addr} (W : Wo B F H os) (W4 : Wo ⟨F, H, []⟩ F' H' fp) : Same F F' ∧ Same H H' ∧ Wo B F' H' (fp ++ os) := by
  have hH : Same H H' := fun a o e => W4.bH a o e (by simp)
  refine ⟨W4.bF, hH, ?_⟩
  have own_old : ∀ q ∈ os, F' q = none := fun q hq => by
    cases z : F' q with
    | none => rfl
    | some u =>
      obtain ⟨o, ho⟩ := W.oH q hq
      rcases W4.bN q u z with y | y | y
      · have y' : F q = some u := y
        rw [W.oF q hq] at y'; cases y'
      · have y' : H q = none := y
        rw [ho] at y'; cases y'
      · exact nomatch y
  refine ⟨W4.sub, List.nodup_append.mpr ⟨W4.nd, W.nd, fun q hq q' hq' e => ?_⟩, fun q hq => ?_, fun q hq => ?_, W.bF.trans W4.bF, fun q u e hb => hH q u (W.bH q u e hb), fun q u e => ?_, fun q hq => ?_⟩
  · subst e
    obtain ⟨o, ho⟩ := W.oH q hq'
    rcases W4.bO q hq with y | y
    · have y' : H q = none := y
      rw [ho] at y'; cases y'
    · exact nomatch y
  · rcases List.mem_append.mp hq with hq | hq
    · exact W4.oF q hq
    · exact own_old q hq
  · rcases List.mem_append.mp hq with hq | hq
    · exact W4.oH q hq
    · obtain ⟨o, ho⟩ := W.oH q hq
      exact ⟨o, hH q o ho⟩
  · rcases W4.bN q u e with y | y | y
    · exact W.bN q u y
    · exact .inr (W.bFree y)
    · exact nomatch y
  · rcases List.mem_append.mp hq with hq | hq
    · rcases W4.bO q hq with y | y
      · exact W.bFree y
      · exact nomatch y
    · exact W.bO q hq
/-- f(e, ..) of a pure def on frozen arguments -/
theorem x_call {ι ρ : Type} {As : ι → List Slot} {m : ι → Option ρ} {Sr : ρ → Slot} {args : List Slot} {z : ι} {q : ρ} {j : Nat} {f : Addr} {fd : FuncData} {ps : List Str} (Fn : FnOk P w K mg base CX0 j f fd ps (spP As m Sr)) (hj : j ≤ k) (hm : mg x = some (.ref f)) (hk : PySem.W.keepIn K (.ref f) = true) (hb : Binds K fd ps [])
    (ha : XA Y (e :: es) Γ args) (hargs : args = As z) (hno : NoOwn args) (hq : m z = some q) (hg : ∀ i, Gl (Y.X i) x := by intro _; rfl) (hdb : (x == ("__debug__" : Str)) = false := by decide)
    (he : ∀ i, starEach (e :: es) (Y.X i).env = (false, eval e (Y.X i).env) :: starEach es (Y.X i).env := by intro _; rfl) (hpl : ∀ i, (backTo pos (starEach es (Y.X i).env)).any (·.1) = false := by intro _; rfl) (hcm : Y.cm = true := by rfl) : XV Y (.Call (.Name x p') (e :: es) [] pos) Γ (Sr q) := by
  subst hargs
  obtain ⟨t, pa, rd⟩ := ha
  have FF : ∀ i, FnOk (Y.X i).prog (Y.X i).w (Y.X i).K (Y.X i).mg (Y.X i).base CX0 j f fd ps (spP As m Sr) := fun i => by rw [Y.hP i, Y.hw i, Y.hK i, Y.hM i, Y.hB i]; exact Fn
  refine ⟨_, fun i => pe_call (FF i) ((Y.hR hcm i).mono hj) (hg i) (by rw [Y.hM i]; exact hm) (by rw [Y.hK i]; exact hk) (by rw [Y.hK i]; exact hb) .nil pass0 (pa i) hdb (he i) (hpl i), fun B F H os σ Q I kk => ?_⟩
  refine rd B F H os σ _ I fun vs F1 H1 fp f1 e1 W1 S1 => ?_
  obtain rfl := hno.nil S1
  rw [List.append_nil]
  refine ⟨z, q, F1, hq, W1.sub, S1, fun v F2 H2 fp W2 p2 => ?_⟩
  obtain ⟨f2, e2, W3⟩ := W1.called W2
  exact kk v F2 H2 fp (f1.trans f2) (e1.trans e2) W3 p2
/-- .. where the arguments are looked at (frozen or owned) and the answer has no heap -/
theorem x_callF {ι ρ : Type} {As : ι → List Slot} {m : ι → Option ρ} {pr : VP ρ} {args : List Slot} {z : ι} {q : ρ} {j : Nat} {f : Addr} {fd : FuncData} {ps : List Str} (Fn : FnOk P w K mg base CX0 j f fd ps (spP As m (val pr))) (hfl : Flat pr) (hj : j ≤ k) (hm : mg x = some (.ref f)) (hk : PySem.W.keepIn K (.ref f) = true) (hb : Binds K fd ps [])
    (ha : XA Y (e :: es) Γ args) (hargs : ∀ F H (vs : List V), Same F H → Slots F H [] (vs.map some) args → Slots H H [] (vs.map some) (As z)) (hno : NoOwn args) (hq : m z = some q) (hg : ∀ i, Gl (Y.X i) x := by intro _; rfl) (hdb : (x == ("__debug__" : Str)) = false := by decide)
    (he : ∀ i, starEach (e :: es) (Y.X i).env = (false, eval e (Y.X i).env) :: starEach es (Y.X i).env := by intro _; rfl) (hpl : ∀ i, (backTo pos (starEach es (Y.X i).env)).any (·.1) = false := by intro _; rfl) (hcm : Y.cm = true := by rfl) : XV Y (.Call (.Name x p') (e :: es) [] pos) Γ (val pr q) := by
  obtain ⟨t, pa, rd⟩ := ha
  have FF : ∀ i, FnOk (Y.X i).prog (Y.X i).w (Y.X i).K (Y.X i).mg (Y.X i).base CX0 j f fd ps (spP As m (val pr)) := fun i => by rw [Y.hP i, Y.hw i, Y.hK i, Y.hM i, Y.hB i]; exact Fn
  refine ⟨_, fun i => pe_call (FF i) ((Y.hR hcm i).mono hj) (hg i) (by rw [Y.hM i]; exact hm) (by rw [Y.hK i]; exact hk) (by rw [Y.hK i]; exact hb) .nil pass0 (pa i) hdb (he i) (hpl i), fun B F H os σ Q I kk => ?_⟩
  refine rd B F H os σ _ I fun vs F1 H1 fp f1 e1 W1 S1 => ?_
  obtain rfl := hno.nil S1
  rw [List.append_nil]
  refine ⟨z, q, H1, hq, same_refl, hargs F1 H1 vs W1.sub S1, fun v F2 H2 fp W2 p2 => ?_⟩
  have hH : Same H1 H2 := fun a o e => W2.bH a o e (by simp)
  have W : Wo B F1 H1 os := W1
  have W3 : Wo B F1 H2 os := ⟨W.sub.trans hH, W.nd, W.oF, fun a ha => let ⟨o, ho⟩ := W.oH a ha; ⟨o, hH a o ho⟩, W.bF, fun a o e hb => hH a o (W.bH a o e hb), W.bN, W.bO⟩
  exact kk v F1 H2 [] f1 (e1.trans hH) W3 ⟨rfl, v, rfl, hfl _ _ _ _ (val_P p2).2⟩
theorem Slots.one {F H : Hp} {os : List Addr} {o : Option V} {σ : List (Option V)} {s : Slot} {Γ : List Slot} (h : Slots F H os (o :: σ) (s :: Γ)) (he : os = []) : s.P F H [] o ∧ Slots F H [] σ Γ := by
  cases h with
  | @cons fp os _ _ _ _ hp hr =>
    obtain ⟨e1, e2⟩ := List.append_eq_nil_iff.mp he
    subst e1; subst e2
    exact ⟨hp, hr⟩
/-- how the arguments that are looked at are read -/
inductive AV : List Slot → List Slot → Prop
  | nil : AV [] []
  | cons {α : Type} {s : Slot} {p : VP α} {u : α} {As Bs : List Slot} : Vw s p u → AV As Bs → AV (s :: As) (val p u :: Bs)
theorem AV.to {As Cs : List Slot} (h : AV As Cs) : ∀ F H (vs : List V), Same F H → Slots F H [] (vs.map some) As → Slots H H [] (vs.map some) Cs := by
  induction h with
  | nil =>
    intro F H vs hS Sl
    have e := Sl.length
    cases vs with
    | nil => exact .nil
    | cons v vs => simp at e
  | @cons α s p u As Cs hv _ ih =>
    intro F H vs hS Sl
    have e := Sl.length
    cases vs with
    | nil => simp at e
    | cons v vs =>
      rw [List.map_cons] at Sl
      obtain ⟨hp, hr⟩ := Sl.one rfl
      have i1 := ih F H vs hS hr
      obtain ⟨v', ev, rv⟩ := hv F H [] _ hS hp
      cases ev
      exact Slots.cons (fp := []) ⟨rfl, v, rfl, rv⟩ i1
end
end Ty

/-! Ty6 -/
namespace Ty
open PySem PySem.Spec L2
section
variable {P : Program} {w : World} {K : PySem.W.Frag} {mg : Str → Option Value} {base : Heap} {k : Nat}
/-! ### comprehensions -/
/-- the blocks of a comprehension, wherever they start -/
def Fa.blk (Y : Fa P w K mg base k) (scope : Scope) : Fa P w K mg base k where
  I := Y.I × Shared × Hp × Addr × List (Str × Addr) × List Addr
  X := fun j => (Y.X j.1).blk j.2.1 j.2.2.1 scope (compEnvC scope j.2.2.2.2.1 j.2.2.2.1 (Y.X j.1).env) j.2.2.2.2.2
  hP := fun j => Y.hP j.1
  hw := fun j => Y.hw j.1
  hK := fun j => Y.hK j.1
  hM := fun j => Y.hM j.1
  hB := fun j => Y.hB j.1
  cm := Y.cm
  hC := fun j => Y.hC j.1
  hR := fun h j => Y.hR h j.1
  hU := fun j => Y.hU j.1
  W := fun _ _ _ _ => False
  tk := fun _ => takes0
  hN := fun j => Y.hN j.1
  hO := fun j => PassesOwn.never
variable {Y : Fa P w K mg base k} {i : Y.I} {e ea eb eo tg iter elt : Expr} {es ifs : List Expr} {rest body : List Stmt} {Γ Γ' Γ1 Γ2 : List Slot} {a b c r s : Slot} {pos : Pos} {B : Bs} {D : Ends} {x : Str} {p' : Pos} {scope : Scope}
/-- readings from what runs them, for a whole family -/
def cE (Y : Fa P w K mg base k) (e : Expr) : TE := fun σ H Q => ∀ (i : Y.I) (pins : List (Addr × Obj)) (s : Shared), Inv (Y.X i) pins σ H s → wpAny (model (Y.X i).prog (Y.X i).w) (Y.X i).A (eval e (Y.X i).env) (EP (Y.X i) pins σ Q) (Y.X i).xe s
theorem pe_cE (i : Y.I) : PE (Y.X i) e (cE Y e) := ⟨fun pins s σ H Q I h => h i pins s I⟩
def cG (Y : Fa P w K mg base k) (tg : Expr) : TG := fun v σ H Q => ∀ (i : Y.I) (pins : List (Addr × Obj)) (s : Shared) (u : Value), Inv (Y.X i) pins σ H s → RelV v u → wpAny (model (Y.X i).prog (Y.X i).w) (Y.X i).A (assign tg (Y.X i).env u) (fun _ s' => ∃ σ' H', Inv (Y.X i) pins σ' H' s' ∧ Q σ' H') (Y.X i).xe s
theorem pg_cG (i : Y.I) : PG (Y.X i) tg (cG Y tg) := ⟨fun pins s σ H v u Q I r h => h i pins s u I r⟩
def cTs (Y : Fa P w K mg base k) (ifs : List Expr) : TT := fun σ H Q => ∀ (i : Y.I) (pins : List (Addr × Obj)) (s : Shared), Inv (Y.X i) pins σ H s →
  wpAny (model (Y.X i).prog (Y.X i).w) (Y.X i).A (forIn ifs true fun c r => if r = true then do let ok ← isTrue c (Y.X i).env (eval c (Y.X i).env); pure (ForInStep.yield ok) else pure (ForInStep.yield r)) (TP (Y.X i) pins σ Q) (Y.X i).xe s
theorem pts_cTs (i : Y.I) : PTs (Y.X i) ifs (cTs Y ifs) := ⟨fun pins s σ H Q I h => h i pins s I⟩
/-- the tests of a clause -/
def XTs (Y : Fa P w K mg base k) (ifs : List Expr) (Γ : List Slot) (b : Bool) : Prop :=
  ∃ t : TT, (∀ i, PTs (Y.X i) ifs t) ∧ ∀ (B : Bs) (F H : Hp) (os : List Addr) (σ : List (Option V)) (Q : Bool → Hp → Prop), In B F H os σ Γ → (∀ F' H', Same F F' → Same H H' → Wo B F' H' os → Q b H') → t σ H Q
theorem xts_nil : XTs Y [] Γ true := ⟨_, fun _ => pts_nil, fun B F H os σ Q I q => q F H same_refl same_refl I.W⟩
theorem xts_one {z : Bool} (h : XT Y e Γ z) : XTs Y [e] Γ z := let ⟨t, p, r⟩ := h; ⟨t, fun i => pts_one (p i), r⟩
/-- a clause with a test: none where it is left out -/
def fmO {α β : Type} : List α → (α → Option (Option β)) → Option (List β)
  | [], _ => some []
  | x :: xs, f => (f x).bind fun o => (fmO xs f).bind fun r => some (o.toList ++ r)
theorem wipe_get {σ : L2.St} : ∀ {vs : List Nat} {j : Nat}, (wipe σ vs)[j]? = if j ∈ vs ∧ j < σ.length then some none else σ[j]?
  | [], j => by simp [wipe]
  | v :: vs, j => by
    unfold wipe
    by_cases hj : v = j
    · subst hj
      by_cases hl : v < σ.length
      · rw [List.getElem?_set_self (by rw [wipe_length]; exact hl), if_pos ⟨List.mem_cons_self, hl⟩]
      · rw [if_neg (fun z => hl z.2), List.getElem?_eq_none (by rw [List.length_set, wipe_length]; omega), List.getElem?_eq_none (by omega)]
    · rw [List.getElem?_set_ne hj, wipe_get (vs := vs) (j := j)]
      have : (j ∈ v :: vs) ↔ j ∈ vs := by
        constructor
        · intro z
          rcases List.mem_cons.mp z with z | z
          · exact absurd z.symm hj
          · exact z
        · exact List.mem_cons_of_mem _
      simp only [this]
/-- slots at which the frame is not looked at -/
theorem Slots.ext {F H : Hp} : ∀ {os : List Addr} {σ σ' : List (Option V)} {Γ : List Slot}, Slots F H os σ Γ → σ'.length = σ.length → (∀ (j : Nat) (s : Slot), Γ[j]? = some s → s = dead ∨ σ'[j]? = σ[j]?) → Slots F H os σ' Γ
  | _, _, [], _, .nil, _, _ => .nil
  | _, _, _ :: _, _, .nil, e, _ => by simp at e
  | _, _, [], _, .cons _ _, e, _ => by simp at e
  | _, _, o' :: σ', _, .cons (s := s) (o := o) p r, e, h => by
    refine .cons ?_ (Slots.ext r (by simpa using e) fun j s hs => by have := h (j + 1) s (by simpa using hs); simpa using this)
    rcases h 0 s rfl with z | z
    · subst z; exact p
    · have : o' = o := by simpa using z
      rw [this]; exact p
theorem wipe_eq {σ σ' : L2.St} {vs ws : List Nat} (hw : ∀ j ∈ ws, j ∈ vs) (hl : σ'.length = (wipe σ vs).length) (h : ∀ j, j ∉ ws → σ'[j]? = (wipe σ vs)[j]?) : wipe σ' vs = wipe σ vs := by
  apply List.ext_getElem?
  intro j
  rw [wipe_get, wipe_get]
  rw [wipe_length] at hl
  by_cases hj : j ∈ vs
  · by_cases h2 : j < σ.length
    · rw [if_pos ⟨hj, by rw [hl]; exact h2⟩, if_pos ⟨hj, h2⟩]
    · rw [if_neg (fun z => h2 (by rw [← hl]; exact z.2)), if_neg (fun z => h2 z.2), List.getElem?_eq_none (by omega), List.getElem?_eq_none (by omega)]
  · rw [if_neg (fun z => hj z.1), if_neg (fun z => hj z.1), h j (fun z => hj (hw j z)), wipe_get, if_neg (fun z => hj z.1)]
/-- what a comprehension asks of its text -/
structure Lc (Y : Fa P w K mg base k) (iter : Expr) (scope : Scope) (own : List (Str × Nat)) : Prop where
  ok : ∀ i, BlkOk (Y.X i).N (Y.X i).env.scope scope own
  hs : ∀ i x, foldedSetIterable iter (Y.X i).env x = pure x
/-- the slots are not looked at -/
def DeadAt (Γ : List Slot) : List Nat → Prop
  | [] => True
  | j :: r => Γ[j]? = some dead ∧ DeadAt Γ r
theorem DeadAt.get {Γ : List Slot} : ∀ {l : List Nat}, DeadAt Γ l → ∀ j ∈ l, Γ[j]? = some dead
  | j :: r, h, x, hx => by
    rcases List.mem_cons.mp hx with rfl | hx
    · exact h.1
    · exact DeadAt.get h.2 x hx
/-- the reading of a comprehension -/
theorem lc_run {α β : Type} {xs : List α} {rs : α → Slot} {q : VP β} {f : α → Option (Option β)} {ys : List β} {own : List (Str × Nat)} (hz : xs.length ≤ sizeLine) (hf : fmO xs f = some ys) (hd0 : DeadAt Γ (own.map (·.2)))
    (hb : ∀ x o, x ∈ xs → f x = some o → ∃ ws Γ1, (ws.all fun j => (own.map (·.2)).contains j) = true ∧ XG (Y.blk scope) tg ws (rs x) Γ Γ1 ∧ XTs (Y.blk scope) ifs Γ1 o.isSome ∧ ∀ y, o = some y → XV (Y.blk scope) elt Γ1 (val q y))
    {wi : TI} (hw : ∀ (B : Bs) (F H : Hp) (os : List Addr) (σ : List (Option V)) (R : It → Hp → Prop), In B F H os σ Γ → (∀ J F' H', Same F F' → Same H H' → Wo B F' H' os → Wk True J F' H' (xs.map rs) → R J H') → wi σ H R)
    {F H : Hp} {os : List Addr} {σ : List (Option V)} {Q : VK} (I : In B F H os σ Γ) (kk : ∀ v F' H' fp, Same F F' → Same H H' → Wo B F' H' (fp ++ os) → (Ty.own (oL q) ys).P F' H' fp (some v) → Q v H') :
    tLc wi (cG (Y.blk scope) tg) (cTs (Y.blk scope) ifs) (cE (Y.blk scope) elt) (own.map (·.2)) σ H Q := by
  have hd := hd0.get
  refine hw B F H os σ _ I fun J F1 H1 f1 e1 W1 wk Dl hD => ?_
  obtain ⟨_, o2, r0, hperm, S0⟩ := I
  have S1 : Slots F1 H1 o2 (wipe σ (own.map (·.2))) Γ := (S0.mono f1 e1).ext (wipe_length _ _) fun j s hs => by
    by_cases hj : j ∈ own.map (·.2)
    · left
      have := hd j hj
      rw [hs] at this; exact Option.some.inj this
    · right
      rw [wipe_get, if_neg (fun z => hj z.1)]
  refine ⟨fun n m H' => n ≤ xs.length ∧ m = xs.length - n ∧ ∃ (F' : Hp) (vs : List V) (acc rr : List β), Wo B F' H' (Dl :: os) ∧ Same F1 F' ∧ Same H1 H' ∧ H' Dl = some (.lst vs) ∧ Paired (q.R F') vs acc ∧ acc.length ≤ n ∧ fmO (xs.drop n) f = some rr ∧ ys = acc ++ rr,
    ⟨xs.length - 0, Nat.zero_le _, rfl, F1, [], [], ys, W1.newO hD, same_refl, same_upd hD, upd_same, .nil, Nat.zero_le _, by simpa using hf, rfl⟩, ?_⟩
  rintro n m H' ⟨hn, rfl, F', vs, acc, rr, W', fF, fH, hDl, hp, hacc, hrr, hys⟩
  obtain ⟨w1, w2⟩ := wk F' H' fF (fun _ => fH) W'.sub
  by_cases hlt : n < xs.length
  · have hx : xs[n]? = some xs[n] := List.getElem?_eq_getElem hlt
    have hdrop : xs.drop n = xs[n] :: xs.drop (n + 1) := List.drop_eq_getElem_cons hlt
    rw [hdrop] at hrr
    unfold fmO at hrr
    obtain ⟨o, ho, hrr⟩ := Option.bind_eq_some_iff.mp hrr
    obtain ⟨r2, hr2, hrr⟩ := Option.bind_eq_some_iff.mp hrr
    obtain ⟨g1, g2⟩ := w2 n (rs xs[n]) (by rw [List.getElem?_map, hx]; rfl)
    refine .inr ⟨g1, fun H'' => n + 1 ≤ xs.length ∧ ∃ (F' : Hp) (vs : List V) (acc rr : List β), Wo B F' H'' (Dl :: os) ∧ Same F1 F' ∧ Same H1 H'' ∧ H'' Dl = some (.lst vs) ∧ Paired (q.R F') vs acc ∧ acc.length ≤ n + 1 ∧ fmO (xs.drop (n + 1)) f = some rr ∧ ys = acc ++ rr, ?_, ?_⟩
    · rintro H'' ⟨hn', rest⟩
      exact ⟨xs.length - (n + 1), by omega, hn', rfl, rest⟩
    · intro v H2 y
      obtain ⟨e2, push⟩ := g2 v H2 y
      obtain ⟨F2, f2, W2, p2⟩ := push B _ W'
      obtain ⟨ws, Γ1, hws0, ⟨_, g, pg, qg⟩, ⟨tt, ptt, rtt⟩, hel⟩ := hb xs[n] o (List.getElem_mem hlt) ho
      have hws : ∀ j ∈ ws, j ∈ own.map (·.2) := fun j hj => List.contains_iff_mem.mp (List.all_eq_true.mp hws0 j hj)
      intro j pins sh u Iv rv
      refine (pg j).run pins sh _ H2 v u _ Iv rv (qg F2 H2 [] o2 _ v _ W2.sub p2 (S1.mono (fF.trans f2) (fH.trans e2)) fun σ' os' d ⟨l', k'⟩ pp S' => ⟨wipe_eq hws l' k', ?_⟩)
      have I2 : In B F2 H2 (Dl :: os) σ' Γ1 := ⟨W2, os', Dl :: (d ++ r0), by
        have a1 : os.Perm ((d ++ os') ++ r0) := hperm.trans (List.Perm.append_right r0 (by simpa using pp))
        refine (List.Perm.cons Dl a1).trans ?_
        have a2 : (Dl :: ((d ++ os') ++ r0)).Perm (Dl :: (os' ++ (d ++ r0))) := List.Perm.cons Dl (by rw [← List.append_assoc]; exact List.Perm.append_right r0 List.perm_append_comm)
        exact a2.trans List.perm_middle.symm, S'⟩
      intro j2 pins2 s2 Iv2
      refine (ptt j2).run pins2 s2 σ' H2 _ Iv2 (rtt B F2 H2 _ σ' _ I2 fun F3 H3 f3 e3 W3 => ?_)
      cases o with
      | none =>
        show n + 1 ≤ xs.length ∧ _
        refine ⟨hlt, F3, vs, acc, r2, W3, (fF.trans f2).trans f3, (fH.trans e2).trans e3, e3 _ _ (e2 _ _ hDl), Paired.mon (fun _ _ r => q.mono (f2.trans f3) r) hp, by omega, hr2, ?_⟩
        have : r2 = rr := by simpa using hrr
        rw [hys, this]
      | some yv =>
        show cE (Y.blk scope) elt σ' H3 _
        obtain ⟨te, pte, rte⟩ := hel yv rfl
        intro j3 pins3 s3 Iv3
        refine (pte j3).run pins3 s3 σ' H3 _ Iv3 (rte B F3 H3 _ σ' _ (I2.step0 f3 e3 W3) fun yy F4 H4 fp4 f4 e4 W4 p4 => ?_)
        have hD4 : H4 Dl = some (.lst vs) := e4 _ _ (e3 _ _ (e2 _ _ hDl))
        have hlen := Paired.length hp
        refine ⟨vs, hD4, by omega, hlt, F4, vs ++ [yy], acc ++ [yv], r2, ?_, ((fF.trans f2).trans f3).trans f4, ?_, upd_same, Paired.app (Paired.mon (fun _ _ r => q.mono ((f2.trans f3).trans f4) r) hp) (.cons (val_P p4).2 .nil), by simp; omega, hr2, ?_⟩
        · exact W4.drop.write List.mem_cons_self
        · intro z u hu
          rw [upd_ne (ne_of_none hu hD)]
          exact ((fH.trans e2).trans e3).trans e4 z u hu
        · have : [yv] ++ r2 = rr := by simpa using hrr
          rw [hys, ← this, List.append_assoc]
  · have e : n = xs.length := by omega
    subst e
    refine .inl ⟨by simpa using w1, ?_⟩
    rw [List.drop_length] at hrr
    unfold fmO at hrr
    have : rr = [] := by simpa using hrr.symm
    subst this
    rw [List.append_nil] at hys
    subst hys
    exact kk _ F' H' [Dl] (f1.trans fF) (e1.trans fH) W' ⟨_, rfl, Dl, vs, rfl, rfl, hDl, hp⟩
/-- [elt for tg in iter if ..] -/
theorem x_lc {α β : Type} {xs : List α} {rs : α → Slot} {q : VP β} {f : α → Option (Option β)} {ys : List β} {own : List (Str × Nat)} (hi : XI Y tg iter Γ True (xs.map rs)) (L : Lc Y iter scope own) (hz : xs.length ≤ sizeLine) (hf : fmO xs f = some ys) (hd0 : DeadAt Γ (own.map (·.2)))
    (hb : ∀ x o, x ∈ xs → f x = some o → ∃ ws Γ1, (ws.all fun j => (own.map (·.2)).contains j) = true ∧ XG (Y.blk scope) tg ws (rs x) Γ Γ1 ∧ XTs (Y.blk scope) ifs Γ1 o.isSome ∧ ∀ y, o = some y → XV (Y.blk scope) elt Γ1 (val q y)) (hcm : Y.cm = true := by rfl) :
    XV Y (.ListComp elt [⟨tg, iter, ifs, 0⟩] scope pos) Γ (Ty.own (oL q) ys) := by
  obtain ⟨wi, pi, hw⟩ := hi
  exact ⟨_, fun i => pe_lc ((Y.hC i).trans hcm) (Y.hN i) (pi i) (L.ok i) (fun s H C cl fp => pg_cG (Y := Y.blk scope) (i, s, H, C, cl, fp)) (fun s H C cl fp => pts_cTs (Y := Y.blk scope) (i, s, H, C, cl, fp)) (fun s H C cl fp => pe_cE (Y := Y.blk scope) (i, s, H, C, cl, fp)) (L.hs i),
    fun B F H os σ Q I kk => lc_run hz hf hd0 hb hw I kk⟩
/-- x = [elt for tg in iter if ..], x a plain local -/
theorem go_setLc {α β : Type} {xs : List α} {rs : α → Slot} {q : VP β} {f : α → Option (Option β)} {ys : List β} {own : List (Str × Nat)} (j : Nat) {py cpos : Pos} (hi : XI Y tg iter Γ True (xs.map rs)) (L : Lc Y iter scope own) (hz : xs.length ≤ sizeLine) (hf : fmO xs f = some ys) (hd0 : DeadAt Γ (own.map (·.2)))
    (hb : ∀ x o, x ∈ xs → f x = some o → ∃ ws Γ1, (ws.all fun j => (own.map (·.2)).contains j) = true ∧ XG (Y.blk scope) tg ws (rs x) Γ Γ1 ∧ XTs (Y.blk scope) ifs Γ1 o.isSome ∧ ∀ y, o = some y → XV (Y.blk scope) elt Γ1 (val q y))
    (hg : Go Y i rest D B (Γ.set j (Ty.own (oL q) ys))) (hj : Nat.blt j Γ.length = true := by rfl) (hy : (Y.X i).N[j]? = some x := by rfl) (hyl : (Y.X i).env.scope.names.lookup x = some .local := by rfl)
    (hsw : swapsWith (.ListComp elt [⟨tg, iter, ifs, 0⟩] scope cpos) (some (.Name x py)) pos.line (Y.X i).env = pure true) (hcm : Y.cm = true := by rfl) : Go Y i (.Assign [.Name x py] (.ListComp elt [⟨tg, iter, ifs, 0⟩] scope cpos) pos :: rest) D B Γ := by
  obtain ⟨wi, pi, hw⟩ := hi
  refine go_ps (ps_setLc ((Y.hC i).trans hcm) (Y.hN i) hy hyl hsw (pi i) (L.ok i) (fun s H C cl fp => pg_cG (Y := Y.blk scope) (i, s, H, C, cl, fp)) (fun s H C cl fp => pts_cTs (Y := Y.blk scope) (i, s, H, C, cl, fp)) (fun s H C cl fp => pe_cE (Y := Y.blk scope) (i, s, H, C, cl, fp)) (L.hs i)) fun F H σ ⟨os, W, S⟩ => ?_
  refine lc_run hz hf hd0 hb hw (Sta.in W S) fun v F1 H1 fp f1 e1 W1 p1 => ?_
  obtain ⟨os', d, h1, h2⟩ := (S.mono f1 e1).put p1 (Nat.le_of_ble_eq_true hj)
  exact hg F1 H1 _ ⟨os', (W1.perm h2).drop, h1⟩
end
end Ty

/-! Ty7 -/
namespace Ty
open PySem PySem.Spec L2
open PyProof.Rows (envOfC)
section
variable {P : Program} {w : World} {K : PySem.W.Frag} {mg : Str → Option Value} {base : Heap} {k : Nat}
variable {Y : Fa P w K mg base k} {i : Y.I} {e ea eb eo tg iter elt : Expr} {es ifs : List Expr} {rest body : List Stmt} {Γ Γ' Γ1 Γ2 Δ Δ' : List Slot} {a b c r s s' : Slot} {pos : Pos} {B : Bs} {D : Ends} {x f : Str} {p' : Pos} {C : Addr} {ns : List Str}

/-! ### objects -/
/-- an owned instance: its attributes told by Δ -/
def obj (C : Addr) (ns : List Str) (Δ : List Slot) : Slot where
  P := fun F H fp o => ∃ (x dx : Addr) (vs : List V) (os : List Addr), o = some (.ref x) ∧ fp = x :: dx :: os ∧ H x = some (.ins C dx (ns.zip vs)) ∧ H dx = some (.own x) ∧ vs.length = ns.length ∧ Slots F H os (vs.map some) Δ
  mono := fun hF hH h => let ⟨x, dx, vs, os, e1, e2, h1, h2, h3, h4⟩ := h; ⟨x, dx, vs, os, e1, e2, hH _ _ h1, hH _ _ h2, h3, h4.mono hF hH⟩
  st := Stb Δ
  mm := fun hs {_ _ _ _ _ _} hF hH h => let ⟨x, dx, vs, os, e1, e2, h1, h2, h3, h4⟩ := h
    ⟨x, dx, vs, os, e1, e2, by rw [hH x (by rw [e2]; simp)]; exact h1, by rw [hH dx (by rw [e2]; simp)]; exact h2, h3, h4.mm hF hs fun q hq => hH q (by rw [e2]; simp [hq])⟩
/-- a frozen instance -/
def pObj {α : Type} (C : Addr) (ns : List Str) (sl : α → List Slot) : VP α where
  R := fun F v z => ∃ (x dx : Addr) (vs : List V), v = .ref x ∧ F x = some (.ins C dx (ns.zip vs)) ∧ vs.length = ns.length ∧ Slots F F [] (vs.map some) (sl z)
  mono := fun hF h => let ⟨x, dx, vs, e1, h1, h3, h4⟩ := h; ⟨x, dx, vs, e1, hF _ _ h1, h3, h4.mono hF hF⟩
/-- an owned instance that is looked at -/
def bobj (C : Addr) (ns : List Str) (Δ : List Slot) : Slot where
  P := fun F H fp o => fp = [] ∧ ∃ (x dx : Addr) (vs : List V) (os : List Addr), o = some (.ref x) ∧ H x = some (.ins C dx (ns.zip vs)) ∧ vs.length = ns.length ∧ Slots F H os (vs.map some) Δ
  mono := fun hF hH h => let ⟨e0, x, dx, vs, os, e1, h1, h3, h4⟩ := h; ⟨e0, x, dx, vs, os, e1, hH _ _ h1, h3, h4.mono hF hH⟩
  st := False
  mm := fun h => h.elim
theorem zip_lookup : ∀ {ns : List Str} {vs : List V} {j : Nat} {f : Str} {v : V}, ns.Nodup → vs.length = ns.length → ns[j]? = some f → vs[j]? = some v → (ns.zip vs).lookup f = some v
  | [], _, _, _, _, _, _, e, _ => by simp at e
  | n :: ns, [], _, _, _, _, h, _, _ => by simp at h
  | n :: ns, u :: vs, 0, f, v, nd, h, e, e2 => by
    simp at e e2; subst e; subst e2
    simp [List.lookup]
  | n :: ns, u :: vs, j + 1, f, v, nd, h, e, e2 => by
    have nd' := List.nodup_cons.mp nd
    have hm : f ∈ ns := List.mem_of_getElem? (show ns[j]? = some f by simpa using e)
    have hb : (f == n) = false := by simpa using fun z : f = n => nd'.1 (z ▸ hm)
    rw [List.zip_cons_cons, List.lookup_cons, hb]
    exact zip_lookup nd'.2 (by simpa using h) (by simpa using e) (by simpa using e2)
theorem zip_lookup_none : ∀ {ns : List Str} {vs : List V} {f : Str}, f ∉ ns → (ns.zip vs).lookup f = none
  | [], _, _, _ => rfl
  | n :: ns, [], _, _ => rfl
  | n :: ns, u :: vs, f, h => by
    have hb : (f == n) = false := by simpa using fun z : f = n => h (by simp [z])
    rw [List.zip_cons_cons, List.lookup_cons, hb]
    exact zip_lookup_none fun z => h (List.mem_cons_of_mem _ z)
theorem zip_put : ∀ {ns : List Str} {vs : List V} {j : Nat} {f : Str} {v : V}, ns.Nodup → vs.length = ns.length → ns[j]? = some f → putF f v (ns.zip vs) = ns.zip (vs.set j v)
  | [], _, _, _, _, _, _, e => by simp at e
  | n :: ns, [], _, _, _, _, h, _ => by simp at h
  | n :: ns, u :: vs, 0, f, v, nd, h, e => by
    simp at e; subst e
    simp [putF]
  | n :: ns, u :: vs, j + 1, f, v, nd, h, e => by
    have nd' := List.nodup_cons.mp nd
    have hm : f ∈ ns := List.mem_of_getElem? (show ns[j]? = some f by simpa using e)
    have hne : ¬ n = f := fun z => nd'.1 (z ▸ hm)
    rw [List.zip_cons_cons, List.set_cons_succ, List.zip_cons_cons, putF, if_neg hne, zip_put nd'.2 (by simpa using h) (by simpa using e)]
theorem zip_new : ∀ {ns : List Str} {vs : List V} {f : Str} {v : V}, vs.length = ns.length → f ∉ ns → putF f v (ns.zip vs) = (ns ++ [f]).zip (vs ++ [v])
  | [], [], f, v, _, _ => rfl
  | [], _ :: _, _, _, h, _ => by simp at h
  | n :: ns, [], _, _, h, _ => by simp at h
  | n :: ns, u :: vs, f, v, h, hf => by
    have hne : ¬ n = f := fun z => hf (by simp [z])
    rw [List.zip_cons_cons, putF, if_neg hne, zip_new (by simpa using h) (fun z => hf (List.mem_cons_of_mem _ z))]; rfl
/-- what is asked of a class for an attribute -/
structure At (K : PySem.W.Frag) (C : Addr) (f : Str) : Prop where
  cl : Cls K C
  no : NoAttr K C f
/-- an instance that may be read: each attribute's value told by Δ -/
def OV (s : Slot) (C : Addr) (ns : List Str) (Δ : List Slot) : Prop := ∀ F H fp o, Same F H → s.P F H fp o → ∃ (x dx : Addr) (vs : List V) (os : List Addr), o = some (.ref x) ∧ H x = some (.ins C dx (ns.zip vs)) ∧ vs.length = ns.length ∧ Slots F H os (vs.map some) Δ
theorem OV.obj : OV (obj C ns Δ) C ns Δ := fun F H fp o _ h => let ⟨x, dx, vs, os, e1, _, h1, _, h3, h4⟩ := h; ⟨x, dx, vs, os, e1, h1, h3, h4⟩
theorem OV.bobj : OV (bobj C ns Δ) C ns Δ := fun F H fp o _ h => let ⟨_, x, dx, vs, os, e1, h1, h3, h4⟩ := h; ⟨x, dx, vs, os, e1, h1, h3, h4⟩
theorem OV.val {α : Type} {sl : α → List Slot} {z : α} : OV (Ty.val (pObj C ns sl) z) C ns (sl z) := fun F H fp o hS h => let ⟨_, v, ev, x, dx, vs, e1, h1, h3, h4⟩ := h; ⟨x, dx, vs, [], by rw [ev, e1], hS _ _ h1, h3, h4.mono same_refl hS⟩
/-- e.f, the attribute's value frozen -/
theorem x_fld {α : Type} {p : VP α} {u : α} (j : Nat) (he : XV Y e Γ s) (ho : OV s C ns Δ) (hA : At K C f) (hj : Δ[j]? = some (val p u) := by rfl) (hn : ns[j]? = some f := by rfl) (nd : ns.Nodup := by decide +kernel) (hb : ∀ i, attributeBase e f (Y.X i).env (eval e (Y.X i).env) = eval e (Y.X i).env := by intro _; rfl) : XV Y (.Attribute e f pos) Γ (val p u) := by
  obtain ⟨t, pe, rd⟩ := he
  refine ⟨_, fun i => by have h := pe_fld (pos := pos) (pe i) (hb i); rw [Y.hK i] at h; exact h, fun B F H os σ Q I q => ?_⟩
  refine rd B F H os σ _ I fun v F1 H1 fp f1 e1 W1 p1 => ?_
  obtain ⟨x, dx, vs, o2, ev, h1, h2, h3⟩ := ho F1 H1 fp _ W1.sub p1
  cases ev
  obtain ⟨o, fp', r', e3, p3, _, _⟩ := h3.at hj
  obtain ⟨_, v', ev, rv⟩ := p3
  subst ev
  have e4 : vs[j]? = some v' := by
    rw [List.getElem?_map] at e3
    obtain ⟨y, hy, ey⟩ := Option.map_eq_some_iff.mp e3
    cases ey; exact hy
  exact ⟨x, C, dx, _, v', rfl, h1, hA.cl, hA.no, zip_lookup nd h2 hn e4, q v' F1 H1 [] f1 e1 W1.drop ⟨rfl, v', rfl, rv⟩⟩
/-- e.f, an owned list within, looked at -/
theorem x_fldL {α : Type} {p : VP α} {u : List α} (j : Nat) (he : XV Y e Γ s) (ho : OV s C ns Δ) (hA : At K C f) (hj : Δ[j]? = some (own (oL p) u) := by rfl) (hn : ns[j]? = some f := by rfl) (nd : ns.Nodup := by decide +kernel) (hb : ∀ i, attributeBase e f (Y.X i).env (eval e (Y.X i).env) = eval e (Y.X i).env := by intro _; rfl) : XV Y (.Attribute e f pos) Γ (borL p u) := by
  obtain ⟨t, pe, rd⟩ := he
  refine ⟨_, fun i => by have h := pe_fld (pos := pos) (pe i) (hb i); rw [Y.hK i] at h; exact h, fun B F H os σ Q I q => ?_⟩
  refine rd B F H os σ _ I fun v F1 H1 fp f1 e1 W1 p1 => ?_
  obtain ⟨x, dx, vs, o2, ev, h1, h2, h3⟩ := ho F1 H1 fp _ W1.sub p1
  cases ev
  obtain ⟨o, fp', r', e3, p3, _, _⟩ := h3.at hj
  obtain ⟨v', ev, l, ws, el, ef, g1, g2⟩ := p3
  subst ev
  have e4 : vs[j]? = some v' := by
    rw [List.getElem?_map] at e3
    obtain ⟨y, hy, ey⟩ := Option.map_eq_some_iff.mp e3
    cases ey; exact hy
  exact ⟨x, C, dx, _, v', rfl, h1, hA.cl, hA.no, zip_lookup nd h2 hn e4, q v' F1 H1 [] f1 e1 W1.drop ⟨rfl, l, ws, by rw [el], g1, g2⟩⟩
/-- an owned instance's name, looked at -/
theorem x_varO (j : Nat) (hs : Γ[j]? = some (obj C ns Δ) := by rfl) (hN : ∀ i, (Y.X i).N[j]? = some x := by intro _; rfl)
    (hv : ∀ i, Vis (Y.X i).env.scope x := by intro _; first | exact Or.inl rfl | exact Or.inr (Or.inl rfl) | exact Or.inr (Or.inr rfl)) (hd : (x == ("__debug__" : Str)) = false := by decide) (hcd : (x == ("__classdict__" : Str)) = false := by decide) : XV Y (.Name x pos) Γ (bobj C ns Δ) := by
  refine ⟨_, fun i => pe_var (hN i) (hv i) hd hcd, fun B F H os σ Q I q => ?_⟩
  obtain ⟨o, fp, e, y, dx, vs, o2, e1, e2, h1, h2, h3, h4⟩ := I.slot hs
  subst e1
  exact ⟨_, e, q _ F H [] same_refl same_refl I.W ⟨rfl, y, dx, vs, o2, rfl, h1, h3, h4⟩⟩
/-- a place within an owned instance at a place -/
theorem pl_fld {up : Slot → List Slot} (j : Nat) (ho : PL Y eo Γ (obj C ns Δ) up) (hA : At K C f) (hst : Stb Δ) (hso : ∀ F H fp o, s.P F H fp o → ∃ v, o = some v) (hj : Δ[j]? = some s := by rfl) (hn : ns[j]? = some f := by rfl) (nd : ns.Nodup := by decide +kernel) (hb : ∀ i, attributeBase eo f (Y.X i).env (eval eo (Y.X i).env) = eval eo (Y.X i).env := by intro _; rfl) :
    PL Y (.Attribute eo f pos) Γ s (fun s' => up (obj C ns (Δ.set j s'))) := by
  obtain ⟨t, Pv, pe, pst, rd, up'⟩ := ho
  refine ⟨_, fun σ H v => ∃ x dx vs, Pv σ H (.ref x) ∧ H x = some (.ins C dx (ns.zip vs)) ∧ vs.length = ns.length ∧ vs[j]? = some v, fun i => by have h := pe_fld (pos := pos) (pe i) (hb i); rw [Y.hK i] at h; exact h,
    fun σ H H' v hH h => let ⟨x, dx, vs, h1, h2, h3, h4⟩ := h; ⟨x, dx, vs, pst _ _ _ _ hH h1, hH _ _ h2, h3, h4⟩, fun B F H os σ Q I q => ?_, fun F H os σ v S hv => ?_⟩
  · refine rd B F H os σ _ I fun v hv => ?_
    obtain ⟨_, o2, r, hp, S⟩ := I
    obtain ⟨fp, r2, hr2, hp2, _⟩ := up' F H o2 σ v S hv
    obtain ⟨x, dx, vs, o3, e1, e2, h1, h2, h3, h4⟩ := hp2
    cases e1
    obtain ⟨o, fp', r', e3, p3, _, _⟩ := h4.at hj
    obtain ⟨v', rfl⟩ := hso _ _ _ _ p3
    have e4 : vs[j]? = some v' := by
      rw [List.getElem?_map] at e3
      obtain ⟨y, hy, ey⟩ := Option.map_eq_some_iff.mp e3
      cases ey; exact hy
    exact ⟨x, C, dx, _, v', rfl, h1, hA.cl, hA.no, zip_lookup nd h3 hn e4, q v' ⟨x, dx, vs, hv, h1, h3, e4⟩⟩
  · obtain ⟨x, dx, vs, hv1, h1, h2, h3⟩ := hv
    obtain ⟨fp, r2, hr2, hp2, kk⟩ := up' F H os σ _ S hv1
    obtain ⟨x', dx', vs', o3, e1, e2, g1, g2, g3, g4⟩ := hp2
    cases e1
    rw [h1] at g1
    have ez : ns.zip vs = ns.zip vs' := by
      have := Option.some.inj g1
      injection this
    have ed : dx = dx' := by
      have := Option.some.inj g1
      injection this
    subst ed
    have ev : vs = vs' := by
      have a1 : (ns.zip vs).map (·.2) = (ns.zip vs').map (·.2) := by rw [ez]
      rw [List.map_snd_zip (by omega), List.map_snd_zip (by omega)] at a1
      exact a1
    subst ev
    obtain ⟨o, fp', r', e3, p3, q3, k3⟩ := g4.at hj
    have eo' : o = some v := by
      rw [List.getElem?_map, h3] at e3
      exact (Option.some.inj e3).symm
    subst eo'
    subst e2
    refine ⟨fp', (x :: dx :: r') ++ r2, ?_, p3, fun F' H' fp2 s' hF hk hs' => ?_⟩
    · refine hr2.trans ?_
      have a1 : (x :: dx :: o3).Perm (fp' ++ (x :: dx :: r')) := by
        have : (x :: dx :: o3).Perm (x :: dx :: (fp' ++ r')) := (q3.cons dx).cons x
        refine this.trans ?_
        have a2 : (fp' ++ (x :: dx :: r')).Perm (x :: (fp' ++ (dx :: r'))) := List.perm_middle
        have a3 : (fp' ++ (dx :: r')).Perm (dx :: (fp' ++ r')) := List.perm_middle
        exact (a2.trans (a3.cons x)).symm
      have a4 := List.Perm.append_right r2 a1
      rw [List.append_assoc] at a4
      exact a4
    · obtain ⟨os', t1, t2⟩ := k3 hs' (fun s0 h0 fp0 o0 hf hp => s0.mm (hst s0 h0) hF (fun q hq => hk q (by simp [hf q hq])) hp)
      have es : (vs.map some).set j (some v) = vs.map some := by
        obtain ⟨hj', e⟩ := List.getElem?_eq_some_iff.mp e3
        rw [← e]; exact List.set_getElem_self hj'
      rw [es] at t1
      obtain ⟨os2, u1, u2⟩ := kk F' H' (x :: dx :: os') (obj C ns (Δ.set j s')) hF (fun q hq => hk q (by simp [hq])) ⟨x, dx, vs, os', rfl, rfl, by rw [hk x (by simp)]; exact h1, by rw [hk dx (by simp)]; exact g2, h2, t1⟩
      refine ⟨os2, u1, u2.trans ?_⟩
      have a1 : (x :: dx :: os').Perm (x :: dx :: (fp2 ++ r')) := (t2.cons dx).cons x
      have a2 : (fp2 ++ (x :: dx :: r')).Perm (x :: (fp2 ++ (dx :: r'))) := List.perm_middle
      have a3 : (fp2 ++ (dx :: r')).Perm (dx :: (fp2 ++ r')) := List.perm_middle
      have a5 := List.Perm.append_right r2 (a1.trans (a2.trans (a3.cons x)).symm)
      rw [List.append_assoc] at a5
      exact a5
/-- o.f = e, the attribute there -/
theorem go_setfld {up : Slot → List Slot} {pos' : Pos} (j : Nat) (ho : PL Y eo Γ (obj C ns Δ) up) (he : XV Y e Γ r) (hA : At K C f) (hst : Stb Δ) (hr : r.st) (hg : Go Y i rest D B (up (obj C ns (Δ.set j r)))) (hj : Nat.blt j Δ.length = true := by rfl) (hn : ns[j]? = some f := by rfl) (nd : ns.Nodup := by decide +kernel) (hl : Nat.blt ns.length 1000 = true := by rfl)
    (hs : swapsWith e (some (.Attribute eo f pos')) pos.line (Y.X i).env = pure false := by rfl) : Go Y i (.Assign [.Attribute eo f pos'] e pos :: rest) D B Γ := by
  obtain ⟨t, Pv, pe, pst, rd, up'⟩ := ho
  obtain ⟨t2, pe2, rd2⟩ := he
  refine go_ps (ps_fld (pe i) (pe2 i) hs) fun F H σ ⟨os, W, S⟩ => ?_
  refine rd2 B F H os σ _ (Sta.in W S) fun y F1 H1 fy f1 e1 W1 p1 => ?_
  refine rd B F1 H1 _ σ _ ((Sta.in W S).step f1 e1 W1) fun v hv => ?_
  obtain ⟨fp, r2, hr2, hp2, kk⟩ := up' F1 H1 os σ v (S.mono f1 e1) hv
  obtain ⟨x, dx, vs, o3, ex, e2, g1, g2, g3, g4⟩ := hp2
  cases ex
  subst e2
  have W2 : Wo B F1 H1 (fy ++ ((x :: dx :: o3) ++ r2)) := W1.perm (List.Perm.append_left fy hr2)
  have nd2 := W2.nd
  have hx : ∀ q, q ∈ fy ∨ q ∈ dx :: o3 ∨ q ∈ r2 → q ≠ x := fun q hq e => by
    subst e
    have a1 := List.nodup_append.mp nd2
    rcases hq with hq | hq | hq
    · exact a1.2.2 q hq q (by simp) rfl
    · have a2 := List.nodup_append.mp a1.2.1
      exact (List.nodup_cons.mp a2.1).1 hq
    · have a2 := List.nodup_append.mp a1.2.1
      exact a2.2.2 q (by simp) q hq rfl
  rw [Y.hK i]
  refine ⟨x, C, dx, _, rfl, g1, hA.cl, hA.no, ?_, ?_⟩
  · rw [List.length_zip]
    have := Nat.le_of_ble_eq_true hl
    omega
  rw [zip_put nd g3 hn]
  have W3 : Wo B F1 (upd H1 x (.ins C dx (ns.zip (vs.set j y)))) (fy ++ ((x :: dx :: o3) ++ r2)) := W2.write (by simp)
  have hfy : ∀ q ∈ fy, q ≠ x := fun q hq => hx q (.inl hq)
  have g5 : Slots F1 (upd H1 x (.ins C dx (ns.zip (vs.set j y)))) o3 (vs.map some) Δ := g4.mm same_refl hst fun q hq => upd_ne (hx q (by simp [hq]))
  have p5 : r.P F1 (upd H1 x (.ins C dx (ns.zip (vs.set j y)))) fy (some y) := r.mm hr same_refl (fun q hq => upd_ne (hfy q hq)) p1
  obtain ⟨o6, d6, t6, u6⟩ := g5.put p5 (Nat.le_of_ble_eq_true hj)
  rw [← List.map_set] at t6
  have hdx : dx ≠ x := hx dx (by simp)
  obtain ⟨os2, v1, v2⟩ := kk F1 (upd H1 x (.ins C dx (ns.zip (vs.set j y)))) (x :: dx :: o6) (obj C ns (Δ.set j r)) same_refl (fun q hq => upd_ne (hx q (by simp [hq]))) ⟨x, dx, vs.set j y, o6, rfl, rfl, upd_same, by rw [upd_ne hdx]; exact g2, by simp [g3], t6⟩
  refine hg F1 _ σ ⟨os2, (Wo.drop (a := d6) (W3.perm ?_)).perm v2.symm, v1⟩
  have b1 : (fy ++ ((x :: dx :: o3) ++ r2)).Perm (x :: dx :: ((fy ++ o3) ++ r2)) := by
    have c1 : (fy ++ (x :: (dx :: (o3 ++ r2)))).Perm (x :: (fy ++ (dx :: (o3 ++ r2)))) := List.perm_middle
    have c2 : (fy ++ (dx :: (o3 ++ r2))).Perm (dx :: (fy ++ (o3 ++ r2))) := List.perm_middle
    have c3 := c1.trans (c2.cons x)
    rw [List.append_assoc]; exact c3
  have b2 : (x :: dx :: ((fy ++ o3) ++ r2)).Perm (x :: dx :: ((d6 ++ o6) ++ r2)) := ((List.Perm.append_right r2 u6).cons dx).cons x
  refine (b1.trans b2).trans ?_
  have b3 : (d6 ++ (x :: (dx :: (o6 ++ r2)))).Perm (x :: (d6 ++ (dx :: (o6 ++ r2)))) := List.perm_middle
  have b4 : (d6 ++ (dx :: (o6 ++ r2))).Perm (dx :: (d6 ++ (o6 ++ r2))) := List.perm_middle
  have b5 := (b3.trans (b4.cons x)).symm
  rw [List.append_assoc]; exact b5
/-- o.f = e, a new attribute -/
theorem go_newfld {up : Slot → List Slot} {pos' : Pos} (ho : PL Y eo Γ (obj C ns Δ) up) (he : XV Y e Γ r) (hA : At K C f) (hst : Stb Δ) (hr : r.st) (hg : Go Y i rest D B (up (obj C (ns ++ [f]) (Δ ++ [r])))) (hn : ns.contains f = false := by decide +kernel) (hl : Nat.blt ns.length 1000 = true := by rfl)
    (hs : swapsWith e (some (.Attribute eo f pos')) pos.line (Y.X i).env = pure false := by rfl) : Go Y i (.Assign [.Attribute eo f pos'] e pos :: rest) D B Γ := by
  obtain ⟨t, Pv, pe, pst, rd, up'⟩ := ho
  obtain ⟨t2, pe2, rd2⟩ := he
  refine go_ps (ps_fld (pe i) (pe2 i) hs) fun F H σ ⟨os, W, S⟩ => ?_
  refine rd2 B F H os σ _ (Sta.in W S) fun y F1 H1 fy f1 e1 W1 p1 => ?_
  refine rd B F1 H1 _ σ _ ((Sta.in W S).step f1 e1 W1) fun v hv => ?_
  obtain ⟨fp, r2, hr2, hp2, kk⟩ := up' F1 H1 os σ v (S.mono f1 e1) hv
  obtain ⟨x, dx, vs, o3, ex, e2, g1, g2, g3, g4⟩ := hp2
  cases ex
  subst e2
  have W2 : Wo B F1 H1 (fy ++ ((x :: dx :: o3) ++ r2)) := W1.perm (List.Perm.append_left fy hr2)
  have nd2 := W2.nd
  have hx : ∀ q, q ∈ fy ∨ q ∈ dx :: o3 ∨ q ∈ r2 → q ≠ x := fun q hq e => by
    subst e
    have a1 := List.nodup_append.mp nd2
    rcases hq with hq | hq | hq
    · exact a1.2.2 q hq q (by simp) rfl
    · have a2 := List.nodup_append.mp a1.2.1
      exact (List.nodup_cons.mp a2.1).1 hq
    · have a2 := List.nodup_append.mp a1.2.1
      exact a2.2.2 q (by simp) q hq rfl
  rw [Y.hK i]
  refine ⟨x, C, dx, _, rfl, g1, hA.cl, hA.no, ?_, ?_⟩
  · rw [List.length_zip]
    have := Nat.le_of_ble_eq_true hl
    omega
  have hnf : f ∉ ns := fun z => by
    have := List.contains_iff_mem.mpr z
    rw [hn] at this; cases this
  rw [zip_new g3 hnf]
  have W3 : Wo B F1 (upd H1 x (.ins C dx ((ns ++ [f]).zip (vs ++ [y])))) (fy ++ ((x :: dx :: o3) ++ r2)) := W2.write (by simp)
  have hfy : ∀ q ∈ fy, q ≠ x := fun q hq => hx q (.inl hq)
  have g5 : Slots F1 (upd H1 x (.ins C dx ((ns ++ [f]).zip (vs ++ [y])))) o3 (vs.map some) Δ := g4.mm same_refl hst fun q hq => upd_ne (hx q (by simp [hq]))
  have p5 : r.P F1 (upd H1 x (.ins C dx ((ns ++ [f]).zip (vs ++ [y])))) fy (some y) := r.mm hr same_refl (fun q hq => upd_ne (hfy q hq)) p1
  have t6 := g5.append (Slots.cons p5 .nil)
  rw [List.append_nil, show vs.map some ++ [some y] = (vs ++ [y]).map some by simp] at t6
  have hdx : dx ≠ x := hx dx (by simp)
  obtain ⟨os2, v1, v2⟩ := kk F1 (upd H1 x (.ins C dx ((ns ++ [f]).zip (vs ++ [y])))) (x :: dx :: (o3 ++ fy)) (obj C (ns ++ [f]) (Δ ++ [r])) same_refl (fun q hq => upd_ne (hx q (by simp [hq]))) ⟨x, dx, vs ++ [y], o3 ++ fy, rfl, rfl, upd_same, by rw [upd_ne hdx]; exact g2, by simp [g3], t6⟩
  refine hg F1 _ σ ⟨os2, (W3.perm ?_).perm v2.symm, v1⟩
  have b1 : (fy ++ ((x :: dx :: o3) ++ r2)).Perm (x :: dx :: ((fy ++ o3) ++ r2)) := by
    have c1 : (fy ++ (x :: (dx :: (o3 ++ r2)))).Perm (x :: (fy ++ (dx :: (o3 ++ r2)))) := List.perm_middle
    have c2 : (fy ++ (dx :: (o3 ++ r2))).Perm (dx :: (fy ++ (o3 ++ r2))) := List.perm_middle
    have c3 := c1.trans (c2.cons x)
    rw [List.append_assoc]; exact c3
  refine b1.trans ?_
  exact ((List.Perm.append_right r2 List.perm_append_comm).cons dx).cons x
/-- o.f += e of ints -/
theorem go_augfld {up : Slot → List Slot} {tpos : Pos} {op : Operator} {g : Int → Int → Int} {m n : Int} (j : Nat) (ho : PL Y eo Γ (obj C ns Δ) up) (he : XV Y e Γ (vInt n)) (hop : ∀ i, InOp (Y.X i) op (fun x y H Q => ∃ i j, x = .int i ∧ y = .int j ∧ Q (.int (g i j)) H)) (hA : At K C f) (hst : Stb Δ)
    (hg : Go Y i rest D B (up (obj C ns (Δ.set j (vInt (g m n)))))) (hm : Δ[j]? = some (vInt m) := by rfl) (hn : ns[j]? = some f := by rfl) (nd : ns.Nodup := by decide +kernel) (hl : Nat.blt ns.length 1000 = true := by rfl) : Go Y i (.AugAssign (.Attribute eo f tpos) op e pos :: rest) D B Γ := by
  obtain ⟨t, Pv, pe, pst, rd, up'⟩ := ho
  obtain ⟨t2, pe2, rd2⟩ := he
  refine go_ps (ps_fldaug (pe i) (pe2 i) (hop i)) fun F H σ ⟨os, W, S⟩ => ?_
  refine rd B F H _ σ _ (Sta.in W S) fun v hv => ?_
  obtain ⟨fp, r2, hr2, hp2, _⟩ := up' F H os σ v S hv
  obtain ⟨x, dx, vs, o3, ex, e2, g1, g2, g3, g4⟩ := hp2
  cases ex
  obtain ⟨o, fp', r', e3, p3, _, _⟩ := g4.at hm
  obtain ⟨_, v', rfl, rv⟩ := p3
  have e4 : vs[j]? = some v' := by
    rw [List.getElem?_map] at e3
    obtain ⟨y, hy, ey⟩ := Option.map_eq_some_iff.mp e3
    cases ey; exact hy
  rw [Y.hK i]
  refine ⟨x, C, dx, _, v', rfl, g1, hA.cl, hA.no, zip_lookup nd g3 hn e4, ?_⟩
  have rv' : v' = .int m := rv
  subst rv'
  refine rd2 B F H os σ _ (Sta.in W S) fun y F1 H1 fy f1 e1 W1 p1 => ?_
  obtain rfl := vint p1
  refine ⟨m, n, rfl, rfl, dx, _, e1 _ _ g1, ?_, ?_⟩
  · rw [List.length_zip]
    have := Nat.le_of_ble_eq_true hl
    omega
  rw [zip_put nd g3 hn]
  obtain ⟨fp, r2, hr2, hp2, kk⟩ := up' F1 H1 os σ _ (S.mono f1 e1) (pst _ _ _ _ e1 hv)
  obtain ⟨x', dx', vs', o3', ex, e2, g1', g2', g3', g4'⟩ := hp2
  cases ex
  subst e2
  rw [e1 _ _ g1] at g1'
  have ez : ns.zip vs = ns.zip vs' := by
    have := Option.some.inj g1'
    injection this
  have ed : dx = dx' := by
    have := Option.some.inj g1'
    injection this
  subst ed
  have ev : vs = vs' := by
    have a1 : (ns.zip vs).map (·.2) = (ns.zip vs').map (·.2) := by rw [ez]
    rw [List.map_snd_zip (by omega), List.map_snd_zip (by omega)] at a1
    exact a1
  subst ev
  have W2 : Wo B F1 H1 ((x :: dx :: o3') ++ r2) := W1.drop.perm hr2
  have nd2 := W2.nd
  have hx : ∀ q, q ∈ dx :: o3' ∨ q ∈ r2 → q ≠ x := fun q hq e => by
    subst e
    have a2 := List.nodup_append.mp nd2
    rcases hq with hq | hq
    · exact (List.nodup_cons.mp a2.1).1 hq
    · exact a2.2.2 q (by simp) q hq rfl
  have W3 : Wo B F1 (upd H1 x (.ins C dx (ns.zip (vs.set j (.int (g m n)))))) ((x :: dx :: o3') ++ r2) := W2.write (by simp)
  have g5 : Slots F1 (upd H1 x (.ins C dx (ns.zip (vs.set j (.int (g m n)))))) o3' (vs.map some) Δ := g4'.mm same_refl hst fun q hq => upd_ne (hx q (by simp [hq]))
  have p5 : (vInt (g m n)).P F1 (upd H1 x (.ins C dx (ns.zip (vs.set j (.int (g m n)))))) [] (some (.int (g m n))) := ⟨rfl, _, rfl, rfl⟩
  obtain ⟨o6, d6, t6, u6⟩ := g5.put p5 (List.getElem?_eq_some_iff.mp hm).1
  rw [← List.map_set] at t6
  have hdx : dx ≠ x := hx dx (by simp)
  obtain ⟨os2, v1, v2⟩ := kk F1 (upd H1 x (.ins C dx (ns.zip (vs.set j (.int (g m n)))))) (x :: dx :: o6) (obj C ns (Δ.set j (vInt (g m n)))) same_refl (fun q hq => upd_ne (hx q (by simp [hq]))) ⟨x, dx, vs.set j _, o6, rfl, rfl, upd_same, by rw [upd_ne hdx]; exact g2', by simp [g3], t6⟩
  refine hg F1 _ σ ⟨os2, (Wo.drop (a := d6) (W3.perm ?_)).perm v2.symm, v1⟩
  have b2 : (x :: dx :: (o3' ++ r2)).Perm (x :: dx :: ((d6 ++ o6) ++ r2)) := ((List.Perm.append_right r2 (by simpa using u6)).cons dx).cons x
  refine b2.trans ?_
  have b3 : (d6 ++ (x :: (dx :: (o6 ++ r2)))).Perm (x :: (d6 ++ (dx :: (o6 ++ r2)))) := List.perm_middle
  have b4 : (d6 ++ (dx :: (o6 ++ r2))).Perm (dx :: (d6 ++ (o6 ++ r2))) := List.perm_middle
  have b5 := (b3.trans (b4.cons x)).symm
  rw [List.append_assoc]; exact b5
/-- all of them frozen values -/
def AllV : List Slot → Prop
  | [] => True
  | s :: r => (∃ (α : Type) (p : VP α) (u : α), s = Ty.val p u) ∧ AllV r
theorem AllV.no {F H : Hp} : ∀ {Γ : List Slot} {os : List Addr} {σ : List (Option V)}, AllV Γ → Slots F H os σ Γ → os = [] ∧ Slots F F [] σ Γ
  | [], _, _, _, S => by cases S; exact ⟨rfl, .nil⟩
  | s :: Γ, _, _, h, S => by
    cases S with
    | @cons fp os o σ _ _ p q =>
      obtain ⟨⟨α, p', u, rfl⟩, h2⟩ := h
      obtain ⟨e1, v, e2, rv⟩ := p
      obtain ⟨e3, t⟩ := AllV.no h2 q
      subst e1; subst e3
      exact ⟨rfl, Slots.cons (fp := []) ⟨rfl, v, e2, rv⟩ t⟩
/-- an owned instance frozen -/
theorem WkS.obj {α : Type} {sl : α → List Slot} {z : α} (hw : WkL Δ (sl z)) (hv : AllV (sl z)) : WkS (Ty.obj C ns Δ) (Ty.val (pObj C ns sl) z) := fun F H fp o hS h => by
  obtain ⟨x, dx, vs, os, e1, e2, h1, h2, h3, h4⟩ := h
  obtain ⟨xx, yy, hp, kk⟩ := h4.wk hS hw
  obtain ⟨rfl, _⟩ := hv.no (kk H hS same_refl fun _ _ => rfl)
  subst e2
  refine ⟨x :: dx :: os, [], by simp, fun F' hF hs hx => ⟨rfl, _, e1, x, dx, vs, rfl, by rw [hx x (by simp)]; exact h1, h3, (hv.no (kk F' hF hs fun q hq => hx q ?_)).2⟩⟩
  have := hp.mem_iff.mpr (by simpa using hq)
  simp [this]

/-! ### what is handed in is kept by name -/
/-- s, held at the value v -/
def hold (s : Slot) (v : V) : Slot where
  P := fun F H fp o => o = some v ∧ s.P F H fp o
  mono := fun hF hH h => ⟨h.1, s.mono hF hH h.2⟩
  st := s.st
  mm := fun hs {_ _ _ _ _ _} hF hH h => ⟨h.1, s.mm hs hF hH h.2⟩
theorem pl_hold {v0 : V} (j : Nat) (hst : Stb Γ) (hs : Γ[j]? = some (hold s v0) := by rfl) (hN : ∀ i, (Y.X i).N[j]? = some x := by intro _; rfl)
    (hv : ∀ i, Vis (Y.X i).env.scope x := by intro _; first | exact Or.inl rfl | exact Or.inr (Or.inl rfl) | exact Or.inr (Or.inr rfl)) (hd : (x == ("__debug__" : Str)) = false := by decide) (hcd : (x == ("__classdict__" : Str)) = false := by decide) : PL Y (.Name x pos) Γ s (fun s' => Γ.set j (hold s' v0)) := by
  refine ⟨_, fun σ H v => σ[j]? = some (some v), fun i => pe_var (hN i) (hv i) hd hcd, fun σ H H' v _ h => h, fun B F H os σ Q I q => ?_, fun F H os σ v S hv => ?_⟩
  · obtain ⟨o, fp, e, h⟩ := I.slot hs
    obtain ⟨rfl, _⟩ := h
    exact ⟨v0, e, q v0 e⟩
  · obtain ⟨o, fp, r, e, p, q, kk⟩ := S.at hs
    rw [hv] at e; cases e
    obtain ⟨e0, p⟩ := p
    refine ⟨fp, r, q, p, fun F' H' fp' s' hF hk hs' => ?_⟩
    obtain ⟨os', h1, h2⟩ := kk (s' := hold s' v0) ⟨e0, hs'⟩ (fun s0 h0 fp0 o0 hf hp => s0.mm (hst s0 h0) hF (fun z hz => hk z (hf z hz)) hp)
    have es : σ.set j (some v) = σ := by
      obtain ⟨hj, e⟩ := List.getElem?_eq_some_iff.mp hv
      rw [← e]; exact List.set_getElem_self hj
    rw [es] at h1
    exact ⟨os', h1, h2⟩
theorem x_varH {v0 : V} (j : Nat) (hs : Γ[j]? = some (hold (obj C ns Δ) v0) := by rfl) (hN : ∀ i, (Y.X i).N[j]? = some x := by intro _; rfl)
    (hv : ∀ i, Vis (Y.X i).env.scope x := by intro _; first | exact Or.inl rfl | exact Or.inr (Or.inl rfl) | exact Or.inr (Or.inr rfl)) (hd : (x == ("__debug__" : Str)) = false := by decide) (hcd : (x == ("__classdict__" : Str)) = false := by decide) : XV Y (.Name x pos) Γ (bobj C ns Δ) := by
  refine ⟨_, fun i => pe_var (hN i) (hv i) hd hcd, fun B F H os σ Q I q => ?_⟩
  obtain ⟨o, fp, e, _, y, dx, vs, o2, e1, e2, h1, h2, h3, h4⟩ := I.slot hs
  subst e1
  exact ⟨_, e, q _ F H [] same_refl same_refl I.W ⟨rfl, y, dx, vs, o2, rfl, h1, h3, h4⟩⟩
theorem obj_some : ∀ F H fp o, (obj C ns Δ).P F H fp o → ∃ v, o = some v := fun F H fp o h => let ⟨_, _, _, _, e, _⟩ := h; ⟨_, e⟩
theorem val_some {α : Type} {p : VP α} {u : α} : ∀ F H fp o, (val p u).P F H fp o → ∃ v, o = some v := fun F H fp o h => let ⟨_, v, e, _⟩ := h; ⟨v, e⟩

/-! ### defs that change their first argument -/
def spM {ι μ ρ : Type} (s0 : ι → Slot) (As : ι → List Slot) (m : ι → Option (μ × ρ)) (s1 : μ → Slot) (Sr : ρ → Slot) : Sp := fun vs H Q _ => ∃ (z : ι) (r : μ × ρ) (F : Hp) (fp : List Addr) (v0 : V) (ws : List V), vs = v0 :: ws ∧ m z = some r ∧ Wo ⟨F, H, fp⟩ F H fp ∧ (s0 z).P F H fp (some v0) ∧ Slots F H [] (ws.map some) (As z) ∧
  ∀ v F' H' f1 f2, Wo ⟨F, H, fp⟩ F' H' (f2 ++ f1) → (s1 r.1).P F' H' f1 (some v0) → (Sr r.2).P F' H' f2 (some v) → Q v H'
/-- the ends of such a body -/
def DM {μ ρ : Type} (B : Bs) (v0 : V) (s1 : μ → Slot) (Sr : ρ → Slot) (r : μ × ρ) : Ends where
  nx := fun _ H => ∃ F f1 f2, Wo B F H (f2 ++ f1) ∧ (s1 r.1).P F H f1 (some v0) ∧ (Sr r.2).P F H f2 (some .non)
  rt := fun v H => ∃ F f1 f2, Wo B F H (f2 ++ f1) ∧ (s1 r.1).P F H f1 (some v0) ∧ (Sr r.2).P F H f2 (some v)
theorem fn_mut {ι μ ρ : Type} {s0 : ι → Slot} {As : ι → List Slot} {m : ι → Option (μ × ρ)} {s1 : μ → Slot} {Sr : ρ → Slot} {x qual : Str} {st : Stmt} {f : Addr} {fd : FuncData} {N ps : List Str} (Fn : Fun K x qual st f fd) (S : FnScope N ps (defScope st)) (hlen : ∀ z, (As z).length + 1 = ps.length)
    (body : ∀ (cdv : Value) (A : Around) (outer : List Env) (s : Shared) (H : Hp) (E : XK) (hr : Room k (A.deeper (envOfC qual (defScope st) s.heap.objs.size f cdv))) (z : ι) (r : μ × ρ) (v0 : V) (B : Bs), m z = some r →
      Go (fb P w K mg base N qual st f cdv A outer s H E k hr S.nd) () (defBody st) (DM B v0 s1 Sr r) B (hold (s0 z) v0 :: As z ++ List.replicate (N.length - ps.length) dead)) : FnOk P w K mg base CX0 (k + 1) f fd ps (spM s0 As m s1 Sr) := by
  refine Fn.ok S (fun vs H Q E h => ?_) (fun cdv A outer s H vs Q E hr h => ?_)
  · obtain ⟨z, r, F, fp, v0, ws, rfl, _, _, _, Sl, _⟩ := h
    have e := Sl.length
    rw [List.length_map] at e
    rw [List.length_cons, e, hlen]
  · obtain ⟨z, r, F, fp, v0, ws, rfl, hm, hW, hp, Sl, q⟩ := h
    refine ⟨_, pss_cont, ?_⟩
    have go := body cdv A outer s H E hr z r v0 ⟨F, H, fp⟩ hm
    have S0 : Sta ⟨F, H, fp⟩ F H (L2.start N (v0 :: ws)) (hold (s0 z) v0 :: As z ++ List.replicate (N.length - ps.length) dead) := by
      refine ⟨fp, hW, ?_⟩
      unfold L2.start
      have e := Sl.length
      rw [List.length_map] at e
      rw [List.length_cons, e, hlen]
      have e1 := Slots.cons (s := hold (s0 z) v0) ⟨rfl, hp⟩ (Slots.append Sl (slots_dead (F := F) (H := H) (N.length - ps.length)))
      simpa using e1
    exact cont_mono (go F H _ S0) (fun σ H' ⟨F', f1, f2, W', p', q'⟩ => q .non F' H' f1 f2 W' p' q') (fun v H' ⟨F', f1, f2, W', p', q'⟩ => q v F' H' f1 f2 W' p' q') (fun _ _ z => z.elim) (fun _ _ z => z.elim)
/-- the body falls off its end -/
theorem go_nilM {μ ρ : Type} {v0 : V} {s1 : μ → Slot} {Sr : ρ → Slot} {r : μ × ρ} (j : Nat) (hs : Γ[j]? = some (hold (s1 r.1) v0) := by rfl) (hr : ∀ F H, (Sr r.2).P F H [] (some .non) := by intro _ _; exact ⟨rfl, _, rfl, rfl⟩) : Go Y i [] (DM B v0 s1 Sr r) B Γ :=
  go_nil fun σ H ⟨F, os, W, S⟩ => by
    obtain ⟨o, fp, r', e, p, q, _⟩ := S.at hs
    obtain ⟨rfl, p⟩ := p
    exact ⟨F, fp, [], (W.perm q).dropR, p, hr _ _⟩
theorem go_retM {μ ρ : Type} {v0 : V} {s1 : μ → Slot} {Sr : ρ → Slot} {r : μ × ρ} (j : Nat) (h : XV Y e Γ (Sr r.2)) (hs : Γ[j]? = some (hold (s1 r.1) v0) := by rfl) : Go Y i (.Return (some e) pos :: rest) (DM B v0 s1 Sr r) B Γ := by
  obtain ⟨t, p, rd⟩ := h
  refine go_ps (ps_ret (p i)) fun F H σ ⟨os, W, S⟩ => ?_
  refine rd B F H os σ _ (Sta.in W S) fun v F1 H1 fp f1 e1 W1 p1 => ?_
  obtain ⟨o, fp2, r', e, p, q, _⟩ := (S.mono f1 e1).at hs
  obtain ⟨rfl, p⟩ := p
  refine ⟨F1, fp2, fp, ?_, p, p1⟩
  have := W1.perm (List.Perm.append_left fp q)
  rw [← List.append_assoc] at this
  exact this.dropR
/-- behind a call that changes what is at fp -/
theorem Wo.calledM {F H F' H' : Hp} {os fp r fp' : List Addr} (W : Wo B F H os) (hp : os.Perm (fp ++ r)) (W4 : Wo ⟨F, H, fp⟩ F' H' fp') : Same F F' ∧ (∀ q ∈ r, H' q = H q) ∧ Wo B F' H' (fp' ++ r) := by
  have W1 := W.perm hp
  have nd := List.nodup_append.mp W1.nd
  have hr : ∀ q ∈ r, q ∉ fp := fun q hq hf => nd.2.2 q hf q hq rfl
  have hH : ∀ q ∈ r, H' q = H q := fun q hq => by
    obtain ⟨o, ho⟩ := W1.oH q (List.mem_append_right _ hq)
    rw [ho]; exact W4.bH q o ho (hr q hq)
  have own_old : ∀ q ∈ r, F' q = none := fun q hq => by
    cases z : F' q with
    | none => rfl
    | some u =>
      obtain ⟨o, ho⟩ := W1.oH q (List.mem_append_right _ hq)
      rcases W4.bN q u z with y | y | y
      · have y' : F q = some u := y
        rw [W1.oF q (List.mem_append_right _ hq)] at y'; cases y'
      · have y' : H q = none := y
        rw [ho] at y'; cases y'
      · exact absurd y (hr q hq)
  refine ⟨W4.bF, hH, W4.sub, List.nodup_append.mpr ⟨W4.nd, nd.2.1, fun q hq q' hq' e => ?_⟩, fun q hq => ?_, fun q hq => ?_, W.bF.trans W4.bF, fun q u e hb => ?_, fun q u e => ?_, fun q hq => ?_⟩
  · subst e
    rcases W4.bO q hq with y | y
    · have y' : H q = none := y
      obtain ⟨o, ho⟩ := W1.oH q (List.mem_append_right _ hq')
      rw [ho] at y'; cases y'
    · exact hr q hq' y
  · rcases List.mem_append.mp hq with hq | hq
    · exact W4.oF q hq
    · exact own_old q hq
  · rcases List.mem_append.mp hq with hq | hq
    · exact W4.oH q hq
    · obtain ⟨o, ho⟩ := W1.oH q (List.mem_append_right _ hq)
      exact ⟨o, by rw [hH q hq]; exact ho⟩
  · by_cases hf : q ∈ fp
    · exfalso
      rcases W1.bO q (List.mem_append_left _ hf) with z | z
      · rw [z] at e; cases e
      · exact hb z
    · exact W4.bH q u (W.bH q u e hb) hf
  · rcases W4.bN q u e with y | y | y
    · exact W.bN q u y
    · exact .inr (W.bFree y)
    · exact .inr (W1.bO q (List.mem_append_left _ y))
  · rcases List.mem_append.mp hq with hq | hq
    · rcases W4.bO q hq with y | y
      · exact W.bFree y
      · exact W1.bO q (List.mem_append_left _ y)
    · exact W1.bO q (List.mem_append_right _ hq)
theorem Wo.here {F H : Hp} {os fp r : List Addr} (W : Wo B F H os) (hp : os.Perm (fp ++ r)) : Wo ⟨F, H, fp⟩ F H fp := (W.perm hp).dropR.self
theorem lookup_no {vs : List V} (hns : ns.contains f = false) : (ns.zip vs).lookup f = none := zip_lookup_none fun z => by
  have := List.contains_iff_mem.mpr z
  rw [hns] at this; cases this
/-- o.m(e, ..), the answer dropped -/
theorem go_meth {ι μ ρ : Type} {s0 : ι → Slot} {As : ι → List Slot} {m : ι → Option (μ × ρ)} {s1 : μ → Slot} {Sr : ρ → Slot} {args : List Slot} {z : ι} {q : μ × ρ} {j : Nat} {g : Addr} {fd : FuncData} {ps : List Str} {up : Slot → List Slot} {apos cpos : Pos} {pl : Sem Bool}
    (Fn : FnOk P w K mg base CX0 j g fd ps (spM s0 As m s1 Sr)) (hj : j ≤ k) (hc : Cls K C) (hm : Meth K C f g) (hb : Binds K fd ps []) (ho : PL Y eo Γ (obj C ns Δ) up) (h0 : s0 z = obj C ns Δ) (ha : XA Y (e :: es) Γ args) (hargs : args = As z) (hno : NoOwn args) (hq : m z = some q)
    (hg : Go Y i rest D B (up (s1 q.1))) (hns : ns.contains f = false := by decide +kernel)
    (hst : starEach (e :: es) (Y.X i).env = (false, eval e (Y.X i).env) :: starEach es (Y.X i).env := by rfl) (hpl : (backTo cpos (starEach es (Y.X i).env)).any (·.1) = false := by rfl)
    (ht : eval (.Call (.Attribute eo f apos) (e :: es) [] cpos) (Y.X i).env = (do
      let ov ← eval eo (Y.X i).env
      standAt apos.atName
      let (f, first) ← holding [ov] (getMethod ov f pl)
      callWith cpos f first (backTo cpos (starEach (e :: es) (Y.X i).env)) (backToKw cpos (keywordEach [] (Y.X i).env))) := by rfl)
    (hs : swapsWith (.Call (.Attribute eo f apos) (e :: es) [] cpos) none pos.line (Y.X i).env = pure false := by rfl) (hcm : Y.cm = true := by rfl) : Go Y i (.Expr (.Call (.Attribute eo f apos) (e :: es) [] cpos) pos :: rest) D B Γ := by
  subst hargs
  obtain ⟨t, Pv, pe, pst, rd, up'⟩ := ho
  obtain ⟨ta, pa, ra⟩ := ha
  have FF : FnOk (Y.X i).prog (Y.X i).w (Y.X i).K (Y.X i).mg (Y.X i).base CX0 j g fd ps (spM s0 As m s1 Sr) := by rw [Y.hP i, Y.hw i, Y.hK i, Y.hM i, Y.hB i]; exact Fn
  refine go_ps (ps_expr (pe_meth (pl := pl) (pe i) (by rw [Y.hK i]; exact hc) (by rw [Y.hK i]; exact hm) FF ((Y.hR hcm i).mono hj) (by rw [Y.hK i]; exact hb) .nil pass0 (pa i) hst hpl ht) hs) fun F H σ ⟨os, W, S⟩ => ?_
  refine rd B F H os σ _ (Sta.in W S) fun v hv => ?_
  obtain ⟨fp, r2, hr2, hp2, _⟩ := up' F H os σ v S hv
  obtain ⟨x, dx, vs, o3, ex, e2, g1, g2, g3, g4⟩ := hp2
  cases ex
  refine ⟨x, dx, _, rfl, g1, lookup_no hns, ?_⟩
  refine ra B F H os σ _ (Sta.in W S) fun ws F1 H1 fa f1 e1 W1 S1 => ?_
  obtain rfl := hno.nil S1
  obtain ⟨fp, r2, hr2, hp2, kk⟩ := up' F1 H1 os σ _ (S.mono f1 e1) (pst _ _ _ _ e1 hv)
  rw [List.append_nil]
  refine ⟨z, q, F1, fp, _, ws, rfl, hq, W1.here hr2, by rw [h0]; exact hp2, S1, fun v F2 H2 fp1 fp2 W2 p2 _ => ?_⟩
  obtain ⟨c1, c2, W3⟩ := Wo.calledM (os := os) W1 hr2 W2
  obtain ⟨os2, v1, v2⟩ := kk F2 H2 fp1 (s1 q.1) c1 c2 p2
  rw [List.append_assoc] at W3
  exact hg F2 H2 σ ⟨os2, W3.drop.perm v2.symm, v1⟩
/-- C(e, ..): a new instance -/
theorem x_make {ι μ ρ : Type} {s0 : ι → Slot} {As : ι → List Slot} {m : ι → Option (μ × ρ)} {s1 : μ → Slot} {Sr : ρ → Slot} {args : List Slot} {z : ι} {q : μ × ρ} {j : Nat} {g : Addr} {fd : FuncData} {ps : List Str}
    (Fn : FnOk P w K mg base CX0 j g fd ps (spM s0 As m s1 Sr)) (hj : j + 1 ≤ k) (M : Mk K C g) (hm : mg x = some (.ref C)) (hb : Binds K fd ps []) (ha : XA Y (e :: es) Γ args) (hargs : args = As z) (hno : NoOwn args) (h0 : s0 z = obj C [] []) (hq : m z = some q) (hr : Sr q.2 = vNon)
    (hg : ∀ i, Gl (Y.X i) x := by intro _; rfl) (hdb : (x == ("__debug__" : Str)) = false := by decide)
    (he : ∀ i, starEach (e :: es) (Y.X i).env = (false, eval e (Y.X i).env) :: starEach es (Y.X i).env := by intro _; rfl) (hpl : ∀ i, (backTo pos (starEach es (Y.X i).env)).any (·.1) = false := by intro _; rfl) (hcm : Y.cm = true := by rfl) : XV Y (.Call (.Name x p') (e :: es) [] pos) Γ (s1 q.1) := by
  subst hargs
  obtain ⟨t, pa, rd⟩ := ha
  have FF : ∀ i, FnOk (Y.X i).prog (Y.X i).w (Y.X i).K (Y.X i).mg (Y.X i).base CX0 j g fd ps (spM s0 As m s1 Sr) := fun i => by rw [Y.hP i, Y.hw i, Y.hK i, Y.hM i, Y.hB i]; exact Fn
  refine ⟨_, fun i => pe_make (by rw [Y.hK i]; exact M) (FF i) ((Y.hR hcm i).mono hj) (hg i) (by rw [Y.hM i]; exact hm) (by rw [Y.hK i]; exact hb) .nil pass0 (pa i) hdb (he i) (hpl i), fun B F H os σ Q I kk => ?_⟩
  refine rd B F H os σ _ I fun vs F1 H1 fp f1 e1 W1 S1 => ?_
  obtain rfl := hno.nil S1
  intro a dx ha hdx hne
  rw [List.append_nil]
  have hdx' : (upd H1 dx (.own a)) a = none := by rw [upd_ne (fun z => hne z.symm)]; exact ha
  have W1' : Wo B F1 H1 os := W1
  have W2 : Wo B F1 (upd (upd H1 dx (.own a)) a (.ins C dx [])) (a :: dx :: os) := (W1'.newO hdx).newO hdx'
  have e3 : Same H1 (upd (upd H1 dx (.own a)) a (.ins C dx [])) := (same_upd hdx).trans (same_upd hdx')
  refine ⟨z, q, F1, [a, dx], .ref a, vs, rfl, hq, W2.here (fp := [a, dx]) (r := os) (.refl _), ?_, S1.mono same_refl e3, fun v F2 H2 fp1 fp2 W3 p2 p3 => ?_⟩
  · rw [h0]
    exact ⟨a, dx, [], [], rfl, rfl, upd_same, by rw [upd_ne hne]; exact upd_same, rfl, .nil⟩
  · rw [hr] at p3
    obtain ⟨rfl, rv⟩ := val_P p3
    refine ⟨rv, ?_⟩
    obtain ⟨c1, c2, W4⟩ := Wo.calledM (os := a :: dx :: os) (fp := [a, dx]) (r := os) W2 (.refl _) W3
    refine kk _ F2 H2 fp1 (f1.trans c1) (e1.trans ?_) W4 p2
    intro b u hb
    refine W3.bH b u (e3 b u hb) ?_
    intro hm
    rcases List.mem_cons.mp hm with rfl | hm
    · rw [ha] at hb; cases hb
    · obtain rfl := List.mem_singleton.mp hm
      rw [hdx] at hb; cases hb
end
end Ty

/-! Ty8 -/
namespace Ty
open PySem PySem.Spec L2
open PyProof.Rows (envOfC)
section
variable {P : Program} {w : World} {K : PySem.W.Frag} {mg : Str → Option Value} {base : Heap} {k : Nat}
variable {Y : Fa P w K mg base k} {i : Y.I} {e ea eb eo ev tg iter elt : Expr} {es ifs : List Expr} {rest body : List Stmt} {Γ Γ' Γ1 Γ2 Δ Δ' : List Slot} {a b c r s s' : Slot} {pos : Pos} {B : Bs} {D : Ends} {x f : Str} {p' : Pos} {C : Addr} {ns : List Str}

/-! ### dicts -/
/-- a kind of key: ints, texts, or tuples of them -/
structure DQ (κ : Type) where
  pk : VP κ
  T : Type
  dT : DecidableEq T
  enc : κ → T
  inj : ∀ a b, enc a = enc b → a = b
  ho : List (T × V) → HO
  hinj : ∀ a b, ho a = ho b → a = b
  get : ∀ {F H : Hp} {a : Addr} {v : V} {k : κ} {kvs : List (T × V)}, Same F H → pk.R F v k → H a = some (ho kvs) → DGet H a v (valV kvs (enc k))
  put : ∀ {F H : Hp} {a : Addr} {v y : V} {k : κ} {kvs : List (T × V)}, Same F H → pk.R F v k → H a = some (ho kvs) → kvs.length < sizeLine → DPut H a v y (upd H a (ho (putK kvs (enc k) y)))
instance {κ : Type} (q : DQ κ) : DecidableEq q.T := q.dT
def dInt : DQ Int where
  pk := pInt
  T := Key
  dT := inferInstance
  enc := fun i => .inl i
  inj := fun a b h => Sum.inl.inj h
  ho := .dK
  hinj := fun a b h => by injection h
  get := fun _ hv h => by cases hv; exact DGet.k (k := .inl _) h
  put := fun _ hv h hl => by cases hv; exact DPut.k (k := .inl _) h hl
def dStr : DQ Str where
  pk := pStr
  T := Key
  dT := inferInstance
  enc := fun i => .inr i
  inj := fun a b h => Sum.inr.inj h
  ho := .dK
  hinj := fun a b h => by injection h
  get := fun _ hv h => by cases hv; exact DGet.k (k := .inr _) h
  put := fun _ hv h hl => by cases hv; exact DPut.k (k := .inr _) h hl
/-- keys that are tuples -/
def dTup {κ : Type} (pk : VP κ) (enc : κ → List Key) (inj : ∀ a b, enc a = enc b → a = b) (h : ∀ F v k, pk.R F v k → ∃ b, v = .ref b ∧ F b = some (.tup ((enc k).map kV))) : DQ κ where
  pk := pk
  T := List Key
  dT := inferInstance
  enc := enc
  inj := inj
  ho := .dT
  hinj := fun a b h => by injection h
  get := fun hS hv hd => by obtain ⟨b, rfl, hb⟩ := h _ _ _ hv; exact DGet.t hd (hS _ _ hb)
  put := fun hS hv hd hl => by obtain ⟨b, rfl, hb⟩ := h _ _ _ hv; exact DPut.t hd (hS _ _ hb) hl
def dII : DQ (Int × Int) := dTup (pT2 pInt pInt) (fun x => [.inl x.1, .inl x.2]) (fun a b h => by simp at h; exact Prod.ext h.1 h.2) fun F v k h => by
  obtain ⟨l, a, b, rfl, h1, h2, h3⟩ := h
  cases h2; cases h3
  exact ⟨l, rfl, h1⟩
theorem map_inl_inj : ∀ {a b : List Int}, a.map (fun i => (Sum.inl i : Key)) = b.map Sum.inl → a = b
  | [], [], _ => rfl
  | [], _ :: _, h => by simp at h
  | _ :: _, [], h => by simp at h
  | x :: a, y :: b, h => by
    simp only [List.map_cons, List.cons.injEq, Sum.inl.injEq] at h
    rw [h.1, map_inl_inj h.2]
def dInts : DQ (List Int) := dTup (pTup pInt) (fun x => x.map Sum.inl) (fun a b h => map_inl_inj h) fun F v k h => by
  obtain ⟨l, vs, rfl, h1, h2⟩ := h
  refine ⟨l, rfl, ?_⟩
  rw [h1, map_int_of h2, List.map_map]; rfl
section
variable {κ β α : Type} [DecidableEq κ]
def dget (kvs : List (κ × β)) (k : κ) : Option β := (kvs.find? fun kv => decide (kv.1 = k)).map (·.2)
def dput (kvs : List (κ × β)) (k : κ) (v : β) : List (κ × β) := if (kvs.any fun kv => decide (kv.1 = k)) = true then kvs.map (fun kv => if kv.1 = k then (kv.1, v) else kv) else kvs ++ [(k, v)]
variable {q : DQ κ} {p : VP β}
abbrev DRel (q : DQ κ) (p : VP β) (F : Hp) (vs : List (q.T × V)) (kvs : List (κ × β)) : Prop := Paired (fun a b => a.1 = q.enc b.1 ∧ p.R F a.2 b.2) vs kvs
theorem dget_some {F : Hp} {vs : List (q.T × V)} {kvs : List (κ × β)} (h : DRel q p F vs kvs) {k : κ} {u : β} (hu : dget kvs k = some u) : ∃ v, valV vs (q.enc k) = some v ∧ p.R F v u := by
  unfold DRel at h
  induction h with
  | nil => cases hu
  | @cons a b as bs hab _ ih =>
    by_cases e : b.1 = k
    · have : a.1 = q.enc k := by rw [hab.1, e]
      refine ⟨a.2, valV_pos this, ?_⟩
      have : b.2 = u := by simpa [dget, List.find?_cons, e] using hu
      rw [← this]; exact hab.2
    · have : ¬ a.1 = q.enc k := fun z => e (q.inj _ _ (by rw [← hab.1, z]))
      rw [valV_neg this]
      exact ih (by simpa [dget, List.find?_cons, e] using hu)
theorem dget_none {F : Hp} {vs : List (q.T × V)} {kvs : List (κ × β)} (h : DRel q p F vs kvs) {k : κ} (hu : dget kvs k = none) : valV vs (q.enc k) = none := by
  unfold DRel at h
  induction h with
  | nil => rfl
  | @cons a b as bs hab _ ih =>
    by_cases e : b.1 = k
    · simp [dget, List.find?_cons, e] at hu
    · have : ¬ a.1 = q.enc k := fun z => e (q.inj _ _ (by rw [← hab.1, z]))
      rw [valV_neg this]
      exact ih (by simpa [dget, List.find?_cons, e] using hu)
theorem dget_isSome {F : Hp} {vs : List (q.T × V)} {kvs : List (κ × β)} (h : DRel q p F vs kvs) (k : κ) : (valV vs (q.enc k)).isSome = (dget kvs k).isSome := by
  cases e : dget kvs k with
  | none => rw [dget_none h e]; rfl
  | some u =>
    obtain ⟨v, hv, _⟩ := dget_some h e
    rw [hv]; rfl
theorem drel_any {F : Hp} {vs : List (q.T × V)} {kvs : List (κ × β)} (h : DRel q p F vs kvs) (k : κ) : (vs.any fun kv => decide (kv.1 = q.enc k)) = kvs.any fun kv => decide (kv.1 = k) := by
  unfold DRel at h
  induction h with
  | nil => rfl
  | @cons a b as bs hab _ ih =>
    rw [List.any_cons, List.any_cons, ih]
    congr 1
    by_cases e : b.1 = k
    · simp [e, hab.1]
    · have : ¬ a.1 = q.enc k := fun z => e (q.inj _ _ (by rw [← hab.1, z]))
      simp [e, this]
theorem drel_put {F : Hp} {vs : List (q.T × V)} {kvs : List (κ × β)} (h : DRel q p F vs kvs) (k : κ) {v : V} {u : β} (hv : p.R F v u) : DRel q p F (putK vs (q.enc k) v) (dput kvs k u) := by
  unfold putK dput
  rw [drel_any h k]
  by_cases hc : (kvs.any fun kv => decide (kv.1 = k)) = true
  · rw [if_pos hc, if_pos hc]
    clear hc
    unfold DRel at h ⊢
    induction h with
    | nil => exact .nil
    | @cons a b as bs hab _ ih =>
      rw [List.map_cons, List.map_cons]
      refine .cons ?_ ih
      by_cases e : b.1 = k
      · have : a.1 = q.enc k := by rw [hab.1, e]
        rw [if_pos e, if_pos this]
        exact ⟨hab.1, hv⟩
      · have : ¬ a.1 = q.enc k := fun z => e (q.inj _ _ (by rw [← hab.1, z]))
        rw [if_neg e, if_neg this]
        exact hab
  · rw [if_neg hc, if_neg hc]
    exact Paired.app h (.cons ⟨rfl, hv⟩ .nil)
theorem drel_mono {F F' : Hp} (hF : Same F F') {vs : List (q.T × V)} {kvs : List (κ × β)} (h : DRel q p F vs kvs) : DRel q p F' vs kvs := Paired.mon (fun _ _ r => ⟨r.1, p.mono hF r.2⟩) h
/-- an owned dict -/
def oD (q : DQ κ) (p : VP β) : OP (List (κ × β)) where
  P := fun F H fp v kvs => ∃ d vs, v = .ref d ∧ fp = [d] ∧ H d = some (q.ho vs) ∧ DRel q p F vs kvs
  mono := fun hF hH h => let ⟨d, vs, e, ef, h1, h2⟩ := h; ⟨d, vs, e, ef, hH _ _ h1, drel_mono hF h2⟩
  mm := fun hF hH h => let ⟨d, vs, e, ef, h1, h2⟩ := h; ⟨d, vs, e, ef, by rw [hH d (by rw [ef]; exact List.mem_cons_self)]; exact h1, drel_mono hF h2⟩
/-- a dict that is looked at -/
def borD (q : DQ κ) (p : VP β) (kvs : List (κ × β)) : Slot where
  P := fun F H fp o => fp = [] ∧ ∃ d vs, o = some (.ref d) ∧ H d = some (q.ho vs) ∧ DRel q p F vs kvs
  mono := fun hF hH h => let ⟨ef, d, vs, e, h1, h2⟩ := h; ⟨ef, d, vs, e, hH _ _ h1, drel_mono hF h2⟩
  st := False
  mm := fun h => h.elim
/-- a frozen dict -/
def pD (q : DQ κ) (p : VP β) : VP (List (κ × β)) where
  R := fun F v kvs => ∃ d vs, v = .ref d ∧ F d = some (q.ho vs) ∧ DRel q p F vs kvs
  mono := fun hF h => let ⟨d, vs, e, h1, h2⟩ := h; ⟨d, vs, e, hF _ _ h1, drel_mono hF h2⟩
def DV (s : Slot) (q : DQ κ) (p : VP β) (kvs : List (κ × β)) : Prop := ∀ F H fp o, Same F H → s.P F H fp o → ∃ d vs, o = some (.ref d) ∧ H d = some (q.ho vs) ∧ DRel q p F vs kvs
theorem DV.own {kvs : List (κ × β)} : DV (Ty.own (oD q p) kvs) q p kvs := fun F H fp o _ h => let ⟨v, e, d, vs, ev, _, h1, h2⟩ := h; ⟨d, vs, by rw [e, ev], h1, h2⟩
theorem DV.bor {kvs : List (κ × β)} : DV (borD q p kvs) q p kvs := fun F H fp o _ h => let ⟨_, d, vs, e, h1, h2⟩ := h; ⟨d, vs, e, h1, h2⟩
theorem DV.val {kvs : List (κ × β)} : DV (Ty.val (pD q p) kvs) q p kvs := fun F H fp o hS h => let ⟨_, v, e, d, vs, ev, h1, h2⟩ := h; ⟨d, vs, by rw [e, ev], hS _ _ h1, h2⟩
theorem WkS.dict {kvs : List (κ × β)} : WkS (Ty.own (oD q p) kvs) (Ty.val (pD q p) kvs) := fun F H fp o _ h => by
  obtain ⟨v, e, l, vs, el, ef, h1, h2⟩ := h
  subst ef
  exact ⟨[l], [], rfl, fun F' hF hs hx => ⟨rfl, v, e, l, vs, el, by rw [hx l List.mem_cons_self]; exact h1, drel_mono hF h2⟩⟩
theorem x_varD {kvs : List (κ × β)} (j : Nat) (hs : Γ[j]? = some (Ty.own (oD q p) kvs) := by rfl) (hN : ∀ i, (Y.X i).N[j]? = some x := by intro _; rfl)
    (hv : ∀ i, Vis (Y.X i).env.scope x := by intro _; first | exact Or.inl rfl | exact Or.inr (Or.inl rfl) | exact Or.inr (Or.inr rfl)) (hd : (x == ("__debug__" : Str)) = false := by decide) (hcd : (x == ("__classdict__" : Str)) = false := by decide) : XV Y (.Name x pos) Γ (borD q p kvs) := by
  refine ⟨_, fun i => pe_var (hN i) (hv i) hd hcd, fun B F H os σ Q I q => ?_⟩
  obtain ⟨o, fp, e, v, ev, l, vs, el, _, h1, h2⟩ := I.slot hs
  subst ev; subst el
  exact ⟨_, e, q _ F H [] same_refl same_refl I.W ⟨rfl, l, vs, rfl, h1, h2⟩⟩
theorem x_fldD {kvs : List (κ × β)} (j : Nat) (he : XV Y e Γ s) (ho : OV s C ns Δ) (hA : At K C f) (hj : Δ[j]? = some (Ty.own (oD q p) kvs) := by rfl) (hn : ns[j]? = some f := by rfl) (nd : ns.Nodup := by decide +kernel) (hb : ∀ i, attributeBase e f (Y.X i).env (eval e (Y.X i).env) = eval e (Y.X i).env := by intro _; rfl) : XV Y (.Attribute e f pos) Γ (borD q p kvs) := by
  obtain ⟨t, pe, rd⟩ := he
  refine ⟨_, fun i => by have h := pe_fld (pos := pos) (pe i) (hb i); rw [Y.hK i] at h; exact h, fun B F H os σ Q I q => ?_⟩
  refine rd B F H os σ _ I fun v F1 H1 fp f1 e1 W1 p1 => ?_
  obtain ⟨x, dx, vs, o2, ev, h1, h2, h3⟩ := ho F1 H1 fp _ W1.sub p1
  cases ev
  obtain ⟨o, fp', r', e3, p3, _, _⟩ := h3.at hj
  obtain ⟨v', ev, l, ws, el, ef, g1, g2⟩ := p3
  subst ev
  have e4 : vs[j]? = some v' := by
    rw [List.getElem?_map] at e3
    obtain ⟨y, hy, ey⟩ := Option.map_eq_some_iff.mp e3
    cases ey; exact hy
  exact ⟨x, C, dx, _, v', rfl, h1, hA.cl, hA.no, zip_lookup nd h2 hn e4, q v' F1 H1 [] f1 e1 W1.drop ⟨rfl, l, ws, by rw [el], g1, g2⟩⟩
theorem Fa.u1 (Y : Fa P w K mg base k) (i : Y.I) : (Y.X i).A.units + 1 < cLine := by have := Y.hU i; omega
/-- d[k] -/
theorem x_dget {kvs : List (κ × β)} {z : κ} {u : β} (ha : XV Y ea Γ s) (hs : DV s q p kvs) (hb : XV Y eb Γ (val q.pk z)) (hz : dget kvs z = some u) (hx : NoSl eb := by exact fun _ _ => rfl) : XV Y (.Subscript ea eb pos) Γ (val p u) := by
  obtain ⟨ta, pa, ra⟩ := ha
  obtain ⟨tb, pb, rb⟩ := hb
  refine ⟨_, fun i => pe_dget (Y.u1 i) (pa i) (pb i) hx, fun B F H os σ Q I kk => ?_⟩
  refine two (Q := fun _ _ => True) I ra rb fun x y F2 H2 fx fy f2 e2 W2 p1 p2 => ?_
  obtain ⟨d, vs, ev, h1, h2⟩ := hs F2 H2 fx _ W2.sub p1
  cases ev
  obtain ⟨v, hv, rv⟩ := dget_some h2 hz
  have g := q.get W2.sub (val_P p2).2 h1
  rw [hv] at g
  exact ⟨d, v, rfl, g, kk v F2 H2 [] f2 e2 W2.drop.drop ⟨rfl, _, rfl, rv⟩⟩
theorem in_run {kvs : List (κ × β)} {z : κ} (hs : DV s q p kvs) {B : Bs} {F H : Hp} {fx fy os : List Addr} {xv yv : V} (W : Wo B F H (fy ++ (fx ++ os))) (p1 : (val q.pk z).P F H fx (some xv)) (p2 : s.P F H fy (some yv)) : ∃ d, yv = .ref d ∧ ∃ o, DGet H d xv o ∧ o.isSome = (dget kvs z).isSome := by
  obtain ⟨d, vs, ev, h1, h2⟩ := hs F H fy _ W.sub p2
  cases ev
  exact ⟨d, rfl, _, q.get W.sub (val_P p1).2 h1, dget_isSome h2 z⟩
theorem x_din {kvs : List (κ × β)} {z : κ} {t : Bool} (ha : XV Y ea Γ (val q.pk z)) (hb : XV Y eb Γ s) (hs : DV s q p kvs) (ht : t = (dget kvs z).isSome) (hm : behindInMarks .In eb = false := by with_unfolding_all rfl) : XV Y (.Compare ea [.In] [eb] pos) Γ (vBl t) := by
  obtain ⟨ta, pa, ra⟩ := ha
  obtain ⟨tb, pb, rb⟩ := hb
  refine ⟨_, fun i => pe_cmp (pc_din (Y.u1 i) (pa i) (pb i)) hm, fun B F H os σ Q I kk => ?_⟩
  refine two (Q := fun _ _ => True) I ra rb fun x y F2 H2 fx fy f2 e2 W2 p1 p2 => ?_
  obtain ⟨d, rfl, o, g, eo⟩ := in_run hs W2 p1 p2
  exact ⟨d, o, rfl, g, kk _ F2 H2 [] f2 e2 W2.drop.drop ⟨rfl, _, rfl, by rw [eo, ht]; rfl⟩⟩
theorem xt_din {kvs : List (κ × β)} {z : κ} {t : Bool} (ha : XV Y ea Γ (val q.pk z)) (hb : XV Y eb Γ s) (hs : DV s q p kvs) (ht : t = (dget kvs z).isSome) (hm : behindInMarks .In eb = false := by with_unfolding_all rfl) : XT Y (.Compare ea [.In] [eb] pos) Γ t := by
  obtain ⟨ta, pa, ra⟩ := ha
  obtain ⟨tb, pb, rb⟩ := hb
  refine ⟨_, fun i => pt_cmp (pc_din (Y.u1 i) (pa i) (pb i)) hm, fun B F H os σ Q I kk => ?_⟩
  refine two (Q := fun _ _ => True) I ra rb fun x y F2 H2 fx fy f2 e2 W2 p1 p2 => ?_
  obtain ⟨d, rfl, o, g, eo⟩ := in_run hs W2 p1 p2
  refine ⟨d, o, rfl, g, _, rfl, ?_⟩
  rw [eo, ← ht]
  exact kk F2 H2 f2 e2 W2.drop.drop
theorem x_dnin {kvs : List (κ × β)} {z : κ} {t : Bool} (ha : XV Y ea Γ (val q.pk z)) (hb : XV Y eb Γ s) (hs : DV s q p kvs) (ht : t = !(dget kvs z).isSome) (hm : behindInMarks .NotIn eb = false := by with_unfolding_all rfl) : XV Y (.Compare ea [.NotIn] [eb] pos) Γ (vBl t) := by
  obtain ⟨ta, pa, ra⟩ := ha
  obtain ⟨tb, pb, rb⟩ := hb
  refine ⟨_, fun i => pe_cmp (pc_dnotin (Y.u1 i) (pa i) (pb i)) hm, fun B F H os σ Q I kk => ?_⟩
  refine two (Q := fun _ _ => True) I ra rb fun x y F2 H2 fx fy f2 e2 W2 p1 p2 => ?_
  obtain ⟨d, rfl, o, g, eo⟩ := in_run hs W2 p1 p2
  exact ⟨d, o, rfl, g, kk _ F2 H2 [] f2 e2 W2.drop.drop ⟨rfl, _, rfl, by rw [eo, ht]; rfl⟩⟩
theorem xt_dnin {kvs : List (κ × β)} {z : κ} {t : Bool} (ha : XV Y ea Γ (val q.pk z)) (hb : XV Y eb Γ s) (hs : DV s q p kvs) (ht : t = !(dget kvs z).isSome) (hm : behindInMarks .NotIn eb = false := by with_unfolding_all rfl) : XT Y (.Compare ea [.NotIn] [eb] pos) Γ t := by
  obtain ⟨ta, pa, ra⟩ := ha
  obtain ⟨tb, pb, rb⟩ := hb
  refine ⟨_, fun i => pt_cmp (pc_dnotin (Y.u1 i) (pa i) (pb i)) hm, fun B F H os σ Q I kk => ?_⟩
  refine two (Q := fun _ _ => True) I ra rb fun x y F2 H2 fx fy f2 e2 W2 p1 p2 => ?_
  obtain ⟨d, rfl, o, g, eo⟩ := in_run hs W2 p1 p2
  refine ⟨d, o, rfl, g, _, rfl, ?_⟩
  rw [eo, ← ht]
  exact kk F2 H2 f2 e2 W2.drop.drop
/-- d[k] = v -/
theorem go_dput {up : Slot → List Slot} {pos' : Pos} {kvs : List (κ × β)} {z : κ} {u : β} (ho : PL Y eo Γ (Ty.own (oD q p) kvs) up) (hi : XV Y eb Γ (val q.pk z)) (he : XV Y e Γ (val p u)) (hz : kvs.length < sizeLine) (hg : Go Y i rest D B (up (Ty.own (oD q p) (dput kvs z u))))
    (hs : swapsWith e (some (.Subscript eo eb pos')) pos.line (Y.X i).env = pure false := by rfl) : Go Y i (.Assign [.Subscript eo eb pos'] e pos :: rest) D B Γ := by
  obtain ⟨t, Pv, pe, pst, rd, up'⟩ := ho
  obtain ⟨t2, pe2, rd2⟩ := he
  obtain ⟨t3, pe3, rd3⟩ := hi
  refine go_ps (ps_dput (Y.u1 i) (pe i) (pe3 i) (pe2 i) hs) fun F H σ ⟨os, W, S⟩ => ?_
  refine rd2 B F H os σ _ (Sta.in W S) fun y F1 H1 fy f1 e1 W1 p1 => ?_
  have I1 := (Sta.in W S).step f1 e1 W1
  refine rd B F1 H1 _ σ _ I1 fun v hv => ?_
  refine rd3 B F1 H1 _ σ _ I1 fun y2 F2 H2 fy2 f2 e2 W2 p2 => ?_
  have ry := (val_P ((val p u).mono f2 e2 p1)).2
  obtain ⟨fp1, r1, hr1, hp1, kk1⟩ := up' F2 H2 os σ _ (S.mono (f1.trans f2) (e1.trans e2)) (pst _ _ _ _ e2 hv)
  obtain ⟨v1, ev1, l1, vs1, el1, ef1, g1, g2⟩ := hp1
  cases ev1; subst el1; subst ef1
  refine ⟨l1, _, rfl, q.put W2.sub (val_P p2).2 g1 (by rw [Paired.length g2]; exact hz), ?_⟩
  exact hg F2 _ σ (pl_write (fy := fy2 ++ fy) (by rw [List.append_assoc]; exact W2) hr1 ⟨_, rfl, l1, _, rfl, rfl, upd_same, drel_put g2 z ry⟩ kk1)
end
/-- {} -/
theorem x_dnewK {κ β : Type} [DecidableEq κ] {q : DQ κ} {p : VP β} (h0 : q.ho [] = .dK []) : XV Y (.Dict [] [] pos) Γ (own (oD q p) ([] : List (κ × β))) :=
  ⟨_, fun i => pe_dnewK, fun B F H os σ Q I kk l hl => kk _ F _ [l] same_refl (same_upd hl) (I.W.newO hl) ⟨_, rfl, l, [], rfl, rfl, by rw [h0]; exact upd_same, .nil⟩⟩
theorem x_dnewT {κ β : Type} [DecidableEq κ] {q : DQ κ} {p : VP β} (h0 : q.ho [] = .dT []) : XV Y (.Dict [] [] pos) Γ (own (oD q p) ([] : List (κ × β))) :=
  ⟨_, fun i => pe_dnewT, fun B F H os σ Q I kk l hl => kk _ F _ [l] same_refl (same_upd hl) (I.W.newO hl) ⟨_, rfl, l, [], rfl, rfl, by rw [h0]; exact upd_same, .nil⟩⟩
/-- {k: v}, the key a tuple -/
def tDisp1T (tk tv : TE) : TE := fun σ H Q => ∀ p, H p = none → tk σ (upd H p (.dT [])) fun x H1 => tv σ H1 fun y H2 => ∃ b ks, x = .ref b ∧ H2 p = some (.dT []) ∧ H2 b = some (.tup (ks.map kV)) ∧ Q (.ref p) (upd H2 p (.dT [(ks, y)]))
theorem pe_disp1T {X : Cx} {ek ev : Expr} {tk tv : TE} {pos : Pos} (hu : X.A.units < cLine) (hk : PE X ek tk) (hv : PE X ev tv) : PE X (.Dict [some ek] [ev] pos) (tDisp1T tk tv) := by
  refine ⟨fun pins s σ H Q I q => ?_⟩
  have hn := I.hok.fresh (Nat.le_refl s.heap.objs.size)
  have I1 := I.laid (a := s.heap.objs.size) (o := .dT []) (h' := s.heap.push { cls := .type "dict", data := .dict #[] }) (t' := s.toks) (fun _ _ q => Heap.get?_push_of_some _ q) (Nat.le_refl _) (dt_empty s.heap I.big)
  refine wpAny_Dict_any rfl rfl (by simp) (by simp) (pairTrees_cons_walk (thn (hk.run pins _ σ _ _ I1 (q _ hn)) fun u s1 ⟨x, H1, I2, rx, q1⟩ => thn (hv.run pins s1 σ H1 _ I2 q1) fun w2 s2 ⟨y, H2, I3, ry, b, ks, ex, e, eb, q2⟩ => pairTrees_nil_walk ?_))
  subst ex
  cases (show u = Value.ref b from rx)
  obtain ⟨z, hd, xs, rel, dd⟩ := dt_of I3.hok e
  cases rel
  show wpAny _ _ (storeAll s.heap.objs.size [(Value.ref b, w2)]) _ _ s2
  unfold storeAll
  rw [List.forIn_cons]
  refine wpAny_bind (wpAny_bind (wpAny_dictSet_heap (knd := tupleKind (mixKind X.prog X.w)) (hsz := by rw [sizeLine_eq]; decide) hu (key_of I3.hok eb) dd fun h' dd' hs => wpAny_pure ?_))
  show wpAny _ _ (forIn [] _ _) _ _ _
  rw [List.forIn_nil]
  refine wpAny_pure ⟨.ref s.heap.objs.size, _, ?_, rfl, q2⟩
  obtain ⟨q', es', ep, hq, h2, h3, h4, _, h5⟩ := dd'
  refine d_write I3 (by rw [e]; exact True.intro) hs ⟨q', hq⟩ ⟨by rw [sizeLine_eq]; show 1 ≤ 16777216; decide, hd, _, ((KT.put (kvs := []) (xs := []) .nil ks eb ry).keeps fun c ys ec => ?_), q', es', ep, hq, h2, h3, h4, h5⟩
  rw [upd_ne (ne_of ec e (fun z => nomatch z))]
  exact ec
theorem x_disp1T {κ β : Type} [DecidableEq κ] {pk : VP κ} {enc : κ → List Key} {inj : ∀ a b, enc a = enc b → a = b} {h : ∀ F v k, pk.R F v k → ∃ b, v = .ref b ∧ F b = some (.tup ((enc k).map kV))} {p : VP β} {ek ev : Expr} {z : κ} {u : β} (hk : XV Y ek Γ (val pk z)) (hv : XV Y ev Γ (val p u)) :
    XV Y (.Dict [some ek] [ev] pos) Γ (own (oD (dTup pk enc inj h) p) [(z, u)]) := by
  obtain ⟨ta, pa, ra⟩ := hk
  obtain ⟨tb, pb, rb⟩ := hv
  refine ⟨_, fun i => pe_disp1T (by have := Y.hU i; omega) (pa i) (pb i), fun B F H os σ Q I kk l hl => ?_⟩
  have I1 : In B F (upd H l (.dT [])) ([l] ++ os) σ Γ := I.step same_refl (same_upd hl) (I.W.newO hl)
  refine ra B F _ _ σ _ I1 fun x F1 H1 fx f1 e1 W1 p1 => ?_
  obtain ⟨rfl, rx⟩ := val_P p1
  have I2 : In B F1 H1 ([l] ++ os) σ Γ := I1.step0 f1 e1 W1
  refine rb B F1 H1 _ σ _ I2 fun y F2 H2 fy f2 e2 W2 p2 => ?_
  obtain ⟨rfl, ry⟩ := val_P p2
  obtain ⟨b, rfl, hb⟩ := h _ _ _ rx
  have W3 : Wo B F2 H2 ([l] ++ os) := W2
  refine ⟨b, enc z, rfl, e2 _ _ (e1 _ _ upd_same), W3.sub _ _ (f2 _ _ hb), ?_⟩
  refine kk _ F2 _ [l] (f1.trans f2) (fun q u hq => ?_) (W3.write (by simp)) ⟨_, rfl, l, [(enc z, y)], rfl, rfl, upd_same, .cons ⟨rfl, ry⟩ .nil⟩
  rw [upd_ne (ne_of_none hq hl)]
  exact e2 _ _ (e1 _ _ (same_upd hl _ _ hq))

/-! ### None -/
theorem o_isN {α : Type} {q : VP α} {u : α} {z : Bool} (hz : ∀ F v, q.R F v u → decide (v = .non) = z) : Op2 (fun x y H Q => y = .non ∧ Q (.bl (decide (x = .non))) H) (val q u) vNon (vBl z) := fun B F H x y fx fy os Q W p1 p2 kk => by
  obtain ⟨_, r1⟩ := val_P p1
  obtain ⟨_, r2⟩ := val_P p2
  exact ⟨r2, by rw [hz F x r1]; exact kk _ F H [] same_refl same_refl W.drop.drop ⟨rfl, _, rfl, rfl⟩⟩
theorem o_notN {α : Type} {q : VP α} {u : α} {z : Bool} (hz : ∀ F v, q.R F v u → (!decide (v = .non)) = z) : Op2 (fun x y H Q => y = .non ∧ Q (.bl (!decide (x = .non))) H) (val q u) vNon (vBl z) := fun B F H x y fx fy os Q W p1 p2 kk => by
  obtain ⟨_, r1⟩ := val_P p1
  obtain ⟨_, r2⟩ := val_P p2
  exact ⟨r2, by rw [hz F x r1]; exact kk _ F H [] same_refl same_refl W.drop.drop ⟨rfl, _, rfl, rfl⟩⟩
theorem opt_isN {α : Type} {q : VP α} {u : Option α} : ∀ F v, (pOpt q).R F v u → decide (v = .non) = u.isNone := fun F v h => by
  cases u with
  | none => cases h; rfl
  | some a => simp [h.2]
theorem opt_notN {α : Type} {q : VP α} {u : Option α} : ∀ F v, (pOpt q).R F v u → (!decide (v = .non)) = u.isSome := fun F v h => by
  rw [opt_isN F v h]; cases u <;> rfl
theorem opt_get {α : Type} {q : VP α} {u : Option α} {z : α} (hz : u = some z) (h : XV Y e Γ (val (pOpt q) u)) : XV Y e Γ (val q z) := h.as fun F H fp o _ ⟨e1, v, e2, r⟩ => by subst hz; exact ⟨e1, v, e2, r.1⟩

/-! ### isinstance(e, T) -/
def pTy : VP String := ⟨fun _ v t => v = .ty t, fun _ h => h⟩
theorem x_ty {T : String} (hm : mg x = none) (hv : bootBuiltins x = some (.type T)) (hg : ∀ i, Gl (Y.X i) x := by intro _; rfl) (hn : x ≠ "__name__" := by decide) (hd : (x == ("__debug__" : Str)) = false := by decide) : XV Y (.Name x pos) Γ (val pTy T) :=
  ⟨_, fun i => pe_bltn (v := .ty T) (hg i) (by rw [Y.hM]; exact hm) hv rfl hn hd, fun B F H os σ Q I q => q _ F H [] same_refl same_refl I.W ⟨rfl, _, rfl, rfl⟩⟩
/-- a value's type -/
def TyV (K : PySem.W.Frag) (s : Slot) (T : String) : Prop := ∀ F H fp o, Same F H → s.P F H fp o → ∃ v, o = some v ∧ TyX K H v (.type T)
theorem LV.ty {α : Type} {s : Slot} {p : VP α} {xs : List α} (h : LV s p xs) : TyV K s "list" := fun F H fp o hS hp => let ⟨l, vs, e, h1, _⟩ := h F H fp o hS hp; ⟨_, e, .base (.lst h1)⟩
theorem TV.ty {α : Type} {s : Slot} {p : VP α} {xs : List α} (h : TV s p xs) : TyV K s "tuple" := fun F H fp o hS hp => let ⟨l, vs, e, h1, _⟩ := h F H fp o hS hp; ⟨_, e, .base (.tup h1)⟩
theorem TyV.int {i : Int} : TyV K (vInt i) "int" := fun F H fp o hS hp => let ⟨_, v, e, r⟩ := hp; ⟨v, e, by cases r; exact .base (.int i)⟩
theorem TyV.bl {i : Bool} : TyV K (vBl i) "bool" := fun F H fp o hS hp => let ⟨_, v, e, r⟩ := hp; ⟨v, e, by cases r; exact .base (.bl i)⟩
theorem TyV.str {i : Str} : TyV K (vStr i) "str" := fun F H fp o hS hp => let ⟨_, v, e, r⟩ := hp; ⟨v, e, by cases r; exact .base (.str i)⟩
theorem TyV.non : TyV K vNon "NoneType" := fun F H fp o hS hp => let ⟨_, v, e, r⟩ := hp; ⟨v, e, by cases r; exact .base .non⟩
theorem c_isi (Y : Fa P w K mg base k) (i : Y.I) : CallR (Y.X i) (.builtin "isinstance") (rIsi K) := by have h := call_isi (X := Y.X i); rw [Y.hK i] at h; exact h
theorem o_isi {T T' : String} {z : Bool} (hs : TyV K s T) (hz : kitB T T' = some z) : OpA (rIsi K) [s, val pTy T'] (vBl z) := opA2 fun B F H x y fx fy os Q W p1 p2 kk => by
  obtain ⟨v, ev, ty⟩ := hs F H fx _ W.sub p1
  cases ev
  obtain ⟨_, r2⟩ := val_P p2
  cases r2
  exact ⟨x, _, _, .type T', z, rfl, .ty T', ty, kit_ty hz, kk _ F H [] same_refl same_refl W.drop.drop ⟨rfl, _, rfl, rfl⟩⟩

/-! ### reversed(list) -/
theorem wk_rev {α : Type} {p : VP α} {xs : List α} {ro : Prop} {F H : Hp} {l : Addr} {vs : List V} (hl : ∀ F1 H1, Same F F1 → (ro → Same H H1) → Same F1 H1 → SqL K H1 l vs) (hp : Paired (p.R F) vs xs) : Wk ro (Itv K l xs.length) F H (xs.reverse.map (val p)) := by
  intro F1 H1 a b c
  have q := hl F1 H1 a b c
  have hlen := Paired.length hp
  refine ⟨by show xs.length ≤ _; simp, fun n r hr => ?_⟩
  rw [List.getElem?_map] at hr
  obtain ⟨x, ex, er⟩ := Option.map_eq_some_iff.mp hr
  have hn : n < xs.length := by
    have := (List.getElem?_eq_some_iff.mp ex).1
    simpa using this
  rw [List.getElem?_reverse hn] at ex
  obtain ⟨v, ev, rv⟩ := paired_at' hp ex
  refine ⟨⟨hn, vs, v, q, ev⟩, fun u H2 y => ?_⟩
  obtain ⟨e1, y⟩ := y
  subst e1
  refine ⟨fun _ _ h => h, fun B os W => ⟨F1, same_refl, W, ?_⟩⟩
  have e2 := y vs q
  rw [ev] at e2
  cases e2
  subst er
  exact ⟨rfl, v, rfl, p.mono a rv⟩
theorem xi_revB {α : Type} {p : VP α} {xs : List α} (hm : mg "reversed" = none) (h : XV Y e Γ (borL p xs)) (hg : ∀ i, Gl (Y.X i) "reversed" := by intro _; rfl) (hs : ∀ i, starEach [e] (Y.X i).env = [(false, eval e (Y.X i).env)] := by intro _; rfl) : XI Y tg (.Call (.Name "reversed" p') [e] [] pos) Γ True (xs.reverse.map (val p)) := by
  obtain ⟨t, pe, rd⟩ := h
  refine ⟨_, fun i => by have := pi_reversed (X := Y.X i) (tg := tg) (p := p') (pos := pos) (hg i) (by rw [Y.hM]; exact hm) (pa_cons (pe i) pa_nil (by rw [hs i]; rfl)) (hs i); rw [Y.hK i] at this; exact this, fun B F H os σ R I kk => ?_⟩
  refine rd B F H os σ _ I fun v F1 H1 fp f1 e1 W1 p1 => ?_
  obtain ⟨_, l, vs, ev, h1, h2⟩ := p1
  cases ev
  refine ⟨l, vs, rfl, SqL.of h1, ?_⟩
  rw [Paired.length h2]
  exact kk _ F1 H1 f1 e1 W1.drop (wk_rev (fun F2 H2 a b c => SqL.of (b trivial _ _ h1)) h2)
theorem xi_rev {α : Type} {p : VP α} {xs : List α} (hm : mg "reversed" = none) (h : XV Y e Γ (val (pL p) xs)) (hg : ∀ i, Gl (Y.X i) "reversed" := by intro _; rfl) (hs : ∀ i, starEach [e] (Y.X i).env = [(false, eval e (Y.X i).env)] := by intro _; rfl) : XI Y tg (.Call (.Name "reversed" p') [e] [] pos) Γ False (xs.reverse.map (val p)) := by
  obtain ⟨t, pe, rd⟩ := h
  refine ⟨_, fun i => by have := pi_reversed (X := Y.X i) (tg := tg) (p := p') (pos := pos) (hg i) (by rw [Y.hM]; exact hm) (pa_cons (pe i) pa_nil (by rw [hs i]; rfl)) (hs i); rw [Y.hK i] at this; exact this, fun B F H os σ R I kk => ?_⟩
  refine rd B F H os σ _ I fun v F1 H1 fp f1 e1 W1 p1 => ?_
  obtain ⟨_, l, vs, ev, h1, h2⟩ := val_P p1
  subst ev
  refine ⟨l, vs, rfl, SqL.of (W1.sub _ _ h1), ?_⟩
  rw [Paired.length h2]
  exact kk _ F1 H1 f1 e1 W1.drop (wk_rev (fun F2 H2 a b c => SqL.of (c _ _ (a _ _ h1))) h2)

/-! ### methods of frozen instances -/
theorem x_meth {ι ρ α : Type} {As : ι → List Slot} {m : ι → Option ρ} {Sr : ρ → Slot} {args : List Slot} {z : ι} {q : ρ} {j : Nat} {g : Addr} {fd : FuncData} {ps : List Str} {sl : α → List Slot} {u : α} {apos : Pos} {pl : Y.I → Sem Bool}
    (Fn : FnOk P w K mg base CX0 j g fd ps (spP As m Sr)) (hj : j ≤ k) (hc : Cls K C) (hm : Meth K C f g) (hb : Binds K fd ps []) (ho : XV Y eo Γ (val (pObj C ns sl) u)) (ha : XA Y (e :: es) Γ args) (hargs : val (pObj C ns sl) u :: args = As z) (hno : NoOwn args) (hq : m z = some q) (hns : ns.contains f = false := by decide +kernel)
    (hst : ∀ i, starEach (e :: es) (Y.X i).env = (false, eval e (Y.X i).env) :: starEach es (Y.X i).env := by intro _; rfl) (hpl : ∀ i, (backTo pos (starEach es (Y.X i).env)).any (·.1) = false := by intro _; rfl)
    (ht : ∀ i, eval (.Call (.Attribute eo f apos) (e :: es) [] pos) (Y.X i).env = (do
      let ov ← eval eo (Y.X i).env
      standAt apos.atName
      let (f, first) ← holding [ov] (getMethod ov f (pl i))
      callWith pos f first (backTo pos (starEach (e :: es) (Y.X i).env)) (backToKw pos (keywordEach [] (Y.X i).env))) := by intro _; rfl) (hcm : Y.cm = true := by rfl) : XV Y (.Call (.Attribute eo f apos) (e :: es) [] pos) Γ (Sr q) := by
  obtain ⟨to, po, ro⟩ := ho
  obtain ⟨t, pa, rd⟩ := ha
  have FF : ∀ i, FnOk (Y.X i).prog (Y.X i).w (Y.X i).K (Y.X i).mg (Y.X i).base CX0 j g fd ps (spP As m Sr) := fun i => by rw [Y.hP i, Y.hw i, Y.hK i, Y.hM i, Y.hB i]; exact Fn
  refine ⟨_, fun i => pe_meth (pl := pl i) (po i) (by rw [Y.hK i]; exact hc) (by rw [Y.hK i]; exact hm) (FF i) ((Y.hR hcm i).mono hj) (by rw [Y.hK i]; exact hb) .nil pass0 (pa i) (hst i) (hpl i) (ht i), fun B F H os σ Q I kk => ?_⟩
  refine ro B F H os σ _ I fun v0 F1 H1 fp f1 e1 W1 p1 => ?_
  obtain ⟨rfl, x, dx, vs, rfl, h1, h3, h4⟩ := val_P p1
  refine ⟨x, dx, _, rfl, W1.sub _ _ h1, lookup_no hns, ?_⟩
  have W1' : Wo B F1 H1 os := W1
  refine rd B F1 H1 os σ _ (I.step0 f1 e1 W1') fun ws F2 H2 fp f2 e2 W2 S2 => ?_
  obtain rfl := hno.nil S2
  rw [List.append_nil]
  have W2' : Wo B F2 H2 os := W2
  refine ⟨z, q, F2, hq, W2'.sub, ?_, fun v F3 H3 fp W3 p3 => ?_⟩
  · rw [← hargs]
    exact Slots.cons (fp := []) ((val (pObj C ns sl) u).mono f2 e2 p1) S2
  · obtain ⟨f3, e3, W4⟩ := W2'.called W3
    exact kk v F3 H3 fp ((f1.trans f2).trans f3) ((e1.trans e2).trans e3) W4 p3
theorem x_meth0 {ι ρ α : Type} {As : ι → List Slot} {m : ι → Option ρ} {Sr : ρ → Slot} {z : ι} {q : ρ} {j : Nat} {g : Addr} {fd : FuncData} {ps : List Str} {sl : α → List Slot} {u : α} {apos : Pos} {pl : Y.I → Sem Bool}
    (Fn : FnOk P w K mg base CX0 j g fd ps (spP As m Sr)) (hj : j ≤ k) (hc : Cls K C) (hm : Meth K C f g) (hb : Binds K fd ps []) (ho : XV Y eo Γ (val (pObj C ns sl) u)) (hargs : [val (pObj C ns sl) u] = As z) (hq : m z = some q) (hns : ns.contains f = false := by decide +kernel)
    (ht : ∀ i, eval (.Call (.Attribute eo f apos) [] [] pos) (Y.X i).env = (do
      let ov ← eval eo (Y.X i).env
      standAt apos.atName
      let (f, first) ← holding [ov] (getMethod ov f (pl i))
      callWith pos f first (backTo pos (starEach [] (Y.X i).env)) (backToKw pos (keywordEach [] (Y.X i).env))) := by intro _; rfl) (hcm : Y.cm = true := by rfl) : XV Y (.Call (.Attribute eo f apos) [] [] pos) Γ (Sr q) := by
  obtain ⟨to, po, ro⟩ := ho
  have FF : ∀ i, FnOk (Y.X i).prog (Y.X i).w (Y.X i).K (Y.X i).mg (Y.X i).base CX0 j g fd ps (spP As m Sr) := fun i => by rw [Y.hP i, Y.hw i, Y.hK i, Y.hM i, Y.hB i]; exact Fn
  refine ⟨_, fun i => pe_meth0 (pl := pl i) (po i) (by rw [Y.hK i]; exact hc) (by rw [Y.hK i]; exact hm) (FF i) ((Y.hR hcm i).mono hj) (by rw [Y.hK i]; exact hb) .nil pass0 (ht i), fun B F H os σ Q I kk => ?_⟩
  refine ro B F H os σ _ I fun v0 F1 H1 fp f1 e1 W1 p1 => ?_
  obtain ⟨rfl, x, dx, vs, rfl, h1, h3, h4⟩ := val_P p1
  refine ⟨x, dx, _, rfl, W1.sub _ _ h1, lookup_no hns, ?_⟩
  have W1' : Wo B F1 H1 os := W1
  refine ⟨z, q, F1, hq, W1'.sub, ?_, fun v F3 H3 fp W3 p3 => ?_⟩
  · rw [← hargs]
    exact Slots.cons (fp := []) p1 .nil
  · obtain ⟨f3, e3, W4⟩ := W1'.called W3
    exact kk v F3 H3 fp (f1.trans f3) (e1.trans e3) W4 p3
end
end Ty

/-! Ty9 -/
namespace Ty
open PySem PySem.Spec L2
open PyProof.Rows (envOfC)
section
variable {P : Program} {w : World} {K : PySem.W.Frag} {mg : Str → Option Value} {base : Heap} {k : Nat}
variable {Y : Fa P w K mg base k} {i : Y.I} {e ea eb eo ev tg iter elt : Expr} {es ifs : List Expr} {rest body : List Stmt} {Γ Γ' Γ1 Γ2 Δ Δ' : List Slot} {a b c r s s' : Slot} {pos : Pos} {B : Bs} {D : Ends} {x f : Str} {p' : Pos} {scope : Scope}
/-! ### small helpers of mirrors -/
def guardO {α : Type} (c : Prop) [Decidable c] (x : Option α) : Option α := if c then x else none
theorem guardO_some {α : Type} {c : Prop} [Decidable c] {x : Option α} {y : α} (h : guardO c x = some y) : c ∧ x = some y := by
  unfold guardO at h
  by_cases hc : c
  · rw [if_pos hc] at h; exact ⟨hc, h⟩
  · rw [if_neg hc] at h; cases h
def lcO {α β : Type} (xs : List α) (f : α → Option (Option β)) : Option (List β) := guardO (xs.length ≤ sizeLine) (fmO xs f)
def rangeO (lo hi : Int) : Option (List Int) := guardO (-(2 ^ 62) ≤ lo ∧ lo < 2 ^ 62 ∧ -(2 ^ 62) ≤ hi ∧ hi < 2 ^ 62) (some (rangeL lo hi))
/-! ### lists of owned things -/
def lstS (Γs : List Slot) : Slot where
  P := fun F H fp o => ∃ l vs os, o = some (.ref l) ∧ fp = l :: os ∧ H l = some (.lst vs) ∧ Slots F H os (vs.map some) Γs
  mono := fun hF hH h => let ⟨l, vs, os, e1, e2, h1, h2⟩ := h; ⟨l, vs, os, e1, e2, hH _ _ h1, h2.mono hF hH⟩
  st := Stb Γs
  mm := fun hs {_ _ _ _ _ _} hF hH h => let ⟨l, vs, os, e1, e2, h1, h2⟩ := h
    ⟨l, vs, os, e1, e2, by rw [hH l (by rw [e2]; simp)]; exact h1, h2.mm hF hs fun q hq => hH q (by rw [e2]; simp [hq])⟩
theorem lstS_some : ∀ F H fp o, (lstS Δ).P F H fp o → ∃ v, o = some v := fun F H fp o h => let ⟨_, _, _, e, _⟩ := h; ⟨_, e⟩
theorem slots_paired {F H : Hp} {α : Type} {q : VP α} : ∀ {vs : List V} {xs : List α} {os : List Addr}, Slots F H os (vs.map some) (xs.map (Ty.val q)) → os = [] ∧ Paired (q.R F) vs xs
  | [], [], _, S => by cases S; exact ⟨rfl, .nil⟩
  | [], _ :: _, _, S => by have e := S.length; simp at e
  | _ :: _, [], _, S => by have e := S.length; simp at e
  | v :: vs, x :: xs, _, S => by
    rw [List.map_cons, List.map_cons] at S
    obtain ⟨f1, f2, rfl, p, S2⟩ := Slots.cons_inv S
    obtain ⟨rfl, r⟩ := val_P p
    obtain ⟨rfl, t⟩ := slots_paired S2
    exact ⟨rfl, .cons r t⟩
theorem wkL_map {α : Type} {g : α → Slot} {q : VP α} (h : ∀ x, WkS (g x) (Ty.val q x)) : ∀ xs : List α, WkL (xs.map g) (xs.map (Ty.val q))
  | [] => .nil
  | x :: xs => .cons (h x) (wkL_map h xs)
theorem WkS.lstS {α : Type} {g : α → Slot} {q : VP α} {xs : List α} (h : ∀ x, WkS (g x) (Ty.val q x)) : WkS (Ty.lstS (xs.map g)) (Ty.val (pL q) xs) := fun F H fp o hS hp => by
  obtain ⟨l, vs, os, e1, e2, h1, h2⟩ := hp
  obtain ⟨xx, yy, hperm, kk⟩ := h2.wk hS (wkL_map h xs)
  obtain ⟨rfl, _⟩ := slots_paired (kk H hS same_refl fun _ _ => rfl)
  subst e2
  refine ⟨l :: os, [], by simp, fun F' hF hs hx => ⟨rfl, _, e1, l, vs, rfl, by rw [hx l (by simp)]; exact h1, (slots_paired (kk F' hF hs fun q hq => hx q ?_)).2⟩⟩
  have := hperm.mem_iff.mpr (by simpa using hq)
  simp [this]
/-- read as data of the whole heap -/
theorem paired_bor {F H : Hp} (hS : Same F H) {α : Type} {g : α → Slot} {q : VP α} (h : ∀ x, Vw (g x) q x) : ∀ {vs : List V} {xs : List α} {os : List Addr}, Slots F H os (vs.map some) (xs.map g) → Paired (q.R H) vs xs
  | [], [], _, _ => .nil
  | [], _ :: _, _, S => by have e := S.length; simp at e
  | _ :: _, [], _, S => by have e := S.length; simp at e
  | v :: vs, x :: xs, _, S => by
    rw [List.map_cons, List.map_cons] at S
    obtain ⟨f1, f2, rfl, p, S2⟩ := Slots.cons_inv S
    obtain ⟨v', ev, rv⟩ := h x F H f1 _ hS p
    cases ev
    exact .cons rv (paired_bor hS h S2)
/-- a name, whatever it owns, looked at as data -/
theorem x_look {α : Type} {q : VP α} {u : α} (j : Nat) (hw : Vw s q u) (hs : Γ[j]? = some s := by rfl) (hN : ∀ i, (Y.X i).N[j]? = some x := by intro _; rfl)
    (hv : ∀ i, Vis (Y.X i).env.scope x := by intro _; first | exact Or.inl rfl | exact Or.inr (Or.inl rfl) | exact Or.inr (Or.inr rfl)) (hd : (x == ("__debug__" : Str)) = false := by decide) (hcd : (x == ("__classdict__" : Str)) = false := by decide) : XV Y (.Name x pos) Γ (bor q u) := by
  refine ⟨_, fun i => pe_var (hN i) (hv i) hd hcd, fun B F H os σ Q I kk => ?_⟩
  obtain ⟨o, fp, e, hp⟩ := I.slot hs
  obtain ⟨v, rfl, rv⟩ := hw F H fp _ I.W.sub hp
  exact ⟨_, e, kk _ F H [] same_refl same_refl I.W ⟨rfl, v, rfl, rv⟩⟩
theorem Vw.lstS {α : Type} {g : α → Slot} {q : VP α} {xs : List α} (h : ∀ x, Vw (g x) q x) : Vw (Ty.lstS (xs.map g)) (pL q) xs := fun F H fp o hS hp => by
  obtain ⟨l, vs, os, e1, e2, h1, h2⟩ := hp
  exact ⟨_, e1, l, vs, rfl, h1, paired_bor hS h h2⟩
theorem LV.look {α : Type} {s : Slot} {p : VP α} {xs : List α} (h : LV s p xs) : Vw s (pL p) xs := h.vw
/-- an item of what is looked at -/
theorem x_ixB {α : Type} {p : VP α} {xs : List α} {z : Int} {u : α} (ha : XV Y ea Γ (bor (pL p) xs)) (hb : XV Y eb Γ (vInt z)) (hz : atI xs z = some u) (hx : PlainIx eb := by exact fun _ _ => rfl) : XV Y (.Subscript ea eb pos) Γ (bor p u) := by
  obtain ⟨ta, pa, ra⟩ := ha
  obtain ⟨tb, pb, rb⟩ := hb
  refine ⟨_, fun i => by have h := ix_list (X := Y.X i); rw [Y.hK i] at h; exact pe_ix h (pa i) (pb i) hx, fun B F H os σ Q I q => ?_⟩
  refine two (Q := fun _ _ => True) I ra rb fun x y F2 H2 fx fy f2 e2 W2 p1 p2 => ?_
  obtain rfl := vint p2
  obtain ⟨_, v, ev, l, vs, rfl, h1, h2⟩ := p1
  cases ev
  obtain ⟨v, hv, rv⟩ := paired_atI h2 hz
  exact ⟨l, vs, z, v, rfl, rfl, SqL.of h1, hv, q v F2 H2 [] f2 e2 W2.drop.drop ⟨rfl, _, rfl, rv⟩⟩
theorem x_ixCB {α β : Type} {q : VP β} {z : Int} {u : β} {t0 : VP α} {y : α} (ht : ∀ F v, t0.R F v y → ∃ l vs v', v = .ref l ∧ F l = some (.tup vs) ∧ atI vs z = some v' ∧ q.R F v' u) (ha : XV Y ea Γ (bor t0 y)) (hb : XV Y eb Γ (vInt z)) (hx : PlainIx eb := by exact fun _ _ => rfl) : XV Y (.Subscript ea eb pos) Γ (bor q u) := by
  obtain ⟨ta, pa, ra⟩ := ha
  obtain ⟨tb, pb, rb⟩ := hb
  refine ⟨_, fun i => by have h := ix_tup (X := Y.X i); rw [Y.hK i] at h; exact pe_ix h (pa i) (pb i) hx, fun B F H os σ Q I kk => ?_⟩
  refine two (Q := fun _ _ => True) I ra rb fun x y F2 H2 fx fy f2 e2 W2 p1 p2 => ?_
  obtain rfl := vint p2
  obtain ⟨_, v, ev, rv⟩ := p1
  cases ev
  obtain ⟨l, vs, v', rfl, h1, hv, rv'⟩ := ht _ _ rv
  exact ⟨l, vs, z, v', rfl, rfl, SqT.of h1, hv, kk v' F2 H2 [] f2 e2 W2.drop.drop ⟨rfl, _, rfl, rv'⟩⟩
theorem t2_fst {α β : Type} {p : VP α} {q : VP β} {y : α × β} : ∀ F v, (pT2 p q).R F v y → ∃ l vs v', v = .ref l ∧ F l = some (.tup vs) ∧ atI vs 0 = some v' ∧ p.R F v' y.1 := fun F v h => let ⟨l, a, b, e, h1, h2, _⟩ := h; ⟨l, [a, b], a, e, h1, rfl, h2⟩
theorem t2_snd {α β : Type} {p : VP α} {q : VP β} {y : α × β} : ∀ F v, (pT2 p q).R F v y → ∃ l vs v', v = .ref l ∧ F l = some (.tup vs) ∧ atI vs 1 = some v' ∧ q.R F v' y.2 := fun F v h => let ⟨l, a, b, e, h1, _, h2⟩ := h; ⟨l, [a, b], b, e, h1, rfl, h2⟩
theorem XV.flat {α : Type} {p : VP α} {u : α} (h : XV Y e Γ (bor p u)) (hf : Flat p) : XV Y e Γ (val p u) := h.as fun F H fp o _ ⟨e1, v, e2, r⟩ => ⟨e1, v, e2, hf _ _ _ _ r⟩
/-- len of what is looked at -/
theorem SV.bor {α : Type} {p : VP α} {xs : List α} (hf : Flat p) : SV K (Ty.bor (pL p) xs) p xs := fun F H fp o hS h => let ⟨_, v, e, l, vs, ev, h1, h2⟩ := h; ⟨l, vs, by rw [e, ev], SqL.of h1, Paired.mon (fun _ _ r => hf _ _ _ _ r) h2⟩
/-- an int of which the heap takes no notice -/
def XS (Y : Fa P w K mg base k) (e : Expr) (Γ : List Slot) (z : Int) : Prop :=
  ∃ t : TE, (∀ i, PE (Y.X i) e t) ∧ ∀ (B : Bs) (F H : Hp) (os : List Addr) (σ : List (Option V)) (Q : VK), In B F H os σ Γ → Q (.int z) H → t σ H Q
theorem xs_int {z : Int} {j : Nat} : XS Y (.Constant (.int z) j pos) Γ z := ⟨_, fun _ => pe_int, fun _ F H os σ Q I q => q⟩
theorem xs_var {z : Int} (j : Nat) (hs : Γ[j]? = some (vInt z) := by rfl) (hN : ∀ i, (Y.X i).N[j]? = some x := by intro _; rfl)
    (hv : ∀ i, Vis (Y.X i).env.scope x := by intro _; first | exact Or.inl rfl | exact Or.inr (Or.inl rfl) | exact Or.inr (Or.inr rfl)) (hd : (x == ("__debug__" : Str)) = false := by decide) (hcd : (x == ("__classdict__" : Str)) = false := by decide) : XS Y (.Name x pos) Γ z := by
  refine ⟨_, fun i => pe_var (hN i) (hv i) hd hcd, fun B F H os σ Q I q => ?_⟩
  obtain ⟨o, fp, e, _, v, ev, rv⟩ := I.slot hs
  subst ev
  cases rv
  exact ⟨_, e, q⟩
theorem xs_op {op : Operator} {C : Int → Int → Prop} {g : Int → Int → Int} {m n : Int} (ho : ∀ i, OpR (Y.X i) (binaryOp op) (rI C fun i j => .int (g i j))) (hC : C m n) (ha : XS Y ea Γ m) (hb : XS Y eb Γ n) : XS Y (.BinOp ea op eb pos) Γ (g m n) := by
  obtain ⟨ta, pa, ra⟩ := ha
  obtain ⟨tb, pb, rb⟩ := hb
  exact ⟨_, fun i => pe_op (ho i) (pa i) (pb i), fun B F H os σ Q I q => ra B F H os σ _ I (rb B F H os σ _ I ⟨m, n, rfl, rfl, hC, q⟩)⟩
theorem xs_op0 {op : Operator} {g : Int → Int → Int} {m n : Int} (ho : ∀ i, OpR (Y.X i) (binaryOp op) (rI0 fun i j => .int (g i j))) (ha : XS Y ea Γ m) (hb : XS Y eb Γ n) : XS Y (.BinOp ea op eb pos) Γ (g m n) := by
  obtain ⟨ta, pa, ra⟩ := ha
  obtain ⟨tb, pb, rb⟩ := hb
  exact ⟨_, fun i => pe_op (ho i) (pa i) (pb i), fun B F H os σ Q I q => ra B F H os σ _ I (rb B F H os σ _ I ⟨m, n, rfl, rfl, q⟩)⟩
/-- an item of an owned list, itself owned -/
theorem pl_ix {up : Slot → List Slot} {z : Int} {j : Nat} (ho : PL Y eo Γ (lstS Δ) up) (hi : XS Y eb Γ z) (hz : ixN Δ.length z = some j) (hst : Stb Δ) (hj : Δ[j]? = some s) (hso : ∀ F H fp o, s.P F H fp o → ∃ v, o = some v) (hx : PlainIx eb := by exact fun _ _ => rfl) :
    PL Y (.Subscript eo eb pos) Γ s (fun s' => up (lstS (Δ.set j s'))) := by
  obtain ⟨t, Pv, pe, pst, rd, up'⟩ := ho
  obtain ⟨tb, pb, rb⟩ := hi
  refine ⟨_, fun σ H v => ∃ l vs, Pv σ H (.ref l) ∧ H l = some (.lst vs) ∧ vs[j]? = some v, fun i => by have h := ix_list (X := Y.X i); rw [Y.hK i] at h; exact pe_ix h (pe i) (pb i) hx,
    fun σ H H' v hH h => let ⟨l, vs, h1, h2, h3⟩ := h; ⟨l, vs, pst _ _ _ _ hH h1, hH _ _ h2, h3⟩, fun B F H os σ Q I q => ?_, fun F H os σ v S hv => ?_⟩
  · refine rd B F H os σ _ I fun v hv => ?_
    refine rb B F H os σ _ I ?_
    obtain ⟨_, o2, r, hp, S⟩ := I
    obtain ⟨fp, r2, hr2, hp2, _⟩ := up' F H o2 σ v S hv
    obtain ⟨l, vs, o3, e1, e2, g1, g4⟩ := hp2
    cases e1
    obtain ⟨o, fp', r', e3, p3, _, _⟩ := g4.at hj
    obtain ⟨v', rfl⟩ := hso _ _ _ _ p3
    have e4 : vs[j]? = some v' := by
      rw [List.getElem?_map] at e3
      obtain ⟨y, hy, ey⟩ := Option.map_eq_some_iff.mp e3
      cases ey; exact hy
    have hlen : vs.length = Δ.length := by have := g4.length; simpa using this
    refine ⟨l, vs, z, v', rfl, rfl, SqL.of g1, ?_, q v' ⟨l, vs, hv, g1, e4⟩⟩
    unfold atI
    rw [hlen, hz]
    exact e4
  · obtain ⟨l, vs, hv1, h1, h3⟩ := hv
    obtain ⟨fp, r2, hr2, hp2, kk⟩ := up' F H os σ _ S hv1
    obtain ⟨l', vs', o3, e1, e2, g1, g4⟩ := hp2
    cases e1
    rw [h1] at g1
    have ev : vs = vs' := by
      have := Option.some.inj g1
      injection this
    subst ev
    obtain ⟨o, fp', r', e3, p3, q3, k3⟩ := g4.at hj
    have eo' : o = some v := by
      rw [List.getElem?_map, h3] at e3
      exact (Option.some.inj e3).symm
    subst eo'
    subst e2
    refine ⟨fp', (l :: r') ++ r2, ?_, p3, fun F' H' fp2 s' hF hk hs' => ?_⟩
    · refine hr2.trans ?_
      have a1 : (l :: o3).Perm (fp' ++ (l :: r')) := (q3.cons l).trans List.perm_middle.symm
      have a4 := List.Perm.append_right r2 a1
      rw [List.append_assoc] at a4
      exact a4
    · obtain ⟨os', t1, t2⟩ := k3 hs' (fun s0 h0 fp0 o0 hf hp => s0.mm (hst s0 h0) hF (fun q hq => hk q (by simp [hf q hq])) hp)
      have es : (vs.map some).set j (some v) = vs.map some := by
        obtain ⟨hj', e⟩ := List.getElem?_eq_some_iff.mp e3
        rw [← e]; exact List.set_getElem_self hj'
      rw [es] at t1
      obtain ⟨os2, u1, u2⟩ := kk F' H' (l :: os') (lstS (Δ.set j s')) hF (fun q hq => hk q (by simp [hq])) ⟨l, vs, os', rfl, rfl, by rw [hk l (by simp)]; exact h1, t1⟩
      refine ⟨os2, u1, u2.trans ?_⟩
      have a1 : (l :: os').Perm (l :: (fp2 ++ r')) := t2.cons l
      have a2 : (fp2 ++ (l :: r')).Perm (l :: (fp2 ++ r')) := List.perm_middle
      have a5 := List.Perm.append_right r2 (a1.trans a2.symm)
      rw [List.append_assoc] at a5
      exact a5
theorem lcS_run {α β : Type} {xs : List α} {rs : α → Slot} {g : β → Slot} {f : α → Option (Option β)} {ys : List β} {own : List (Str × Nat)} (hz : xs.length ≤ sizeLine) (hf : fmO xs f = some ys) (hd0 : DeadAt Γ (own.map (·.2))) (hst : ∀ y, (g y).st)
    (hb : ∀ x o, x ∈ xs → f x = some o → ∃ ws Γ1, (ws.all fun j => (own.map (·.2)).contains j) = true ∧ XG (Y.blk scope) tg ws (rs x) Γ Γ1 ∧ XTs (Y.blk scope) ifs Γ1 o.isSome ∧ ∀ y, o = some y → XV (Y.blk scope) elt Γ1 (g y))
    {wi : TI} (hw : ∀ (B : Bs) (F H : Hp) (os : List Addr) (σ : List (Option V)) (R : It → Hp → Prop), In B F H os σ Γ → (∀ J F' H', Same F F' → Same H H' → Wo B F' H' os → Wk True J F' H' (xs.map rs) → R J H') → wi σ H R)
    {F H : Hp} {os : List Addr} {σ : List (Option V)} {Q : VK} (I : In B F H os σ Γ) (kk : ∀ v F' H' fp, Same F F' → Same H H' → Wo B F' H' (fp ++ os) → (lstS (ys.map g)).P F' H' fp (some v) → Q v H') :
    tLc wi (cG (Y.blk scope) tg) (cTs (Y.blk scope) ifs) (cE (Y.blk scope) elt) (own.map (·.2)) σ H Q := by
  have hd := hd0.get
  refine hw B F H os σ _ I fun J F1 H1 f1 e1 W1 wk Dl hD => ?_
  obtain ⟨_, o2, r0, hperm, S0⟩ := I
  have S1 : Slots F1 H1 o2 (wipe σ (own.map (·.2))) Γ := (S0.mono f1 e1).ext (wipe_length _ _) fun j s hs => by
    by_cases hj : j ∈ own.map (·.2)
    · left
      have := hd j hj
      rw [hs] at this; exact Option.some.inj this
    · right
      rw [wipe_get, if_neg (fun z => hj z.1)]
  refine ⟨fun n m H' => n ≤ xs.length ∧ m = xs.length - n ∧ ∃ (F' : Hp) (vs : List V) (oe : List Addr) (acc rr : List β), Wo B F' H' (Dl :: (oe ++ os)) ∧ Same F1 F' ∧ Same H1 H' ∧ H' Dl = some (.lst vs) ∧ Slots F' H' oe (vs.map some) (acc.map g) ∧ acc.length ≤ n ∧ fmO (xs.drop n) f = some rr ∧ ys = acc ++ rr,
    ⟨xs.length - 0, Nat.zero_le _, rfl, F1, [], [], [], ys, W1.newO hD, same_refl, same_upd hD, upd_same, .nil, Nat.zero_le _, by simpa using hf, rfl⟩, ?_⟩
  rintro n m H' ⟨hn, rfl, F', vs, oe, acc, rr, W', fF, fH, hDl, hp, hacc, hrr, hys⟩
  obtain ⟨w1, w2⟩ := wk F' H' fF (fun _ => fH) W'.sub
  by_cases hlt : n < xs.length
  · have hx : xs[n]? = some xs[n] := List.getElem?_eq_getElem hlt
    have hdrop : xs.drop n = xs[n] :: xs.drop (n + 1) := List.drop_eq_getElem_cons hlt
    rw [hdrop] at hrr
    unfold fmO at hrr
    obtain ⟨o, ho, hrr⟩ := Option.bind_eq_some_iff.mp hrr
    obtain ⟨r2, hr2, hrr⟩ := Option.bind_eq_some_iff.mp hrr
    obtain ⟨g1, g2⟩ := w2 n (rs xs[n]) (by rw [List.getElem?_map, hx]; rfl)
    refine .inr ⟨g1, fun H'' => n + 1 ≤ xs.length ∧ ∃ (F' : Hp) (vs : List V) (oe : List Addr) (acc rr : List β), Wo B F' H'' (Dl :: (oe ++ os)) ∧ Same F1 F' ∧ Same H1 H'' ∧ H'' Dl = some (.lst vs) ∧ Slots F' H'' oe (vs.map some) (acc.map g) ∧ acc.length ≤ n + 1 ∧ fmO (xs.drop (n + 1)) f = some rr ∧ ys = acc ++ rr, ?_, ?_⟩
    · rintro H'' ⟨hn', rest⟩
      exact ⟨xs.length - (n + 1), by omega, hn', rfl, rest⟩
    · intro v H2 y
      obtain ⟨e2, push⟩ := g2 v H2 y
      obtain ⟨F2, f2, W2, p2⟩ := push B _ W'
      obtain ⟨ws, Γ1, hws0, ⟨_, gg, pg, qg⟩, ⟨tt, ptt, rtt⟩, hel⟩ := hb xs[n] o (List.getElem_mem hlt) ho
      have hws : ∀ j ∈ ws, j ∈ own.map (·.2) := fun j hj => List.contains_iff_mem.mp (List.all_eq_true.mp hws0 j hj)
      intro j pins sh u Iv rv
      refine (pg j).run pins sh _ H2 v u _ Iv rv (qg F2 H2 [] o2 _ v _ W2.sub p2 (S1.mono (fF.trans f2) (fH.trans e2)) fun σ' os' d ⟨l', k'⟩ pp S' => ⟨wipe_eq hws l' k', ?_⟩)
      have I2 : In B F2 H2 (Dl :: (oe ++ os)) σ' Γ1 := ⟨W2, os', Dl :: (oe ++ (d ++ r0)), by
        have a1 : os.Perm ((d ++ os') ++ r0) := hperm.trans (List.Perm.append_right r0 (by simpa using pp))
        have a2 : ((d ++ os') ++ r0).Perm (os' ++ (d ++ r0)) := by rw [← List.append_assoc]; exact List.Perm.append_right r0 List.perm_append_comm
        have a3 : (oe ++ os).Perm (os' ++ (oe ++ (d ++ r0))) := (List.Perm.append_left oe (a1.trans a2)).trans (by
          rw [← List.append_assoc oe os', ← List.append_assoc os' oe]
          exact List.Perm.append_right (d ++ r0) List.perm_append_comm)
        exact (a3.cons Dl).trans List.perm_middle.symm, S'⟩
      intro j2 pins2 s2 Iv2
      refine (ptt j2).run pins2 s2 σ' H2 _ Iv2 (rtt B F2 H2 _ σ' _ I2 fun F3 H3 f3 e3 W3 => ?_)
      cases o with
      | none =>
        show n + 1 ≤ xs.length ∧ _
        refine ⟨hlt, F3, vs, oe, acc, r2, W3, (fF.trans f2).trans f3, (fH.trans e2).trans e3, e3 _ _ (e2 _ _ hDl), hp.mono (f2.trans f3) (e2.trans e3), by omega, hr2, ?_⟩
        have : r2 = rr := by simpa using hrr
        rw [hys, this]
      | some yv =>
        show cE (Y.blk scope) elt σ' H3 _
        obtain ⟨te, pte, rte⟩ := hel yv rfl
        intro j3 pins3 s3 Iv3
        refine (pte j3).run pins3 s3 σ' H3 _ Iv3 (rte B F3 H3 _ σ' _ (I2.step0 f3 e3 W3) fun yy F4 H4 fp4 f4 e4 W4 p4 => ?_)
        have hD4 : H4 Dl = some (.lst vs) := e4 _ _ (e3 _ _ (e2 _ _ hDl))
        have hlen : vs.length = acc.length := by have := hp.length; simpa using this
        have W5 : Wo B F4 H4 (Dl :: ((oe ++ fp4) ++ os)) := W4.perm (by
          have a1 : (fp4 ++ (Dl :: (oe ++ os))).Perm (Dl :: (fp4 ++ (oe ++ os))) := List.perm_middle
          refine a1.trans (List.Perm.cons Dl ?_)
          rw [← List.append_assoc]
          exact List.Perm.append_right os List.perm_append_comm)
        have nd5 := List.nodup_cons.mp W5.nd
        have hne : ∀ q ∈ oe ++ fp4, q ≠ Dl := fun q hq e => nd5.1 (by subst e; exact List.mem_append_left _ hq)
        have S4 : Slots F4 (upd H4 Dl (.lst (vs ++ [yy]))) oe (vs.map some) (acc.map g) := (hp.mono ((f2.trans f3).trans f4) ((e2.trans e3).trans e4)).mm same_refl (fun s hs => by
          obtain ⟨y', _, rfl⟩ := List.mem_map.mp hs
          exact hst y') fun q hq => upd_ne (hne q (List.mem_append_left _ hq))
        have p5 : (g yv).P F4 (upd H4 Dl (.lst (vs ++ [yy]))) fp4 (some yy) := (g yv).mm (hst yv) same_refl (fun q hq => upd_ne (hne q (List.mem_append_right _ hq))) p4
        have S5 := S4.append (Slots.cons p5 .nil)
        rw [List.append_nil, show vs.map some ++ [some yy] = (vs ++ [yy]).map some by simp, show acc.map g ++ [g yv] = (acc ++ [yv]).map g by simp] at S5
        refine ⟨vs, hD4, by omega, hlt, F4, vs ++ [yy], oe ++ fp4, acc ++ [yv], r2, W5.write List.mem_cons_self, ((fF.trans f2).trans f3).trans f4, ?_, upd_same, S5, by simp; omega, hr2, ?_⟩
        · intro z u hu
          rw [upd_ne (ne_of_none hu hD)]
          exact ((fH.trans e2).trans e3).trans e4 z u hu
        · have : [yv] ++ r2 = rr := by simpa using hrr
          rw [hys, ← this, List.append_assoc]
  · have e : n = xs.length := by omega
    subst e
    refine .inl ⟨by simpa using w1, ?_⟩
    rw [List.drop_length] at hrr
    unfold fmO at hrr
    have : rr = [] := by simpa using hrr.symm
    subst this
    rw [List.append_nil] at hys
    subst hys
    exact kk _ F' H' (Dl :: oe) (f1.trans fF) (e1.trans fH) W' ⟨Dl, vs, oe, rfl, rfl, hDl, hp⟩
/-- [elt for tg in iter if ..], what is made owned -/
theorem x_lcS {α β : Type} {xs : List α} {rs : α → Slot} {g : β → Slot} {f : α → Option (Option β)} {ys : List β} {own : List (Str × Nat)} (hi : XI Y tg iter Γ True (xs.map rs)) (L : Lc Y iter scope own) (hz : xs.length ≤ sizeLine) (hf : fmO xs f = some ys) (hd0 : DeadAt Γ (own.map (·.2))) (hst : ∀ y, (g y).st)
    (hb : ∀ x o, x ∈ xs → f x = some o → ∃ ws Γ1, (ws.all fun j => (own.map (·.2)).contains j) = true ∧ XG (Y.blk scope) tg ws (rs x) Γ Γ1 ∧ XTs (Y.blk scope) ifs Γ1 o.isSome ∧ ∀ y, o = some y → XV (Y.blk scope) elt Γ1 (g y)) (hcm : Y.cm = true := by rfl) :
    XV Y (.ListComp elt [⟨tg, iter, ifs, 0⟩] scope pos) Γ (lstS (ys.map g)) := by
  obtain ⟨wi, pi, hw⟩ := hi
  exact ⟨_, fun i => pe_lc ((Y.hC i).trans hcm) (Y.hN i) (pi i) (L.ok i) (fun s H C cl fp => pg_cG (Y := Y.blk scope) (i, s, H, C, cl, fp)) (fun s H C cl fp => pts_cTs (Y := Y.blk scope) (i, s, H, C, cl, fp)) (fun s H C cl fp => pe_cE (Y := Y.blk scope) (i, s, H, C, cl, fp)) (L.hs i), fun B F H os σ Q I kk => lcS_run hz hf hd0 hst hb hw I kk⟩
end
end Ty

/-! Ty10 -/
namespace Ty
open PySem PySem.Spec L2
open PyProof.Rows (envOfC)
theorem condT {α : Type} {c : Bool} {a b : Option α} {y : α} (hc : c = true) (h : (bif c then a else b) = some y) : a = some y := by subst hc; exact h
theorem condF {α : Type} {c : Bool} {a b : Option α} {y : α} (hc : c = false) (h : (bif c then a else b) = some y) : b = some y := by subst hc; exact h
def flK {ρ S β : Type} (o : Option (Fl ρ S)) (kn : S → Option β) (kr : ρ → Option β) : Option β := o.bind fun
  | .next s => kn s
  | .brk s => kn s
  | .ret r => kr r
theorem flK_some {ρ S β : Type} {o : Option (Fl ρ S)} {kn : S → Option β} {kr : ρ → Option β} {b : β} (h : flK o kn kr = some b) : ∃ out, o = some out ∧ (∀ s, (out = .next s ∨ out = .brk s) → kn s = some b) ∧ (∀ r, out = .ret r → kr r = some b) := by
  unfold flK at h
  obtain ⟨out, h1, h2⟩ := Option.bind_eq_some_iff.mp h
  refine ⟨out, h1, ?_, ?_⟩
  · rintro s (rfl | rfl) <;> exact h2
  · rintro r rfl; exact h2
theorem stb_map {α : Type} {g : α → Slot} (h : ∀ x, (g x).st) : ∀ xs : List α, Stb (xs.map g)
  | [] => Stb.nil
  | x :: xs => Stb.cons (h x) (stb_map h xs)
theorem stb_set {Γ : List Slot} {s : Slot} {j : Nat} (h : Stb Γ) (hs : s.st) : Stb (Γ.set j s) := fun x hx => by
  rcases List.mem_or_eq_of_mem_set hx with h1 | h1
  · exact h x h1
  · rw [h1]; exact hs
section
variable {P : Program} {w : World} {K : PySem.W.Frag} {mg : Str → Option Value} {base : Heap} {k : Nat}
variable {Y : Fa P w K mg base k} {i : Y.I} {e ea eb eo ev tg iter elt : Expr} {es ifs : List Expr} {rest body : List Stmt} {Γ Γ' Γ1 Γ2 Δ Δ' : List Slot} {a b c r s s' : Slot} {pos : Pos} {B : Bs} {D : Ends} {x f : Str} {p' : Pos} {scope : Scope}
theorem Nx.wk {σ : L2.St} {H : Hp} (h : Nx B Γ σ H) (hw : WkL Γ Γ') : Nx B Γ' σ H := h.elim fun F S => S.wk hw
theorem fi_off {σ : L2.St} {H : Hp} (h : Nx B Γ σ H) (hs : ∀ F H, s.P F H [] (some .non)) : Fi B s .non H := by
  obtain ⟨F, os, W, S⟩ := h
  exact ⟨F, [], Wo.drop (a := os) (b := []) (by simpa using W), hs F H⟩
theorem go_forK {α T ρ β : Type} {xs : List α} {rs : α → Slot} (Γf : T → List Slot) (Sr : ρ → Slot) {s0 : T} {f : α → T → Option (Fl ρ T)} {kn : T → Option β} {kr : ρ → Option β} {b : β}
    (hi : XI Y tg iter Γ False (xs.map rs)) (h0 : WkL Γ (Γf s0)) (hm : flK (forF xs s0 f) kn kr = some b)
    (hb : ∀ B1 x s out, x ∈ xs → f x s = some out → (∀ r, out = .ret r → kr r = some b) → (∀ F H os, Wo B1 F H os → Wo B F H os) → ∃ ws Γ1, XG Y tg ws (rs x) (Γf s) Γ1 ∧ Go Y i body (LE B1 Γf Sr out) B1 Γ1)
    (hr : ∀ s, kn s = some b → Go Y i rest D B (Γf s)) (hret : ∀ r, kr r = some b → ∀ v H, Fi B (Sr r) v H → D.rt v H)
    (hs : ∀ x, foldedSetIterable iter (Y.X i).env x = pure x := by intro _; rfl) (hcm : Y.cm = true := by rfl) : Go Y i (.For tg iter body [] pos :: rest) D B Γ := by
  obtain ⟨o, h1, h2, h3⟩ := flK_some hm
  exact go_for Γf hi h0 h1 (fun B1 x s out hx hf hh hl => hb B1 x s out hx hf (fun r e => h3 r (hh r e)) hl) (fun s hs => hr s (h2 s hs)) (fun r e => hret r (h3 r e)) hs hcm
theorem go_whileK {T ρ β : Type} (Γf : T → List Slot) (Sr : ρ → Slot) {n : Nat} {s0 : T} {f : T → Option (Fl ρ T)} {kn : T → Option β} {kr : ρ → Option β} {b : β}
    (h0 : WkL Γ (Γf s0)) (hm : flK (whileF n s0 f) kn kr = some b)
    (hb : ∀ B1 s out, f s = some out → (∀ r, out = .ret r → kr r = some b) → (∀ F H os, Wo B1 F H os → Wo B F H os) → ∃ z : Bool, XT Y e (Γf s) z ∧ (z = true → Go Y i body (LE B1 Γf Sr out) B1 (Γf s)) ∧ (z = false → out = .brk s))
    (hr : ∀ s, kn s = some b → Go Y i rest D B (Γf s)) (hret : ∀ r, kr r = some b → ∀ v H, Fi B (Sr r) v H → D.rt v H) : Go Y i (.While e body [] pos :: rest) D B Γ := by
  obtain ⟨o, h1, h2, h3⟩ := flK_some hm
  exact go_while Γf h0 h1 (fun B1 s out hf hh hl => hb B1 s out hf (fun r e => h3 r (hh r e)) hl) (fun s hs => hr s (h2 s (.inr hs))) (fun r e => hret r (h3 r e))
/-! ### and, or, a if c else b whose right side may fail -/
theorem xw_andP {z u : Bool} {m2 : Option Bool} (h : XT Y ea Γ z) (hu : (bif z then m2 else some false) = some u) (h2 : ∀ z', m2 = some z' → XW Y (.BoolOp .And (eb :: es) pos) Γ z') : XW Y (.BoolOp .And (ea :: eb :: es) pos) Γ u := by
  cases z with
  | true => exact xw_and h (fun _ => h2 u hu) rfl
  | false =>
    have : false = u := by simpa using hu
    subst this
    exact xw_and (z' := false) h (fun q => by cases q) rfl
theorem xw_orP {z u : Bool} {m2 : Option Bool} (h : XT Y ea Γ z) (hu : (bif z then some true else m2) = some u) (h2 : ∀ z', m2 = some z' → XW Y (.BoolOp .Or (eb :: es) pos) Γ z') : XW Y (.BoolOp .Or (ea :: eb :: es) pos) Γ u := by
  cases z with
  | false => exact xw_or h (fun _ => h2 u hu) rfl
  | true =>
    have : true = u := by simpa using hu
    subst this
    exact xw_or (z' := true) h (fun q => by cases q) rfl
theorem x_andP {z u : Bool} {m2 : Option Bool} (h : XV Y ea Γ (vBl z)) (hu : (bif z then m2 else some false) = some u) (h2 : ∀ z', m2 = some z' → XV Y (.BoolOp .And (eb :: es) pos) Γ (vBl z')) : XV Y (.BoolOp .And (ea :: eb :: es) pos) Γ (vBl u) := by
  cases z with
  | true => exact x_and h (fun _ => h2 u hu) rfl
  | false =>
    have : false = u := by simpa using hu
    subst this
    exact x_and (z' := false) h (fun q => by cases q) rfl
theorem x_orP {z u : Bool} {m2 : Option Bool} (h : XV Y ea Γ (vBl z)) (hu : (bif z then some true else m2) = some u) (h2 : ∀ z', m2 = some z' → XV Y (.BoolOp .Or (eb :: es) pos) Γ (vBl z')) : XV Y (.BoolOp .Or (ea :: eb :: es) pos) Γ (vBl u) := by
  cases z with
  | false => exact x_or h (fun _ => h2 u hu) rfl
  | true =>
    have : true = u := by simpa using hu
    subst this
    exact x_or (z' := true) h (fun q => by cases q) rfl
theorem x_iteP {α : Type} {ec : Expr} {z : Bool} {m1 m2 : Option α} {u : α} {g : α → Slot} (hc : XT Y ec Γ z) (hu : (bif z then m1 else m2) = some u) (h1 : ∀ v, m1 = some v → XV Y ea Γ (g v)) (h2 : ∀ v, m2 = some v → XV Y eb Γ (g v)) : XV Y (.IfExp ec ea eb pos) Γ (g u) :=
  x_ite hc (fun hz => h1 u (condT hz hu)) (fun hz => h2 u (condF hz hu))
/-- a op1 b op2 c, the last may fail -/
theorem x_chainP {op op' : CmpOp} {r2 r2' : R2} {ec : Expr} {z u : Bool} {m2 : Option Bool} {n : Int} (ho : ∀ i, OpR (Y.X i) (compareOp op) r2) (ho' : ∀ i, OpR (Y.X i) (compareOp op') r2') (h : Op2 r2 a (vInt n) (vBl z))
    (hu : (bif z then m2 else some false) = some u) (ha : XV Y ea Γ a) (hb : XV Y eb Γ (vInt n)) (hc : ∀ z', m2 = some z' → ∃ c, XV Y ec Γ c ∧ Op2 r2' (vInt n) c (vBl z')) (hm : lastMarks [op, op'] [eb, ec] = false := by with_unfolding_all rfl) : XV Y (.Compare ea [op, op'] [eb, ec] pos) Γ (vBl u) := by
  cases z with
  | true =>
    obtain ⟨c, h1, h2⟩ := hc u hu
    exact x_chain ho ho' h (fun _ => h2) (by simp) ha hb (fun _ => h1) hm
  | false =>
    have : false = u := by simpa using hu
    subst this
    exact x_chain (c := vInt n) (z' := false) ho ho' h (fun q => by cases q) (by simp) ha hb (fun q => by cases q) hm
theorem xt_chainP {op op' : CmpOp} {r2 r2' : R2} {ec : Expr} {z u : Bool} {m2 : Option Bool} {n : Int} (ho : ∀ i, OpR (Y.X i) (compareOp op) r2) (ho' : ∀ i, OpR (Y.X i) (compareOp op') r2') (h : Op2 r2 a (vInt n) (vBl z))
    (hu : (bif z then m2 else some false) = some u) (ha : XV Y ea Γ a) (hb : XV Y eb Γ (vInt n)) (hc : ∀ z', m2 = some z' → ∃ c, XV Y ec Γ c ∧ Op2 r2' (vInt n) c (vBl z')) (hm : lastMarks [op, op'] [eb, ec] = false := by with_unfolding_all rfl) : XT Y (.Compare ea [op, op'] [eb, ec] pos) Γ u := by
  cases z with
  | true =>
    obtain ⟨c, h1, h2⟩ := hc u hu
    exact xt_chain ho ho' h (fun _ => h2) (by simp) ha hb (fun _ => h1) hm
  | false =>
    have : false = u := by simpa using hu
    subst this
    exact xt_chain (c := vInt n) (z' := false) ho ho' h (fun q => by cases q) (by simp) ha hb (fun q => by cases q) hm
theorem x_neg {z : Int} (h : XV Y e Γ (vInt z)) : XV Y (.UnaryOp .USub e pos) Γ (vInt (-z)) := x_un (fun _ => un_neg) (fun B F H x fx os Q W p1 q => by
  obtain rfl := vint p1
  exact ⟨z, rfl, q _ F H [] same_refl same_refl W.drop ⟨rfl, _, rfl, rfl⟩⟩) h
theorem xt_of {z : Bool} (h : XW Y e Γ z) : XT Y e Γ z := xw_pt h
end
end Ty

/-! Ty11 -/
namespace Ty
open PySem PySem.Spec L2
open PyProof.Rows (envOfC)
def letO {α β : Type} (a : α) (f : α → Option β) : Option β := f a
theorem letO_some {α β : Type} {a : α} {f : α → Option β} {r : β} (h : letO a f = some r) : ∃ x, a = x ∧ f x = some r := ⟨a, rfl, h⟩
theorem WkL.at {s s' : Slot} : ∀ {Γ : List Slot} {j : Nat}, WkS s s' → Γ[j]? = some s → WkL Γ (Γ.set j s')
  | [], _, _, e => by simp at e
  | _ :: _, 0, h, e => by simp at e; subst e; exact .cons h .refl
  | _ :: _, j + 1, h, e => .cons .refl (WkL.at h (by simpa using e))
theorem le_line {n : Nat} (h : Nat.ble n 1000 = true) : n ≤ sizeLine := Nat.le_trans (Nat.le_of_ble_eq_true h) (by rw [sizeLine_eq]; decide)
section
variable {P : Program} {w : World} {K : PySem.W.Frag} {mg : Str → Option Value} {base : Heap} {k : Nat}
variable {Y : Fa P w K mg base k} {i : Y.I} {e ea eb eo ev tg iter elt : Expr} {es ifs : List Expr} {rest body : List Stmt} {Γ Γ' Γ1 Γ2 Δ Δ' : List Slot} {a b c r s s' : Slot} {pos : Pos} {B : Bs} {D : Ends} {x f : Str} {p' : Pos} {scope : Scope}
theorem XV.eqV {α : Type} {p : VP α} {a b : α} (h : XV Y e Γ (val p a)) (hx : a = b) : XV Y e Γ (val p b) := hx ▸ h
theorem XV.eqO {α : Type} {p : OP α} {a b : α} (h : XV Y e Γ (own p a)) (hx : a = b) : XV Y e Γ (own p b) := hx ▸ h
theorem XV.frz {α : Type} {p : VP α} {xs : List α} (h : XV Y e Γ (own (oL p) xs)) : XV Y e Γ (val (pL p) xs) := h.wk WkS.list
theorem lc_el {α : Type} {q : VP α} {y : α} (h : XV Y elt Γ (val q y)) : XTs Y [] Γ (some y).isSome ∧ ∀ z, some y = some z → XV Y elt Γ (val q z) := ⟨xts_nil, fun z hz => by cases hz; exact h⟩
theorem lc_elS {α : Type} {g : α → Slot} {y : α} (h : XV Y elt Γ (g y)) : XTs Y [] Γ (some y).isSome ∧ ∀ z, some y = some z → XV Y elt Γ (g z) := ⟨xts_nil, fun z hz => by cases hz; exact h⟩
theorem lc_if {α : Type} {q : VP α} {c : Bool} {m : Option (Option α)} {o : Option α} (hc : XT Y e Γ c) (hm : (bif c then m else some none) = some o) (h : m = some o → ∃ y, o = some y ∧ XV Y elt Γ (val q y)) : XTs Y [e] Γ o.isSome ∧ ∀ z, o = some z → XV Y elt Γ (val q z) := by
  cases c with
  | true =>
    obtain ⟨y, rfl, hx⟩ := h hm
    exact ⟨xts_one hc, fun z hz => by cases hz; exact hx⟩
  | false =>
    have : none = o := by simpa using hm
    subst this
    exact ⟨xts_one hc, fun z hz => by cases hz⟩
theorem c_max2 (Y : Fa P w K mg base k) (hcm : Y.cm = true := by rfl) (i : Y.I) : CallR (Y.X i) (.builtin "max") (fun xs H Q => ∃ i j, xs = [.int i, .int j] ∧ Q (.int (if j > i then j else i)) H) := call_max2 ((Y.hC i).trans hcm)
theorem c_min2 (Y : Fa P w K mg base k) (hcm : Y.cm = true := by rfl) (i : Y.I) : CallR (Y.X i) (.builtin "min") (fun xs H Q => ∃ i j, xs = [.int i, .int j] ∧ Q (.int (if j < i then j else i)) H) := call_min2 ((Y.hC i).trans hcm)
/-- x = [elt for ..], what is made owned -/
theorem go_setLcS {α β : Type} {xs : List α} {rs : α → Slot} {g : β → Slot} {f : α → Option (Option β)} {ys : List β} {own : List (Str × Nat)} (j : Nat) {py cpos : Pos} (hi : XI Y tg iter Γ True (xs.map rs)) (L : Lc Y iter scope own) (hz : xs.length ≤ sizeLine) (hf : fmO xs f = some ys) (hd0 : DeadAt Γ (own.map (·.2))) (hst : ∀ y, (g y).st)
    (hb : ∀ x o, x ∈ xs → f x = some o → ∃ ws Γ1, (ws.all fun j => (own.map (·.2)).contains j) = true ∧ XG (Y.blk scope) tg ws (rs x) Γ Γ1 ∧ XTs (Y.blk scope) ifs Γ1 o.isSome ∧ ∀ y, o = some y → XV (Y.blk scope) elt Γ1 (g y))
    (hg : Go Y i rest D B (Γ.set j (lstS (ys.map g)))) (hj : Nat.blt j Γ.length = true := by rfl) (hy : (Y.X i).N[j]? = some x := by rfl) (hyl : (Y.X i).env.scope.names.lookup x = some .local := by rfl)
    (hsw : swapsWith (.ListComp elt [⟨tg, iter, ifs, 0⟩] scope cpos) (some (.Name x py)) pos.line (Y.X i).env = pure true) (hcm : Y.cm = true := by rfl) : Go Y i (.Assign [.Name x py] (.ListComp elt [⟨tg, iter, ifs, 0⟩] scope cpos) pos :: rest) D B Γ := by
  obtain ⟨wi, pi, hw⟩ := hi
  refine go_ps (ps_setLc ((Y.hC i).trans hcm) (Y.hN i) hy hyl hsw (pi i) (L.ok i) (fun s H C cl fp => pg_cG (Y := Y.blk scope) (i, s, H, C, cl, fp)) (fun s H C cl fp => pts_cTs (Y := Y.blk scope) (i, s, H, C, cl, fp)) (fun s H C cl fp => pe_cE (Y := Y.blk scope) (i, s, H, C, cl, fp)) (L.hs i)) fun F H σ ⟨os, W, S⟩ => ?_
  refine lcS_run hz hf hd0 hst hb hw (Sta.in W S) fun v F1 H1 fp f1 e1 W1 p1 => ?_
  obtain ⟨os', d, h1, h2⟩ := (S.mono f1 e1).put p1 (Nat.le_of_ble_eq_true hj)
  exact hg F1 H1 _ ⟨os', (W1.perm h2).drop, h1⟩
theorem o_lenB {α : Type} {p : VP α} {xs : List α} : OpA (rLenK K) [bor (pL p) xs] (vInt (xs.length : Int)) := opA1 fun B F H v fx os Q W pv q => by
  obtain ⟨_, v', ev, l, vs, rfl, h1, h2⟩ := pv
  cases ev
  exact ⟨l, vs, rfl, .inl (SqL.of h1), q _ F H [] same_refl same_refl W.drop ⟨rfl, _, rfl, by show V.int _ = V.int _; rw [Paired.length h2]⟩⟩
theorem x_disp_dII {β : Type} {p : VP β} {ek : Expr} {z : Int × Int} {u : β} (hk : XV Y ek Γ (val (pT2 pInt pInt) z)) (hv : XV Y ev Γ (val p u)) : XV Y (.Dict [some ek] [ev] pos) Γ (own (oD dII p) [(z, u)]) := x_disp1T hk hv
theorem x_disp_dInts {β : Type} {p : VP β} {ek : Expr} {z : List Int} {u : β} (hk : XV Y ek Γ (val (pTup pInt) z)) (hv : XV Y ev Γ (val p u)) : XV Y (.Dict [some ek] [ev] pos) Γ (own (oD dInts p) [(z, u)]) := x_disp1T hk hv
/-- enumerate(xs), its pairs as data -/
theorem xi_enum' {α : Type} {p : VP α} {xs : List α} {p' tpos : Pos} {elts : List Expr} {kk : Nat} (hm : mg "enumerate" = none) (h : XV Y e Γ (val (pL p) xs)) (hg : ∀ i, Gl (Y.X i) "enumerate" := by intro _; rfl) (hs : ∀ i, starEach [e] (Y.X i).env = [(false, eval e (Y.X i).env)] := by intro _; rfl) :
    XI Y (.Tuple elts kk tpos) (.Call (.Name "enumerate" p') [e] [] pos) Γ False (((xs.zipIdx).map fun (x : α × Nat) => ((x.2 : Int), x.1)).map (val (pT2 pInt p))) := by
  rw [List.map_map]
  exact xi_enum hm h hg hs
end
end Ty

/-! Ty12 -/
namespace Ty
open PySem PySem.Spec L2
open PyProof.Rows
/-! ### defs that may raise -/
/-- an error of an own class: its name and its whole numbers -/
abbrev Exn := String × List Int
inductive Rx (ρ : Type) where
  | ok (r : ρ)
  | ex (e : Exn)
def exK {α β : Type} (o : Option (Rx α)) (ke : Exn → Option β) (kk : α → Option β) : Option β := o.bind fun
  | .ok r => kk r
  | .ex e => ke e
theorem exK_some {α β : Type} {o : Option (Rx α)} {ke : Exn → Option β} {kk : α → Option β} {b : β} (h : exK o ke kk = some b) : (∃ e, o = some (.ex e) ∧ ke e = some b) ∨ ∃ r, o = some (.ok r) ∧ kk r = some b := by
  unfold exK at h
  obtain ⟨x, h1, h2⟩ := Option.bind_eq_some_iff.mp h
  cases x with
  | ok r => exact .inr ⟨r, h1, h2⟩
  | ex e => exact .inl ⟨e, h1, h2⟩
/-- how an error is told: its class, its dict -/
abbrev ExT := Exn → Value → Option Addr → Hp → Prop
def slRx {ρ : Type} (Sr : ρ → Slot) : Rx ρ → Slot
  | .ok r => Sr r
  | .ex _ => { P := fun _ _ _ _ => False, mono := fun _ _ h => h, st := True, mm := fun _ {_ _ _ _ _ _} _ _ h => h }
section
variable {P : Program} {w : World} {K : PySem.W.Frag} {mg : Str → Option Value} {base : Heap} {k : Nat}
def spX {ι ρ : Type} (As : ι → List Slot) (m : ι → Option (Rx ρ)) (Sr : ρ → Slot) (X : ExT) : Sp := fun vs H Q E => ∃ (z : ι) (r : Rx ρ) (F : Hp), m z = some r ∧ Same F H ∧ Slots F H [] (vs.map some) (As z) ∧
  (∀ v F' H' fp, Wo ⟨F, H, []⟩ F' H' fp → (slRx Sr r).P F' H' fp (some v) → Q v H') ∧
  ∀ e, r = .ex e → ∀ cls d F' H', Wo ⟨F, H, []⟩ F' H' [] → X e cls d H' → E cls d H'
def fbX (P : Program) (w : World) (K : PySem.W.Frag) (mg : Str → Option Value) (base : Heap) (N : List Str) (qual : Str) (st : Stmt) (f : Addr) (cdv : Value) (A : Around) (outer : List Env) (s : Shared) (H : Hp) (E : XK) (k : Nat) (hr : Room k (A.deeper (envOfC qual (defScope st) s.heap.objs.size f cdv))) (nd : N.Nodup) : Fa P w K mg base k where
  I := Unit
  X := fun _ => cxOf (L2.CX P w) P w K mg base N qual (defScope st) f cdv A outer s H E
  hP := fun _ => rfl
  hw := fun _ => rfl
  hK := fun _ => rfl
  hM := fun _ => rfl
  hB := fun _ => rfl
  cm := true
  hC := fun _ => rfl
  hR := fun _ _ => hr
  hU := fun _ => hr.units
  W := fun cls d _ H => E cls d H
  tk := fun _ => takes_of rfl rfl rfl rfl
  hN := fun _ => nd
  hO := fun _ => passes_of rfl
/-- what a body's wish of errors is: at the entry B nothing owned; r: how the def ends -/
def Wish (Wx : WX) (B : Bs) (Γ : List Slot) (X : ExT) (e : Exn) : Prop := ∀ cls d σ F H os, In B F H os σ Γ → X e cls d H → Wx cls d σ H
theorem fn_pureX {ι ρ : Type} {As : ι → List Slot} {m : ι → Option (Rx ρ)} {Sr : ρ → Slot} {EX : ExT} {x qual : Str} {st : Stmt} {f : Addr} {fd : FuncData} {N ps : List Str} (Fn : Fun K x qual st f fd) (S : FnScope N ps (defScope st)) (hlen : ∀ z, (As z).length = ps.length)
    (body : ∀ (cdv : Value) (A : Around) (outer : List Env) (s : Shared) (H : Hp) (E : XK) (hr : Room k (A.deeper (envOfC qual (defScope st) s.heap.objs.size f cdv))) (z : ι) (r : Rx ρ) (B : Bs), m z = some r →
      (∀ e, r = .ex e → ∀ Γ, Wish (fun cls d _ H => E cls d H) B Γ EX e) →
      Go (fbX P w K mg base N qual st f cdv A outer s H E k hr S.nd) () (defBody st) (DF B (slRx Sr r)) B (As z ++ List.replicate (N.length - ps.length) dead)) : FnOk P w K mg base (L2.CX P w) (k + 1) f fd ps (spX As m Sr EX) := by
  refine Fn.okX S (fun vs H Q E h => ?_) (fun cdv A outer s H vs Q E hr h => ?_)
  · obtain ⟨z, r, F, _, _, Sl, _⟩ := h
    have e := Sl.length
    rw [List.length_map] at e
    rw [e, hlen]
  · obtain ⟨z, r, F, hm, hS, Sl, q, qe⟩ := h
    refine ⟨_, pss_cont, ?_⟩
    have go := body cdv A outer s H E hr z r ⟨F, H, []⟩ hm (fun e he Γ cls d σ F' H' os hW hx => qe e he cls d F' H' (Wo.drop (a := os) (b := []) (by simpa using hW.W)) hx)
    have S0 : Sta ⟨F, H, []⟩ F H (L2.start N vs) (As z ++ List.replicate (N.length - ps.length) dead) := by
      refine ⟨[], wo_nil hS, ?_⟩
      unfold L2.start
      have e := Sl.length
      rw [List.length_map, hlen] at e
      rw [e]
      exact Slots.append Sl (slots_dead _)
    exact cont_mono (go F H _ S0) (fun σ H' ⟨F', fp, W', p'⟩ => q .non F' H' fp W' p') (fun v H' ⟨F', fp, W', p'⟩ => q v F' H' fp W' p') (fun _ _ z => z.elim) (fun _ _ z => z.elim)
variable {Y : Fa P w K mg base k} {i : Y.I} {e ea eb eo ev tg iter elt : Expr} {es ifs : List Expr} {rest body : List Stmt} {Γ Γ' Γ1 Γ2 Δ Δ' As : List Slot} {a b c r s s' : Slot} {pos : Pos} {B : Bs} {D : Ends} {x f : Str} {p' : Pos} {C : Addr} {EX : ExT} {ex : Exn}
/-- e raises ex -/
def XXe (Y : Fa P w K mg base k) (e : Expr) (Γ : List Slot) (EX : ExT) (ex : Exn) : Prop :=
  ∃ t : TE, (∀ i, PE (Y.X i) e t) ∧ ∀ (B : Bs) (F H : Hp) (os : List Addr) (σ : List (Option V)) (Q : VK), In B F H os σ Γ →
    (∀ cls d F' H' fp, Same F F' → Same H H' → Wo B F' H' (fp ++ os) → EX ex cls d H' → Y.W cls d σ H') → t σ H Q
def XAe (Y : Fa P w K mg base k) (es : List Expr) (Γ : List Slot) (EX : ExT) (ex : Exn) : Prop :=
  ∃ t : TA, (∀ i, PA (Y.X i) es t) ∧ ∀ (B : Bs) (F H : Hp) (os : List Addr) (σ : List (Option V)) (Q : List V → Hp → Prop), In B F H os σ Γ →
    (∀ cls d F' H' fp, Same F F' → Same H H' → Wo B F' H' (fp ++ os) → EX ex cls d H' → Y.W cls d σ H') → t σ H Q
theorem pa_dum {i : Y.I} : PA (Y.X i) es (fun _ _ _ => False) := ⟨fun _ _ _ _ _ _ _ h => h.elim⟩
/-- f(e, ..) of a def that may raise -/
theorem x_callX {ι ρ : Type} {As : ι → List Slot} {m : ι → Option (Rx ρ)} {Sr : ρ → Slot} {args : List Slot} {z : ι} {q : ρ} {j : Nat} {f : Addr} {fd : FuncData} {ps : List Str} (Fn : FnOk P w K mg base (L2.CX P w) j f fd ps (spX As m Sr EX)) (hj : j ≤ k) (hm : mg x = some (.ref f)) (hk : PySem.W.keepIn K (.ref f) = true) (hb : Binds K fd ps [])
    (ha : XA Y (e :: es) Γ args) (hargs : args = As z) (hno : NoOwn args) (hq : m z = some (.ok q)) (hg : ∀ i, Gl (Y.X i) x := by intro _; rfl) (hdb : (x == ("__debug__" : Str)) = false := by decide)
    (he : ∀ i, starEach (e :: es) (Y.X i).env = (false, eval e (Y.X i).env) :: starEach es (Y.X i).env := by intro _; rfl) (hpl : ∀ i, (backTo pos (starEach es (Y.X i).env)).any (·.1) = false := by intro _; rfl) (hcm : Y.cm = true := by rfl) : XV Y (.Call (.Name x p') (e :: es) [] pos) Γ (Sr q) := by
  subst hargs
  obtain ⟨t, pa, rd⟩ := ha
  have FF : ∀ i, FnOk (Y.X i).prog (Y.X i).w (Y.X i).K (Y.X i).mg (Y.X i).base (L2.CX (Y.X i).prog (Y.X i).w) j f fd ps (spX As m Sr EX) := fun i => by rw [Y.hP i, Y.hw i, Y.hK i, Y.hM i, Y.hB i]; exact Fn
  refine ⟨_, fun i => pe_callS (FF i) ((Y.hR hcm i).mono hj) (hg i) (by rw [Y.hM i]; exact hm) (by rw [Y.hK i]; exact hk) (by rw [Y.hK i]; exact hb) (E := WE Y.W) (fun σ => passAt (Y.tk i) σ) (pa i) hdb (he i) (hpl i), fun B F H os σ Q I kk => ?_⟩
  refine rd B F H os σ _ I fun vs F1 H1 fp f1 e1 W1 S1 => ?_
  obtain rfl := hno.nil S1
  refine ⟨z, .ok q, F1, hq, W1.sub, S1, fun v F2 H2 fp W2 p2 => ?_, fun e he => by cases he⟩
  obtain ⟨f2, e2, W3⟩ := W1.called W2
  exact kk v F2 H2 fp (f1.trans f2) (e1.trans e2) W3 p2
theorem xx_call {ι ρ : Type} {As : ι → List Slot} {m : ι → Option (Rx ρ)} {Sr : ρ → Slot} {args : List Slot} {z : ι} {j : Nat} {f : Addr} {fd : FuncData} {ps : List Str} (Fn : FnOk P w K mg base (L2.CX P w) j f fd ps (spX As m Sr EX)) (hj : j ≤ k) (hm : mg x = some (.ref f)) (hk : PySem.W.keepIn K (.ref f) = true) (hb : Binds K fd ps [])
    (ha : XA Y (e :: es) Γ args) (hargs : args = As z) (hno : NoOwn args) (hq : m z = some (.ex ex)) (hg : ∀ i, Gl (Y.X i) x := by intro _; rfl) (hdb : (x == ("__debug__" : Str)) = false := by decide)
    (he : ∀ i, starEach (e :: es) (Y.X i).env = (false, eval e (Y.X i).env) :: starEach es (Y.X i).env := by intro _; rfl) (hpl : ∀ i, (backTo pos (starEach es (Y.X i).env)).any (·.1) = false := by intro _; rfl) (hcm : Y.cm = true := by rfl) : XXe Y (.Call (.Name x p') (e :: es) [] pos) Γ EX ex := by
  subst hargs
  obtain ⟨t, pa, rd⟩ := ha
  have FF : ∀ i, FnOk (Y.X i).prog (Y.X i).w (Y.X i).K (Y.X i).mg (Y.X i).base (L2.CX (Y.X i).prog (Y.X i).w) j f fd ps (spX As m Sr EX) := fun i => by rw [Y.hP i, Y.hw i, Y.hK i, Y.hM i, Y.hB i]; exact Fn
  refine ⟨_, fun i => pe_callS (FF i) ((Y.hR hcm i).mono hj) (hg i) (by rw [Y.hM i]; exact hm) (by rw [Y.hK i]; exact hk) (by rw [Y.hK i]; exact hb) (E := WE Y.W) (fun σ => passAt (Y.tk i) σ) (pa i) hdb (he i) (hpl i), fun B F H os σ Q I kk => ?_⟩
  refine rd B F H os σ _ I fun vs F1 H1 fp f1 e1 W1 S1 => ?_
  obtain rfl := hno.nil S1
  refine ⟨z, .ex ex, F1, hq, W1.sub, S1, fun v F2 H2 fp W2 p2 => p2.elim, fun e he cls d F2 H2 W2 hx => ?_⟩
  cases he
  obtain ⟨f2, e2, W3⟩ := W1.called W2
  exact kk cls d F2 H2 [] (f1.trans f2) (e1.trans e2) W3 hx
/-- an error within what is written -/
theorem xae_here (h : XXe Y e Γ EX ex) (hs : ∀ i, starEach (e :: es) (Y.X i).env = (false, eval e (Y.X i).env) :: starEach es (Y.X i).env := by intro _; rfl) : XAe Y (e :: es) Γ EX ex := by
  obtain ⟨t, p, rd⟩ := h
  exact ⟨_, fun i => pa_cons (p i) pa_dum (hs i), fun B F H os σ Q I kk => rd B F H os σ _ I kk⟩
theorem xae_next (h : XV Y e Γ a) (h2 : XAe Y es Γ EX ex) (hs : ∀ i, starEach (e :: es) (Y.X i).env = (false, eval e (Y.X i).env) :: starEach es (Y.X i).env := by intro _; rfl) : XAe Y (e :: es) Γ EX ex := by
  obtain ⟨t, p, rd⟩ := h
  obtain ⟨t2, p2, rd2⟩ := h2
  refine ⟨_, fun i => pa_cons (p i) (p2 i) (hs i), fun B F H os σ Q I kk => ?_⟩
  refine rd B F H os σ _ I fun v F1 H1 fp f1 e1 W1 p1 => ?_
  refine rd2 B F1 H1 _ σ _ (I.step f1 e1 W1) fun cls d F2 H2 fp2 f2 e2 W2 hx => ?_
  exact kk cls d F2 H2 (fp2 ++ fp) (f1.trans f2) (e1.trans e2) (by rw [List.append_assoc]; exact W2) hx
theorem xx_tup {n : Nat} (h : XAe Y es Γ EX ex) : XXe Y (.Tuple es n pos) Γ EX ex := by
  obtain ⟨t, p, rd⟩ := h
  exact ⟨_, fun i => pe_tup (p i), fun B F H os σ Q I kk => rd B F H os σ _ I kk⟩
theorem xx_lst (h : XAe Y es Γ EX ex) : XXe Y (.List es pos) Γ EX ex := by
  obtain ⟨t, p, rd⟩ := h
  exact ⟨_, fun i => pe_lst (p i), fun B F H os σ Q I kk => rd B F H os σ _ I kk⟩
theorem xx_op1 {op : Operator} {r2 : R2} (ho : ∀ i, OpR (Y.X i) (binaryOp op) r2) (h : XXe Y ea Γ EX ex) : XXe Y (.BinOp ea op eb pos) Γ EX ex := by
  obtain ⟨t, p, rd⟩ := h
  exact ⟨_, fun i => pe_op (ho i) (p i) pe_dum, fun B F H os σ Q I kk => rd B F H os σ _ I kk⟩
theorem xx_op2 {op : Operator} {r2 : R2} (ho : ∀ i, OpR (Y.X i) (binaryOp op) r2) (ha : XV Y ea Γ a) (h : XXe Y eb Γ EX ex) : XXe Y (.BinOp ea op eb pos) Γ EX ex := by
  obtain ⟨t, p, rd⟩ := h
  obtain ⟨t1, p1, rd1⟩ := ha
  refine ⟨_, fun i => pe_op (ho i) (p1 i) (p i), fun B F H os σ Q I kk => ?_⟩
  refine rd1 B F H os σ _ I fun v F1 H1 fp f1 e1 W1 q1 => ?_
  refine rd B F1 H1 _ σ _ (I.step f1 e1 W1) fun cls d F2 H2 fp2 f2 e2 W2 hx => ?_
  exact kk cls d F2 H2 (fp2 ++ fp) (f1.trans f2) (e1.trans e2) (by rw [List.append_assoc]; exact W2) hx
theorem Wish.lift {Wx : WX} {B1 : Bs} (h : Wish Wx B Γ EX ex) (hB : ∀ F H os, Wo B1 F H os → Wo B F H os) : Wish Wx B1 Γ EX ex := fun cls d σ F H os I hx => h cls d σ F H os ⟨hB _ _ _ I.W, I.S⟩ hx
/-! statements whose head raises -/
theorem wish_now (hw : Wish Y.W B Γ EX ex) {F H : Hp} {os : List Addr} {σ : List (Option V)} (I : In B F H os σ Γ) : ∀ cls d F' H' fp, Same F F' → Same H H' → Wo B F' H' (fp ++ os) → EX ex cls d H' → Y.W cls d σ H' := fun cls d F' H' fp f e W hx => hw cls d σ F' H' _ (I.step f e W) hx
theorem go_setE (h : XXe Y e Γ EX ex) (hw : Wish Y.W B Γ EX ex) {py : Pos} {j : Nat} (hi : (Y.X i).N[j]? = some x := by rfl) (hx : Loc (Y.X i).env.scope x := by first | exact Or.inl rfl | exact Or.inr rfl)
    (hs : swapsWith e (some (.Name x py)) pos.line (Y.X i).env = pure false := by rfl) (hf : (Y.X i).fn x = true ∨ (Y.X i).env.scope.names.lookup x = some .local := by first | exact Or.inl rfl | exact Or.inr rfl) : Go Y i (.Assign [.Name x py] e pos :: rest) D B Γ := by
  obtain ⟨t, p, rd⟩ := h
  refine go_ps (ps_set (Y.hN i) hi hx (p i) hs hf) fun F H σ ⟨os, W, S⟩ => ?_
  exact rd B F H os σ _ (Sta.in W S) (wish_now hw (Sta.in W S))
theorem go_retE (h : XXe Y e Γ EX ex) (hw : Wish Y.W B Γ EX ex) : Go Y i (.Return (some e) pos :: rest) D B Γ := by
  obtain ⟨t, p, rd⟩ := h
  refine go_ps (ps_ret (p i)) fun F H σ ⟨os, W, S⟩ => ?_
  exact rd B F H os σ _ (Sta.in W S) (wish_now hw (Sta.in W S))
theorem go_exprE (h : XXe Y e Γ EX ex) (hw : Wish Y.W B Γ EX ex) (hs : swapsWith e none pos.line (Y.X i).env = pure false := by rfl) : Go Y i (.Expr e pos :: rest) D B Γ := by
  obtain ⟨t, p, rd⟩ := h
  refine go_ps (ps_expr (p i) hs) fun F H σ ⟨os, W, S⟩ => ?_
  exact rd B F H os σ _ (Sta.in W S) (wish_now hw (Sta.in W S))
/-- raise e -/
def XMk (Y : Fa P w K mg base k) (e : Expr) (Γ : List Slot) (EX : ExT) (ex : Exn) : Prop :=
  ∃ t : L2.St → Hp → XK → Prop, (∀ i, PMk (Y.X i) e t) ∧ ∀ (B : Bs) (F H : Hp) (os : List Addr) (σ : List (Option V)) (Q : XK), In B F H os σ Γ →
    (∀ cls d F' H' fp, Same F F' → Same H H' → Wo B F' H' (fp ++ os) → EX ex cls d H' → Q cls d H') → t σ H Q
theorem go_raise (h : XMk Y e Γ EX ex) (hw : Wish Y.W B Γ EX ex) (hcm : Y.cm = true := by rfl) : Go Y i (.Raise (some e) none pos :: rest) D B Γ := by
  obtain ⟨t, p, rd⟩ := h
  refine go_ps (ps_raise ((Y.hC i).trans hcm) (Y.tk i) (p i)) fun F H σ ⟨os, W, S⟩ => ?_
  exact rd B F H os σ _ (Sta.in W S) (wish_now hw (Sta.in W S))
/-- X('text'), X an own class without own __init__ -/
theorem xm_own {bmB : List Value} {Bn newId initId : String} {m : Str} {j : Nat} {p2 : Pos} (F : ExcBaseFacts Bn newId initId bmB) (q : PySem.W.excIn K C bmB newId = true) (gC : mg x = some (.ref C)) (kC : PySem.W.keepIn K (.ref C) = true) (h1 : PySem.W.subIn K (.ref C) (.type "BaseException") = some true) (h2 : PySem.W.typeIn K (.ref C) = some (.type "type")) (hE : ∀ H, EX ex (.ref C) none H)
    (hg : ∀ i, Gl (Y.X i) x := by intro _; rfl) (hdb : (x == ("__debug__" : Str)) = false := by decide) : XMk Y (.Call (.Name x p') [.Constant (.str m) j p2] [] pos) Γ EX ex :=
  ⟨_, fun i => pmk_own F (by rw [Y.hK i]; exact q) (by rw [Y.hM i]; exact gC) (by rw [Y.hK i]; exact kC) (raises_own (by rw [Y.hK i]; exact h1) (by rw [Y.hK i]; exact h2)) (hg i) hdb,
    fun B F H os σ Q I kk => kk _ none F H [] same_refl same_refl I.W (hE H)⟩
end
end Ty

/-! Ty13 -/
namespace Ty
open PySem PySem.Spec L2
open PyProof.Rows
section
variable {P : Program} {w : World} {K : PySem.W.Frag} {mg : Str → Option Value} {base : Heap} {k : Nat}
/-- a try's body, its wish Wt -/
def Fa.tr (Y : Fa P w K mg base k) (Wt : WX) : Fa P w K mg base k where
  I := { q : Y.I × List (Addr × Obj) × (Value → Shared → Prop) // Takes ((Y.X q.1).tr q.2.1 q.2.2) Wt ∧ PassesOwn (model (Y.X q.1).prog (Y.X q.1).w) (Y.X q.1).A (Y.X q.1).env q.2.2 }
  X := fun j => (Y.X j.1.1).tr j.1.2.1 j.1.2.2
  hP := fun j => Y.hP j.1.1
  hw := fun j => Y.hw j.1.1
  hK := fun j => Y.hK j.1.1
  hM := fun j => Y.hM j.1.1
  hB := fun j => Y.hB j.1.1
  cm := Y.cm
  hC := fun j => Y.hC j.1.1
  hR := fun h j => Y.hR h j.1.1
  hU := fun j => Y.hU j.1.1
  W := Wt
  tk := fun j => j.2.1
  hN := fun j => Y.hN j.1.1
  hO := fun j => j.2.2
/-- an except suite: the exception at a -/
def Fa.suite (Y : Fa P w K mg base k) (a : Addr) (cls : Value) (d : Option Addr) : Fa P w K mg base k where
  I := { q : Y.I × Obj × List (Addr × Obj) // Zc cls d q.2.1 ∧ ∃ vs, q.2.1.data = .fields vs }
  X := fun j => (Y.X j.1.1).suite a ((a, j.1.2.1) :: j.1.2.2)
  hP := fun j => Y.hP j.1.1
  hw := fun j => Y.hw j.1.1
  hK := fun j => Y.hK j.1.1
  hM := fun j => Y.hM j.1.1
  hB := fun j => Y.hB j.1.1
  cm := false
  hC := fun _ => rfl
  hR := fun h => by cases h
  hU := fun j => Y.hU j.1.1
  W := fun _ _ _ _ => False
  tk := fun _ => takes0
  hN := fun j => Y.hN j.1.1
  hO := fun _ => PassesOwn.never
variable {Y : Fa P w K mg base k} {i : Y.I} {e ea eb eo ev tg iter elt : Expr} {es ifs : List Expr} {rest body suite : List Stmt} {b₀ : Stmt} {Γ Γ' Γ1 Γ2 Γh Δ Δ' As : List Slot} {a b c r s s' : Slot} {pos pos' np : Pos} {B : Bs} {D : Ends} {x n f : Str} {p' : Pos} {C : Addr} {EX : ExT} {ex : Exn}
/-- the exception that a suite holds -/
def pRef (a : Addr) : VP Unit := ⟨fun _ v _ => v = .ref a, fun _ h => h⟩
abbrev exS (a : Addr) : Slot := val (pRef a) ()
def tsC (Y : Fa P w K mg base k) (i : Y.I) (sts : List Stmt) : Addr → Value → Option Addr → TS := fun a cls d D σ H => ∀ (oe : Obj) (pn : List (Addr × Obj)), Zc cls d oe → (∃ vs, oe.data = .fields vs) → cont ((Y.X i).suite a ((a, oe) :: pn)) sts D σ H
def tbC (Y : Fa P w K mg base k) (i : Y.I) (sts : List Stmt) : WX → TS := fun Wt D σ H => ∀ (pn : List (Addr × Obj)) (xe : Value → Shared → Prop), Takes ((Y.X i).tr pn xe) Wt → PassesOwn (model (Y.X i).prog (Y.X i).w) (Y.X i).A (Y.X i).env xe → cont ((Y.X i).tr pn xe) sts D σ H
/-- the ends of a suite: the exception's name goes -/
def DS (D : Ends) (jn : Nat) : Ends := { nx := fun σ H => D.nx (σ.set jn none) H, rt := D.rt, bk := fun σ H => D.bk (σ.set jn none) H, ct := fun σ H => D.ct (σ.set jn none) H }
theorem go_try_as {cv : Value} (jn : Nat) (hc : Names (Y.X i) x cv)
    (hb : ∀ j : (Y.tr (wAs K cv jn (tsC Y i (b₀ :: suite)) Y.W { D with nx := cont (Y.X i) rest D })).I, j.1.1 = i → Go (Y.tr (wAs K cv jn (tsC Y i (b₀ :: suite)) Y.W { D with nx := cont (Y.X i) rest D })) j body { D with nx := cont (Y.X i) rest D } B Γ)
    (hs : (Y.X i).stack = (Y.X i).env :: (Y.X i).outer := by rfl) (hf : (Y.X i).env.frame = some (Y.X i).env.locals := by rfl) (hi : (Y.X i).N[jn]? = some n := by rfl) (hln : (Y.X i).env.kindOf n = some .local := by rfl) :
    Go Y i (.Try body [.ExceptHandler (some (.Name x np)) (some n) (b₀ :: suite) pos'] [] [] pos :: rest) D B Γ := by
  refine go_ps (ps_try_as (tb := tbC Y i body) (ts := tsC Y i (b₀ :: suite)) hs hf (Y.hN i) hi hln hc (Y.tk i) (fun W pn xe tk po => ⟨fun pins s σ H D I h => h pn xe tk po pins s I⟩) (fun a oe cls d pn hz hf => ⟨fun pins s σ H D I h => h oe pn hz hf pins s I⟩)) fun F H σ S => ?_
  rw [Y.hK i]
  intro pn xe tk po
  exact hb ⟨(i, pn, xe), tk, po⟩ rfl F H σ S
theorem go_try_only {cv : Value} (hc : Names (Y.X i) x cv)
    (hb : ∀ j : (Y.tr (wOnly K cv (tsC Y i (b₀ :: suite)) Y.W { D with nx := cont (Y.X i) rest D })).I, j.1.1 = i → Go (Y.tr (wOnly K cv (tsC Y i (b₀ :: suite)) Y.W { D with nx := cont (Y.X i) rest D })) j body { D with nx := cont (Y.X i) rest D } B Γ)
    (hs : (Y.X i).stack = (Y.X i).env :: (Y.X i).outer := by rfl) (hf : (Y.X i).env.frame = some (Y.X i).env.locals := by rfl) :
    Go Y i (.Try body [.ExceptHandler (some (.Name x np)) none (b₀ :: suite) pos'] [] [] pos :: rest) D B Γ := by
  refine go_ps (ps_try_only (tb := tbC Y i body) (ts := tsC Y i (b₀ :: suite)) hs hf hc (Y.tk i) (fun W pn xe tk po => ⟨fun pins s σ H D I h => h pn xe tk po pins s I⟩) (fun a oe cls d pn hz hf => ⟨fun pins s σ H D I h => h oe pn hz hf pins s I⟩)) fun F H σ S => ?_
  rw [Y.hK i]
  intro pn xe tk po
  exact hb ⟨(i, pn, xe), tk, po⟩ rfl F H σ S
/-- the error is caught: from there the suite -/
theorem wish_as {cv : Value} {jn : Nat} {sts : List Stmt} {Wout : WX} {Γd : List Slot} (hex : ∀ cls d H, EX ex cls d H → PySem.W.exmOne K cls cv = some true) (hw : WkL Γ Γd) (hj : Nat.blt jn Γd.length = true)
    (h : ∀ a cls d H (j : (Y.suite a cls d).I), EX ex cls d H → j.1.1 = i → Go (Y.suite a cls d) j sts (DS D jn) B (Γd.set jn (exS a))) : Wish (wAs K cv jn (tsC Y i sts) Wout D) B Γ EX ex := by
  rintro cls d σ F H os ⟨W, o2, r0, hp, S⟩ hx
  refine ⟨true, hex cls d H hx, fun _ a ha oe pn hz hf => ?_, fun z => by cases z⟩
  have S0 : Sta B F H σ Γ := ⟨o2, (W.perm hp).dropR, S⟩
  obtain ⟨F', o3, W3, S3⟩ := S0.wk hw
  obtain ⟨o4, d4, S4, p4⟩ := S3.put (r := exS a) (fp := []) (o := some (.ref a)) ⟨rfl, _, rfl, rfl⟩ (Nat.le_of_ble_eq_true hj)
  exact h a cls d H ⟨(i, oe, pn), hz, hf⟩ hx rfl F' H _ ⟨o4, (W3.perm (by simpa using p4)).drop, S4⟩
theorem wish_as_no {cv : Value} {jn : Nat} {sts : List Stmt} {Wout : WX} (hex : ∀ cls d H, EX ex cls d H → PySem.W.exmOne K cls cv = some false) (h : Wish Wout B Γ EX ex) : Wish (wAs K cv jn (tsC Y i sts) Wout D) B Γ EX ex :=
  fun cls d σ F H os I hx => ⟨false, hex cls d H hx, (fun z => by cases z), fun _ => h cls d σ F H os I hx⟩
theorem wish_only {cv : Value} {sts : List Stmt} {Wout : WX} {Γd : List Slot} (hex : ∀ cls d H, EX ex cls d H → PySem.W.exmOne K cls cv = some true) (hw : WkL Γ Γd)
    (h : ∀ a cls d H (j : (Y.suite a cls d).I), EX ex cls d H → j.1.1 = i → Go (Y.suite a cls d) j sts D B Γd) : Wish (wOnly K cv (tsC Y i sts) Wout D) B Γ EX ex := by
  rintro cls d σ F H os ⟨W, o2, r0, hp, S⟩ hx
  refine ⟨true, hex cls d H hx, fun _ a ha oe pn hz hf => ?_, fun z => by cases z⟩
  have S0 : Sta B F H σ Γ := ⟨o2, (W.perm hp).dropR, S⟩
  obtain ⟨F', S3⟩ := S0.wk hw
  exact h a cls d H ⟨(i, oe, pn), hz, hf⟩ hx rfl F' H _ S3
theorem wish_only_no {cv : Value} {sts : List Stmt} {Wout : WX} (hex : ∀ cls d H, EX ex cls d H → PySem.W.exmOne K cls cv = some false) (h : Wish Wout B Γ EX ex) : Wish (wOnly K cv (tsC Y i sts) Wout D) B Γ EX ex :=
  fun cls d σ F H os I hx => ⟨false, hex cls d H hx, (fun z => by cases z), fun _ => h cls d σ F H os I hx⟩
/-- behind the try's body: what follows the try -/
theorem go_end {Y2 : Fa P w K mg base k} {j : Y2.I} (h : Go Y i rest D B Γ) : Go Y2 j [] { D with nx := cont (Y.X i) rest D } B Γ := go_nil fun σ H ⟨F, S⟩ => h F H σ S
/-- behind a suite -/
theorem go_endS {Y2 : Fa P w K mg base k} {j : Y2.I} {jn : Nat} (h : Go Y i rest D B (Γ.set jn dead)) (hj : Nat.blt jn Γ.length = true := by rfl) : Go Y2 j [] (DS { D with nx := cont (Y.X i) rest D } jn) B Γ := go_nil fun σ H ⟨F, os, W, S⟩ => by
  obtain ⟨o4, d4, S4, p4⟩ := S.put (r := dead) (fp := []) (o := none) rfl (Nat.le_of_ble_eq_true hj)
  exact h F H _ ⟨o4, (W.perm (by simpa using p4)).drop, S4⟩
/-- an own class's name as a value -/
theorem x_cls (hm : mg x = some (.ref C)) (hg : ∀ i, Gl (Y.X i) x := by intro _; rfl) (hd : (x == ("__debug__" : Str)) = false := by decide) : XV Y (.Name x pos) Γ (val (pRef C) ()) :=
  x_glob (v := .ref C) hm rfl (fun _ => rfl) hg hd
/-- isinstance(e, X), e what the suite holds, without a dict -/
theorem x_isE {a Dc : Addr} {b : Bool} (hm : mg "isinstance" = none) (hE : ExcC K Dc) (hk : PySem.W.kitOne K (.ref Dc) (.ref C) = some b) (h1 : XV (Y.suite a (.ref Dc) none) ea Γ (exS a)) (h2 : XV (Y.suite a (.ref Dc) none) eb Γ (val (pRef C) ()))
    (hg : ∀ i, Gl ((Y.suite a (.ref Dc) none).X i) "isinstance" := by intro _; rfl)
    (hs2 : ∀ i, starEach [eb] ((Y.suite a (.ref Dc) none).X i).env = (false, eval eb ((Y.suite a (.ref Dc) none).X i).env) :: starEach [] ((Y.suite a (.ref Dc) none).X i).env := by intro _; rfl)
    (hs : ∀ i, starEach [ea, eb] ((Y.suite a (.ref Dc) none).X i).env = (false, eval ea ((Y.suite a (.ref Dc) none).X i).env) :: starEach [eb] ((Y.suite a (.ref Dc) none).X i).env := by intro _; rfl)
    (hpl : ∀ i, (backTo pos (starEach [eb] ((Y.suite a (.ref Dc) none).X i).env)).any (·.1) = false := by intro _; rfl) : XV (Y.suite a (.ref Dc) none) (.Call (.Name "isinstance" p') [ea, eb] [] pos) Γ (vBl b) := by
  have hc : ∀ j, CallR ((Y.suite a (.ref Dc) none).X j) (.builtin "isinstance") (rIsE K Dc a) := fun j => by
    have h := call_isE (X := Y.X j.1.1) (a := a) (D := Dc) (pn := j.1.2.2) (by rw [Y.hK]; exact hE) j.2.1 j.2.2
    rw [Y.hK] at h
    exact h
  refine x_callB hc hm (by decide +kernel) (c := vBl b) (opA2 fun B F H x y fx fy os Q W p1 p2 q => ?_) (xa2 h1 h2 hs2 hs) hg (he := hs) (hpl := hpl)
  obtain ⟨_, r1⟩ := val_P p1
  obtain ⟨_, r2⟩ := val_P p2
  cases r1; cases r2
  exact ⟨.ref C, .ref C, b, rfl, fun u hu => hu, hk, q _ F H [] same_refl same_refl W.drop.drop ⟨rfl, _, rfl, rfl⟩⟩
end
end Ty

/-! Ty14 -/
namespace Ty
open PySem PySem.Spec L2
open PyProof.Rows
section
variable {P : Program} {w : World} {K : PySem.W.Frag} {mg : Str → Option Value} {base : Heap} {k : Nat}
variable {Y : Fa P w K mg base k} {i : Y.I} {e ea eb eo ev tg iter elt : Expr} {es ifs : List Expr} {rest body suite : List Stmt} {Γ Γ' As : List Slot} {a b c r s s' : Slot} {pos kpos : Pos} {B : Bs} {D : Ends} {x n f : Str} {p' : Pos} {C : Addr} {EX : ExT} {ex : Exn} {kws : List Keyword}
/-! ### keywords -/
def XK' (Y : Fa P w K mg base k) (kws : List Keyword) (Γ As : List Slot) : Prop :=
  ∃ t : TA, (∀ i, PK (Y.X i) kws t) ∧ ∀ (B : Bs) (F H : Hp) (os : List Addr) (σ : List (Option V)) (Q : List V → Hp → Prop), In B F H os σ Γ →
    (∀ vs F' H' fp, Same F F' → Same H H' → Wo B F' H' (fp ++ os) → Slots F' H' fp (vs.map some) As → Q vs H') → t σ H Q
theorem xk_nil : XK' Y [] Γ [] := ⟨_, fun _ => pk_nil, fun B F H os σ Q I q => q [] F H [] same_refl same_refl I.W .nil⟩
theorem xk_cons {nm : Option Str} (h : XV Y e Γ a) (hr : XK' Y kws Γ As) : XK' Y (⟨nm, e, kpos⟩ :: kws) Γ (a :: As) := by
  obtain ⟨t, p, rd⟩ := h
  obtain ⟨t2, p2, rd2⟩ := hr
  refine ⟨_, fun i => pk_cons (p i) (p2 i), fun B F H os σ Q I q => ?_⟩
  refine rd B F H os σ _ I fun v F1 H1 fp f1 e1 W1 p1 => ?_
  refine rd2 B F1 H1 _ σ _ (I.step f1 e1 W1) fun vs F2 H2 fp2 f2 e2 W2 S2 => ?_
  refine q (v :: vs) F2 H2 (fp ++ fp2) (f1.trans f2) (e1.trans e2) (W2.perm ?_) (.cons (a.mono f2 e2 p1) S2)
  rw [← List.append_assoc]
  exact List.Perm.append_right os List.perm_append_comm
/-- the positional values, then the keywords' in the order of the parameters -/
def gK (n m : Nat) : List Value → List Value → List Value := fun us ws => if us.length = n ∧ ws.length = m then us ++ ws else []
def gKV (n m : Nat) : List V → List V → List V := fun us ws => if us.length = n ∧ ws.length = m then us ++ ws else []
theorem kbinds_of {fd : FuncData} {ps ks : List Str} {n m : Nat} (h0 : Nat.blt 0 ps.length = true) (h : ∀ us ws : List Value, us.length = n → ws.length = m → bindArgs fd ⟨us, ks.zip ws⟩ = pure (ps.zip (us ++ ws))) : KBinds K fd ps ks (gK n m) (gKV n m) := by
  refine ⟨fun s us ws _ hl => ?_, fun {vs us zs ws} r1 r2 => ?_⟩
  · unfold gK at hl ⊢
    by_cases hc : us.length = n ∧ ws.length = m
    · rw [if_pos hc]; exact .of_eq (h us ws hc.1 hc.2)
    · rw [if_neg hc] at hl
      have := Nat.le_of_ble_eq_true h0
      simp at hl; omega
  · unfold gK gKV
    rw [← r1.length, ← r2.length]
    by_cases hc : vs.length = n ∧ zs.length = m
    · rw [if_pos hc, if_pos hc]; exact r1.append r2
    · rw [if_neg hc, if_neg hc]; exact .nil
theorem run_kwS {X : Cx} {CX : CXT} {j : Nat} {f : Addr} {fd : FuncData} {ps ks : List Str} {sp : Sp} {na nb : Nat} {E : L2.St → XK} {pins : List (Addr × Obj)} {σ : L2.St} {H : Hp} {s : Shared} {Q : VK} {us ws : List Value} {vs zs : List V} (Fn : FnOk X.prog X.w X.K X.mg X.base CX j f fd ps sp) (hr : Room j X.A) (hb : KBinds X.K fd ps ks (gK na nb) (gKV na nb)) (hx : PassesAt CX X σ (E σ))
    (I : Inv X pins σ H s) (r : Vals vs us) (rz : Vals zs ws) (h : sp (gKV na nb vs zs) H Q (E σ)) : wpAny (model X.prog X.w) X.A (call (.ref f) us (ks.zip ws)) (EP X pins σ Q) X.xe s := by
  have q2 := hb.rel r rz
  have lens : (gK na nb us ws).length = ps.length := q2.length.symm.trans (Fn.len _ _ _ _ h)
  refine wpAny_call (codeAny_mono (Fn.run X.A X.stack s H ⟨us, ks.zip ws⟩ (gK na nb us ws) (gKV na nb vs zs) Q (E σ) hr I.env0 (hb.to s us ws I.kIn lens) q2 h) fun o t' hq => ?_)
  match o, hq with
  | .error ev, hq => exact hx pins H s ev t' I hq
  | .ok (.ret _), hq => exact I.after hq
  | .ok .next, hq => exact False.elim hq
  | .ok .brk, hq => exact False.elim hq
  | .ok .cont, hq => exact False.elim hq
def tCallKS (na nb : Nat) (sp : Sp) (E : L2.St → XK) (t tk : TA) : TE := fun σ H Q => t σ H fun vs H1 => tk σ H1 fun zs H2 => sp (gKV na nb vs zs) H2 Q (E σ)
theorem pe_callKS {X : Cx} {CX : CXT} {j : Nat} {f : Addr} {fd : FuncData} {ps ks : List Str} {sp : Sp} {na nb : Nat} {E : L2.St → XK} {t tk : TA} (Fn : FnOk X.prog X.w X.K X.mg X.base CX j f fd ps sp) (hr : Room j X.A) (hg : Gl X x) (hm : X.mg x = some (.ref f)) (hk : PySem.W.keepIn X.K (.ref f) = true) (hb : KBinds X.K fd ps ks (gK na nb) (gKV na nb)) (hx : ∀ σ, PassesAt CX X σ (E σ))
    (ha : PA X (e :: es) t) (hkw : PK X kws tk) (hall : (backToKw pos (keywordEach kws X.env)).all (·.1.isSome) = true) (hks : (backToKw pos (keywordEach kws X.env)).filterMap (·.1) = ks)
    (hdb : (x == ("__debug__" : Str)) = false) (he : starEach (e :: es) X.env = (false, eval e X.env) :: starEach es X.env)
    (hpl : ((backTo pos (starEach (e :: es) X.env)).any (·.1) || (backToKw pos (keywordEach kws X.env)).any (·.1.isNone)) = false) : PE X (.Call (.Name x p') (e :: es) kws pos) (tCallKS na nb sp E t tk) := by
  constructor
  intro pins s0 σ H Q I0 hh
  apply wpAny_Call_Name_kw
  refine ld_glob I0 hg hm ?_ hdb
  refine PySem.W.callWith_KW (h₀ := X.base) I0.ok.mod.kin hk hall ?_ hpl he
  refine thn (ha.run pos pins s0 σ H _ I0 hh) ?_
  rintro us sa ⟨vs, Ha, Ia, ra, qa⟩
  refine thn (hkw.run pos pins sa σ Ha _ Ia qa) ?_
  rintro ws sb ⟨zs, Hb, Ib, rb, qb⟩
  refine ⟨Ib.kIn, ?_⟩
  rw [hks]
  exact run_kwS Fn hr hb (hx σ) Ib ra rb qb
theorem x_callXK {ι ρ : Type} {As : ι → List Slot} {m : ι → Option (Rx ρ)} {Sr : ρ → Slot} {args kargs : List Slot} {z : ι} {q : ρ} {j : Nat} {f : Addr} {fd : FuncData} {ps ks : List Str} (Fn : FnOk P w K mg base (L2.CX P w) j f fd ps (spX As m Sr EX)) (hj : j ≤ k) (hm : mg x = some (.ref f)) (hk : PySem.W.keepIn K (.ref f) = true) {na nb : Nat} (hb : KBinds K fd ps ks (gK na nb) (gKV na nb))
    (ha : XA Y (e :: es) Γ args) (hkw : XK' Y kws Γ kargs) (hargs : args ++ kargs = As z) (hno : NoOwn args) (hno2 : NoOwn kargs) (hq : m z = some (.ok q)) (hn1 : args.length = na := by rfl) (hn2 : kargs.length = nb := by rfl) (hall : ∀ i, (backToKw pos (keywordEach kws (Y.X i).env)).all (·.1.isSome) = true := by intro _; rfl) (hks : ∀ i, (backToKw pos (keywordEach kws (Y.X i).env)).filterMap (·.1) = ks := by intro _; rfl)
    (hg : ∀ i, Gl (Y.X i) x := by intro _; rfl) (hdb : (x == ("__debug__" : Str)) = false := by decide)
    (he : ∀ i, starEach (e :: es) (Y.X i).env = (false, eval e (Y.X i).env) :: starEach es (Y.X i).env := by intro _; rfl) (hpl : ∀ i, ((backTo pos (starEach (e :: es) (Y.X i).env)).any (·.1) || (backToKw pos (keywordEach kws (Y.X i).env)).any (·.1.isNone)) = false := by intro _; rfl) (hcm : Y.cm = true := by rfl) : XV Y (.Call (.Name x p') (e :: es) kws pos) Γ (Sr q) := by
  obtain ⟨t, pa, rd⟩ := ha
  obtain ⟨tk, pk, rdk⟩ := hkw
  have FF : ∀ i, FnOk (Y.X i).prog (Y.X i).w (Y.X i).K (Y.X i).mg (Y.X i).base (L2.CX (Y.X i).prog (Y.X i).w) j f fd ps (spX As m Sr EX) := fun i => by rw [Y.hP i, Y.hw i, Y.hK i, Y.hM i, Y.hB i]; exact Fn
  refine ⟨_, fun i => pe_callKS (FF i) ((Y.hR hcm i).mono hj) (hg i) (by rw [Y.hM i]; exact hm) (by rw [Y.hK i]; exact hk) (by rw [Y.hK i]; exact hb) (E := WE Y.W) (fun σ => passAt (Y.tk i) σ) (pa i) (pk i) (hall i) (hks i) hdb (he i) (hpl i), fun B F H os σ Q I kk => ?_⟩
  refine rd B F H os σ _ I fun vs F1 H1 fp f1 e1 W1 S1 => ?_
  obtain rfl := hno.nil S1
  refine rdk B F1 H1 os σ _ (I.step0 f1 e1 W1) fun zs F2 H2 fp f2 e2 W2 S2 => ?_
  obtain rfl := hno2.nil S2
  have S3 : Slots F2 H2 [] ((gKV na nb vs zs).map some) (As z) := by
    have l1 := S1.length
    have l2 := S2.length
    rw [List.length_map] at l1 l2
    unfold gKV
    rw [if_pos ⟨l1.trans hn1, l2.trans hn2⟩, ← hargs, List.map_append]
    exact Slots.append (S1.mono f2 e2) S2
  refine ⟨z, .ok q, F2, hq, W2.sub, S3, fun v F3 H3 fp W3 p3 => ?_, fun e he => by cases he⟩
  obtain ⟨f3, e3, W4⟩ := W2.called W3
  exact kk v F3 H3 fp ((f1.trans f2).trans f3) ((e1.trans e2).trans e3) W4 p3
theorem xx_callK {ι ρ : Type} {As : ι → List Slot} {m : ι → Option (Rx ρ)} {Sr : ρ → Slot} {args kargs : List Slot} {z : ι} {j : Nat} {f : Addr} {fd : FuncData} {ps ks : List Str} (Fn : FnOk P w K mg base (L2.CX P w) j f fd ps (spX As m Sr EX)) (hj : j ≤ k) (hm : mg x = some (.ref f)) (hk : PySem.W.keepIn K (.ref f) = true) {na nb : Nat} (hb : KBinds K fd ps ks (gK na nb) (gKV na nb))
    (ha : XA Y (e :: es) Γ args) (hkw : XK' Y kws Γ kargs) (hargs : args ++ kargs = As z) (hno : NoOwn args) (hno2 : NoOwn kargs) (hq : m z = some (.ex ex)) (hn1 : args.length = na := by rfl) (hn2 : kargs.length = nb := by rfl) (hall : ∀ i, (backToKw pos (keywordEach kws (Y.X i).env)).all (·.1.isSome) = true := by intro _; rfl) (hks : ∀ i, (backToKw pos (keywordEach kws (Y.X i).env)).filterMap (·.1) = ks := by intro _; rfl)
    (hg : ∀ i, Gl (Y.X i) x := by intro _; rfl) (hdb : (x == ("__debug__" : Str)) = false := by decide)
    (he : ∀ i, starEach (e :: es) (Y.X i).env = (false, eval e (Y.X i).env) :: starEach es (Y.X i).env := by intro _; rfl) (hpl : ∀ i, ((backTo pos (starEach (e :: es) (Y.X i).env)).any (·.1) || (backToKw pos (keywordEach kws (Y.X i).env)).any (·.1.isNone)) = false := by intro _; rfl) (hcm : Y.cm = true := by rfl) : XXe Y (.Call (.Name x p') (e :: es) kws pos) Γ EX ex := by
  obtain ⟨t, pa, rd⟩ := ha
  obtain ⟨tk, pk, rdk⟩ := hkw
  have FF : ∀ i, FnOk (Y.X i).prog (Y.X i).w (Y.X i).K (Y.X i).mg (Y.X i).base (L2.CX (Y.X i).prog (Y.X i).w) j f fd ps (spX As m Sr EX) := fun i => by rw [Y.hP i, Y.hw i, Y.hK i, Y.hM i, Y.hB i]; exact Fn
  refine ⟨_, fun i => pe_callKS (FF i) ((Y.hR hcm i).mono hj) (hg i) (by rw [Y.hM i]; exact hm) (by rw [Y.hK i]; exact hk) (by rw [Y.hK i]; exact hb) (E := WE Y.W) (fun σ => passAt (Y.tk i) σ) (pa i) (pk i) (hall i) (hks i) hdb (he i) (hpl i), fun B F H os σ Q I kk => ?_⟩
  refine rd B F H os σ _ I fun vs F1 H1 fp f1 e1 W1 S1 => ?_
  obtain rfl := hno.nil S1
  refine rdk B F1 H1 os σ _ (I.step0 f1 e1 W1) fun zs F2 H2 fp f2 e2 W2 S2 => ?_
  obtain rfl := hno2.nil S2
  have S3 : Slots F2 H2 [] ((gKV na nb vs zs).map some) (As z) := by
    have l1 := S1.length
    have l2 := S2.length
    rw [List.length_map] at l1 l2
    unfold gKV
    rw [if_pos ⟨l1.trans hn1, l2.trans hn2⟩, ← hargs, List.map_append]
    exact Slots.append (S1.mono f2 e2) S2
  refine ⟨z, .ex ex, F2, hq, W2.sub, S3, fun v F3 H3 fp W3 p3 => p3.elim, fun e he cls d F3 H3 W3 hx => ?_⟩
  cases he
  obtain ⟨f3, e3, W4⟩ := W2.called W3
  exact kk cls d F3 H3 [] ((f1.trans f2).trans f3) ((e1.trans e2).trans e3) W4 hx
end
end Ty

/-! Ty15 -/
/-! set(xs) of a list of ints, sorted of it -/
namespace Ty
section
open PySem PySem.W PySem.Calls PySem.Spec L2 PyProof.Rows
variable {P : Program} {w : World} {A : Around} {E : Value → Shared → Prop} {s : Shared}
abbrev nSet (w : World) : Obj := { cls := .type "set", dict := none, data := .set #[] 0 (.fresh 0 0 (!w.params.followText "set-order")) }
theorem call_setL {l : Addr} {items : Array Value} (ns : List Int) {Q : Value → Shared → Prop} (hh : A.handled = none) (hl : s.heap.IsList l items) (hit : IntsAre items.toList ns) (hb : ns.length + 1 < scanBound)
    (h : ∀ (h' : Heap) (tk c : Nat), SetR w h' s.heap.objs.size (fun j => decide (j ∈ ns)) c → c ≤ ns.length → (∀ b o, s.heap.get? b = some o → h'.get? b = some o) → Q (.ref s.heap.objs.size) { s with heap := h', toks := tk }) :
    wpAny (model P w) A (call (.type "set") [.ref l]) Q E s := by
  have szl : items.size = ns.length := by have q := IntsAre.length hit; rwa [Array.length_toList] at q
  obtain ⟨c, tl, mro⟩ := F.called_set.mro
  have a1 := F.called_set.made; have a2 := F.called_set.sub; have a3 := F.called_set.notType; have a4 := F.called_set.canCreate; have a5 := F.typeCall_set_1 (.ref l)
  refine wpAny_call (codeAny_of_tree ?_); show wpAny _ _ (callAny (.type "set") _) _ _ _
  refine wpAny_pure ⟨Code.quiet_builtin _ (by decide +kernel), codeAny_builtin F.entry_type_call ?_⟩; rw [Around.under_plain (weight_type_call_type "set" [.ref l] []) rfl]
  repeat (any_goals (first | assumption | wp_step))
  have S0 : (s.heap.push (nSet w)).get? s.heap.objs.size = some (nSet w) := Heap.get?_push_size _ rfl
  refine codeAny_mono (code_set_led1 (.ref l) (E := E) (Q₁ := fun ob t => ob = .ref s.heap.objs.size ∧ t = { s with heap := s.heap.push (nSet w) }) ⟨rfl, rfl⟩) fun r s₁ hr => ?_
  match r, hr with
  | .error e, hr => exact hr
  | .ok .next, hr => exact hr.elim
  | .ok .brk, hr => exact hr.elim
  | .ok .cont, hr => exact hr.elim
  | .ok (.ret ob), hr =>
    obtain ⟨rfl, rfl⟩ := hr
    have T0 : Shared.TypeIs { s with heap := s.heap.push (nSet w) } (.ref s.heap.objs.size) "set" := ⟨_, S0, rfl⟩
    have b1 := F.called_set.init.lookup; have b2 := F.called_set.init.bind (.ref s.heap.objs.size)
    repeat (any_goals (first | assumption | wp_step))
    refine codeAny_mono (codeAny_call_builtin (R := wants (fun r t => r = .none ∧ ∃ h' tk c, t = { s with heap := h', toks := tk } ∧ SetR w h' s.heap.objs.size (fun j => decide (j ∈ ns)) c ∧ c ≤ ns.length ∧ ∀ b o, s.heap.get? b = some o → h'.get? b = some o) E) F.called_set.init.plain F.entry_set_init (check_set_init_1 T0 ?_)) fun r₂ s₂ hr₂ => ?_
    · obtain ⟨⟨oc, od, odt, osl⟩, ho, hc, nl, hd⟩ := hl
      simp only at hc hd; subst hc; subst hd
      have ho1 : (s.heap.push (nSet w)).get? l = some { cls := .type "list", dict := od, data := .seq items nl, slots := osl } := Heap.get?_push_of_some _ ho
      have d1 := F.sub_list_set; have d2 := F.sub_list_frozenset
      have d3 : (Value.type "list" == Value.type "dict") = false := by decide
      have L1 : (s.heap.push (nSet w)).IsList l items := ⟨_, ho1, rfl, nl, rfl⟩
      unfold Builtin.«set.__init__» noKeywords Builtin.Frozenset.updateFrom; generalize hPI : pyIter = PI
      wp_walk
      subst hPI
      refine wpAny_pyIter_list L1 (wpAny_bind (wpAny_runValue ?_))
      have lt0 : l < s.heap.objs.size := Heap.lt_size ho
      have hh3 : A.in1.in1.in1.handled = none := by simp [hh]
      have ne1 : l ≠ (s.heap.push (nSet w)).objs.size := by rw [Heap.size_push]; exact Nat.ne_of_lt (Nat.lt_succ_of_lt lt0)
      have ne2 : s.heap.objs.size ∉ [(s.heap.push (nSet w)).objs.size, l] := by
        rw [Heap.size_push]; simp only [List.mem_cons, List.mem_singleton, List.not_mem_nil, or_false, not_or]; exact ⟨Nat.ne_of_lt (Nat.lt_succ_self _), Nat.ne_of_gt lt0⟩
      have vals : ∀ (i : Nat) (v : Value), items[i]? = some v → ∃ k t, ns[i]? = some k ∧ v = .int k t := fun i v hv => by
        have hi : i < ns.length := by rw [← szl]; exact (Array.getElem?_eq_some_iff.mp hv).1
        obtain ⟨t, e⟩ := IntsAre.int_at hit i v (by rw [Array.getElem?_toList]; exact hv)
        exact ⟨ns[i], t, List.getElem?_eq_getElem hi, by rw [e, List.getD_eq_getElem?_getD, List.getElem?_eq_getElem hi] <;> rfl⟩
      refine set_update_ints ((Walks.list hh3 _ l ne1 items).toS) s.heap.objs.size ne2 ns szl hb vals (items.size - 0) 0 _ (by omega) (Nat.zero_le _) ⟨⟨_, Heap.get?_push_size _ rfl, rfl, rfl⟩, L1.push _⟩ ⟨0, Nat.le_refl 0, setR_new_at (Heap.get?_push_of_some _ S0)⟩ fun t c2 mv hc2 hS2 => ?_
      obtain ⟨h2, g2, d2', tk2, os2⟩ := t
      obtain rfl : g2 = s.gens := mv.gens
      obtain rfl : d2' = s.drawn := mv.drawn
      obtain rfl : os2 = s.os := mv.os
      show wpAny _ _ _ _ _ _
      refine wpAny_pure ?_; show wpAny _ _ (ret Value.none) _ _ _
      refine wpAny_pure ⟨rfl, h2, tk2, c2, rfl, hS2, by rw [← szl]; exact hc2, fun b o e => ?_⟩
      have lb : b < s.heap.objs.size := Heap.lt_size e
      refine mv.heap b o ?_ (Heap.get?_push_of_some _ (Heap.get?_push_of_some _ e))
      simp only [List.mem_cons, List.mem_singleton, List.not_mem_nil, or_false, not_or]
      refine ⟨Nat.ne_of_lt lb, ?_⟩
      rw [Heap.size_push]; exact Nat.ne_of_lt (Nat.lt_succ_of_lt lb)
    · match r₂, hr₂ with
      | .error e, hr₂ => exact hr₂
      | .ok .next, hr₂ => exact hr₂.elim
      | .ok .brk, hr₂ => exact hr₂.elim
      | .ok .cont, hr₂ => exact hr₂.elim
      | .ok (.ret r), hr₂ =>
        obtain ⟨rfl, h2, tk2, c2, rfl, hS2, hc2, k2⟩ := hr₂
        repeat (any_goals (first | assumption | wp_step))
        exact h _ _ _ hS2 hc2 k2
end
end Ty

/-! Ty16 -/
namespace Ty
open PySem PySem.Spec L2
/-! ### ints in order, each once -/
def insD (k : Int) : List Int → List Int
  | [] => [k]
  | x :: r => if k < x then k :: x :: r else if k = x then x :: r else x :: insD k r
def sortD (xs : List Int) : List Int := xs.foldr insD []
theorem mem_insD {k y : Int} : ∀ {l : List Int}, y ∈ insD k l ↔ y = k ∨ y ∈ l
  | [] => by simp [insD]
  | x :: r => by
    unfold insD
    by_cases h1 : k < x
    · rw [if_pos h1]; simp
    · rw [if_neg h1]
      by_cases h2 : k = x
      · rw [if_pos h2]; subst h2; simp
      · rw [if_neg h2, List.mem_cons, mem_insD, List.mem_cons]
        constructor
        · rintro (h | h | h)
          · exact .inr (.inl h)
          · exact .inl h
          · exact .inr (.inr h)
        · rintro (h | h | h)
          · exact .inr (.inl h)
          · exact .inl h
          · exact .inr (.inr h)
theorem pw_insD {k : Int} : ∀ {l : List Int}, l.Pairwise (· < ·) → (insD k l).Pairwise (· < ·)
  | [], _ => by simp [insD]
  | x :: r, h => by
    obtain ⟨h1, h2⟩ := List.pairwise_cons.mp h
    unfold insD
    by_cases g1 : k < x
    · rw [if_pos g1]
      refine List.pairwise_cons.mpr ⟨fun y hy => ?_, h⟩
      rcases List.mem_cons.mp hy with rfl | hy
      · exact g1
      · exact Int.lt_trans g1 (h1 y hy)
    · rw [if_neg g1]
      by_cases g2 : k = x
      · rw [if_pos g2]; exact h
      · rw [if_neg g2]
        refine List.pairwise_cons.mpr ⟨fun y hy => ?_, pw_insD h2⟩
        rcases mem_insD.mp hy with rfl | hy
        · omega
        · exact h1 y hy
theorem mem_sortD {y : Int} : ∀ {xs : List Int}, y ∈ sortD xs ↔ y ∈ xs
  | [] => by simp [sortD]
  | x :: xs => by
    show y ∈ insD x (sortD xs) ↔ _
    rw [mem_insD, mem_sortD, List.mem_cons]
theorem pw_sortD : ∀ xs : List Int, (sortD xs).Pairwise (· < ·)
  | [] => List.Pairwise.nil
  | x :: xs => pw_insD (pw_sortD xs)
theorem pw_unique : ∀ {l l' : List Int}, l.Pairwise (· < ·) → l'.Pairwise (· < ·) → (∀ y, y ∈ l ↔ y ∈ l') → l = l'
  | [], [], _, _, _ => rfl
  | [], x :: r, _, _, h => absurd ((h x).mpr List.mem_cons_self) (by simp)
  | x :: r, [], _, _, h => absurd ((h x).mp List.mem_cons_self) (by simp)
  | x :: r, z :: q, h1, h2, h => by
    obtain ⟨a1, a2⟩ := List.pairwise_cons.mp h1
    obtain ⟨b1, b2⟩ := List.pairwise_cons.mp h2
    have e : x = z := by
      have c1 := (h x).mp List.mem_cons_self
      have c2 := (h z).mpr List.mem_cons_self
      rcases List.mem_cons.mp c1 with e | c1
      · exact e
      · rcases List.mem_cons.mp c2 with e | c2
        · exact e.symm
        · have d1 := b1 x c1
          have d2 := a1 z c2
          omega
    subst e
    congr 1
    refine pw_unique a2 b2 fun y => ⟨fun hy => ?_, fun hy => ?_⟩
    · rcases List.mem_cons.mp ((h y).mp (List.mem_cons_of_mem _ hy)) with e | hy'
      · subst e; exact absurd (a1 y hy) (Int.lt_irrefl _)
      · exact hy'
    · rcases List.mem_cons.mp ((h y).mpr (List.mem_cons_of_mem _ hy)) with e | hy'
      · subst e; exact absurd (b1 y hy) (Int.lt_irrefl _)
      · exact hy'
section
variable {P : Program} {w : World} {K : PySem.W.Frag} {mg : Str → Option Value} {base : Heap} {k : Nat}
variable {Y : Fa P w K mg base k} {i : Y.I} {e ea eb eo ev tg iter elt : Expr} {Γ : List Slot} {s : Slot} {ns : List Int}
def rSetI (K : PySem.W.Frag) (w : World) : List V → Hp → VK → Prop := fun xs H Q => ∃ (l : Addr) (ns : List Int), xs = [.ref l] ∧ SqL K H l (ns.map V.int) ∧ ns.length < 64 ∧ ∀ p n, H p = none → n ≤ ns.length → Q (.ref p) (upd H p (SetO w p (fun j => decide (j ∈ ns)) n))
theorem cr_setI {X : Cx} (hc : X.calm = true) : CallR X (.type "set") (rSetI X.K X.w) := by
  intro pins s σ H xs us Q I r h
  obtain ⟨l, ns, rfl, hs, h64, q⟩ := h
  obtain ⟨its, rv, pl, hz⟩ := I.list hs
  rw [Vals.ref1 r]
  refine call_setL ns (I.ok.hd hc) pl.isList (by simpa using rv.ints) (by unfold scanBound; omega) fun h' tk c R hc' kp => ?_
  exact ⟨.ref _, upd H s.heap.objs.size (SetO X.w s.heap.objs.size (fun j => decide (j ∈ ns)) c), I.laid (t' := tk) (fun b u e => kp b u e) (Nat.le_refl _) (setO_new R), rfl, q _ c (I.hok.fresh (Nat.le_refl _)) hc'⟩
theorem c_setI (Y : Fa P w K mg base k) (hcm : Y.cm = true := by rfl) (i : Y.I) : CallR (Y.X i) (.type "set") (rSetI K w) := by have h := cr_setI (X := Y.X i) ((Y.hC i).trans hcm); rw [Y.hK i, Y.hw i] at h; exact h
theorem c_sortSet (Y : Fa P w K mg base k) (hcm : Y.cm = true := by rfl) (i : Y.I) : CallR (Y.X i) (.builtin "sorted") (rSortedSet w) := by have h := cr_sortedSet (X := Y.X i) ((Y.hC i).trans hcm); rw [Y.hw i] at h; exact h
/-- a set of ints, owned -/
def setS (w : World) (ns : List Int) : Slot where
  P := fun F H fp o => ∃ a n, o = some (.ref a) ∧ fp = [a] ∧ H a = some (SetO w a (fun j => decide (j ∈ ns)) n) ∧ n < 64
  mono := fun _ hH h => let ⟨a, n, e1, e2, h1, h2⟩ := h; ⟨a, n, e1, e2, hH _ _ h1, h2⟩
  st := True
  mm := fun _ {_ _ _ _ _ _} _ hH h => let ⟨a, n, e1, e2, h1, h2⟩ := h; ⟨a, n, e1, e2, by rw [hH a (by rw [e2]; simp)]; exact h1, h2⟩
theorem o_setI (hs : SV K s pInt ns) (hz : ns.length < 64) : OpA (rSetI K w) [s] (setS w ns) := opA1 fun B F H v fx os Q W pv q => by
  obtain ⟨l, vs, ev, h1, h2⟩ := hs F H fx _ W.sub pv
  cases ev
  have e := map_int_of h2
  subst e
  exact ⟨l, ns, rfl, h1, hz, fun p n hp hn => q _ F _ [p] same_refl (same_upd hp) (W.drop.newO hp) ⟨p, n, rfl, rfl, upd_same, by omega⟩⟩
theorem o_sortSet : OpA (rSortedSet w) [setS w ns] (own (oL pInt) (sortD ns)) := opA1 fun B F H v fx os Q W pv q => by
  obtain ⟨a, n, ev, ef, h1, h2⟩ := pv
  cases ev
  refine ⟨a, _, n, rfl, h1, h2, fun ms p hpw hm hl hp => ?_⟩
  have e : ms = sortD ns := pw_unique hpw (pw_sortD ns) fun y => by rw [hm y, mem_sortD]; simp
  subst e
  exact newL W.drop hp (paired_map_int _) q
end
end Ty

/-! Ty17 -/
namespace Ty
open PySem PySem.Spec L2
section
variable {P : Program} {w : World} {K : PySem.W.Frag} {mg : Str → Option Value} {base : Heap} {k : Nat}
variable {Y : Fa P w K mg base k} {i : Y.I} {e ea eb eo ev tg iter elt : Expr} {Γ : List Slot} {s : Slot} {pos p1 p2 : Pos}
theorem exm_mk {C : Addr} {cls : Value} {b : Bool} (h1 : PySem.W.subIn K (.ref C) (.type "BaseException") = some true) (hi : PySem.W.isClsIn K C = true) (ht : PySem.W.typeIn K (.ref C) = some (.type "type")) (hs : PySem.W.subIn K cls (.ref C) = some b) : PySem.W.exmOne K cls (.ref C) = some b := by
  unfold PySem.W.isClsIn at hi
  unfold PySem.W.exmOne PySem.W.kitCls
  rw [h1]
  show (if ((PySem.W.clsIn K C).isSome && PySem.W.typeIn K (.ref C) == some (.type "type")) = true then PySem.W.subIn K cls (.ref C) else none) = some b
  rw [hi, ht, hs]; rfl
theorem kit_mk {C Dc : Addr} {b : Bool} (hne : (Value.ref Dc == Value.ref C) = false) (hi : PySem.W.isClsIn K C = true) (ht : PySem.W.typeIn K (.ref C) = some (.type "type")) (hs : PySem.W.subIn K (.ref Dc) (.ref C) = some b) : PySem.W.kitOne K (.ref Dc) (.ref C) = some b := by
  unfold PySem.W.isClsIn at hi
  unfold PySem.W.kitOne PySem.W.kitCls
  rw [hne]
  show (if ((PySem.W.clsIn K C).isSome && PySem.W.typeIn K (.ref C) == some (.type "type")) = true then PySem.W.subIn K (.ref Dc) (.ref C) else none) = some b
  rw [hi, ht, hs]; rfl
/-! ### list(range(..)), tuple(range(..)) -/
theorem paired_rg {F : Hp} (a b : Int) : Paired (pInt.R F) (rgV a b) (rangeL a b) := by
  unfold rgV rangeL
  generalize List.range (b - a).toNat = l
  induction l with
  | nil => exact .nil
  | cons x l ih => exact .cons rfl ih
theorem x_tupRg {n : Int} (h : XV Y e Γ (vInt n)) (hn : RgOk 0 n) (hm : mg "tuple" = none) (hm2 : mg "range" = none) (hg : ∀ i, Gl (Y.X i) "tuple" := by intro _; rfl) (hg2 : ∀ i, Gl (Y.X i) "range" := by intro _; rfl) (hcm : Y.cm = true := by rfl)
    (na : ∀ i, starEach [e] (Y.X i).env = (false, eval e (Y.X i).env) :: starEach [] (Y.X i).env := by intro _; rfl)
    (nb : ∀ i, starEach [.Call (.Name "range" p2) [e] [] p1] (Y.X i).env = (false, eval (.Call (.Name "range" p2) [e] [] p1) (Y.X i).env) :: starEach [] (Y.X i).env := by intro _; rfl) {p3 : Pos} : XV Y (.Call (.Name "tuple" p3) [.Call (.Name "range" p2) [e] [] p1] [] pos) Γ (val (pTup pInt) (rangeL 0 n)) := by
  obtain ⟨t, pe, rd⟩ := h
  refine ⟨_, fun i => pe_tupRg ((Y.hC i).trans hcm) (hg i) (by rw [Y.hM]; exact hm) (prg_1 (hg2 i) (by rw [Y.hM]; exact hm2) (pe i) (na i)) (nb i), fun B F H os σ Q I kk => ?_⟩
  refine rd B F H os σ _ I fun v F1 H1 fp f1 e1 W1 q1 => ?_
  obtain rfl := vint q1
  exact ⟨n, rfl, hn, fun l hl => newF (r := val (pTup pInt) (rangeL 0 n)) W1.drop hl (fun F' f e => ⟨rfl, _, rfl, l, _, rfl, e, paired_rg 0 n⟩) fun v F' H' fp' f2 e2 => kk v F' H' fp' (f1.trans f2) (e1.trans e2)⟩
theorem x_lstRg {n : Int} (h : XV Y e Γ (vInt n)) (hn : RgOk 0 n) (hm : mg "list" = none) (hm2 : mg "range" = none) (hg : ∀ i, Gl (Y.X i) "list" := by intro _; rfl) (hg2 : ∀ i, Gl (Y.X i) "range" := by intro _; rfl) (hcm : Y.cm = true := by rfl)
    (na : ∀ i, starEach [e] (Y.X i).env = (false, eval e (Y.X i).env) :: starEach [] (Y.X i).env := by intro _; rfl)
    (nb : ∀ i, starEach [.Call (.Name "range" p2) [e] [] p1] (Y.X i).env = (false, eval (.Call (.Name "range" p2) [e] [] p1) (Y.X i).env) :: starEach [] (Y.X i).env := by intro _; rfl) {p3 : Pos} : XV Y (.Call (.Name "list" p3) [.Call (.Name "range" p2) [e] [] p1] [] pos) Γ (own (oL pInt) (rangeL 0 n)) := by
  obtain ⟨t, pe, rd⟩ := h
  refine ⟨_, fun i => pe_listRg ((Y.hC i).trans hcm) (hg i) (by rw [Y.hM]; exact hm) (prg_1 (hg2 i) (by rw [Y.hM]; exact hm2) (pe i) (na i)) (nb i), fun B F H os σ Q I kk => ?_⟩
  refine rd B F H os σ _ I fun v F1 H1 fp f1 e1 W1 q1 => ?_
  obtain rfl := vint q1
  exact ⟨n, rfl, hn, fun l hl => newL W1.drop hl (paired_rg 0 n) fun v F' H' fp' f2 e2 => kk v F' H' fp' (f1.trans f2) (e1.trans e2)⟩
theorem x_lstRg2 {m n : Int} (ha : XV Y ea Γ (vInt m)) (hb : XV Y eb Γ (vInt n)) (hn : RgOk m n) (hm : mg "list" = none) (hm2 : mg "range" = none) (hg : ∀ i, Gl (Y.X i) "list" := by intro _; rfl) (hg2 : ∀ i, Gl (Y.X i) "range" := by intro _; rfl) (hcm : Y.cm = true := by rfl)
    (na : ∀ i, starEach [ea, eb] (Y.X i).env = (false, eval ea (Y.X i).env) :: starEach [eb] (Y.X i).env := by intro _; rfl) (na2 : ∀ i, starEach [eb] (Y.X i).env = (false, eval eb (Y.X i).env) :: starEach [] (Y.X i).env := by intro _; rfl)
    (nc : ∀ i, (backTo p1 (starEach [eb] (Y.X i).env)).any (·.1) = false := by intro _; rfl)
    (nb : ∀ i, starEach [.Call (.Name "range" p2) [ea, eb] [] p1] (Y.X i).env = (false, eval (.Call (.Name "range" p2) [ea, eb] [] p1) (Y.X i).env) :: starEach [] (Y.X i).env := by intro _; rfl) {p3 : Pos} : XV Y (.Call (.Name "list" p3) [.Call (.Name "range" p2) [ea, eb] [] p1] [] pos) Γ (own (oL pInt) (rangeL m n)) := by
  obtain ⟨t, pe, rd⟩ := ha
  obtain ⟨t2, pe2, rd2⟩ := hb
  refine ⟨_, fun i => pe_listRg ((Y.hC i).trans hcm) (hg i) (by rw [Y.hM]; exact hm) (prg_2 (hg2 i) (by rw [Y.hM]; exact hm2) (pe i) (pe2 i) (na i) (na2 i) (nc i)) (nb i), fun B F H os σ Q I kk => ?_⟩
  refine rd B F H os σ _ I fun v F1 H1 fp f1 e1 W1 q1 => ?_
  obtain rfl := vint q1
  refine rd2 B F1 H1 os σ _ (I.step0 f1 e1 W1.drop) fun v2 F2 H2 fp2 f2 e2 W2 q2 => ?_
  obtain rfl := vint q2
  exact ⟨m, n, rfl, rfl, hn, fun l hl => newL W2.drop hl (paired_rg m n) fun v F' H' fp' f3 e3 => kk v F' H' fp' ((f1.trans f2).trans f3) ((e1.trans e2).trans e3)⟩
/-! ### values of any make -/
def pDa (K : PySem.W.Frag) : VP PyData := ⟨fun F v d => Dp K F v d, fun hF h => Dp.mono hF h⟩
theorem XV.data {α : Type} [DecidableEq α] {p : VP α} {ok : α → Prop} {u : α} (E : DE p ok) (h : XV Y e Γ (val p u)) : XV Y e Γ (val (pDa K) (E.enc u)) := h.as fun F H fp o _ ⟨e1, v, e2, r⟩ => ⟨e1, v, e2, E.dp K F v u r⟩
theorem dpAll_paired {F : Hp} : ∀ {vs : List V} {ds : List PyData}, Paired ((pDa K).R F) vs ds → DpAll K F vs ds
  | _, _, .nil => .nil
  | _, _, .cons r t => .cons r (dpAll_paired t)
theorem paired_dpAll {F : Hp} : ∀ {vs : List V} {ds : List PyData}, DpAll K F vs ds → Paired ((pDa K).R F) vs ds
  | _, _, .nil => .nil
  | _, _, .cons r t => .cons r (paired_dpAll t)
theorem x_lstD {es : List Expr} {ds : List PyData} (ha : XA Y es Γ (ds.map (val (pDa K)))) (hz : ds.length ≤ sizeLine) : XV Y (.List es pos) Γ (val (pDa K) (.list ds)) :=
  ((x_lst (p := pDa K) ha hz).wk WkS.list).as fun F H fp o _ ⟨e1, v, e2, l, vs, ev, h1, h2⟩ => ⟨e1, v, e2, by subst ev; exact .lst (SqL.of h1) (dpAll_paired h2)⟩
/-- an item of such a list -/
def pdIx : PyData → Int → Option PyData
  | .list ds, z => atI ds z
  | _, _ => none
def pdLen : PyData → Option Int
  | .list ds => some (ds.length : Int)
  | _ => none
theorem SV.data {ds : List PyData} : SV K (Ty.val (pDa K) (.list ds)) (pDa K) ds := fun F H fp o hS h => by
  obtain ⟨_, v, e, r⟩ := h
  cases (show Dp K F v (.list ds) from r) with
  | lst h1 h2 => exact ⟨_, _, e, Same.seq hS h1, paired_dpAll h2⟩
theorem x_ixD {d u : PyData} {z : Int} (ha : XV Y ea Γ (val (pDa K) d)) (hb : XV Y eb Γ (vInt z)) (hz : pdIx d z = some u) (hx : PlainIx eb := by exact fun _ _ => rfl) : XV Y (.Subscript ea eb pos) Γ (val (pDa K) u) := by
  cases d with
  | list ds => exact x_ix ha SV.data hb hz hx
  | _ => cases hz
theorem o_lenD {d : PyData} {n : Int} (hz : pdLen d = some n) : OpA (rLenK K) [val (pDa K) d] (vInt n) := by
  cases d with
  | list ds => cases hz; exact o_lenL SV.data
  | _ => cases hz
theorem o_eqP {a b : Slot} {u v : PyData} (ha : Vw a (pDa K) u) (hb : Vw b (pDa K) v) (h1 : SeqAt.shaped u = true) (h2 : SeqAt.shaped v = true) : Op2 (rEqD K) a b (vBl (PyData.eqv u v)) := fun B F H x y fx fy os Q W p1 p2 q => by
  obtain ⟨x', ex, rx⟩ := ha F H fx _ W.sub p1
  obtain ⟨y', ey, ry⟩ := hb F H fy _ W.sub p2
  cases ex; cases ey
  exact ⟨u, v, rx, ry, h1, h2, q _ F H [] same_refl same_refl W.drop.drop ⟨rfl, _, rfl, rfl⟩⟩
theorem o_neP {a b : Slot} {u v : PyData} (ha : Vw a (pDa K) u) (hb : Vw b (pDa K) v) (h1 : SeqAt.shaped u = true) (h2 : SeqAt.shaped v = true) : Op2 (rNeD K) a b (vBl (!PyData.eqv u v)) := fun B F H x y fx fy os Q W p1 p2 q => by
  obtain ⟨x', ex, rx⟩ := ha F H fx _ W.sub p1
  obtain ⟨y', ey, ry⟩ := hb F H fy _ W.sub p2
  cases ex; cases ey
  exact ⟨u, v, rx, ry, h1, h2, q _ F H [] same_refl same_refl W.drop.drop ⟨rfl, _, rfl, rfl⟩⟩
/-- what isinstance(d, list) says -/
def pdTy : PyData → Option String
  | .none => some "NoneType"
  | .bool _ => some "bool"
  | .int _ => some "int"
  | .str _ => some "str"
  | .list _ => some "list"
  | .tuple _ => some "tuple"
  | _ => none
theorem TyV.data {d : PyData} {T : String} (h : pdTy d = some T) : TyV K (Ty.val (pDa K) d) T := fun F H fp o hS hp => by
  obtain ⟨_, v, e, r⟩ := hp
  refine ⟨v, e, ?_⟩
  have r2 : Dp K H v d := Dp.mono hS r
  cases r2 with
  | non => cases h; exact .base .non
  | bl b => cases h; exact .base (.bl b)
  | int b => cases h; exact .base (.int b)
  | str b => cases h; exact .base (.str b)
  | lst h1 h2 =>
    cases h
    rcases h1 with (h1 | ⟨o, h1⟩) | ⟨o, its, n, h1, h3, _⟩
    · exact .base (.lst h1)
    · exact .base (.frz h1)
    · exact .kList h1 h3
  | tup h1 h2 =>
    cases h
    rcases h1 with (h1 | ⟨o, h1⟩) | ⟨o, its, n, h1, h3, _⟩
    · exact .base (.tup h1)
    · exact .fTuple h1
    · exact .kTuple h1 h3
end
end Ty

/-! Pl1 -/
namespace Ty
open PySem PySem.Spec L2
theorem guard_pos {α : Type} {c : Prop} [Decidable c] {x : Option α} (h : c) : guardO c x = x := if_pos h
theorem letO_eq {α β : Type} (a : α) (f : α → Option β) : letO a f = f a := rfl
theorem flK_next {ρ S β : Type} (s : S) (kn : S → Option β) (kr : ρ → Option β) : flK (some (.next s)) kn kr = kn s := rfl
theorem flK_brk {ρ S β : Type} (s : S) (kn : S → Option β) (kr : ρ → Option β) : flK (some (.brk s)) kn kr = kn s := rfl
theorem flK_ret {ρ S β : Type} (r : ρ) (kn : S → Option β) (kr : ρ → Option β) : flK (some (.ret r)) kn kr = kr r := rfl
theorem rangeL_len (n : Int) : (rangeL 0 n).length = n.toNat := by simp [rangeL]
theorem rangeL_nat (n : Nat) : rangeL 0 (n : Int) = (List.range n).map fun (k : Nat) => (k : Int) := by simp [rangeL]
theorem rangeL_get {n : Int} {j : Nat} (h : j < n.toNat) : (rangeL 0 n)[j]? = some (j : Int) := by
  unfold rangeL
  rw [List.getElem?_map, List.getElem?_range (by simpa using h)]; simp
theorem mem_rangeL {x lo hi : Int} (h : x ∈ rangeL lo hi) : lo ≤ x ∧ x < hi := by
  unfold rangeL at h
  obtain ⟨k, hk, rfl⟩ := List.mem_map.mp h
  have := List.mem_range.mp hk
  omega
theorem fmO_all {α β : Type} {f : α → Option (Option β)} {g : α → β} : ∀ {xs : List α}, (∀ x ∈ xs, f x = some (some (g x))) → fmO xs f = some (xs.map g)
  | [], _ => rfl
  | x :: xs, h => by
    unfold fmO
    rw [h x List.mem_cons_self, Option.bind_some, fmO_all fun y hy => h y (List.mem_cons_of_mem _ hy)]; rfl
/-- a loop that never leaves early, by what holds behind each part of the list -/
theorem forF_ind {α S ρ : Type} {f : α → S → Option (Fl ρ S)} (P : List α → S → Prop) : ∀ {xs pre : List α} {s0 : S}, P pre s0 → (∀ p x q s, pre ++ xs = p ++ x :: q → P p s → ∃ s', f x s = some (.next s') ∧ P (p ++ [x]) s') → ∃ s', forF xs s0 f = some (.next s') ∧ P (pre ++ xs) s'
  | [], pre, s0, h, _ => ⟨s0, rfl, by simpa using h⟩
  | x :: xs, pre, s0, h, hs => by
    obtain ⟨s1, h1, h2⟩ := hs pre x xs s0 rfl h
    obtain ⟨s2, h3, h4⟩ := forF_ind P (xs := xs) (pre := pre ++ [x]) h2 fun p y q s e hp => hs p y q s (by rw [← e]; simp) hp
    refine ⟨s2, ?_, by simpa using h4⟩
    unfold forF
    rw [h1]; exact h3
theorem forF_ind0 {α S ρ : Type} {f : α → S → Option (Fl ρ S)} (P : List α → S → Prop) {xs : List α} {s0 : S} (h : P [] s0) (hs : ∀ p x q s, xs = p ++ x :: q → P p s → ∃ s', f x s = some (.next s') ∧ P (p ++ [x]) s') : ∃ s', forF xs s0 f = some (.next s') ∧ P xs s' := by
  have := forF_ind (f := f) P (xs := xs) (pre := []) h (by simpa using hs)
  simpa using this
theorem forF_cps {α S ρ : Type} {f : α → S → Option (Fl ρ S)} {goal : Prop} (P : List α → S → Prop) {xs : List α} {s0 : S} (h : P [] s0) (k : ∀ s', forF xs s0 f = some (.next s') → P xs s' → goal) (hs : ∀ p x q s, xs = p ++ x :: q → P p s → ∃ s', f x s = some (.next s') ∧ P (p ++ [x]) s') : goal :=
  let ⟨s', h1, h2⟩ := forF_ind0 P h hs; k s' h1 h2
theorem flK_eq {α S ρ β : Type} {f : α → S → Option (Fl ρ S)} {kn : S → Option β} {kr : ρ → Option β} {goal : Prop} {xs : List α} {s0 : S} {Z : Option β} (hF : flK (forF xs s0 f) kn kr = Z) (P : List α → S → Prop) (h : P [] s0) (k : ∀ s', P xs s' → kn s' = Z → goal) (hs : ∀ p x q s, xs = p ++ x :: q → P p s → ∃ s', f x s = some (.next s') ∧ P (p ++ [x]) s') : goal := by
  obtain ⟨s', h1, h2⟩ := forF_ind0 P h hs
  rw [h1] at hF
  exact k s' h2 hF
theorem atI_some {α : Type} {xs : List α} {i : Int} (h0 : 0 ≤ i) (h1 : i < xs.length) : ∃ v, atI xs i = some v ∧ xs[i.toNat]? = some v := by
  obtain ⟨j, rfl⟩ := Int.eq_ofNat_of_zero_le h0
  have hj : j < xs.length := by omega
  exact ⟨xs[j], atI_nat (List.getElem?_eq_getElem hj), by simp [hj]⟩
theorem atI_of {α : Type} {xs : List α} {j : Nat} (h : j < xs.length) : atI xs (j : Int) = some xs[j] := atI_nat (List.getElem?_eq_getElem h)
theorem mem_of_atI {α : Type} {xs : List α} {i : Int} {v : α} (h : atI xs i = some v) : v ∈ xs := by
  unfold atI at h
  obtain ⟨j, _, h⟩ := Option.bind_eq_some_iff.mp h
  exact List.mem_of_getElem? h
theorem line_le {n : Nat} (h : n ≤ 16777216) : n ≤ sizeLine := by rw [sizeLine_eq]; exact h
theorem line_lt {n : Nat} (h : n < 16777216) : n < sizeLine := by rw [sizeLine_eq]; exact h
/-! ### tables -/
section
variable {κ β : Type} [DecidableEq κ]
theorem dget_nil (k : κ) : dget ([] : List (κ × β)) k = none := rfl
theorem dget_cons (a : κ × β) (r : List (κ × β)) (k : κ) : dget (a :: r) k = if a.1 = k then some a.2 else dget r k := by
  by_cases h : a.1 = k <;> simp [dget, List.find?_cons, h]
theorem dget_none_any {kvs : List (κ × β)} {k : κ} (h : dget kvs k = none) : (kvs.any fun kv => decide (kv.1 = k)) = false := by
  induction kvs with
  | nil => rfl
  | cons a r ih =>
    rw [dget_cons] at h
    by_cases e : a.1 = k
    · simp [e] at h
    · rw [if_neg e] at h
      simp only [List.any_cons, e, decide_false, Bool.false_or]; exact ih h
theorem dput_new {kvs : List (κ × β)} {k : κ} {v : β} (h : dget kvs k = none) : dput kvs k v = kvs ++ [(k, v)] := by
  unfold dput
  rw [dget_none_any h]; rfl
theorem dget_snoc {kvs : List (κ × β)} {k q : κ} {v : β} (h : dget kvs k = none) : dget (kvs ++ [(k, v)]) q = if q = k then some v else dget kvs q := by
  induction kvs with
  | nil => rw [List.nil_append, dget_cons]; by_cases e : k = q <;> simp [e, dget_nil, eq_comm]
  | cons a r ih =>
    rw [dget_cons] at h
    by_cases e : a.1 = k
    · simp [e] at h
    · rw [if_neg e] at h
      rw [List.cons_append, dget_cons, dget_cons, ih h]
      by_cases e2 : a.1 = q
      · have : ¬ q = k := fun z => e (by rw [e2, z])
        simp [e2, this]
      · simp [e2]
end
/-! ### how many different items -/
theorem nodup_le {α : Type} [DecidableEq α] : ∀ {l l' : List α}, l.Nodup → (∀ x ∈ l, x ∈ l') → l.length ≤ l'.length
  | [], _, _, _ => Nat.zero_le _
  | a :: l, l', nd, h => by
    have nd' := List.nodup_cons.mp nd
    have ha := h a List.mem_cons_self
    have h2 : ∀ x ∈ l, x ∈ l'.erase a := fun x hx => (List.mem_erase_of_ne (fun e => nd'.1 (by rw [← e]; exact hx))).mpr (h x (List.mem_cons_of_mem _ hx))
    have := nodup_le nd'.2 h2
    rw [List.length_erase_of_mem ha] at this
    have hp : 0 < l'.length := List.length_pos_of_mem ha
    simp only [List.length_cons]; omega
def pairsL (n m : Nat) : List (Int × Int) := (List.range n).flatMap fun (a : Nat) => (List.range m).map fun (b : Nat) => ((a : Int), (b : Int))
theorem pairsL_len (n m : Nat) : (pairsL n m).length = n * m := by
  unfold pairsL
  induction n with
  | zero => simp
  | succ n ih => rw [List.range_succ, List.flatMap_append, List.length_append, ih]; simp [Nat.succ_mul]
theorem mem_pairsL {n m : Nat} {q : Int × Int} (h1 : 0 ≤ q.1 ∧ q.1 < n) (h2 : 0 ≤ q.2 ∧ q.2 < m) : q ∈ pairsL n m := by
  unfold pairsL
  refine List.mem_flatMap.mpr ⟨q.1.toNat, List.mem_range.mpr (by omega), List.mem_map.mpr ⟨q.2.toNat, List.mem_range.mpr (by omega), ?_⟩⟩
  exact Prod.ext (by simp; omega) (by simp; omega)
theorem pairs_bound {n m : Nat} {l : List (Int × Int)} (nd : l.Nodup) (h : ∀ q ∈ l, (0 ≤ q.1 ∧ q.1 < n) ∧ (0 ≤ q.2 ∧ q.2 < m)) : l.length ≤ n * m := by
  rw [← pairsL_len]
  exact nodup_le nd fun q hq => mem_pairsL (h q hq).1 (h q hq).2
end Ty

/-! K44M -/
namespace K44
open PySem PySem.Spec L2 Ty
structure S_Visits where
  met : List (List (Int))
  known : List ((List Int) × (Bool))
  origins : List ((Int) × (Int))
  count : Int
  at_ : Int
  deriving DecidableEq
structure S_Machine where
  input_count : Int
  output_count : Int
  moves : List (List ((Int) × (Int)))
  deriving DecidableEq
def m__law_cell (script_0 : List Int) (k_0 : Int) : Option (Int) :=
  (bif decide (k_0 < ((script_0).length : Int)) then ((atI script_0 k_0).bind fun v_1 => some (decide (((10 : Int) ^ ((9 : Int)).toNat) ≤ v_1))) else some false).bind fun b_3 =>
  bif b_3 then (
  (atI script_0 k_0).bind fun v_5 =>
  some v_5)
  else (
  letO (((7 : Int) * k_0) + (1 : Int)) fun cell_7 =>
  (bif decide ((0 : Int) < ((script_0).length : Int)) then (
  guardO (0 < ((script_0).length : Int)) <|
  (atI script_0 (k_0 % ((script_0).length : Int))).bind fun v_11 =>
  letO (cell_7 + ((31 : Int) * v_11)) fun cell_13 =>
  some cell_13)
  else (
  some cell_7) : Option ((Int))).bind fun cell_9 =>
  letO (((cell_9 * (48271 : Int)) + ((69621 : Int) * k_0)) % (2147483647 : Int)) fun cell_17 =>
  some (((cell_17 * (69621 : Int)) + ((48271 : Int) * (cell_17 / (1000 : Int)))) % (2147483629 : Int)))

def m__law_moves (script_0 : List Int) (at_0 : Int) (inputs_0 : Int) (outputs_0 : Int) (states_0 : Int) : Option (List (List ((Int) × (Int)))) :=
  guardO (-(2 ^ 62) ≤ states_0 ∧ states_0 < 2 ^ 62) <|
  flK (forF (ρ := List (List ((Int) × (Int)))) (rangeL 0 states_0) (([] : List (List ((Int) × (Int)))) : (List (List ((Int) × (Int))))) fun s_22 moves_21 =>
  guardO (0 ≤ inputs_0 ∧ inputs_0 ≤ 1000000) <|
  guardO (-(2 ^ 62) ≤ ((1 : Int) * 2 ^ (inputs_0).toNat) ∧ ((1 : Int) * 2 ^ (inputs_0).toNat) < 2 ^ 62) <|
  flK (forF (ρ := List (List ((Int) × (Int)))) (rangeL 0 ((1 : Int) * 2 ^ (inputs_0).toNat)) (([] : List ((Int) × (Int))) : (List ((Int) × (Int)))) fun r_27 entry_26 =>
  (m__law_cell script_0 (at_0 + s_22)).bind fun r_28 =>
  guardO (0 < (r_27 + (1 : Int)) ∧ (r_27 + (1 : Int)) < 1073741824) <|
  letO (((((r_28 / (r_27 + (1 : Int))) + ((40503 : Int) * r_27)) + ((31 : Int) * s_22)) * (48271 : Int)) % (2147483647 : Int)) fun cell_31 =>
  guardO (0 < states_0) <|
  guardO (0 ≤ outputs_0 ∧ outputs_0 ≤ 1000000) <|
  guardO (0 < ((1 : Int) * 2 ^ (outputs_0).toNat)) <|
  guardO ((entry_26).length < sizeLine) <|
  some (.next (entry_26 ++ [((cell_31 % states_0), ((cell_31 / (1009 : Int)) % ((1 : Int) * 2 ^ (outputs_0).toNat)))]))) (fun entry_26 =>
  guardO ((moves_21).length < sizeLine) <|
  some (.next (moves_21 ++ [entry_26])))
  (fun _ => none)) (fun moves_21 =>
  some moves_21)
  (fun _ => none)

def m_is_move (move_0 : (Int) × (Int)) (state_count_0 : Int) (output_count_0 : Int) : Option (Bool) :=
  (bif (decide ((0 : Int) ≤ move_0.1) && decide (move_0.1 < state_count_0)) then ((bif decide ((0 : Int) ≤ move_0.2) then (guardO (0 ≤ output_count_0 ∧ output_count_0 ≤ 1000000) (some (decide (move_0.2 < ((1 : Int) * 2 ^ (output_count_0).toNat))))) else some false).bind fun b_39 => some b_39) else some false).bind fun b_41 =>
  some b_41

def m_Machine_init (input_count_0 : Int) (output_count_0 : Int) (moves_0 : List (List ((Int) × (Int)))) : Option (S_Machine × Unit) :=
  bif ((!(decide ((0 : Int) ≤ input_count_0) && decide (input_count_0 ≤ (6 : Int)))) || (!(decide ((0 : Int) ≤ output_count_0) && decide (output_count_0 ≤ (32 : Int))))) then (
  none)
  else (
  bif decide (((moves_0).length : Int) = (0 : Int)) then (
  none)
  else (
  guardO (0 ≤ input_count_0 ∧ input_count_0 ≤ 1000000) <|
  letO ((1 : Int) * 2 ^ (input_count_0).toNat) fun rows_44 =>
  flK (forF (ρ := Unit) ((moves_0).zipIdx.map fun x => ((x.2 : Int), x.1)) (() : Unit) fun p_46 _ =>
  bif decide (p_46.1 = (1000 : Int)) then (
  none)
  else (
  guardO (-(2 ^ 62) ≤ (if ((p_46.2).length : Int) > rows_44 then ((p_46.2).length : Int) else rows_44) ∧ (if ((p_46.2).length : Int) > rows_44 then ((p_46.2).length : Int) else rows_44) < 2 ^ 62) <|
  flK (forF (ρ := Unit) (rangeL 0 (if ((p_46.2).length : Int) > rows_44 then ((p_46.2).length : Int) else rows_44)) (() : Unit) fun row_49 _ =>
  (bif decide ((if ((p_46.2).length : Int) < rows_44 then ((p_46.2).length : Int) else rows_44) ≤ row_49) then some true else ((atI p_46.2 row_49).bind fun v_50 => (m_is_move v_50 ((moves_0).length : Int) output_count_0).bind fun r_52 => some (!r_52))).bind fun b_54 =>
  bif b_54 then (
  none)
  else (
  some (.next ()))) (fun _ =>
  some (.next ()))
  (fun _ => none))) (fun _ =>
  guardO ((moves_0).length ≤ sizeLine) <|
  (fmO moves_0 fun entry_58 => (some (some entry_58))).bind fun ys_56 =>
  some (⟨input_count_0, output_count_0, ys_56⟩, ()))
  (fun _ => none)))

def m__law_row (count_0 : Int) (number_0 : Int) : Option (List (Int)) :=
  guardO (-(2 ^ 62) ≤ count_0 ∧ count_0 < 2 ^ 62) <|
  guardO (((rangeL 0 count_0)).length ≤ sizeLine) <|
  (fmO (rangeL 0 count_0) fun k_64 => (guardO (0 ≤ ((count_0 - (1 : Int)) - k_64)) (some (some ((number_0 / 2 ^ (((count_0 - (1 : Int)) - k_64)).toNat) % (2 : Int)))))).bind fun ys_62 =>
  some ys_62

def m__law_gathering (moves_0 : List (List ((Int) × (Int)))) (inputs_0 : Int) (most_0 : Int) : Option (PyData) :=
  bif decide (((moves_0).length : Int) = (1 : Int)) then (
  some (PyData.list [DE.str.enc ("course" : Str), (PyData.list [])]))
  else (
  guardO (-(2 ^ 62) ≤ (0 : Int) ∧ (0 : Int) < 2 ^ 62 ∧ -(2 ^ 62) ≤ ((moves_0).length : Int) ∧ ((moves_0).length : Int) < 2 ^ 62 ∧ (((moves_0).length : Int) - (0 : Int)).toNat ≤ 2 ^ 24) <|
  letO (rangeL 0 ((moves_0).length : Int)) fun start_68 =>
  guardO (0 ≤ ((moves_0).length : Int) ∧ ((moves_0).length : Int) ≤ 1000000) <|
  guardO (-(2 ^ 62) ≤ ((1 : Int) * 2 ^ (((moves_0).length : Int)).toNat) ∧ ((1 : Int) * 2 ^ (((moves_0).length : Int)).toNat) < 2 ^ 62) <|
  flK (forF (ρ := PyData) (rangeL 0 ((1 : Int) * 2 ^ (((moves_0).length : Int)).toNat)) (([start_68], [(start_68, ([] : List (List (Int))))]) : (List (List (Int))) × (List ((List Int) × (List (List (Int)))))) fun turn_75 (met_73, known_74) =>
  bif decide (turn_75 = ((met_73).length : Int)) then (
  some (.brk (met_73, known_74)))
  else (
  (atI met_73 turn_75).bind fun v_76 =>
  (dget known_74 v_76).bind fun v_78 =>
  guardO (0 ≤ inputs_0 ∧ inputs_0 ≤ 1000000) <|
  guardO (-(2 ^ 62) ≤ ((1 : Int) * 2 ^ (inputs_0).toNat) ∧ ((1 : Int) * 2 ^ (inputs_0).toNat) < 2 ^ 62) <|
  flK (forF (ρ := PyData) (rangeL 0 ((1 : Int) * 2 ^ (inputs_0).toNat)) ((met_73, known_74) : (List (List (Int))) × (List ((List Int) × (List (List (Int)))))) fun number_85 (met_83, known_84) =>
  (atI met_83 turn_75).bind fun v_86 =>
  guardO ((v_86).length ≤ sizeLine) <|
  (fmO v_86 fun state_90 => ((atI moves_0 state_90).bind fun v_91 => (atI v_91 number_85).bind fun v_93 => some (some v_93.1))).bind fun ys_88 =>
  guardO ((ys_88).length < 64) <|
  letO (sortD ys_88) fun together_97 =>
  bif decide (((together_97).length : Int) = (1 : Int)) then (
  (m__law_row inputs_0 number_85).bind fun r_99 =>
  guardO ((v_78).length + ([r_99]).length ≤ sizeLine) <|
  some (.ret (PyData.list [DE.str.enc ("course" : Str), (DE.list (DE.list DE.int)).enc (v_78 ++ [r_99])])))
  else (
  (bif (!(dget known_84 together_97).isSome) then (
  (m__law_row inputs_0 number_85).bind fun r_104 =>
  guardO ((v_78).length + ([r_104]).length ≤ sizeLine) <|
  guardO ((known_84).length < sizeLine) <|
  guardO ((met_83).length < sizeLine) <|
  some ((met_83 ++ [together_97]), (dput known_84 together_97 (v_78 ++ [r_104]))))
  else (
  some (met_83, known_84)) : Option ((List (List (Int))) × (List ((List Int) × (List (List (Int))))))).bind fun (met_102, known_103) =>
  some (.next (met_102, known_103)))) (fun (met_83, known_84) =>
  bif decide (most_0 < ((met_83).length : Int)) then (
  some (.ret (PyData.list [DE.str.enc ("many" : Str), DE.int.enc ((met_83).length : Int)])))
  else (
  some (.next (met_83, known_84))))
  (fun r => some (.ret r)))) (fun (met_73, known_74) =>
  some (PyData.list [DE.str.enc ("none" : Str), DE.int.enc ((met_73).length : Int)]))
  (fun r => some r))

def m_Visits_init (start_0 : List (Int)) (count_0 : Int) : Option (S_Visits × Unit) :=
  some (⟨[start_0], [(start_0, true)], [((0 : Int), (0 : Int))], count_0, (0 : Int)⟩, ())

def m_Visits_meet (self_0 : S_Visits) (place_0 : List (Int)) (number_0 : Int) : Option (S_Visits × Unit) :=
  (bif (!(dget self_0.known place_0).isSome) then (
  guardO ((self_0.known).length < sizeLine) <|
  guardO ((self_0.met).length < sizeLine) <|
  guardO ((self_0.origins).length < sizeLine) <|
  some (⟨(self_0.met ++ [place_0]), (dput self_0.known place_0 true), (self_0.origins ++ [(self_0.at_, number_0)]), self_0.count, self_0.at_⟩ : S_Visits))
  else (
  some (⟨self_0.met, self_0.known, self_0.origins, self_0.count, self_0.at_⟩ : S_Visits)) : Option ((S_Visits))).bind fun self_111 =>
  some (⟨self_111.met, self_111.known, self_111.origins, self_111.count, self_111.at_⟩, ())

def m_row_of (count_0 : Int) (number_0 : Int) : Option (List (Int)) :=
  guardO (-(2 ^ 62) ≤ count_0 ∧ count_0 < 2 ^ 62) <|
  guardO (((rangeL 0 count_0)).length ≤ sizeLine) <|
  (fmO (rangeL 0 count_0) fun place_121 => (guardO (0 ≤ ((count_0 - (1 : Int)) - place_121)) (some (some (Builtin.bitAnd (number_0 / 2 ^ (((count_0 - (1 : Int)) - place_121)).toNat) (1 : Int)))))).bind fun ys_119 =>
  some ys_119

def m_course_to (origins_0 : List ((Int) × (Int))) (place_0 : Int) (count_0 : Int) : Option (List (List (Int))) :=
  flK (whileF (ρ := List (List (Int))) (origins_0.length + 1) ((place_0, ([] : List (Int))) : (Int) × (List (Int))) fun (place_124, numbers_125) =>
  bif decide ((0 : Int) < place_124) then (
  (atI origins_0 place_124).bind fun v_126 =>
  guardO ((numbers_125).length < sizeLine) <|
  some (.next (v_126.1, (numbers_125 ++ [v_126.2]))))
  else some (.brk (place_124, numbers_125))) (fun (place_124, numbers_125) =>
  guardO (((numbers_125).reverse).length ≤ sizeLine) <|
  (fmO ((numbers_125).reverse) fun number_131 => ((m_row_of count_0 number_131).bind fun r_132 => some (some r_132))).bind fun ys_129 =>
  some ys_129)
  (fun _ => none)

def m_Visits_course (self_0 : S_Visits) (number_0 : Int) : Option (List (List (Int))) :=
  (m_course_to self_0.origins self_0.at_ self_0.count).bind fun r_135 =>
  (m_row_of self_0.count number_0).bind fun r_137 =>
  guardO ((r_135).length + ([r_137]).length ≤ sizeLine) <|
  some (r_135 ++ [r_137])

def m_gathering_course (machine_0 : S_Machine) (most_0 : Int) : Option (Rx (Option (List (List (Int))))) :=
  guardO (-(2 ^ 62) ≤ (0 : Int) ∧ (0 : Int) < 2 ^ 62 ∧ -(2 ^ 62) ≤ ((machine_0.moves).length : Int) ∧ ((machine_0.moves).length : Int) < 2 ^ 62 ∧ (((machine_0.moves).length : Int) - (0 : Int)).toNat ≤ 2 ^ 24) <|
  (m_Visits_init (rangeL 0 ((machine_0.moves).length : Int)) machine_0.input_count).bind fun o_141 =>
  bif decide (((machine_0.moves).length : Int) = (1 : Int)) then (
  some (.ok (some ([]))))
  else (
  flK (whileF (ρ := Rx (Option (List (List (Int))))) (2 ^ machine_0.moves.length + 2) (o_141.1 : (S_Visits)) fun visits_143 =>
  bif decide (visits_143.at_ < ((visits_143.met).length : Int)) then (
  guardO (0 ≤ machine_0.input_count ∧ machine_0.input_count ≤ 1000000) <|
  guardO (-(2 ^ 62) ≤ ((1 : Int) * 2 ^ (machine_0.input_count).toNat) ∧ ((1 : Int) * 2 ^ (machine_0.input_count).toNat) < 2 ^ 62) <|
  flK (forF (ρ := Rx (Option (List (List (Int))))) (rangeL 0 ((1 : Int) * 2 ^ (machine_0.input_count).toNat)) (visits_143 : (S_Visits)) fun number_148 visits_147 =>
  (atI visits_147.met visits_147.at_).bind fun v_149 =>
  guardO ((v_149).length ≤ sizeLine) <|
  (fmO v_149 fun state_153 => ((atI machine_0.moves state_153).bind fun v_154 => (atI v_154 number_148).bind fun v_156 => some (some v_156.1))).bind fun ys_151 =>
  guardO ((ys_151).length < 64) <|
  letO (sortD ys_151) fun together_160 =>
  bif decide (((together_160).length : Int) = (1 : Int)) then (
  (m_Visits_course visits_147 number_148).bind fun r_162 =>
  some (.ret (.ok (some r_162))))
  else (
  (m_Visits_meet visits_147 together_160 number_148).bind fun o_164 =>
  some (.next o_164.1))) (fun visits_147 =>
  bif decide (most_0 < ((visits_147.met).length : Int)) then (
  some (.ret (.ex ("TooManyStates", []))))
  else (
  some (.next ({ visits_147 with at_ := visits_147.at_ + (1 : Int) }))))
  (fun r => some (.ret r)))
  else some (.brk visits_143)) (fun visits_143 =>
  some (.ok none))
  (fun r => some r))

def m__law_told (machine_0 : S_Machine) (most_0 : Int) : Option (PyData) :=
  exK (m_gathering_course machine_0 most_0) (fun e_168 => (bif decide (e_168.1 = "TooManyStates") then (
  some (PyData.list [DE.str.enc ("many" : Str), DE.bl.enc true]))
  else none)) fun r_166 =>
  bif (r_166).isNone then (
  some (PyData.list [DE.str.enc ("none" : Str), DE.bl.enc true]))
  else (
  some (PyData.list [DE.str.enc ("course" : Str), (DE.opt (DE.list (DE.list DE.int)) (fun _ _ => ⟨rfl, rfl⟩)).enc r_166]))

def m__law_turning (count_0 : Int) : Option (List (List ((Int) × (Int)))) :=
  guardO (-(2 ^ 62) ≤ count_0 ∧ count_0 < 2 ^ 62) <|
  guardO (((rangeL 0 count_0)).length ≤ sizeLine) <|
  (fmO (rangeL 0 count_0) fun s_173 => (guardO (0 < count_0) (guardO (0 < count_0) (some (some ([(((s_173 + (1 : Int)) % count_0), (0 : Int)), (((s_173 + (if decide (s_173 = (count_0 - (1 : Int))) then 1 else 0)) % count_0), (0 : Int))])))))).bind fun ys_171 =>
  some ys_171

def m_law (script_0 : List Int) : Option (Bool) :=
  (m__law_cell script_0 (0 : Int)).bind fun r_177 =>
  letO (r_177 % (3 : Int)) fun inputs_179 =>
  letO ((r_177 / (3 : Int)) % (3 : Int)) fun outputs_181 =>
  (m__law_moves script_0 (4 : Int) inputs_179 outputs_181 ((1 : Int) + ((r_177 / (9 : Int)) % (6 : Int)))).bind fun r_183 =>
  (bif decide (((r_177 / (10007 : Int)) % (4 : Int)) = (1 : Int)) then (
  (m__law_turning ((2 : Int) + ((r_177 / (40028 : Int)) % (6 : Int)))).bind fun r_188 =>
  some ((1 : Int), (1 : Int), r_188))
  else (
  some (inputs_179, outputs_181, r_183)) : Option ((Int) × (Int) × (List (List ((Int) × (Int)))))).bind fun (inputs_185, outputs_186, moves_187) =>
  (m_Machine_init inputs_185 outputs_186 moves_187).bind fun o_192 =>
  (m__law_gathering moves_187 inputs_185 (1000 : Int)).bind fun r_194 =>
  (m__law_told o_192.1 (1000 : Int)).bind fun r_196 =>
  (pdIx r_194 (0 : Int)).bind fun v_198 =>
  guardO (SeqAt.shaped v_198 = true) <|
  guardO (SeqAt.shaped (DE.str.enc ("course" : Str)) = true) <|
  (bif PyData.eqv v_198 (DE.str.enc ("course" : Str)) then ((pdIx r_196 (1 : Int)).bind fun v_202 => (pdTy v_202).bind fun T_204 => (kitB T_204 "list").bind fun b_206 => some (!b_206)) else some false).bind fun b_208 =>
  bif (b_208 || (!decide (o_192.1.moves = moves_187))) then (
  some false)
  else (
  (pdIx r_194 (0 : Int)).bind fun v_210 =>
  guardO (SeqAt.shaped v_210 = true) <|
  guardO (SeqAt.shaped (DE.str.enc ("course" : Str)) = true) <|
  (bif PyData.eqv v_210 (DE.str.enc ("course" : Str)) then (guardO (SeqAt.shaped r_196 = true) (guardO (SeqAt.shaped r_194 = true) (some (!PyData.eqv r_196 r_194)))) else some false).bind fun b_216 =>
  (bif b_216 then some true else ((pdIx r_194 (0 : Int)).bind fun v_218 => guardO (SeqAt.shaped v_218 = true) (guardO (SeqAt.shaped (DE.str.enc ("course" : Str)) = true) ((bif (!PyData.eqv v_218 (DE.str.enc ("course" : Str))) then (guardO (SeqAt.shaped r_196 = true) (guardO (SeqAt.shaped (PyData.list [DE.str.enc ("none" : Str), DE.bl.enc true]) = true) (some (!PyData.eqv r_196 (PyData.list [DE.str.enc ("none" : Str), DE.bl.enc true]))))) else some false).bind fun b_224 => some b_224)))).bind fun b_226 =>
  bif b_226 then (
  some false)
  else (
  (bif decide ((1 : Int) < ((moves_187).length : Int)) then ((m__law_turning ((moves_187).length : Int)).bind fun r_228 => (bif decide (moves_187 = r_228) then ((pdIx r_194 (1 : Int)).bind fun v_230 => (pdLen v_230).bind fun n_232 => guardO ((-(2 ^ 64) < (((moves_187).length : Int) - (1 : Int)) ∧ (((moves_187).length : Int) - (1 : Int)) < 2 ^ 64) ∨ (-(2 ^ 64) < (((moves_187).length : Int) - (1 : Int)) ∧ (((moves_187).length : Int) - (1 : Int)) < 2 ^ 64)) (some (!decide (n_232 = ((((moves_187).length : Int) - (1 : Int)) * (((moves_187).length : Int) - (1 : Int))))))) else some false).bind fun b_235 => some b_235) else some false).bind fun b_237 =>
  bif b_237 then (
  some false)
  else (
  (m__law_cell script_0 (1 : Int)).bind fun r_239 =>
  guardO (0 ≤ ((moves_187).length : Int) ∧ ((moves_187).length : Int) ≤ 1000000) <|
  guardO (0 < ((1 : Int) * 2 ^ (((moves_187).length : Int)).toNat)) <|
  letO ((1 : Int) + (r_239 % ((1 : Int) * 2 ^ (((moves_187).length : Int)).toNat))) fun most_243 =>
  (m__law_gathering moves_187 inputs_185 most_243).bind fun r_245 =>
  (m__law_told o_192.1 most_243).bind fun r_247 =>
  (pdIx r_245 (0 : Int)).bind fun v_249 =>
  guardO (SeqAt.shaped v_249 = true) <|
  guardO (SeqAt.shaped (DE.str.enc ("course" : Str)) = true) <|
  bif PyData.eqv v_249 (DE.str.enc ("course" : Str)) then (
  guardO (SeqAt.shaped r_247 = true) <|
  guardO (SeqAt.shaped r_245 = true) <|
  some (PyData.eqv r_247 r_245))
  else (
  (pdIx r_245 (0 : Int)).bind fun v_255 =>
  guardO (SeqAt.shaped r_247 = true) <|
  guardO (SeqAt.shaped (PyData.list [v_255, DE.bl.enc true]) = true) <|
  some (PyData.eqv r_247 (PyData.list [v_255, DE.bl.enc true]))))))
end K44

/-! K44W -/
namespace K44
open PySem PySem.Spec L2 Ty
open PyProof.Rows (envOfC)
def top (i : Nat) : Stmt := PySem.Challenge.pw_evergate_k44_gathering_courses.main.body.getD i (.Pass ⟨0, 0, 0, 0⟩)
abbrev s__law_cell : Stmt := top 19
abbrev N__law_cell : List Str := ["script", "k", "cell"]
theorem sc__law_cell : FnScope N__law_cell ["script", "k"] (defScope s__law_cell) := ⟨rfl, rfl, rfl, by decide +kernel, rfl, by decide +kernel, by decide +kernel⟩
abbrev s__law_moves : Stmt := top 20
abbrev N__law_moves : List Str := ["script", "at", "inputs", "outputs", "states", "moves", "s", "entry", "r", "cell"]
theorem sc__law_moves : FnScope N__law_moves ["script", "at", "inputs", "outputs", "states"] (defScope s__law_moves) := ⟨rfl, rfl, rfl, by decide +kernel, rfl, by decide +kernel, by decide +kernel⟩
abbrev s_is_move : Stmt := top 17
abbrev N_is_move : List Str := ["move", "state_count", "output_count", "later", "answer"]
theorem sc_is_move : FnScope N_is_move ["move", "state_count", "output_count"] (defScope s_is_move) := ⟨rfl, rfl, rfl, by decide +kernel, rfl, by decide +kernel, by decide +kernel⟩
abbrev s_Machine_init : Stmt := inClass (top 16) 0
abbrev N_Machine_init : List Str := ["self", "input_count", "output_count", "moves", "rows", "state", "entry", "row"]
theorem sc_Machine_init : FnScope N_Machine_init ["self", "input_count", "output_count", "moves"] (defScope s_Machine_init) := ⟨rfl, rfl, rfl, by decide +kernel, rfl, by decide +kernel, by decide +kernel⟩
abbrev s__law_row : Stmt := top 21
abbrev N__law_row : List Str := ["count", "number", "k"]
theorem sc__law_row : FnScope N__law_row ["count", "number"] (defScope s__law_row) := ⟨rfl, rfl, rfl, by decide +kernel, rfl, by decide +kernel, by decide +kernel⟩
abbrev s__law_gathering : Stmt := top 23
abbrev N__law_gathering : List Str := ["moves", "inputs", "most", "start", "met", "known", "turn", "course", "number", "together", "state"]
theorem sc__law_gathering : FnScope N__law_gathering ["moves", "inputs", "most"] (defScope s__law_gathering) := ⟨rfl, rfl, rfl, by decide +kernel, rfl, by decide +kernel, by decide +kernel⟩
abbrev s_Visits_init : Stmt := inClass (top 10) 0
abbrev N_Visits_init : List Str := ["self", "start", "count"]
theorem sc_Visits_init : FnScope N_Visits_init ["self", "start", "count"] (defScope s_Visits_init) := ⟨rfl, rfl, rfl, by decide +kernel, rfl, by decide +kernel, by decide +kernel⟩
abbrev s_Visits_meet : Stmt := inClass (top 10) 1
abbrev N_Visits_meet : List Str := ["self", "place", "number"]
theorem sc_Visits_meet : FnScope N_Visits_meet ["self", "place", "number"] (defScope s_Visits_meet) := ⟨rfl, rfl, rfl, by decide +kernel, rfl, by decide +kernel, by decide +kernel⟩
abbrev s_row_of : Stmt := top 6
abbrev N_row_of : List Str := ["count", "number", "place"]
theorem sc_row_of : FnScope N_row_of ["count", "number"] (defScope s_row_of) := ⟨rfl, rfl, rfl, by decide +kernel, rfl, by decide +kernel, by decide +kernel⟩
abbrev s_course_to : Stmt := top 8
abbrev N_course_to : List Str := ["origins", "place", "count", "numbers", "number"]
theorem sc_course_to : FnScope N_course_to ["origins", "place", "count"] (defScope s_course_to) := ⟨rfl, rfl, rfl, by decide +kernel, rfl, by decide +kernel, by decide +kernel⟩
abbrev s_Visits_course : Stmt := inClass (top 10) 2
abbrev N_Visits_course : List Str := ["self", "number"]
theorem sc_Visits_course : FnScope N_Visits_course ["self", "number"] (defScope s_Visits_course) := ⟨rfl, rfl, rfl, by decide +kernel, rfl, by decide +kernel, by decide +kernel⟩
abbrev s_gathering_course : Stmt := top 11
abbrev N_gathering_course : List Str := ["machine", "most", "visits", "number", "laters", "together", "state"]
theorem sc_gathering_course : FnScope N_gathering_course ["machine", "most"] (defScope s_gathering_course) := ⟨rfl, rfl, rfl, by decide +kernel, rfl, by decide +kernel, by decide +kernel⟩
abbrev s__law_told : Stmt := top 24
abbrev N__law_told : List Str := ["machine", "most", "course", "e"]
theorem sc__law_told : FnScope N__law_told ["machine", "most"] (defScope s__law_told) := ⟨rfl, rfl, rfl, by decide +kernel, rfl, by decide +kernel, by decide +kernel⟩
abbrev s__law_turning : Stmt := top 25
abbrev N__law_turning : List Str := ["count", "s"]
theorem sc__law_turning : FnScope N__law_turning ["count"] (defScope s__law_turning) := ⟨rfl, rfl, rfl, by decide +kernel, rfl, by decide +kernel, by decide +kernel⟩
abbrev s_law : Stmt := top 26
abbrev N_law : List Str := ["script", "base", "inputs", "outputs", "moves", "machine", "due", "told", "most"]
theorem sc_law : FnScope N_law ["script"] (defScope s_law) := ⟨rfl, rfl, rfl, by decide +kernel, rfl, by decide +kernel, by decide +kernel⟩
abbrev ns_Visits : List Str := ["met", "known", "origins", "count", "at"]
abbrev dl_Visits (V : S_Visits) : List Slot := [own (oL (pTup pInt)) V.met, own (oD dInts pBl) V.known, own (oL (pT2 pInt pInt)) V.origins, val pInt V.count, val pInt V.at_]
abbrev sl_Visits (V : S_Visits) : List Slot := [val (pL (pTup pInt)) V.met, val (pD dInts pBl) V.known, val (pL (pT2 pInt pInt)) V.origins, val pInt V.count, val pInt V.at_]
abbrev ns_Machine : List Str := ["input_count", "output_count", "moves"]
abbrev dl_Machine (V : S_Machine) : List Slot := [val pInt V.input_count, val pInt V.output_count, own (oL (pL (pT2 pInt pInt))) V.moves]
abbrev sl_Machine (V : S_Machine) : List Slot := [val pInt V.input_count, val pInt V.output_count, val (pL (pL (pT2 pInt pInt))) V.moves]
structure Txt (K : PySem.W.Frag) (mg : Str → Option Value) where
  f__law_cell : Addr
  d__law_cell : FuncData
  F__law_cell : Fun K "_law_cell" "_law_cell" s__law_cell f__law_cell d__law_cell
  b__law_cell : Binds K d__law_cell ["script", "k"] []
  g__law_cell : mg "_law_cell" = some (.ref f__law_cell)
  k__law_cell : PySem.W.keepIn K (.ref f__law_cell) = true
  f__law_moves : Addr
  d__law_moves : FuncData
  F__law_moves : Fun K "_law_moves" "_law_moves" s__law_moves f__law_moves d__law_moves
  b__law_moves : Binds K d__law_moves ["script", "at", "inputs", "outputs", "states"] []
  g__law_moves : mg "_law_moves" = some (.ref f__law_moves)
  k__law_moves : PySem.W.keepIn K (.ref f__law_moves) = true
  f_is_move : Addr
  d_is_move : FuncData
  F_is_move : Fun K "is_move" "is_move" s_is_move f_is_move d_is_move
  b_is_move : Binds K d_is_move ["move", "state_count", "output_count"] []
  g_is_move : mg "is_move" = some (.ref f_is_move)
  k_is_move : PySem.W.keepIn K (.ref f_is_move) = true
  f_Machine_init : Addr
  d_Machine_init : FuncData
  F_Machine_init : Fun K "__init__" "Machine.__init__" s_Machine_init f_Machine_init d_Machine_init
  b_Machine_init : Binds K d_Machine_init ["self", "input_count", "output_count", "moves"] []
  f__law_row : Addr
  d__law_row : FuncData
  F__law_row : Fun K "_law_row" "_law_row" s__law_row f__law_row d__law_row
  b__law_row : Binds K d__law_row ["count", "number"] []
  g__law_row : mg "_law_row" = some (.ref f__law_row)
  k__law_row : PySem.W.keepIn K (.ref f__law_row) = true
  f__law_gathering : Addr
  d__law_gathering : FuncData
  F__law_gathering : Fun K "_law_gathering" "_law_gathering" s__law_gathering f__law_gathering d__law_gathering
  b__law_gathering : Binds K d__law_gathering ["moves", "inputs", "most"] []
  g__law_gathering : mg "_law_gathering" = some (.ref f__law_gathering)
  k__law_gathering : PySem.W.keepIn K (.ref f__law_gathering) = true
  f_Visits_init : Addr
  d_Visits_init : FuncData
  F_Visits_init : Fun K "__init__" "Visits.__init__" s_Visits_init f_Visits_init d_Visits_init
  b_Visits_init : Binds K d_Visits_init ["self", "start", "count"] []
  f_Visits_meet : Addr
  d_Visits_meet : FuncData
  F_Visits_meet : Fun K "meet" "Visits.meet" s_Visits_meet f_Visits_meet d_Visits_meet
  b_Visits_meet : Binds K d_Visits_meet ["self", "place", "number"] []
  f_row_of : Addr
  d_row_of : FuncData
  F_row_of : Fun K "row_of" "row_of" s_row_of f_row_of d_row_of
  b_row_of : Binds K d_row_of ["count", "number"] []
  g_row_of : mg "row_of" = some (.ref f_row_of)
  k_row_of : PySem.W.keepIn K (.ref f_row_of) = true
  f_course_to : Addr
  d_course_to : FuncData
  F_course_to : Fun K "course_to" "course_to" s_course_to f_course_to d_course_to
  b_course_to : Binds K d_course_to ["origins", "place", "count"] []
  g_course_to : mg "course_to" = some (.ref f_course_to)
  k_course_to : PySem.W.keepIn K (.ref f_course_to) = true
  f_Visits_course : Addr
  d_Visits_course : FuncData
  F_Visits_course : Fun K "course" "Visits.course" s_Visits_course f_Visits_course d_Visits_course
  b_Visits_course : Binds K d_Visits_course ["self", "number"] []
  f_gathering_course : Addr
  d_gathering_course : FuncData
  F_gathering_course : Fun K "gathering_course" "gathering_course" s_gathering_course f_gathering_course d_gathering_course
  b_gathering_course : KBinds K d_gathering_course ["machine", "most"] ["most"] (gK 1 1) (gKV 1 1)
  g_gathering_course : mg "gathering_course" = some (.ref f_gathering_course)
  k_gathering_course : PySem.W.keepIn K (.ref f_gathering_course) = true
  f__law_told : Addr
  d__law_told : FuncData
  F__law_told : Fun K "_law_told" "_law_told" s__law_told f__law_told d__law_told
  b__law_told : Binds K d__law_told ["machine", "most"] []
  g__law_told : mg "_law_told" = some (.ref f__law_told)
  k__law_told : PySem.W.keepIn K (.ref f__law_told) = true
  f__law_turning : Addr
  d__law_turning : FuncData
  F__law_turning : Fun K "_law_turning" "_law_turning" s__law_turning f__law_turning d__law_turning
  b__law_turning : Binds K d__law_turning ["count"] []
  g__law_turning : mg "_law_turning" = some (.ref f__law_turning)
  k__law_turning : PySem.W.keepIn K (.ref f__law_turning) = true
  f_law : Addr
  d_law : FuncData
  F_law : Fun K "law" "law" s_law f_law d_law
  b_law : Binds K d_law ["script"] []
  g_law : mg "law" = some (.ref f_law)
  k_law : PySem.W.keepIn K (.ref f_law) = true
  C_Visits : Addr
  cl_Visits : Cls K C_Visits
  g_Visits : mg "Visits" = some (.ref C_Visits)
  at_Visits_met : At K C_Visits "met"
  at_Visits_known : At K C_Visits "known"
  at_Visits_origins : At K C_Visits "origins"
  at_Visits_count : At K C_Visits "count"
  at_Visits_at : At K C_Visits "at"
  mk_Visits : Mk K C_Visits f_Visits_init
  me_Visits_meet : Meth K C_Visits "meet" f_Visits_meet
  me_Visits_course : Meth K C_Visits "course" f_Visits_course
  C_Machine : Addr
  cl_Machine : Cls K C_Machine
  g_Machine : mg "Machine" = some (.ref C_Machine)
  at_Machine_input_count : At K C_Machine "input_count"
  at_Machine_output_count : At K C_Machine "output_count"
  at_Machine_moves : At K C_Machine "moves"
  mk_Machine : Mk K C_Machine f_Machine_init
  g_enumerate : mg "enumerate" = none
  g_int : mg "int" = none
  g_isinstance : mg "isinstance" = none
  g_len : mg "len" = none
  g_list : mg "list" = none
  g_max : mg "max" = none
  g_min : mg "min" = none
  g_range : mg "range" = none
  g_reversed : mg "reversed" = none
  g_set : mg "set" = none
  g_sorted : mg "sorted" = none
  g_tuple : mg "tuple" = none
  t_MOST_INPUTS : Tok
  g_MOST_INPUTS : mg "MOST_INPUTS" = some (.int 6 t_MOST_INPUTS)
  t_MOST_OUTPUTS : Tok
  g_MOST_OUTPUTS : mg "MOST_OUTPUTS" = some (.int 32 t_MOST_OUTPUTS)
  t_MOST_STATES : Tok
  g_MOST_STATES : mg "MOST_STATES" = some (.int 1000 t_MOST_STATES)
  C_EvergateError : Addr
  g_EvergateError : mg "EvergateError" = some (.ref C_EvergateError)
  C_TooManyStates : Addr
  g_TooManyStates : mg "TooManyStates" = some (.ref C_TooManyStates)
  xq_TooManyStates : PySem.W.excIn K C_TooManyStates [.type "ValueError", .type "Exception", .type "BaseException", .type "object"] "ValueError.__new__" = true
  xk_TooManyStates : PySem.W.keepIn K (.ref C_TooManyStates) = true
  xs_TooManyStates : PySem.W.subIn K (.ref C_TooManyStates) (.type "BaseException") = some true
  xt_TooManyStates : PySem.W.typeIn K (.ref C_TooManyStates) = some (.type "type")
  xe_TooManyStates : ExcC K C_TooManyStates
  xp_TooManyStates_TooManyStates : PySem.W.exmOne K (.ref C_TooManyStates) (.ref C_TooManyStates) = some true
  xi_TooManyStates_EvergateError : PySem.W.kitOne K (.ref C_TooManyStates) (.ref C_EvergateError) = some true
def exT {K : PySem.W.Frag} {mg : Str → Option Value} (T : Txt K mg) : ExT := fun e cls d _ => (e.1 = "TooManyStates" ∧ cls = .ref T.C_TooManyStates ∧ d = none)
theorem exT_mk_TooManyStates {K : PySem.W.Frag} {mg : Str → Option Value} (T : Txt K mg) {H : Hp} {l : List Int} : exT T ("TooManyStates", l) (.ref T.C_TooManyStates) none H := by unfold exT; simp
theorem exT_is_TooManyStates {K : PySem.W.Frag} {mg : Str → Option Value} (T : Txt K mg) {e : Exn} {cls : Value} {d : Option Addr} {H : Hp} (hz : e.1 = "TooManyStates") (h : exT T e cls d H) : cls = .ref T.C_TooManyStates ∧ d = none := by
  unfold exT at h
  rw [hz] at h
  simpa using h
section
variable {P : Program} {w : World} {K : PySem.W.Frag} {mg : Str → Option Value} {base : Heap}
theorem ok__law_cell (T : Txt K mg) : FnOk P w K mg base CX0 1 T.f__law_cell T.d__law_cell ["script", "k"] (spP (fun (z : (List Int) × (Int)) => [val (pScr K) z.1, val pInt z.2]) (fun z => m__law_cell z.1 z.2) (fun r => val pInt r)) := by
  refine fn_pure T.F__law_cell sc__law_cell (fun _ => rfl) (fun cdv A outer s H E hr z r B hm => ?_)
  obtain ⟨script_0, k_0⟩ := z
  replace hm : m__law_cell script_0 k_0 = some r := hm
  unfold m__law_cell at hm
  show Go _ _ _ _ _ [val (pScr K) script_0, val pInt k_0, dead]
  obtain ⟨b_3, h_4, hm⟩ := Option.bind_eq_some_iff.mp hm
  refine go_if (xw_pt (xw_andP (xt_cmp (fun _ => op_lt) o_bl (nomark _) (x_var 1) (x_callB (c_len _) T.g_len (by decide +kernel) (o_lenL SV.scr) (xa1 (x_var 0)))) h_4 (fun z hm => by obtain ⟨v_1, h_2, hm⟩ := Option.bind_eq_some_iff.mp hm; cases hm; exact (xw_and1 (xt_cmp (fun _ => op_ge) o_bl (nomark _) (x_ix (x_var 0) SV.scr (x_var 1) h_2) (x_op (fun _ => op_pow) (o_intC ⟨by decide, by decide, by decide⟩) x_int x_int)))))) (fun hz => ?_) (fun hz => ?_)
  · have hm := condT hz hm
    obtain ⟨v_5, h_6, hm⟩ := Option.bind_eq_some_iff.mp hm
    cases hm
    exact go_ret (x_ix (x_var 0) SV.scr (x_var 1) h_6) (fun v H h => h)
  · have hm := condF hz hm
    refine go_join ?_
    obtain ⟨cell_7, h_8, hm⟩ := letO_some hm
    refine go_set 2 (XV.eqV (x_op (fun _ => op_add) o_int (x_op (fun _ => op_mul) (o_intC (.inl (by decide))) x_int (x_var 1)) x_int) h_8) ?_
    show Go _ _ _ _ _ [val (pScr K) script_0, val pInt k_0, val pInt cell_7]
    obtain ⟨cell_9, hj_15, hm⟩ := Option.bind_eq_some_iff.mp hm
    refine go_ifJ [val (pScr K) script_0, val pInt k_0, val pInt cell_9] (xt_cmp (fun _ => op_gt) o_bl (nomark _) (x_callB (c_len _) T.g_len (by decide +kernel) (o_lenL SV.scr) (xa1 (x_var 0))) x_int) (fun hz => ?_) (fun hz => ?_) ?_
    · have hm := condT hz hj_15
      obtain ⟨h_10, hm⟩ := guardO_some hm
      obtain ⟨v_11, h_12, hm⟩ := Option.bind_eq_some_iff.mp hm
      obtain ⟨cell_13, h_14, hm⟩ := letO_some hm
      refine go_set 2 (XV.eqV (x_op (fun _ => op_add) o_int (x_var 2) (x_op (fun _ => op_mul) (o_intC (.inl (by decide))) x_int (x_ix (x_var 0) SV.scr (x_op (fun _ => op_mod) (o_intC h_10) (x_callTy (fun _ => call_int1) T.g_int (by decide +kernel) o_intI (xa1 (x_var 1))) (x_callB (c_len _) T.g_len (by decide +kernel) (o_lenL SV.scr) (xa1 (x_var 0)))) h_12))) h_14) ?_
      show Go _ _ _ _ _ [val (pScr K) script_0, val pInt k_0, val pInt cell_13]
      cases hm
      exact go_nx (by repeat' (first | exact WkL.nil | exact WkS.refl | exact WkS.dead | exact WkS.list | exact WkS.dict | exact WkS.lstS (fun _ => WkS.list) | refine WkL.cons ?_ ?_))
    · have hm := condF hz hj_15
      cases hm
      exact go_nx (by repeat' (first | exact WkL.nil | exact WkS.refl | exact WkS.dead | exact WkS.list | exact WkS.dict | exact WkS.lstS (fun _ => WkS.list) | refine WkL.cons ?_ ?_))
    obtain ⟨cell_17, h_18, hm⟩ := letO_some hm
    refine go_set 2 (XV.eqV (x_op (fun _ => op_mod) (o_intC (by decide)) (x_callTy (fun _ => call_int1) T.g_int (by decide +kernel) o_intI (xa1 (x_op (fun _ => op_add) o_int (x_op (fun _ => op_mul) (o_intC (.inr (by decide))) (x_var 2) x_int) (x_op (fun _ => op_mul) (o_intC (.inl (by decide))) x_int (x_var 1))))) x_int) h_18) ?_
    show Go _ _ _ _ _ [val (pScr K) script_0, val pInt k_0, val pInt cell_17]
    cases hm
    exact go_ret (x_op (fun _ => op_mod) (o_intC (by decide)) (x_callTy (fun _ => call_int1) T.g_int (by decide +kernel) o_intI (xa1 (x_op (fun _ => op_add) o_int (x_op (fun _ => op_mul) (o_intC (.inr (by decide))) (x_var 2) x_int) (x_op (fun _ => op_mul) (o_intC (.inl (by decide))) x_int (x_op (fun _ => op_fdiv) (o_intC ⟨by decide, by decide⟩) (x_var 2) x_int))))) x_int) (fun v H h => h)

theorem ok__law_moves (T : Txt K mg) : FnOk P w K mg base CX0 2 T.f__law_moves T.d__law_moves ["script", "at", "inputs", "outputs", "states"] (spP (fun (z : (List Int) × (Int) × (Int) × (Int) × (Int)) => [val (pScr K) z.1, val pInt z.2.1, val pInt z.2.2.1, val pInt z.2.2.2.1, val pInt z.2.2.2.2]) (fun z => m__law_moves z.1 z.2.1 z.2.2.1 z.2.2.2.1 z.2.2.2.2) (fun r => val (pL (pL (pT2 pInt pInt))) r)) := by
  refine fn_pure T.F__law_moves sc__law_moves (fun _ => rfl) (fun cdv A outer s H E hr z r B hm => ?_)
  obtain ⟨script_0, at_0, inputs_0, outputs_0, states_0⟩ := z
  replace hm : m__law_moves script_0 at_0 inputs_0 outputs_0 states_0 = some r := hm
  unfold m__law_moves at hm
  show Go _ _ _ _ _ [val (pScr K) script_0, val pInt at_0, val pInt inputs_0, val pInt outputs_0, val pInt states_0, dead, dead, dead, dead, dead]
  refine go_set 5 (x_lst (p := (pL (pT2 pInt pInt))) (xs := []) xa_nil (Nat.zero_le _)) ?_
  show Go _ _ _ _ _ [val (pScr K) script_0, val pInt at_0, val pInt inputs_0, val pInt outputs_0, val pInt states_0, own (oL (pL (pT2 pInt pInt))) ([] : List (List ((Int) × (Int)))), dead, dead, dead, dead]
  obtain ⟨h_20, hm⟩ := guardO_some hm
  refine go_forK (rs := val pInt) (fun s => [val (pScr K) script_0, val pInt at_0, val pInt inputs_0, val pInt outputs_0, val pInt states_0, own (oL (pL (pT2 pInt pInt))) s, dead, dead, dead, dead]) (fun r => val (pL (pL (pT2 pInt pInt))) r) (xi_range1 T.g_range (x_var 4) h_20) (by repeat' (first | exact WkL.nil | exact WkS.refl | exact WkS.dead | exact WkS.list | exact WkS.dict | exact WkS.lstS (fun _ => WkS.list) | refine WkL.cons ?_ ?_)) hm ?_ ?_ ?_
  · rintro B1 s_22 moves_21 out hx hm hr1 hl1
    refine ⟨_, _, (xg_name 6), ?_⟩
    show Go _ _ _ _ _ [val (pScr K) script_0, val pInt at_0, val pInt inputs_0, val pInt outputs_0, val pInt states_0, own (oL (pL (pT2 pInt pInt))) moves_21, val pInt s_22, dead, dead, dead]
    refine go_set 7 (x_lst (p := (pT2 pInt pInt)) (xs := []) xa_nil (Nat.zero_le _)) ?_
    show Go _ _ _ _ _ [val (pScr K) script_0, val pInt at_0, val pInt inputs_0, val pInt outputs_0, val pInt states_0, own (oL (pL (pT2 pInt pInt))) moves_21, val pInt s_22, own (oL (pT2 pInt pInt)) ([] : List ((Int) × (Int))), dead, dead]
    obtain ⟨h_23, hm⟩ := guardO_some hm
    obtain ⟨h_25, hm⟩ := guardO_some hm
    refine go_forK (rs := val pInt) (fun s => [val (pScr K) script_0, val pInt at_0, val pInt inputs_0, val pInt outputs_0, val pInt states_0, own (oL (pL (pT2 pInt pInt))) moves_21, val pInt s_22, own (oL (pT2 pInt pInt)) s, dead, dead]) (fun r => val (pL (pL (pT2 pInt pInt))) r) (xi_range1 T.g_range (x_op (fun _ => op_shl) (o_intC ⟨h_23.1, h_23.2, by decide⟩) x_int (x_var 2)) h_25) (by repeat' (first | exact WkL.nil | exact WkS.refl | exact WkS.dead | exact WkS.list | exact WkS.dict | exact WkS.lstS (fun _ => WkS.list) | refine WkL.cons ?_ ?_)) hm ?_ ?_ ?_
    · rintro B1 r_27 entry_26 out hx hm hr2 hl2
      refine ⟨_, _, (xg_name 8), ?_⟩
      show Go _ _ _ _ _ [val (pScr K) script_0, val pInt at_0, val pInt inputs_0, val pInt outputs_0, val pInt states_0, own (oL (pL (pT2 pInt pInt))) moves_21, val pInt s_22, own (oL (pT2 pInt pInt)) entry_26, val pInt r_27, dead]
      obtain ⟨r_28, h_29, hm⟩ := Option.bind_eq_some_iff.mp hm
      obtain ⟨h_30, hm⟩ := guardO_some hm
      obtain ⟨cell_31, h_32, hm⟩ := letO_some hm
      refine go_set 9 (XV.eqV (x_op (fun _ => op_mod) (o_intC (by decide)) (x_callTy (fun _ => call_int1) T.g_int (by decide +kernel) o_intI (xa1 (x_op (fun _ => op_mul) (o_intC (.inr (by decide))) (x_op (fun _ => op_add) o_int (x_op (fun _ => op_add) o_int (x_op (fun _ => op_fdiv) (o_intC h_30) (x_call (z := (script_0, (at_0 + s_22))) (ok__law_cell T) (by decide) T.g__law_cell T.k__law_cell T.b__law_cell (xa_cons (x_var 0) (xa_cons (x_op (fun _ => op_add) o_int (x_var 1) (x_var 6)) xa_nil)) rfl (by repeat' (first | exact trivial | refine ⟨no_val, ?_⟩ | refine ⟨no_borL, ?_⟩ | refine ⟨no_bor, ?_⟩)) h_29) (x_op (fun _ => op_add) o_int (x_var 8) x_int)) (x_op (fun _ => op_mul) (o_intC (.inl (by decide))) x_int (x_var 8))) (x_op (fun _ => op_mul) (o_intC (.inl (by decide))) x_int (x_var 6))) x_int))) x_int) h_32) ?_
      show Go _ _ _ _ _ [val (pScr K) script_0, val pInt at_0, val pInt inputs_0, val pInt outputs_0, val pInt states_0, own (oL (pL (pT2 pInt pInt))) moves_21, val pInt s_22, own (oL (pT2 pInt pInt)) entry_26, val pInt r_27, val pInt cell_31]
      obtain ⟨h_33, hm⟩ := guardO_some hm
      obtain ⟨h_34, hm⟩ := guardO_some hm
      obtain ⟨h_35, hm⟩ := guardO_some hm
      obtain ⟨h_36, hm⟩ := guardO_some hm
      refine go_append (pl_name 7 (by repeat' (first | exact Stb.nil | exact trivial | exact stb_map (fun _ => trivial) _ | refine Stb.cons ?_ ?_)) (hso := own_some)) (x_tup2 (xa_cons (x_op (fun _ => op_mod) (o_intC h_33) (x_callTy (fun _ => call_int1) T.g_int (by decide +kernel) o_intI (xa1 (x_var 9))) (x_var 4)) (xa_cons (x_op (fun _ => op_mod) (o_intC h_35) (x_callTy (fun _ => call_int1) T.g_int (by decide +kernel) o_intI (xa1 (x_op (fun _ => op_fdiv) (o_intC ⟨by decide, by decide⟩) (x_var 9) x_int))) (x_op (fun _ => op_shl) (o_intC ⟨h_34.1, h_34.2, by decide⟩) x_int (x_var 3))) xa_nil))) h_36 ?_
      show Go _ _ _ _ _ [val (pScr K) script_0, val pInt at_0, val pInt inputs_0, val pInt outputs_0, val pInt states_0, own (oL (pL (pT2 pInt pInt))) moves_21, val pInt s_22, own (oL (pT2 pInt pInt)) (entry_26 ++ [((cell_31 % states_0), ((cell_31 / (1009 : Int)) % ((1 : Int) * 2 ^ (outputs_0).toNat)))]), val pInt r_27, val pInt cell_31]
      cases hm
      exact go_nil (fun σ H h => ⟨_, rfl, h.wk (by repeat' (first | exact WkL.nil | exact WkS.refl | exact WkS.dead | exact WkS.list | exact WkS.dict | exact WkS.lstS (fun _ => WkS.list) | refine WkL.cons ?_ ?_))⟩)
    · rintro entry_26 hm
      show Go _ _ _ _ _ [val (pScr K) script_0, val pInt at_0, val pInt inputs_0, val pInt outputs_0, val pInt states_0, own (oL (pL (pT2 pInt pInt))) moves_21, val pInt s_22, own (oL (pT2 pInt pInt)) entry_26, dead, dead]
      refine go_wk (Γ' := [val (pScr K) script_0, val pInt at_0, val pInt inputs_0, val pInt outputs_0, val pInt states_0, own (oL (pL (pT2 pInt pInt))) moves_21, val pInt s_22, val (pL (pT2 pInt pInt)) entry_26, dead, dead]) ?_ (WkL.at (j := 7) WkS.list rfl)
      obtain ⟨h_37, hm⟩ := guardO_some hm
      refine go_append (pl_name 5 (by repeat' (first | exact Stb.nil | exact trivial | exact stb_map (fun _ => trivial) _ | refine Stb.cons ?_ ?_)) (hso := own_some)) (x_var 7) h_37 ?_
      show Go _ _ _ _ _ [val (pScr K) script_0, val pInt at_0, val pInt inputs_0, val pInt outputs_0, val pInt states_0, own (oL (pL (pT2 pInt pInt))) (moves_21 ++ [entry_26]), val pInt s_22, val (pL (pT2 pInt pInt)) entry_26, dead, dead]
      cases hm
      exact go_nil (fun σ H h => ⟨_, rfl, h.wk (by repeat' (first | exact WkL.nil | exact WkS.refl | exact WkS.dead | exact WkS.list | exact WkS.dict | exact WkS.lstS (fun _ => WkS.list) | refine WkL.cons ?_ ?_))⟩)
    · rintro r hm v H h
      cases hm
  · rintro moves_21 hm
    show Go _ _ _ _ _ [val (pScr K) script_0, val pInt at_0, val pInt inputs_0, val pInt outputs_0, val pInt states_0, own (oL (pL (pT2 pInt pInt))) moves_21, dead, dead, dead, dead]
    refine go_wk (Γ' := [val (pScr K) script_0, val pInt at_0, val pInt inputs_0, val pInt outputs_0, val pInt states_0, val (pL (pL (pT2 pInt pInt))) moves_21, dead, dead, dead, dead]) ?_ (WkL.at (j := 5) WkS.list rfl)
    cases hm
    exact go_ret (x_var 5) (fun v H h => h)
  · rintro r hm v H h
    cases hm

theorem ok_is_move (T : Txt K mg) : FnOk P w K mg base CX0 1 T.f_is_move T.d_is_move ["move", "state_count", "output_count"] (spP (fun (z : ((Int) × (Int)) × (Int) × (Int)) => [val (pT2 pInt pInt) z.1, val pInt z.2.1, val pInt z.2.2]) (fun z => m_is_move z.1 z.2.1 z.2.2) (fun r => val pBl r)) := by
  refine fn_pure T.F_is_move sc_is_move (fun _ => rfl) (fun cdv A outer s H E hr z r B hm => ?_)
  obtain ⟨move_0, state_count_0, output_count_0⟩ := z
  replace hm : m_is_move move_0 state_count_0 output_count_0 = some r := hm
  unfold m_is_move at hm
  show Go _ _ _ _ _ [val (pT2 pInt pInt) move_0, val pInt state_count_0, val pInt output_count_0, dead, dead]
  refine go_asg (x_var 0) (xg_tup2 (xgs_cons (xg_name 3) (xgs_cons (xg_name 4) xgs_nil))) ?_
  show Go _ _ _ _ _ [val (pT2 pInt pInt) move_0, val pInt state_count_0, val pInt output_count_0, val pInt move_0.1, val pInt move_0.2]
  obtain ⟨b_41, h_42, hm⟩ := Option.bind_eq_some_iff.mp hm
  cases hm
  exact go_ret (x_andP (x_chain (fun _ => op_le) (fun _ => op_lt) o_bl (fun _ => o_bl) rfl x_int (x_var 3) (fun _ => (x_var 1))) h_42 (fun z hm => by obtain ⟨b_39, h_40, hm⟩ := Option.bind_eq_some_iff.mp hm; cases hm; exact (x_one (x_chainP (fun _ => op_le) (fun _ => op_lt) o_bl h_40 x_int (x_var 4) (fun z hm => by obtain ⟨h_38, hm⟩ := guardO_some hm; cases hm; exact ⟨_, (x_op (fun _ => op_shl) (o_intC ⟨h_38.1, h_38.2, by decide⟩) x_int (x_var 2)), o_bl⟩))))) (fun v H h => h)

theorem ok_Machine_init (T : Txt K mg) : FnOk P w K mg base CX0 2 T.f_Machine_init T.d_Machine_init ["self", "input_count", "output_count", "moves"] (spM (fun _ => obj T.C_Machine [] []) (fun (z : (Int) × (Int) × (List (List ((Int) × (Int))))) => [val pInt z.1, val pInt z.2.1, val (pL (pL (pT2 pInt pInt))) z.2.2]) (fun z => m_Machine_init z.1 z.2.1 z.2.2) (fun r => obj T.C_Machine ns_Machine (dl_Machine r)) (fun (_ : Unit) => vNon)) := by
  refine fn_mut T.F_Machine_init sc_Machine_init (fun _ => rfl) (fun cdv A outer s H E hr z r v0 B hm => ?_)
  obtain ⟨input_count_0, output_count_0, moves_0⟩ := z
  replace hm : m_Machine_init input_count_0 output_count_0 moves_0 = some r := hm
  unfold m_Machine_init at hm
  show Go _ _ _ _ _ [hold (obj T.C_Machine [] []) v0, val pInt input_count_0, val pInt output_count_0, val (pL (pL (pT2 pInt pInt))) moves_0, dead, dead, dead, dead]
  refine go_if (xw_pt (xw_or (xt_not (xt_chain (fun _ => op_le) (fun _ => op_le) o_bl (fun _ => o_bl) rfl x_int (x_var 1) (fun _ => (x_glob (v := .int 6) T.g_MOST_INPUTS ⟨_, rfl⟩ (fun _ => rfl)))) rfl) (fun _ => (xw_or1 (xt_not (xt_chain (fun _ => op_le) (fun _ => op_le) o_bl (fun _ => o_bl) rfl x_int (x_var 2) (fun _ => (x_glob (v := .int 32) T.g_MOST_OUTPUTS ⟨_, rfl⟩ (fun _ => rfl)))) rfl))) rfl)) (fun hz => ?_) (fun hz => ?_)
  · have hm := condT hz hm
    cases hm
  · have hm := condF hz hm
    refine go_join ?_
    refine go_if (xt_cmp (fun _ => op_eq) o_eqI (nomark _) (x_callB (c_len _) T.g_len (by decide +kernel) (o_lenL LV.val.sv) (xa1 (x_var 3))) x_int) (fun hz => ?_) (fun hz => ?_)
    · have hm := condT hz hm
      cases hm
    · have hm := condF hz hm
      refine go_join ?_
      obtain ⟨h_43, hm⟩ := guardO_some hm
      obtain ⟨rows_44, h_45, hm⟩ := letO_some hm
      refine go_set 4 (XV.eqV (x_op (fun _ => op_shl) (o_intC ⟨h_43.1, h_43.2, by decide⟩) x_int (x_var 1)) h_45) ?_
      show Go _ _ _ _ _ [hold (obj T.C_Machine [] []) v0, val pInt input_count_0, val pInt output_count_0, val (pL (pL (pT2 pInt pInt))) moves_0, val pInt rows_44, dead, dead, dead]
      refine go_forK (rs := val (pT2 pInt (pL (pT2 pInt pInt)))) (fun s => [hold (obj T.C_Machine [] []) v0, val pInt input_count_0, val pInt output_count_0, val (pL (pL (pT2 pInt pInt))) moves_0, val pInt rows_44, dead, dead, dead]) (fun r => val pNon r) (xi_enum' T.g_enumerate (x_var 3)) (by repeat' (first | exact WkL.nil | exact WkS.refl | exact WkS.dead | exact WkS.list | exact WkS.dict | exact WkS.lstS (fun _ => WkS.list) | refine WkL.cons ?_ ?_)) hm ?_ ?_ ?_
      · rintro B1 p_46 s out hx hm hr1 hl1
        refine ⟨_, _, (xg_tup2 (xgs_cons (xg_name 5) (xgs_cons (xg_name 6) xgs_nil))), ?_⟩
        show Go _ _ _ _ _ [hold (obj T.C_Machine [] []) v0, val pInt input_count_0, val pInt output_count_0, val (pL (pL (pT2 pInt pInt))) moves_0, val pInt rows_44, val pInt p_46.1, val (pL (pT2 pInt pInt)) p_46.2, dead]
        refine go_if (xt_cmp (fun _ => op_eq) o_eqI (nomark _) (x_var 5) (x_glob (v := .int 1000) T.g_MOST_STATES ⟨_, rfl⟩ (fun _ => rfl))) (fun hz => ?_) (fun hz => ?_)
        · have hm := condT hz hm
          cases hm
        · have hm := condF hz hm
          refine go_join ?_
          obtain ⟨h_48, hm⟩ := guardO_some hm
          refine go_forK (rs := val pInt) (fun s => [hold (obj T.C_Machine [] []) v0, val pInt input_count_0, val pInt output_count_0, val (pL (pL (pT2 pInt pInt))) moves_0, val pInt rows_44, val pInt p_46.1, val (pL (pT2 pInt pInt)) p_46.2, dead]) (fun r => val pNon r) (xi_range1 T.g_range (x_callB (c_max2 _) T.g_max (by decide +kernel) o_max2 (xa2 (x_var 4) (x_callB (c_len _) T.g_len (by decide +kernel) (o_lenL LV.val.sv) (xa1 (x_var 6))))) h_48) (by repeat' (first | exact WkL.nil | exact WkS.refl | exact WkS.dead | exact WkS.list | exact WkS.dict | exact WkS.lstS (fun _ => WkS.list) | refine WkL.cons ?_ ?_)) hm ?_ ?_ ?_
          · rintro B1 row_49 s out hx hm hr2 hl2
            refine ⟨_, _, (xg_name 7), ?_⟩
            show Go _ _ _ _ _ [hold (obj T.C_Machine [] []) v0, val pInt input_count_0, val pInt output_count_0, val (pL (pL (pT2 pInt pInt))) moves_0, val pInt rows_44, val pInt p_46.1, val (pL (pT2 pInt pInt)) p_46.2, val pInt row_49]
            obtain ⟨b_54, h_55, hm⟩ := Option.bind_eq_some_iff.mp hm
            refine go_if (xw_pt (xw_orP (xt_cmp (fun _ => op_ge) o_bl (nomark _) (x_var 7) (x_callB (c_min2 _) T.g_min (by decide +kernel) o_min2 (xa2 (x_var 4) (x_callB (c_len _) T.g_len (by decide +kernel) (o_lenL LV.val.sv) (xa1 (x_var 6)))))) h_55 (fun z hm => by obtain ⟨v_50, h_51, hm⟩ := Option.bind_eq_some_iff.mp hm; obtain ⟨r_52, h_53, hm⟩ := Option.bind_eq_some_iff.mp hm; cases hm; exact (xw_or1 (xt_not (xt_val (x_call (z := (v_50, ((moves_0).length : Int), output_count_0)) (ok_is_move T) (by decide) T.g_is_move T.k_is_move T.b_is_move (xa_cons (x_ix (x_var 6) LV.val.sv (x_var 7) h_51) (xa_cons (x_callB (c_len _) T.g_len (by decide +kernel) (o_lenL LV.val.sv) (xa1 (x_var 3))) (xa_cons (x_var 2) xa_nil))) rfl (by repeat' (first | exact trivial | refine ⟨no_val, ?_⟩ | refine ⟨no_borL, ?_⟩ | refine ⟨no_bor, ?_⟩)) h_53)) rfl))))) (fun hz => ?_) (fun hz => ?_)
            · have hm := condT hz hm
              cases hm
            · have hm := condF hz hm
              refine go_join ?_
              cases hm
              exact go_nil (fun σ H h => ⟨_, rfl, h.wk (by repeat' (first | exact WkL.nil | exact WkS.refl | exact WkS.dead | exact WkS.list | exact WkS.dict | exact WkS.lstS (fun _ => WkS.list) | refine WkL.cons ?_ ?_))⟩)
          · rintro s hm
            show Go _ _ _ _ _ [hold (obj T.C_Machine [] []) v0, val pInt input_count_0, val pInt output_count_0, val (pL (pL (pT2 pInt pInt))) moves_0, val pInt rows_44, val pInt p_46.1, val (pL (pT2 pInt pInt)) p_46.2, dead]
            cases hm
            exact go_nil (fun σ H h => ⟨_, rfl, h.wk (by repeat' (first | exact WkL.nil | exact WkS.refl | exact WkS.dead | exact WkS.list | exact WkS.dict | exact WkS.lstS (fun _ => WkS.list) | refine WkL.cons ?_ ?_))⟩)
          · rintro r hm v H h
            cases hm
      · rintro s hm
        show Go _ _ _ _ _ [hold (obj T.C_Machine [] []) v0, val pInt input_count_0, val pInt output_count_0, val (pL (pL (pT2 pInt pInt))) moves_0, val pInt rows_44, dead, dead, dead]
        refine go_newfld (pl_hold 0 (by repeat' (first | exact Stb.nil | exact trivial | exact stb_map (fun _ => trivial) _ | refine Stb.cons ?_ ?_))) (x_var 1) T.at_Machine_input_count (by repeat' (first | exact Stb.nil | exact trivial | exact stb_map (fun _ => trivial) _ | refine Stb.cons ?_ ?_)) trivial ?_
        show Go _ _ _ _ _ [hold (obj T.C_Machine ["input_count"] [val pInt input_count_0]) v0, val pInt input_count_0, val pInt output_count_0, val (pL (pL (pT2 pInt pInt))) moves_0, val pInt rows_44, dead, dead, dead]
        refine go_newfld (pl_hold 0 (by repeat' (first | exact Stb.nil | exact trivial | exact stb_map (fun _ => trivial) _ | refine Stb.cons ?_ ?_))) (x_var 2) T.at_Machine_output_count (by repeat' (first | exact Stb.nil | exact trivial | exact stb_map (fun _ => trivial) _ | refine Stb.cons ?_ ?_)) trivial ?_
        show Go _ _ _ _ _ [hold (obj T.C_Machine ["input_count", "output_count"] [val pInt input_count_0, val pInt output_count_0]) v0, val pInt input_count_0, val pInt output_count_0, val (pL (pL (pT2 pInt pInt))) moves_0, val pInt rows_44, dead, dead, dead]
        obtain ⟨h_59, hm⟩ := guardO_some hm
        obtain ⟨ys_56, h_57, hm⟩ := Option.bind_eq_some_iff.mp hm
        refine go_newfld (pl_hold 0 (by repeat' (first | exact Stb.nil | exact trivial | exact stb_map (fun _ => trivial) _ | refine Stb.cons ?_ ?_))) (x_lc (rs := val (pL (pT2 pInt pInt))) (own := [("entry", 6)]) (xi_list (x_var 3)).ro ⟨fun _ => blkOk_by (N := N_Machine_init) (sc := defScope s_Machine_init) (by decide +kernel), fun _ _ => rfl⟩ h_59 h_57 ⟨rfl, trivial⟩ (fun entry_58 o hx hm => by skip; cases hm; exact ⟨_, _, rfl, (xg_name 6), lc_el (XV.frz (x_callTy (c_list _) T.g_list (by decide +kernel) (o_listL LV.val.sv) (xa1 (x_var 6))))⟩)) T.at_Machine_moves (by repeat' (first | exact Stb.nil | exact trivial | exact stb_map (fun _ => trivial) _ | refine Stb.cons ?_ ?_)) trivial ?_
        show Go _ _ _ _ _ [hold (obj T.C_Machine ["input_count", "output_count", "moves"] [val pInt input_count_0, val pInt output_count_0, own (oL (pL (pT2 pInt pInt))) ys_56]) v0, val pInt input_count_0, val pInt output_count_0, val (pL (pL (pT2 pInt pInt))) moves_0, val pInt rows_44, dead, dead, dead]
        cases hm
        exact go_nilM 0
      · rintro r hm v H h
        cases hm

theorem ok__law_row (T : Txt K mg) : FnOk P w K mg base CX0 1 T.f__law_row T.d__law_row ["count", "number"] (spP (fun (z : (Int) × (Int)) => [val pInt z.1, val pInt z.2]) (fun z => m__law_row z.1 z.2) (fun r => val (pL pInt) r)) := by
  refine fn_pure T.F__law_row sc__law_row (fun _ => rfl) (fun cdv A outer s H E hr z r B hm => ?_)
  obtain ⟨count_0, number_0⟩ := z
  replace hm : m__law_row count_0 number_0 = some r := hm
  unfold m__law_row at hm
  show Go _ _ _ _ _ [val pInt count_0, val pInt number_0, dead]
  obtain ⟨h_61, hm⟩ := guardO_some hm
  obtain ⟨h_66, hm⟩ := guardO_some hm
  obtain ⟨ys_62, h_63, hm⟩ := Option.bind_eq_some_iff.mp hm
  cases hm
  exact go_ret (XV.frz (x_lc (rs := val pInt) (own := [("k", 2)]) (xi_range1 T.g_range (x_var 0) h_61).ro ⟨fun _ => blkOk_by (N := N__law_row) (sc := defScope s__law_row) (by decide +kernel), fun _ _ => rfl⟩ h_66 h_63 ⟨rfl, trivial⟩ (fun k_64 o hx hm => by obtain ⟨h_65, hm⟩ := guardO_some hm; cases hm; exact ⟨_, _, rfl, (xg_name 2), lc_el (x_op (fun _ => op_mod) (o_intC (by decide)) (x_callTy (fun _ => call_int1) T.g_int (by decide +kernel) o_intI (xa1 (x_op (fun _ => op_shr) (o_intC h_65) (x_var 1) (x_op (fun _ => op_sub) o_int (x_op (fun _ => op_sub) o_int (x_var 0) x_int) (x_var 2))))) x_int)⟩))) (fun v H h => h)

theorem ok__law_gathering (T : Txt K mg) : FnOk P w K mg base CX0 2 T.f__law_gathering T.d__law_gathering ["moves", "inputs", "most"] (spP (fun (z : (List (List ((Int) × (Int)))) × (Int) × (Int)) => [val (pL (pL (pT2 pInt pInt))) z.1, val pInt z.2.1, val pInt z.2.2]) (fun z => m__law_gathering z.1 z.2.1 z.2.2) (fun r => val (pDa K) r)) := by
  refine fn_pure T.F__law_gathering sc__law_gathering (fun _ => rfl) (fun cdv A outer s H E hr z r B hm => ?_)
  obtain ⟨moves_0, inputs_0, most_0⟩ := z
  replace hm : m__law_gathering moves_0 inputs_0 most_0 = some r := hm
  unfold m__law_gathering at hm
  show Go _ _ _ _ _ [val (pL (pL (pT2 pInt pInt))) moves_0, val pInt inputs_0, val pInt most_0, dead, dead, dead, dead, dead, dead, dead, dead]
  refine go_if (xt_cmp (fun _ => op_eq) o_eqI (nomark _) (x_callB (c_len _) T.g_len (by decide +kernel) (o_lenL LV.val.sv) (xa1 (x_var 0))) x_int) (fun hz => ?_) (fun hz => ?_)
  · have hm := condT hz hm
    cases hm
    exact go_ret (x_lstD (ds := [DE.str.enc ("course" : Str), (PyData.list [])]) (xa_cons (XV.data DE.str x_str) (xa_cons (x_lstD (ds := []) xa_nil (Nat.zero_le _)) xa_nil)) (le_line rfl)) (fun v H h => h)
  · have hm := condF hz hm
    refine go_join ?_
    obtain ⟨h_67, hm⟩ := guardO_some hm
    obtain ⟨start_68, h_69, hm⟩ := letO_some hm
    refine go_set 3 (XV.eqV (x_tupRg (x_callB (c_len _) T.g_len (by decide +kernel) (o_lenL LV.val.sv) (xa1 (x_var 0))) h_67 T.g_tuple T.g_range) h_69) ?_
    show Go _ _ _ _ _ [val (pL (pL (pT2 pInt pInt))) moves_0, val pInt inputs_0, val pInt most_0, val (pTup pInt) start_68, dead, dead, dead, dead, dead, dead, dead]
    refine go_set 4 (x_lst (xs := [start_68]) (xa_cons (x_var 3) xa_nil) (le_line rfl)) ?_
    show Go _ _ _ _ _ [val (pL (pL (pT2 pInt pInt))) moves_0, val pInt inputs_0, val pInt most_0, val (pTup pInt) start_68, own (oL (pTup pInt)) ([start_68]), dead, dead, dead, dead, dead, dead]
    refine go_set 5 (x_disp_dInts (x_var 3) (XV.frz (x_lst (p := (pL pInt)) (xs := []) xa_nil (Nat.zero_le _)))) ?_
    show Go _ _ _ _ _ [val (pL (pL (pT2 pInt pInt))) moves_0, val pInt inputs_0, val pInt most_0, val (pTup pInt) start_68, own (oL (pTup pInt)) ([start_68]), own (oD dInts (pL (pL pInt))) ([(start_68, ([] : List (List (Int))))]), dead, dead, dead, dead, dead]
    obtain ⟨h_70, hm⟩ := guardO_some hm
    obtain ⟨h_72, hm⟩ := guardO_some hm
    refine go_forK (rs := val pInt) (fun s => [val (pL (pL (pT2 pInt pInt))) moves_0, val pInt inputs_0, val pInt most_0, val (pTup pInt) start_68, own (oL (pTup pInt)) s.1, own (oD dInts (pL (pL pInt))) s.2, dead, dead, dead, dead, dead]) (fun r => val (pDa K) r) (xi_range1 T.g_range (x_op (fun _ => op_shl) (o_intC ⟨h_70.1, h_70.2, by decide⟩) x_int (x_callB (c_len _) T.g_len (by decide +kernel) (o_lenL LV.val.sv) (xa1 (x_var 0)))) h_72) (by repeat' (first | exact WkL.nil | exact WkS.refl | exact WkS.dead | exact WkS.list | exact WkS.dict | exact WkS.lstS (fun _ => WkS.list) | refine WkL.cons ?_ ?_)) hm ?_ ?_ ?_
    · rintro B1 turn_75 s out hx hm hr1 hl1
      obtain ⟨met_73, known_74⟩ := s
      refine ⟨_, _, (xg_name 6), ?_⟩
      show Go _ _ _ _ _ [val (pL (pL (pT2 pInt pInt))) moves_0, val pInt inputs_0, val pInt most_0, val (pTup pInt) start_68, own (oL (pTup pInt)) met_73, own (oD dInts (pL (pL pInt))) known_74, val pInt turn_75, dead, dead, dead, dead]
      refine go_if (xt_cmp (fun _ => op_eq) o_eqI (nomark _) (x_var 6) (x_callB (c_len _) T.g_len (by decide +kernel) (o_lenL LV.bor.sv) (xa1 (x_varL 4)))) (fun hz => ?_) (fun hz => ?_)
      · have hm := condT hz hm
        cases hm
        exact go_break (fun σ H h => ⟨_, rfl, h.wk (by repeat' (first | exact WkL.nil | exact WkS.refl | exact WkS.dead | exact WkS.list | exact WkS.dict | exact WkS.lstS (fun _ => WkS.list) | refine WkL.cons ?_ ?_))⟩)
      · have hm := condF hz hm
        refine go_join ?_
        obtain ⟨v_76, h_77, hm⟩ := Option.bind_eq_some_iff.mp hm
        obtain ⟨v_78, h_79, hm⟩ := Option.bind_eq_some_iff.mp hm
        refine go_set 7 (x_dget (q := dInts) (x_varD 5) DV.bor (x_ix (x_varL 4) LV.bor.sv (x_var 6) h_77) h_79) ?_
        show Go _ _ _ _ _ [val (pL (pL (pT2 pInt pInt))) moves_0, val pInt inputs_0, val pInt most_0, val (pTup pInt) start_68, own (oL (pTup pInt)) met_73, own (oD dInts (pL (pL pInt))) known_74, val pInt turn_75, val (pL (pL pInt)) v_78, dead, dead, dead]
        obtain ⟨h_80, hm⟩ := guardO_some hm
        obtain ⟨h_82, hm⟩ := guardO_some hm
        refine go_forK (rs := val pInt) (fun s => [val (pL (pL (pT2 pInt pInt))) moves_0, val pInt inputs_0, val pInt most_0, val (pTup pInt) start_68, own (oL (pTup pInt)) s.1, own (oD dInts (pL (pL pInt))) s.2, val pInt turn_75, val (pL (pL pInt)) v_78, dead, dead, dead]) (fun r => val (pDa K) r) (xi_range1 T.g_range (x_op (fun _ => op_shl) (o_intC ⟨h_80.1, h_80.2, by decide⟩) x_int (x_var 1)) h_82) (by repeat' (first | exact WkL.nil | exact WkS.refl | exact WkS.dead | exact WkS.list | exact WkS.dict | exact WkS.lstS (fun _ => WkS.list) | refine WkL.cons ?_ ?_)) hm ?_ ?_ ?_
        · rintro B1 number_85 s out hx hm hr2 hl2
          obtain ⟨met_83, known_84⟩ := s
          refine ⟨_, _, (xg_name 8), ?_⟩
          show Go _ _ _ _ _ [val (pL (pL (pT2 pInt pInt))) moves_0, val pInt inputs_0, val pInt most_0, val (pTup pInt) start_68, own (oL (pTup pInt)) met_83, own (oD dInts (pL (pL pInt))) known_84, val pInt turn_75, val (pL (pL pInt)) v_78, val pInt number_85, dead, dead]
          obtain ⟨v_86, h_87, hm⟩ := Option.bind_eq_some_iff.mp hm
          obtain ⟨h_95, hm⟩ := guardO_some hm
          obtain ⟨ys_88, h_89, hm⟩ := Option.bind_eq_some_iff.mp hm
          obtain ⟨h_96, hm⟩ := guardO_some hm
          obtain ⟨together_97, h_98, hm⟩ := letO_some hm
          refine go_set 9 (XV.eqV (x_callTy (c_tup _) T.g_tuple (by decide +kernel) (o_tupL LV.own.sv) (xa1 (x_callB (c_sortSet _) T.g_sorted (by decide +kernel) o_sortSet (xa1 (x_callTy (c_setI _) T.g_set (by decide +kernel) (o_setI LV.own.sv h_96) (xa1 (x_lc (rs := val pInt) (own := [("state", 10)]) (xi_tup (x_ix (x_varL 4) LV.bor.sv (x_var 6) h_87)).ro ⟨fun _ => blkOk_by (N := N__law_gathering) (sc := defScope s__law_gathering) (by decide +kernel), fun _ _ => rfl⟩ h_95 h_89 ⟨rfl, trivial⟩ (fun state_90 o hx hm => by obtain ⟨v_91, h_92, hm⟩ := Option.bind_eq_some_iff.mp hm; obtain ⟨v_93, h_94, hm⟩ := Option.bind_eq_some_iff.mp hm; cases hm; exact ⟨_, _, rfl, (xg_name 10), lc_el (x_fst (x_ix (x_ix (x_var 0) LV.val.sv (x_var 10) h_92) LV.val.sv (x_var 8) h_94) x_int)⟩)))))))) h_98) ?_
          show Go _ _ _ _ _ [val (pL (pL (pT2 pInt pInt))) moves_0, val pInt inputs_0, val pInt most_0, val (pTup pInt) start_68, own (oL (pTup pInt)) met_83, own (oD dInts (pL (pL pInt))) known_84, val pInt turn_75, val (pL (pL pInt)) v_78, val pInt number_85, val (pTup pInt) together_97, dead]
          refine go_if (xt_cmp (fun _ => op_eq) o_eqI (nomark _) (x_callB (c_len _) T.g_len (by decide +kernel) (o_lenT TV.val) (xa1 (x_var 9))) x_int) (fun hz => ?_) (fun hz => ?_)
          · have hm := condT hz hm
            obtain ⟨r_99, h_100, hm⟩ := Option.bind_eq_some_iff.mp hm
            obtain ⟨h_101, hm⟩ := guardO_some hm
            cases hm
            exact go_ret (x_lstD (ds := [DE.str.enc ("course" : Str), (DE.list (DE.list DE.int)).enc (v_78 ++ [r_99])]) (xa_cons (XV.data DE.str x_str) (xa_cons (XV.data (DE.list (DE.list DE.int)) (XV.frz (x_op (fun _ => op_cat) (o_cat LV.val LV.own h_101) (x_var 7) (x_lst (xs := [r_99]) (xa_cons (x_call (z := (inputs_0, number_85)) (ok__law_row T) (by decide) T.g__law_row T.k__law_row T.b__law_row (xa_cons (x_var 1) (xa_cons (x_var 8) xa_nil)) rfl (by repeat' (first | exact trivial | refine ⟨no_val, ?_⟩ | refine ⟨no_borL, ?_⟩ | refine ⟨no_bor, ?_⟩)) h_100) xa_nil) (le_line rfl))))) xa_nil)) (le_line rfl)) (fun v H h => ⟨_, rfl, h⟩)
          · have hm := condF hz hm
            refine go_join ?_
            obtain ⟨s_110, hj_109, hm⟩ := Option.bind_eq_some_iff.mp hm
            obtain ⟨met_102, known_103⟩ := s_110
            refine go_ifJ [val (pL (pL (pT2 pInt pInt))) moves_0, val pInt inputs_0, val pInt most_0, val (pTup pInt) start_68, own (oL (pTup pInt)) met_102, own (oD dInts (pL (pL pInt))) known_103, val pInt turn_75, val (pL (pL pInt)) v_78, val pInt number_85, val (pTup pInt) together_97, dead] (xt_dnin (q := dInts) (x_var 9) (x_varD 5) DV.bor rfl) (fun hz => ?_) (fun hz => ?_) ?_
            · have hm := condT hz hj_109
              obtain ⟨r_104, h_105, hm⟩ := Option.bind_eq_some_iff.mp hm
              obtain ⟨h_106, hm⟩ := guardO_some hm
              obtain ⟨h_107, hm⟩ := guardO_some hm
              refine go_dput (q := dInts) (pl_name 5 (by repeat' (first | exact Stb.nil | exact trivial | exact stb_map (fun _ => trivial) _ | refine Stb.cons ?_ ?_)) (hso := own_some)) (x_var 9) (XV.frz (x_op (fun _ => op_cat) (o_cat LV.val LV.own h_106) (x_var 7) (x_lst (xs := [r_104]) (xa_cons (x_call (z := (inputs_0, number_85)) (ok__law_row T) (by decide) T.g__law_row T.k__law_row T.b__law_row (xa_cons (x_var 1) (xa_cons (x_var 8) xa_nil)) rfl (by repeat' (first | exact trivial | refine ⟨no_val, ?_⟩ | refine ⟨no_borL, ?_⟩ | refine ⟨no_bor, ?_⟩)) h_105) xa_nil) (le_line rfl)))) h_107 ?_
              show Go _ _ _ _ _ [val (pL (pL (pT2 pInt pInt))) moves_0, val pInt inputs_0, val pInt most_0, val (pTup pInt) start_68, own (oL (pTup pInt)) met_83, own (oD dInts (pL (pL pInt))) (dput known_84 together_97 (v_78 ++ [r_104])), val pInt turn_75, val (pL (pL pInt)) v_78, val pInt number_85, val (pTup pInt) together_97, dead]
              obtain ⟨h_108, hm⟩ := guardO_some hm
              refine go_append (pl_name 4 (by repeat' (first | exact Stb.nil | exact trivial | exact stb_map (fun _ => trivial) _ | refine Stb.cons ?_ ?_)) (hso := own_some)) (x_var 9) h_108 ?_
              show Go _ _ _ _ _ [val (pL (pL (pT2 pInt pInt))) moves_0, val pInt inputs_0, val pInt most_0, val (pTup pInt) start_68, own (oL (pTup pInt)) (met_83 ++ [together_97]), own (oD dInts (pL (pL pInt))) (dput known_84 together_97 (v_78 ++ [r_104])), val pInt turn_75, val (pL (pL pInt)) v_78, val pInt number_85, val (pTup pInt) together_97, dead]
              cases hm
              exact go_nx (by repeat' (first | exact WkL.nil | exact WkS.refl | exact WkS.dead | exact WkS.list | exact WkS.dict | exact WkS.lstS (fun _ => WkS.list) | refine WkL.cons ?_ ?_))
            · have hm := condF hz hj_109
              cases hm
              exact go_nx (by repeat' (first | exact WkL.nil | exact WkS.refl | exact WkS.dead | exact WkS.list | exact WkS.dict | exact WkS.lstS (fun _ => WkS.list) | refine WkL.cons ?_ ?_))
            cases hm
            exact go_nil (fun σ H h => ⟨_, rfl, h.wk (by repeat' (first | exact WkL.nil | exact WkS.refl | exact WkS.dead | exact WkS.list | exact WkS.dict | exact WkS.lstS (fun _ => WkS.list) | refine WkL.cons ?_ ?_))⟩)
        · rintro s hm
          obtain ⟨met_83, known_84⟩ := s
          show Go _ _ _ _ _ [val (pL (pL (pT2 pInt pInt))) moves_0, val pInt inputs_0, val pInt most_0, val (pTup pInt) start_68, own (oL (pTup pInt)) met_83, own (oD dInts (pL (pL pInt))) known_84, val pInt turn_75, val (pL (pL pInt)) v_78, dead, dead, dead]
          refine go_if (xt_cmp (fun _ => op_gt) o_bl (nomark _) (x_callB (c_len _) T.g_len (by decide +kernel) (o_lenL LV.bor.sv) (xa1 (x_varL 4))) (x_var 2)) (fun hz => ?_) (fun hz => ?_)
          · have hm := condT hz hm
            cases hm
            exact go_ret (x_lstD (ds := [DE.str.enc ("many" : Str), DE.int.enc ((met_83).length : Int)]) (xa_cons (XV.data DE.str x_str) (xa_cons (XV.data DE.int (x_callB (c_len _) T.g_len (by decide +kernel) (o_lenL LV.bor.sv) (xa1 (x_varL 4)))) xa_nil)) (le_line rfl)) (fun v H h => ⟨_, rfl, h⟩)
          · have hm := condF hz hm
            refine go_join ?_
            cases hm
            exact go_nil (fun σ H h => ⟨_, rfl, h.wk (by repeat' (first | exact WkL.nil | exact WkS.refl | exact WkS.dead | exact WkS.list | exact WkS.dict | exact WkS.lstS (fun _ => WkS.list) | refine WkL.cons ?_ ?_))⟩)
        · rintro r hm v H h
          cases hm
          first | exact h | exact ⟨_, rfl, h⟩
    · rintro s hm
      obtain ⟨met_73, known_74⟩ := s
      show Go _ _ _ _ _ [val (pL (pL (pT2 pInt pInt))) moves_0, val pInt inputs_0, val pInt most_0, val (pTup pInt) start_68, own (oL (pTup pInt)) met_73, own (oD dInts (pL (pL pInt))) known_74, dead, dead, dead, dead, dead]
      cases hm
      exact go_ret (x_lstD (ds := [DE.str.enc ("none" : Str), DE.int.enc ((met_73).length : Int)]) (xa_cons (XV.data DE.str x_str) (xa_cons (XV.data DE.int (x_callB (c_len _) T.g_len (by decide +kernel) (o_lenL LV.bor.sv) (xa1 (x_varL 4)))) xa_nil)) (le_line rfl)) (fun v H h => h)
    · rintro r hm v H h
      cases hm
      first | exact h | exact ⟨_, rfl, h⟩

theorem ok_Visits_init (T : Txt K mg) : FnOk P w K mg base CX0 1 T.f_Visits_init T.d_Visits_init ["self", "start", "count"] (spM (fun _ => obj T.C_Visits [] []) (fun (z : (List (Int)) × (Int)) => [val (pTup pInt) z.1, val pInt z.2]) (fun z => m_Visits_init z.1 z.2) (fun r => obj T.C_Visits ns_Visits (dl_Visits r)) (fun (_ : Unit) => vNon)) := by
  refine fn_mut T.F_Visits_init sc_Visits_init (fun _ => rfl) (fun cdv A outer s H E hr z r v0 B hm => ?_)
  obtain ⟨start_0, count_0⟩ := z
  replace hm : m_Visits_init start_0 count_0 = some r := hm
  unfold m_Visits_init at hm
  show Go _ _ _ _ _ [hold (obj T.C_Visits [] []) v0, val (pTup pInt) start_0, val pInt count_0]
  refine go_newfld (pl_hold 0 (by repeat' (first | exact Stb.nil | exact trivial | exact stb_map (fun _ => trivial) _ | refine Stb.cons ?_ ?_))) (x_lst (xs := [start_0]) (xa_cons (x_var 1) xa_nil) (le_line rfl)) T.at_Visits_met (by repeat' (first | exact Stb.nil | exact trivial | exact stb_map (fun _ => trivial) _ | refine Stb.cons ?_ ?_)) trivial ?_
  show Go _ _ _ _ _ [hold (obj T.C_Visits ["met"] [own (oL (pTup pInt)) ([start_0])]) v0, val (pTup pInt) start_0, val pInt count_0]
  refine go_newfld (pl_hold 0 (by repeat' (first | exact Stb.nil | exact trivial | exact stb_map (fun _ => trivial) _ | refine Stb.cons ?_ ?_))) (x_disp_dInts (x_var 1) x_bl) T.at_Visits_known (by repeat' (first | exact Stb.nil | exact trivial | exact stb_map (fun _ => trivial) _ | refine Stb.cons ?_ ?_)) trivial ?_
  show Go _ _ _ _ _ [hold (obj T.C_Visits ["met", "known"] [own (oL (pTup pInt)) ([start_0]), own (oD dInts pBl) ([(start_0, true)])]) v0, val (pTup pInt) start_0, val pInt count_0]
  refine go_newfld (pl_hold 0 (by repeat' (first | exact Stb.nil | exact trivial | exact stb_map (fun _ => trivial) _ | refine Stb.cons ?_ ?_))) (x_lst (xs := [((0 : Int), (0 : Int))]) (xa_cons (x_tup2 (xa_cons x_int (xa_cons x_int xa_nil))) xa_nil) (le_line rfl)) T.at_Visits_origins (by repeat' (first | exact Stb.nil | exact trivial | exact stb_map (fun _ => trivial) _ | refine Stb.cons ?_ ?_)) trivial ?_
  show Go _ _ _ _ _ [hold (obj T.C_Visits ["met", "known", "origins"] [own (oL (pTup pInt)) ([start_0]), own (oD dInts pBl) ([(start_0, true)]), own (oL (pT2 pInt pInt)) ([((0 : Int), (0 : Int))])]) v0, val (pTup pInt) start_0, val pInt count_0]
  refine go_newfld (pl_hold 0 (by repeat' (first | exact Stb.nil | exact trivial | exact stb_map (fun _ => trivial) _ | refine Stb.cons ?_ ?_))) (x_var 2) T.at_Visits_count (by repeat' (first | exact Stb.nil | exact trivial | exact stb_map (fun _ => trivial) _ | refine Stb.cons ?_ ?_)) trivial ?_
  show Go _ _ _ _ _ [hold (obj T.C_Visits ["met", "known", "origins", "count"] [own (oL (pTup pInt)) ([start_0]), own (oD dInts pBl) ([(start_0, true)]), own (oL (pT2 pInt pInt)) ([((0 : Int), (0 : Int))]), val pInt count_0]) v0, val (pTup pInt) start_0, val pInt count_0]
  refine go_newfld (pl_hold 0 (by repeat' (first | exact Stb.nil | exact trivial | exact stb_map (fun _ => trivial) _ | refine Stb.cons ?_ ?_))) x_int T.at_Visits_at (by repeat' (first | exact Stb.nil | exact trivial | exact stb_map (fun _ => trivial) _ | refine Stb.cons ?_ ?_)) trivial ?_
  show Go _ _ _ _ _ [hold (obj T.C_Visits ["met", "known", "origins", "count", "at"] [own (oL (pTup pInt)) ([start_0]), own (oD dInts pBl) ([(start_0, true)]), own (oL (pT2 pInt pInt)) ([((0 : Int), (0 : Int))]), val pInt count_0, val pInt (0 : Int)]) v0, val (pTup pInt) start_0, val pInt count_0]
  cases hm
  exact go_nilM 0

theorem ok_Visits_meet (T : Txt K mg) : FnOk P w K mg base CX0 1 T.f_Visits_meet T.d_Visits_meet ["self", "place", "number"] (spM (fun z => obj T.C_Visits ns_Visits (dl_Visits z.1)) (fun (z : (S_Visits) × (List (Int)) × (Int)) => [val (pTup pInt) z.2.1, val pInt z.2.2]) (fun z => m_Visits_meet z.1 z.2.1 z.2.2) (fun r => obj T.C_Visits ns_Visits (dl_Visits r)) (fun (_ : Unit) => vNon)) := by
  refine fn_mut T.F_Visits_meet sc_Visits_meet (fun _ => rfl) (fun cdv A outer s H E hr z r v0 B hm => ?_)
  obtain ⟨self_0, place_0, number_0⟩ := z
  replace hm : m_Visits_meet self_0 place_0 number_0 = some r := hm
  unfold m_Visits_meet at hm
  show Go _ _ _ _ _ [hold (obj T.C_Visits ["met", "known", "origins", "count", "at"] [own (oL (pTup pInt)) self_0.met, own (oD dInts pBl) self_0.known, own (oL (pT2 pInt pInt)) self_0.origins, val pInt self_0.count, val pInt self_0.at_]) v0, val (pTup pInt) place_0, val pInt number_0]
  obtain ⟨self_111, hj_115, hm⟩ := Option.bind_eq_some_iff.mp hm
  refine go_ifJ [hold (obj T.C_Visits ["met", "known", "origins", "count", "at"] [own (oL (pTup pInt)) self_111.met, own (oD dInts pBl) self_111.known, own (oL (pT2 pInt pInt)) self_111.origins, val pInt self_111.count, val pInt self_111.at_]) v0, val (pTup pInt) place_0, val pInt number_0] (xt_dnin (q := dInts) (x_var 1) (x_fldD 1 (x_varH 0) OV.bobj T.at_Visits_known) DV.bor rfl) (fun hz => ?_) (fun hz => ?_) ?_
  · have hm := condT hz hj_115
    obtain ⟨h_112, hm⟩ := guardO_some hm
    refine go_dput (q := dInts) (pl_fld 1 (pl_hold 0 (by repeat' (first | exact Stb.nil | exact trivial | exact stb_map (fun _ => trivial) _ | refine Stb.cons ?_ ?_))) T.at_Visits_known (by repeat' (first | exact Stb.nil | exact trivial | exact stb_map (fun _ => trivial) _ | refine Stb.cons ?_ ?_)) own_some) (x_var 1) x_bl h_112 ?_
    show Go _ _ _ _ _ [hold (obj T.C_Visits ["met", "known", "origins", "count", "at"] [own (oL (pTup pInt)) self_0.met, own (oD dInts pBl) (dput self_0.known place_0 true), own (oL (pT2 pInt pInt)) self_0.origins, val pInt self_0.count, val pInt self_0.at_]) v0, val (pTup pInt) place_0, val pInt number_0]
    obtain ⟨h_113, hm⟩ := guardO_some hm
    refine go_append (pl_fld 0 (pl_hold 0 (by repeat' (first | exact Stb.nil | exact trivial | exact stb_map (fun _ => trivial) _ | refine Stb.cons ?_ ?_))) T.at_Visits_met (by repeat' (first | exact Stb.nil | exact trivial | exact stb_map (fun _ => trivial) _ | refine Stb.cons ?_ ?_)) own_some) (x_var 1) h_113 ?_
    show Go _ _ _ _ _ [hold (obj T.C_Visits ["met", "known", "origins", "count", "at"] [own (oL (pTup pInt)) (self_0.met ++ [place_0]), own (oD dInts pBl) (dput self_0.known place_0 true), own (oL (pT2 pInt pInt)) self_0.origins, val pInt self_0.count, val pInt self_0.at_]) v0, val (pTup pInt) place_0, val pInt number_0]
    obtain ⟨h_114, hm⟩ := guardO_some hm
    refine go_append (pl_fld 2 (pl_hold 0 (by repeat' (first | exact Stb.nil | exact trivial | exact stb_map (fun _ => trivial) _ | refine Stb.cons ?_ ?_))) T.at_Visits_origins (by repeat' (first | exact Stb.nil | exact trivial | exact stb_map (fun _ => trivial) _ | refine Stb.cons ?_ ?_)) own_some) (x_tup2 (xa_cons (x_fld 4 (x_varH 0) OV.bobj T.at_Visits_at) (xa_cons (x_var 2) xa_nil))) h_114 ?_
    show Go _ _ _ _ _ [hold (obj T.C_Visits ["met", "known", "origins", "count", "at"] [own (oL (pTup pInt)) (self_0.met ++ [place_0]), own (oD dInts pBl) (dput self_0.known place_0 true), own (oL (pT2 pInt pInt)) (self_0.origins ++ [(self_0.at_, number_0)]), val pInt self_0.count, val pInt self_0.at_]) v0, val (pTup pInt) place_0, val pInt number_0]
    cases hm
    exact go_nx (by repeat' (first | exact WkL.nil | exact WkS.refl | exact WkS.dead | exact WkS.list | exact WkS.dict | exact WkS.lstS (fun _ => WkS.list) | refine WkL.cons ?_ ?_))
  · have hm := condF hz hj_115
    cases hm
    exact go_nx (by repeat' (first | exact WkL.nil | exact WkS.refl | exact WkS.dead | exact WkS.list | exact WkS.dict | exact WkS.lstS (fun _ => WkS.list) | refine WkL.cons ?_ ?_))
  cases hm
  exact go_nilM 0

theorem ok_row_of (T : Txt K mg) : FnOk P w K mg base CX0 1 T.f_row_of T.d_row_of ["count", "number"] (spP (fun (z : (Int) × (Int)) => [val pInt z.1, val pInt z.2]) (fun z => m_row_of z.1 z.2) (fun r => val (pL pInt) r)) := by
  refine fn_pure T.F_row_of sc_row_of (fun _ => rfl) (fun cdv A outer s H E hr z r B hm => ?_)
  obtain ⟨count_0, number_0⟩ := z
  replace hm : m_row_of count_0 number_0 = some r := hm
  unfold m_row_of at hm
  show Go _ _ _ _ _ [val pInt count_0, val pInt number_0, dead]
  obtain ⟨h_118, hm⟩ := guardO_some hm
  obtain ⟨h_123, hm⟩ := guardO_some hm
  obtain ⟨ys_119, h_120, hm⟩ := Option.bind_eq_some_iff.mp hm
  cases hm
  exact go_ret (XV.frz (x_lc (rs := val pInt) (own := [("place", 2)]) (xi_range1 T.g_range (x_var 0) h_118).ro ⟨fun _ => blkOk_by (N := N_row_of) (sc := defScope s_row_of) (by decide +kernel), fun _ _ => rfl⟩ h_123 h_120 ⟨rfl, trivial⟩ (fun place_121 o hx hm => by obtain ⟨h_122, hm⟩ := guardO_some hm; cases hm; exact ⟨_, _, rfl, (xg_name 2), lc_el (x_op (fun _ => op_and) (o_int (g := Builtin.bitAnd)) (x_op (fun _ => op_shr) (o_intC h_122) (x_var 1) (x_op (fun _ => op_sub) o_int (x_op (fun _ => op_sub) o_int (x_var 0) x_int) (x_var 2))) x_int)⟩))) (fun v H h => h)

theorem ok_course_to (T : Txt K mg) : FnOk P w K mg base CX0 2 T.f_course_to T.d_course_to ["origins", "place", "count"] (spP (fun (z : (List ((Int) × (Int))) × (Int) × (Int)) => [val (pL (pT2 pInt pInt)) z.1, val pInt z.2.1, val pInt z.2.2]) (fun z => m_course_to z.1 z.2.1 z.2.2) (fun r => val (pL (pL pInt)) r)) := by
  refine fn_pure T.F_course_to sc_course_to (fun _ => rfl) (fun cdv A outer s H E hr z r B hm => ?_)
  obtain ⟨origins_0, place_0, count_0⟩ := z
  replace hm : m_course_to origins_0 place_0 count_0 = some r := hm
  unfold m_course_to at hm
  show Go _ _ _ _ _ [val (pL (pT2 pInt pInt)) origins_0, val pInt place_0, val pInt count_0, dead, dead]
  refine go_set 3 (x_lst (p := pInt) (xs := []) xa_nil (Nat.zero_le _)) ?_
  show Go _ _ _ _ _ [val (pL (pT2 pInt pInt)) origins_0, val pInt place_0, val pInt count_0, own (oL pInt) ([] : List (Int)), dead]
  refine go_whileK (fun s => [val (pL (pT2 pInt pInt)) origins_0, val pInt s.1, val pInt count_0, own (oL pInt) s.2, dead]) (fun r => val (pL (pL pInt)) r) (by repeat' (first | exact WkL.nil | exact WkS.refl | exact WkS.dead | exact WkS.list | exact WkS.dict | exact WkS.lstS (fun _ => WkS.list) | refine WkL.cons ?_ ?_)) hm ?_ ?_ ?_
  · rintro B1 s out hm hr1 hl1
    obtain ⟨place_124, numbers_125⟩ := s
    refine ⟨_, (xt_cmp (fun _ => op_gt) o_bl (nomark _) (x_var 1) x_int), fun hz => ?_, fun hz => ?_⟩
    · have hm := condT hz hm
      show Go _ _ _ _ _ [val (pL (pT2 pInt pInt)) origins_0, val pInt place_124, val pInt count_0, own (oL pInt) numbers_125, dead]
      obtain ⟨v_126, h_127, hm⟩ := Option.bind_eq_some_iff.mp hm
      refine go_asg (x_ix (x_var 0) LV.val.sv (x_var 1) h_127) (xg_tup2 (xgs_cons (xg_name 1) (xgs_cons (xg_name 4) xgs_nil))) ?_
      show Go _ _ _ _ _ [val (pL (pT2 pInt pInt)) origins_0, val pInt v_126.1, val pInt count_0, own (oL pInt) numbers_125, val pInt v_126.2]
      obtain ⟨h_128, hm⟩ := guardO_some hm
      refine go_append (pl_name 3 (by repeat' (first | exact Stb.nil | exact trivial | exact stb_map (fun _ => trivial) _ | refine Stb.cons ?_ ?_)) (hso := own_some)) (x_var 4) h_128 ?_
      show Go _ _ _ _ _ [val (pL (pT2 pInt pInt)) origins_0, val pInt v_126.1, val pInt count_0, own (oL pInt) (numbers_125 ++ [v_126.2]), val pInt v_126.2]
      cases hm
      exact go_nil (fun σ H h => ⟨_, rfl, h.wk (by repeat' (first | exact WkL.nil | exact WkS.refl | exact WkS.dead | exact WkS.list | exact WkS.dict | exact WkS.lstS (fun _ => WkS.list) | refine WkL.cons ?_ ?_))⟩)
    · have hm := condF hz hm
      cases hm
      rfl
  · rintro s hm
    obtain ⟨place_124, numbers_125⟩ := s
    show Go _ _ _ _ _ [val (pL (pT2 pInt pInt)) origins_0, val pInt place_124, val pInt count_0, own (oL pInt) numbers_125, dead]
    obtain ⟨h_134, hm⟩ := guardO_some hm
    obtain ⟨ys_129, h_130, hm⟩ := Option.bind_eq_some_iff.mp hm
    cases hm
    exact go_ret (XV.frz (x_lc (rs := val pInt) (own := [("number", 4)]) (xi_revB T.g_reversed (x_varL 3)) ⟨fun _ => blkOk_by (N := N_course_to) (sc := defScope s_course_to) (by decide +kernel), fun _ _ => rfl⟩ h_134 h_130 ⟨rfl, trivial⟩ (fun number_131 o hx hm => by obtain ⟨r_132, h_133, hm⟩ := Option.bind_eq_some_iff.mp hm; cases hm; exact ⟨_, _, rfl, (xg_name 4), lc_el (x_call (z := (count_0, number_131)) (ok_row_of T) (by decide) T.g_row_of T.k_row_of T.b_row_of (xa_cons (x_var 2) (xa_cons (x_var 4) xa_nil)) rfl (by repeat' (first | exact trivial | refine ⟨no_val, ?_⟩ | refine ⟨no_borL, ?_⟩ | refine ⟨no_bor, ?_⟩)) h_133)⟩))) (fun v H h => h)
  · rintro r hm v H h
    cases hm

theorem ok_Visits_course (T : Txt K mg) : FnOk P w K mg base CX0 3 T.f_Visits_course T.d_Visits_course ["self", "number"] (spP (fun (z : (S_Visits) × (Int)) => [val (pObj T.C_Visits ns_Visits sl_Visits) z.1, val pInt z.2]) (fun z => m_Visits_course z.1 z.2) (fun r => val (pL (pL pInt)) r)) := by
  refine fn_pure T.F_Visits_course sc_Visits_course (fun _ => rfl) (fun cdv A outer s H E hr z r B hm => ?_)
  obtain ⟨self_0, number_0⟩ := z
  replace hm : m_Visits_course self_0 number_0 = some r := hm
  unfold m_Visits_course at hm
  show Go _ _ _ _ _ [val (pObj T.C_Visits ns_Visits sl_Visits) self_0, val pInt number_0]
  obtain ⟨r_135, h_136, hm⟩ := Option.bind_eq_some_iff.mp hm
  obtain ⟨r_137, h_138, hm⟩ := Option.bind_eq_some_iff.mp hm
  obtain ⟨h_139, hm⟩ := guardO_some hm
  cases hm
  exact go_ret (XV.frz (x_op (fun _ => op_cat) (o_cat LV.val LV.own h_139) (x_call (z := (self_0.origins, self_0.at_, self_0.count)) (ok_course_to T) (by decide) T.g_course_to T.k_course_to T.b_course_to (xa_cons (x_fld 2 (x_var 0) OV.val T.at_Visits_origins) (xa_cons (x_fld 4 (x_var 0) OV.val T.at_Visits_at) (xa_cons (x_fld 3 (x_var 0) OV.val T.at_Visits_count) xa_nil))) rfl (by repeat' (first | exact trivial | refine ⟨no_val, ?_⟩ | refine ⟨no_borL, ?_⟩ | refine ⟨no_bor, ?_⟩)) h_136) (x_lst (xs := [r_137]) (xa_cons (x_call (z := (self_0.count, number_0)) (ok_row_of T) (by decide) T.g_row_of T.k_row_of T.b_row_of (xa_cons (x_fld 3 (x_var 0) OV.val T.at_Visits_count) (xa_cons (x_var 1) xa_nil)) rfl (by repeat' (first | exact trivial | refine ⟨no_val, ?_⟩ | refine ⟨no_borL, ?_⟩ | refine ⟨no_bor, ?_⟩)) h_138) xa_nil) (le_line rfl)))) (fun v H h => h)

theorem ok_gathering_course (T : Txt K mg) : FnOk P w K mg base (L2.CX P w) 4 T.f_gathering_course T.d_gathering_course ["machine", "most"] (spX (fun (z : (S_Machine) × (Int)) => [val (pObj T.C_Machine ns_Machine sl_Machine) z.1, val pInt z.2]) (fun z => m_gathering_course z.1 z.2) (fun r => val (pOpt (pL (pL pInt))) r) (exT T)) := by
  refine fn_pureX T.F_gathering_course sc_gathering_course (fun _ => rfl) (fun cdv A outer s H E hr z r B hm hW => ?_)
  obtain ⟨machine_0, most_0⟩ := z
  replace hm : m_gathering_course machine_0 most_0 = some r := hm
  unfold m_gathering_course at hm
  show Go _ _ _ _ _ [val (pObj T.C_Machine ns_Machine sl_Machine) machine_0, val pInt most_0, dead, dead, dead, dead, dead]
  obtain ⟨h_140, hm⟩ := guardO_some hm
  obtain ⟨o_141, h_142, hm⟩ := Option.bind_eq_some_iff.mp hm
  refine go_set 2 (x_make (z := ((rangeL 0 ((machine_0.moves).length : Int)), machine_0.input_count)) (ok_Visits_init T) (by decide) T.mk_Visits T.g_Visits T.b_Visits_init (xa_cons (x_tupRg (x_callB (c_len _) T.g_len (by decide +kernel) (o_lenL LV.val.sv) (xa1 (x_fld 2 (x_var 0) OV.val T.at_Machine_moves))) h_140 T.g_tuple T.g_range) (xa_cons (x_fld 0 (x_var 0) OV.val T.at_Machine_input_count) xa_nil)) rfl (by repeat' (first | exact trivial | refine ⟨no_val, ?_⟩ | refine ⟨no_borL, ?_⟩ | refine ⟨no_bor, ?_⟩)) rfl h_142 rfl) ?_
  show Go _ _ _ _ _ [val (pObj T.C_Machine ns_Machine sl_Machine) machine_0, val pInt most_0, obj T.C_Visits ns_Visits (dl_Visits o_141.1), dead, dead, dead, dead]
  refine go_if (xt_cmp (fun _ => op_eq) o_eqI (nomark _) (x_callB (c_len _) T.g_len (by decide +kernel) (o_lenL LV.val.sv) (xa1 (x_fld 2 (x_var 0) OV.val T.at_Machine_moves))) x_int) (fun hz => ?_) (fun hz => ?_)
  · have hm := condT hz hm
    cases hm
    exact go_ret (XV.wk (XV.frz (x_lst xa_nil (Nat.zero_le _))) (WkS.opt (fun F v h e => by obtain ⟨l, vs, q, _⟩ := h; rw [e] at q; cases q))) (fun v H h => h)
  · have hm := condF hz hm
    refine go_join ?_
    refine go_whileK (fun s => [val (pObj T.C_Machine ns_Machine sl_Machine) machine_0, val pInt most_0, obj T.C_Visits ns_Visits (dl_Visits s), dead, dead, dead, dead]) (fun r => (slRx (fun r => val (pOpt (pL (pL pInt))) r) r)) (by repeat' (first | exact WkL.nil | exact WkS.refl | exact WkS.dead | exact WkS.list | exact WkS.dict | exact WkS.lstS (fun _ => WkS.list) | refine WkL.cons ?_ ?_)) hm ?_ ?_ ?_
    · rintro B1 visits_143 out hm hr1 hl1
      refine ⟨_, (xt_cmp (fun _ => op_lt) o_bl (nomark _) (x_fld 4 (x_varO 2) OV.bobj T.at_Visits_at) (x_callB (c_len _) T.g_len (by decide +kernel) (o_lenL LV.bor.sv) (xa1 (x_fldL 0 (x_varO 2) OV.bobj T.at_Visits_met)))), fun hz => ?_, fun hz => ?_⟩
      · have hm := condT hz hm
        show Go _ _ _ _ _ [val (pObj T.C_Machine ns_Machine sl_Machine) machine_0, val pInt most_0, obj T.C_Visits ns_Visits (dl_Visits visits_143), dead, dead, dead, dead]
        obtain ⟨h_144, hm⟩ := guardO_some hm
        obtain ⟨h_146, hm⟩ := guardO_some hm
        refine go_forK (rs := val pInt) (fun s => [val (pObj T.C_Machine ns_Machine sl_Machine) machine_0, val pInt most_0, obj T.C_Visits ns_Visits (dl_Visits s), dead, dead, dead, dead]) (fun r => (slRx (fun r => val (pOpt (pL (pL pInt))) r) r)) (xi_range1 T.g_range (x_op (fun _ => op_shl) (o_intC ⟨h_144.1, h_144.2, by decide⟩) x_int (x_fld 0 (x_var 0) OV.val T.at_Machine_input_count)) h_146) (by repeat' (first | exact WkL.nil | exact WkS.refl | exact WkS.dead | exact WkS.list | exact WkS.dict | exact WkS.lstS (fun _ => WkS.list) | refine WkL.cons ?_ ?_)) hm ?_ ?_ ?_
        · rintro B1 number_148 visits_147 out hx hm hr2 hl2
          refine ⟨_, _, (xg_name 3), ?_⟩
          show Go _ _ _ _ _ [val (pObj T.C_Machine ns_Machine sl_Machine) machine_0, val pInt most_0, obj T.C_Visits ns_Visits (dl_Visits visits_147), val pInt number_148, dead, dead, dead]
          obtain ⟨v_149, h_150, hm⟩ := Option.bind_eq_some_iff.mp hm
          obtain ⟨h_158, hm⟩ := guardO_some hm
          obtain ⟨ys_151, h_152, hm⟩ := Option.bind_eq_some_iff.mp hm
          refine go_setLc 4 (rs := val pInt) (own := [("state", 6)]) (xi_tup (x_ix (x_fldL 0 (x_varO 2) OV.bobj T.at_Visits_met) LV.bor.sv (x_fld 4 (x_varO 2) OV.bobj T.at_Visits_at) h_150)).ro ⟨fun _ => blkOk_by (N := N_gathering_course) (sc := defScope s_gathering_course) (by decide +kernel), fun _ _ => rfl⟩ h_158 h_152 ⟨rfl, trivial⟩ (fun state_153 o hx hm => by obtain ⟨v_154, h_155, hm⟩ := Option.bind_eq_some_iff.mp hm; obtain ⟨v_156, h_157, hm⟩ := Option.bind_eq_some_iff.mp hm; cases hm; exact ⟨_, _, rfl, (xg_name 6), lc_el (x_fst (x_ix (x_ix (x_fld 2 (x_var 0) OV.val T.at_Machine_moves) LV.val.sv (x_var 6) h_155) LV.val.sv (x_var 3) h_157) x_int)⟩) ?_ (hsw := sw_true rfl rfl rfl (by decide +kernel))
          show Go _ _ _ _ _ [val (pObj T.C_Machine ns_Machine sl_Machine) machine_0, val pInt most_0, obj T.C_Visits ns_Visits (dl_Visits visits_147), val pInt number_148, own (oL pInt) ys_151, dead, dead]
          obtain ⟨h_159, hm⟩ := guardO_some hm
          obtain ⟨together_160, h_161, hm⟩ := letO_some hm
          refine go_set 5 (XV.eqV (x_callTy (c_tup _) T.g_tuple (by decide +kernel) (o_tupL LV.own.sv) (xa1 (x_callB (c_sortSet _) T.g_sorted (by decide +kernel) o_sortSet (xa1 (x_callTy (c_setI _) T.g_set (by decide +kernel) (o_setI LV.bor.sv h_159) (xa1 (x_varL 4))))))) h_161) ?_
          show Go _ _ _ _ _ [val (pObj T.C_Machine ns_Machine sl_Machine) machine_0, val pInt most_0, obj T.C_Visits ns_Visits (dl_Visits visits_147), val pInt number_148, own (oL pInt) ys_151, val (pTup pInt) together_160, dead]
          refine go_if (xt_cmp (fun _ => op_eq) o_eqI (nomark _) (x_callB (c_len _) T.g_len (by decide +kernel) (o_lenT TV.val) (xa1 (x_var 5))) x_int) (fun hz => ?_) (fun hz => ?_)
          · have hm := condT hz hm
            refine go_wk (Γ' := [val (pObj T.C_Machine ns_Machine sl_Machine) machine_0, val pInt most_0, val (pObj T.C_Visits ns_Visits sl_Visits) visits_147, val pInt number_148, own (oL pInt) ys_151, val (pTup pInt) together_160, dead]) ?_ (WkL.at (j := 2) (WkS.obj (sl := sl_Visits) (by repeat' (first | exact WkL.nil | exact WkS.refl | exact WkS.dead | exact WkS.list | exact WkS.dict | exact WkS.lstS (fun _ => WkS.list) | refine WkL.cons ?_ ?_)) (by repeat' (first | exact trivial | refine ⟨⟨_, _, _, rfl⟩, ?_⟩))) rfl)
            obtain ⟨r_162, h_163, hm⟩ := Option.bind_eq_some_iff.mp hm
            cases hm
            exact go_ret (XV.wk (x_meth (z := (visits_147, number_148)) (ok_Visits_course T) (by decide) T.cl_Visits T.me_Visits_course T.b_Visits_course (x_var 2) (xa_cons (x_var 3) xa_nil) rfl (by repeat' (first | exact trivial | refine ⟨no_val, ?_⟩ | refine ⟨no_borL, ?_⟩ | refine ⟨no_bor, ?_⟩)) h_163) (WkS.opt (fun F v h e => by obtain ⟨l, vs, q, _⟩ := h; rw [e] at q; cases q))) (fun v H h => ⟨_, rfl, h⟩)
          · have hm := condF hz hm
            refine go_join ?_
            obtain ⟨o_164, h_165, hm⟩ := Option.bind_eq_some_iff.mp hm
            refine go_meth (z := (visits_147, together_160, number_148)) (ok_Visits_meet T) (by decide) T.cl_Visits T.me_Visits_meet T.b_Visits_meet (pl_name 2 (by repeat' (first | exact Stb.nil | exact trivial | exact stb_map (fun _ => trivial) _ | refine Stb.cons ?_ ?_)) (hso := obj_some)) rfl (xa_cons (x_var 5) (xa_cons (x_var 3) xa_nil)) rfl (by repeat' (first | exact trivial | refine ⟨no_val, ?_⟩ | refine ⟨no_borL, ?_⟩ | refine ⟨no_bor, ?_⟩)) h_165 ?_
            show Go _ _ _ _ _ [val (pObj T.C_Machine ns_Machine sl_Machine) machine_0, val pInt most_0, obj T.C_Visits ns_Visits (dl_Visits o_164.1), val pInt number_148, own (oL pInt) ys_151, val (pTup pInt) together_160, dead]
            cases hm
            exact go_nil (fun σ H h => ⟨_, rfl, h.wk (by repeat' (first | exact WkL.nil | exact WkS.refl | exact WkS.dead | exact WkS.list | exact WkS.dict | exact WkS.lstS (fun _ => WkS.list) | refine WkL.cons ?_ ?_))⟩)
        · rintro visits_147 hm
          show Go _ _ _ _ _ [val (pObj T.C_Machine ns_Machine sl_Machine) machine_0, val pInt most_0, obj T.C_Visits ns_Visits (dl_Visits visits_147), dead, dead, dead, dead]
          refine go_if (xt_cmp (fun _ => op_gt) o_bl (nomark _) (x_callB (c_len _) T.g_len (by decide +kernel) (o_lenL LV.bor.sv) (xa1 (x_fldL 0 (x_varO 2) OV.bobj T.at_Visits_met))) (x_var 1)) (fun hz => ?_) (fun hz => ?_)
          · have hm := condT hz hm
            cases hm
            exact go_raise (EX := exT T) (xm_own PySem.F.excBase_ValueError T.xq_TooManyStates T.g_TooManyStates T.xk_TooManyStates T.xs_TooManyStates T.xt_TooManyStates (fun _ => exT_mk_TooManyStates T)) (Wish.lift (hW _ (Option.some.inj (hr1 _ rfl)).symm _) hl1)
          · have hm := condF hz hm
            refine go_join ?_
            refine go_augfld 4 (pl_name 2 (by repeat' (first | exact Stb.nil | exact trivial | exact stb_map (fun _ => trivial) _ | refine Stb.cons ?_ ?_)) (hso := obj_some)) x_int (fun _ => in_add) T.at_Visits_at (by repeat' (first | exact Stb.nil | exact trivial | exact stb_map (fun _ => trivial) _ | refine Stb.cons ?_ ?_)) ?_
            show Go _ _ _ _ _ [val (pObj T.C_Machine ns_Machine sl_Machine) machine_0, val pInt most_0, obj T.C_Visits ns_Visits (dl_Visits ({ visits_147 with at_ := visits_147.at_ + (1 : Int) })), dead, dead, dead, dead]
            cases hm
            exact go_nil (fun σ H h => ⟨_, rfl, h.wk (by repeat' (first | exact WkL.nil | exact WkS.refl | exact WkS.dead | exact WkS.list | exact WkS.dict | exact WkS.lstS (fun _ => WkS.list) | refine WkL.cons ?_ ?_))⟩)
        · rintro r hm v H h
          cases hm
          first | exact h | exact ⟨_, rfl, h⟩
      · have hm := condF hz hm
        cases hm
        rfl
    · rintro visits_143 hm
      show Go _ _ _ _ _ [val (pObj T.C_Machine ns_Machine sl_Machine) machine_0, val pInt most_0, obj T.C_Visits ns_Visits (dl_Visits visits_143), dead, dead, dead, dead]
      cases hm
      exact go_ret (XV.wk x_non WkS.optN) (fun v H h => h)
    · rintro r hm v H h
      cases hm
      first | exact h | exact ⟨_, rfl, h⟩

theorem ok__law_told (T : Txt K mg) : FnOk P w K mg base CX0 5 T.f__law_told T.d__law_told ["machine", "most"] (spP (fun (z : (S_Machine) × (Int)) => [val (pObj T.C_Machine ns_Machine sl_Machine) z.1, val pInt z.2]) (fun z => m__law_told z.1 z.2) (fun r => val (pDa K) r)) := by
  refine fn_pure T.F__law_told sc__law_told (fun _ => rfl) (fun cdv A outer s H E hr z r B hm => ?_)
  obtain ⟨machine_0, most_0⟩ := z
  replace hm : m__law_told machine_0 most_0 = some r := hm
  unfold m__law_told at hm
  show Go _ _ _ _ _ [val (pObj T.C_Machine ns_Machine sl_Machine) machine_0, val pInt most_0, dead, dead]
  refine go_try_as (cv := .ref T.C_TooManyStates) 3 ⟨rfl, by decide, .inl T.g_TooManyStates⟩ (fun j hj => ?_)
  show Go _ _ _ _ _ [val (pObj T.C_Machine ns_Machine sl_Machine) machine_0, val pInt most_0, dead, dead]
  rcases exK_some hm with ⟨e_168, h_167, hm⟩ | ⟨r_166, h_167, hm⟩
  · cases hz : decide (e_168.1 = "TooManyStates") with
    | true =>
      have hm := condT hz hm
      refine go_setE (j := 2) (xx_callK (EX := exT T) (z := (machine_0, most_0)) (ok_gathering_course T) (by decide) T.g_gathering_course T.k_gathering_course T.b_gathering_course (xa_cons (x_var 0) xa_nil) (xk_cons (x_var 1) xk_nil) rfl (by repeat' (first | exact trivial | refine ⟨no_val, ?_⟩ | refine ⟨no_borL, ?_⟩ | refine ⟨no_bor, ?_⟩)) (by repeat' (first | exact trivial | refine ⟨no_val, ?_⟩ | refine ⟨no_borL, ?_⟩ | refine ⟨no_bor, ?_⟩)) h_167) (wish_as (Γd := [val (pObj T.C_Machine ns_Machine sl_Machine) machine_0, val pInt most_0, dead, dead]) (fun cls d H hx => by rw [(exT_is_TooManyStates T (of_decide_eq_true hz) hx).1]; exact T.xp_TooManyStates_TooManyStates) (by repeat' (first | exact WkL.nil | exact WkS.refl | exact WkS.dead | exact WkS.list | exact WkS.dict | exact WkS.lstS (fun _ => WkS.list) | refine WkL.cons ?_ ?_)) rfl (fun ae_168 cls d H j hx hj => ?_))
      obtain ⟨rfl, rfl⟩ := exT_is_TooManyStates T (of_decide_eq_true hz) hx
      show Go _ _ _ _ _ [val (pObj T.C_Machine ns_Machine sl_Machine) machine_0, val pInt most_0, dead, exS ae_168]
      cases hm
      exact go_ret (x_lstD (ds := [DE.str.enc ("many" : Str), DE.bl.enc true]) (xa_cons (XV.data DE.str x_str) (xa_cons (XV.data DE.bl (x_isE T.g_isinstance T.xe_TooManyStates T.xi_TooManyStates_EvergateError (x_var 3) (x_cls T.g_EvergateError))) xa_nil)) (le_line rfl)) (fun v H h => h)
    | false =>
      have hm := condF hz hm
      cases hm
  · refine go_set 2 (x_callXK (z := (machine_0, most_0)) (ok_gathering_course T) (by decide) T.g_gathering_course T.k_gathering_course T.b_gathering_course (xa_cons (x_var 0) xa_nil) (xk_cons (x_var 1) xk_nil) rfl (by repeat' (first | exact trivial | refine ⟨no_val, ?_⟩ | refine ⟨no_borL, ?_⟩ | refine ⟨no_bor, ?_⟩)) (by repeat' (first | exact trivial | refine ⟨no_val, ?_⟩ | refine ⟨no_borL, ?_⟩ | refine ⟨no_bor, ?_⟩)) h_167) ?_
    show Go _ _ _ _ _ [val (pObj T.C_Machine ns_Machine sl_Machine) machine_0, val pInt most_0, val (pOpt (pL (pL pInt))) r_166, dead]
    refine go_end ?_
    show Go _ _ _ _ _ [val (pObj T.C_Machine ns_Machine sl_Machine) machine_0, val pInt most_0, val (pOpt (pL (pL pInt))) r_166, dead]
    refine go_if (xt_cmp (fun _ => op_isN) (o_isN opt_isN) (nomark _) (x_var 2) x_non) (fun hz => ?_) (fun hz => ?_)
    · have hm := condT hz hm
      cases hm
      exact go_ret (x_lstD (ds := [DE.str.enc ("none" : Str), DE.bl.enc true]) (xa_cons (XV.data DE.str x_str) (xa_cons (XV.data DE.bl x_bl) xa_nil)) (le_line rfl)) (fun v H h => h)
    · have hm := condF hz hm
      refine go_join ?_
      cases hm
      exact go_ret (x_lstD (ds := [DE.str.enc ("course" : Str), (DE.opt (DE.list (DE.list DE.int)) (fun _ _ => ⟨rfl, rfl⟩)).enc r_166]) (xa_cons (XV.data DE.str x_str) (xa_cons (XV.data (DE.opt (DE.list (DE.list DE.int)) (fun _ _ => ⟨rfl, rfl⟩)) (x_var 2)) xa_nil)) (le_line rfl)) (fun v H h => h)

theorem ok__law_turning (T : Txt K mg) : FnOk P w K mg base CX0 1 T.f__law_turning T.d__law_turning ["count"] (spP (fun (z : (Int)) => [val pInt z]) (fun z => m__law_turning z) (fun r => val (pL (pL (pT2 pInt pInt))) r)) := by
  refine fn_pure T.F__law_turning sc__law_turning (fun _ => rfl) (fun cdv A outer s H E hr count_0 r B hm => ?_)
  replace hm : m__law_turning count_0 = some r := hm
  unfold m__law_turning at hm
  show Go _ _ _ _ _ [val pInt count_0, dead]
  obtain ⟨h_170, hm⟩ := guardO_some hm
  obtain ⟨h_176, hm⟩ := guardO_some hm
  obtain ⟨ys_171, h_172, hm⟩ := Option.bind_eq_some_iff.mp hm
  cases hm
  exact go_ret (XV.frz (x_lc (rs := val pInt) (own := [("s", 1)]) (xi_range1 T.g_range (x_var 0) h_170).ro ⟨fun _ => blkOk_by (N := N__law_turning) (sc := defScope s__law_turning) (by decide +kernel), fun _ _ => rfl⟩ h_176 h_172 ⟨rfl, trivial⟩ (fun s_173 o hx hm => by obtain ⟨h_174, hm⟩ := guardO_some hm; obtain ⟨h_175, hm⟩ := guardO_some hm; cases hm; exact ⟨_, _, rfl, (xg_name 1), lc_el (XV.frz (x_lst (xs := [(((s_173 + (1 : Int)) % count_0), (0 : Int)), (((s_173 + (if decide (s_173 = (count_0 - (1 : Int))) then 1 else 0)) % count_0), (0 : Int))]) (xa_cons (x_tup2 (xa_cons (x_op (fun _ => op_mod) (o_intC h_174) (x_callTy (fun _ => call_int1) T.g_int (by decide +kernel) o_intI (xa1 (x_op (fun _ => op_add) o_int (x_var 1) x_int))) (x_var 0)) (xa_cons x_int xa_nil))) (xa_cons (x_tup2 (xa_cons (x_op (fun _ => op_mod) (o_intC h_175) (x_callTy (fun _ => call_int1) T.g_int (by decide +kernel) o_intI (xa1 (x_op (fun _ => op_add) o_int (x_var 1) (x_callTy (fun _ => call_int1) T.g_int (by decide +kernel) o_intB (xa1 (x_cmp (fun _ => op_eq) o_eqI (nomark _) (x_var 1) (x_op (fun _ => op_sub) o_int (x_var 0) x_int))))))) (x_var 0)) (xa_cons x_int xa_nil))) xa_nil)) (le_line rfl)))⟩))) (fun v H h => h)

theorem ok_law (T : Txt K mg) : FnOk P w K mg base CX0 6 T.f_law T.d_law ["script"] (spP (fun (z : (List Int)) => [val (pScr K) z]) (fun z => m_law z) (fun r => val pBl r)) := by
  refine fn_pure T.F_law sc_law (fun _ => rfl) (fun cdv A outer s H E hr script_0 r B hm => ?_)
  replace hm : m_law script_0 = some r := hm
  unfold m_law at hm
  show Go _ _ _ _ _ [val (pScr K) script_0, dead, dead, dead, dead, dead, dead, dead, dead]
  obtain ⟨r_177, h_178, hm⟩ := Option.bind_eq_some_iff.mp hm
  refine go_set 1 (x_call (z := (script_0, (0 : Int))) (ok__law_cell T) (by decide) T.g__law_cell T.k__law_cell T.b__law_cell (xa_cons (x_var 0) (xa_cons x_int xa_nil)) rfl (by repeat' (first | exact trivial | refine ⟨no_val, ?_⟩ | refine ⟨no_borL, ?_⟩ | refine ⟨no_bor, ?_⟩)) h_178) ?_
  show Go _ _ _ _ _ [val (pScr K) script_0, val pInt r_177, dead, dead, dead, dead, dead, dead, dead]
  obtain ⟨inputs_179, h_180, hm⟩ := letO_some hm
  refine go_set 2 (XV.eqV (x_op (fun _ => op_mod) (o_intC (by decide)) (x_callTy (fun _ => call_int1) T.g_int (by decide +kernel) o_intI (xa1 (x_var 1))) x_int) h_180) ?_
  show Go _ _ _ _ _ [val (pScr K) script_0, val pInt r_177, val pInt inputs_179, dead, dead, dead, dead, dead, dead]
  obtain ⟨outputs_181, h_182, hm⟩ := letO_some hm
  refine go_set 3 (XV.eqV (x_op (fun _ => op_mod) (o_intC (by decide)) (x_callTy (fun _ => call_int1) T.g_int (by decide +kernel) o_intI (xa1 (x_op (fun _ => op_fdiv) (o_intC ⟨by decide, by decide⟩) (x_var 1) x_int))) x_int) h_182) ?_
  show Go _ _ _ _ _ [val (pScr K) script_0, val pInt r_177, val pInt inputs_179, val pInt outputs_181, dead, dead, dead, dead, dead]
  obtain ⟨r_183, h_184, hm⟩ := Option.bind_eq_some_iff.mp hm
  refine go_set 4 (x_call (z := (script_0, (4 : Int), inputs_179, outputs_181, ((1 : Int) + ((r_177 / (9 : Int)) % (6 : Int))))) (ok__law_moves T) (by decide) T.g__law_moves T.k__law_moves T.b__law_moves (xa_cons (x_var 0) (xa_cons x_int (xa_cons (x_var 2) (xa_cons (x_var 3) (xa_cons (x_op (fun _ => op_add) o_int x_int (x_op (fun _ => op_mod) (o_intC (by decide)) (x_callTy (fun _ => call_int1) T.g_int (by decide +kernel) o_intI (xa1 (x_op (fun _ => op_fdiv) (o_intC ⟨by decide, by decide⟩) (x_var 1) x_int))) x_int)) xa_nil))))) rfl (by repeat' (first | exact trivial | refine ⟨no_val, ?_⟩ | refine ⟨no_borL, ?_⟩ | refine ⟨no_bor, ?_⟩)) h_184) ?_
  show Go _ _ _ _ _ [val (pScr K) script_0, val pInt r_177, val pInt inputs_179, val pInt outputs_181, val (pL (pL (pT2 pInt pInt))) r_183, dead, dead, dead, dead]
  obtain ⟨s_191, hj_190, hm⟩ := Option.bind_eq_some_iff.mp hm
  obtain ⟨inputs_185, outputs_186, moves_187⟩ := s_191
  refine go_ifJ [val (pScr K) script_0, val pInt r_177, val pInt inputs_185, val pInt outputs_186, val (pL (pL (pT2 pInt pInt))) moves_187, dead, dead, dead, dead] (xt_cmp (fun _ => op_eq) o_eqI (nomark _) (x_op (fun _ => op_mod) (o_intC (by decide)) (x_callTy (fun _ => call_int1) T.g_int (by decide +kernel) o_intI (xa1 (x_op (fun _ => op_fdiv) (o_intC ⟨by decide, by decide⟩) (x_var 1) x_int))) x_int) x_int) (fun hz => ?_) (fun hz => ?_) ?_
  · have hm := condT hz hj_190
    refine go_set 2 x_int ?_
    show Go _ _ _ _ _ [val (pScr K) script_0, val pInt r_177, val pInt (1 : Int), val pInt outputs_181, val (pL (pL (pT2 pInt pInt))) r_183, dead, dead, dead, dead]
    refine go_set 3 x_int ?_
    show Go _ _ _ _ _ [val (pScr K) script_0, val pInt r_177, val pInt (1 : Int), val pInt (1 : Int), val (pL (pL (pT2 pInt pInt))) r_183, dead, dead, dead, dead]
    obtain ⟨r_188, h_189, hm⟩ := Option.bind_eq_some_iff.mp hm
    refine go_set 4 (x_call (z := ((2 : Int) + ((r_177 / (40028 : Int)) % (6 : Int)))) (ok__law_turning T) (by decide) T.g__law_turning T.k__law_turning T.b__law_turning (xa_cons (x_op (fun _ => op_add) o_int x_int (x_op (fun _ => op_mod) (o_intC (by decide)) (x_callTy (fun _ => call_int1) T.g_int (by decide +kernel) o_intI (xa1 (x_op (fun _ => op_fdiv) (o_intC ⟨by decide, by decide⟩) (x_var 1) x_int))) x_int)) xa_nil) rfl (by repeat' (first | exact trivial | refine ⟨no_val, ?_⟩ | refine ⟨no_borL, ?_⟩ | refine ⟨no_bor, ?_⟩)) h_189) ?_
    show Go _ _ _ _ _ [val (pScr K) script_0, val pInt r_177, val pInt (1 : Int), val pInt (1 : Int), val (pL (pL (pT2 pInt pInt))) r_188, dead, dead, dead, dead]
    cases hm
    exact go_nx (by repeat' (first | exact WkL.nil | exact WkS.refl | exact WkS.dead | exact WkS.list | exact WkS.dict | exact WkS.lstS (fun _ => WkS.list) | refine WkL.cons ?_ ?_))
  · have hm := condF hz hj_190
    cases hm
    exact go_nx (by repeat' (first | exact WkL.nil | exact WkS.refl | exact WkS.dead | exact WkS.list | exact WkS.dict | exact WkS.lstS (fun _ => WkS.list) | refine WkL.cons ?_ ?_))
  obtain ⟨o_192, h_193, hm⟩ := Option.bind_eq_some_iff.mp hm
  refine go_set 5 (x_make (z := (inputs_185, outputs_186, moves_187)) (ok_Machine_init T) (by decide) T.mk_Machine T.g_Machine T.b_Machine_init (xa_cons (x_var 2) (xa_cons (x_var 3) (xa_cons (x_var 4) xa_nil))) rfl (by repeat' (first | exact trivial | refine ⟨no_val, ?_⟩ | refine ⟨no_borL, ?_⟩ | refine ⟨no_bor, ?_⟩)) rfl h_193 rfl) ?_
  show Go _ _ _ _ _ [val (pScr K) script_0, val pInt r_177, val pInt inputs_185, val pInt outputs_186, val (pL (pL (pT2 pInt pInt))) moves_187, obj T.C_Machine ns_Machine (dl_Machine o_192.1), dead, dead, dead]
  obtain ⟨r_194, h_195, hm⟩ := Option.bind_eq_some_iff.mp hm
  refine go_set 6 (x_call (z := (moves_187, inputs_185, (1000 : Int))) (ok__law_gathering T) (by decide) T.g__law_gathering T.k__law_gathering T.b__law_gathering (xa_cons (x_var 4) (xa_cons (x_var 2) (xa_cons x_int xa_nil))) rfl (by repeat' (first | exact trivial | refine ⟨no_val, ?_⟩ | refine ⟨no_borL, ?_⟩ | refine ⟨no_bor, ?_⟩)) h_195) ?_
  show Go _ _ _ _ _ [val (pScr K) script_0, val pInt r_177, val pInt inputs_185, val pInt outputs_186, val (pL (pL (pT2 pInt pInt))) moves_187, obj T.C_Machine ns_Machine (dl_Machine o_192.1), val (pDa K) r_194, dead, dead]
  refine go_wk (Γ' := [val (pScr K) script_0, val pInt r_177, val pInt inputs_185, val pInt outputs_186, val (pL (pL (pT2 pInt pInt))) moves_187, val (pObj T.C_Machine ns_Machine sl_Machine) o_192.1, val (pDa K) r_194, dead, dead]) ?_ (WkL.at (j := 5) (WkS.obj (sl := sl_Machine) (by repeat' (first | exact WkL.nil | exact WkS.refl | exact WkS.dead | exact WkS.list | exact WkS.dict | exact WkS.lstS (fun _ => WkS.list) | refine WkL.cons ?_ ?_)) (by repeat' (first | exact trivial | refine ⟨⟨_, _, _, rfl⟩, ?_⟩))) rfl)
  obtain ⟨r_196, h_197, hm⟩ := Option.bind_eq_some_iff.mp hm
  refine go_set 7 (x_call (z := (o_192.1, (1000 : Int))) (ok__law_told T) (by decide) T.g__law_told T.k__law_told T.b__law_told (xa_cons (x_var 5) (xa_cons x_int xa_nil)) rfl (by repeat' (first | exact trivial | refine ⟨no_val, ?_⟩ | refine ⟨no_borL, ?_⟩ | refine ⟨no_bor, ?_⟩)) h_197) ?_
  show Go _ _ _ _ _ [val (pScr K) script_0, val pInt r_177, val pInt inputs_185, val pInt outputs_186, val (pL (pL (pT2 pInt pInt))) moves_187, val (pObj T.C_Machine ns_Machine sl_Machine) o_192.1, val (pDa K) r_194, val (pDa K) r_196, dead]
  obtain ⟨v_198, h_199, hm⟩ := Option.bind_eq_some_iff.mp hm
  obtain ⟨h_200, hm⟩ := guardO_some hm
  obtain ⟨h_201, hm⟩ := guardO_some hm
  obtain ⟨b_208, h_209, hm⟩ := Option.bind_eq_some_iff.mp hm
  refine go_if (xw_pt (xw_or (xw_pt (xw_andP (xt_cmp (c_eqD _) (o_eqP Vw.val Vw.val h_200 h_201) (nomark _) (x_ixD (x_var 6) x_int h_199) (XV.data DE.str x_str)) h_209 (fun z hm => by obtain ⟨v_202, h_203, hm⟩ := Option.bind_eq_some_iff.mp hm; obtain ⟨T_204, h_205, hm⟩ := Option.bind_eq_some_iff.mp hm; obtain ⟨b_206, h_207, hm⟩ := Option.bind_eq_some_iff.mp hm; cases hm; exact (xw_and1 (xt_not (xt_val (x_callB (c_isi _) T.g_isinstance (by decide +kernel) (o_isi (T := T_204) (T' := "list") (TyV.data h_205) h_207) (xa2 (x_ixD (x_var 7) x_int h_203) (x_ty T.g_list (by decide +kernel))))) rfl))))) (fun _ => (xw_or1 (xt_cmp (c_neD _) (o_neD (DE.list (DE.list (DE.t2 DE.int DE.int))) (by decide) Vw.val Vw.val (fun _ _ => (fun _ _ => ⟨trivial, trivial⟩)) (fun _ _ => (fun _ _ => ⟨trivial, trivial⟩))) (nomark _) (x_fld 2 (x_var 5) OV.val T.at_Machine_moves) (x_var 4)))) rfl)) (fun hz => ?_) (fun hz => ?_)
  · have hm := condT hz hm
    cases hm
    exact go_ret x_bl (fun v H h => h)
  · have hm := condF hz hm
    refine go_join ?_
    obtain ⟨v_210, h_211, hm⟩ := Option.bind_eq_some_iff.mp hm
    obtain ⟨h_212, hm⟩ := guardO_some hm
    obtain ⟨h_213, hm⟩ := guardO_some hm
    obtain ⟨b_216, h_217, hm⟩ := Option.bind_eq_some_iff.mp hm
    obtain ⟨b_226, h_227, hm⟩ := Option.bind_eq_some_iff.mp hm
    refine go_if (xw_pt (xw_orP (xw_pt (xw_andP (xt_cmp (c_eqD _) (o_eqP Vw.val Vw.val h_212 h_213) (nomark _) (x_ixD (x_var 6) x_int h_211) (XV.data DE.str x_str)) h_217 (fun z hm => by obtain ⟨h_214, hm⟩ := guardO_some hm; obtain ⟨h_215, hm⟩ := guardO_some hm; cases hm; exact (xw_and1 (xt_cmp (c_neD _) (o_neP Vw.val Vw.val h_214 h_215) (nomark _) (x_var 7) (x_var 6)))))) h_227 (fun z hm => by obtain ⟨v_218, h_219, hm⟩ := Option.bind_eq_some_iff.mp hm; obtain ⟨h_220, hm⟩ := guardO_some hm; obtain ⟨h_221, hm⟩ := guardO_some hm; obtain ⟨b_224, h_225, hm⟩ := Option.bind_eq_some_iff.mp hm; cases hm; exact (xw_or1 (xw_pt (xw_andP (xt_cmp (c_neD _) (o_neP Vw.val Vw.val h_220 h_221) (nomark _) (x_ixD (x_var 6) x_int h_219) (XV.data DE.str x_str)) h_225 (fun z hm => by obtain ⟨h_222, hm⟩ := guardO_some hm; obtain ⟨h_223, hm⟩ := guardO_some hm; cases hm; exact (xw_and1 (xt_cmp (c_neD _) (o_neP Vw.val Vw.val h_222 h_223) (nomark _) (x_var 7) (x_lstD (ds := [DE.str.enc ("none" : Str), DE.bl.enc true]) (xa_cons (XV.data DE.str x_str) (xa_cons (XV.data DE.bl x_bl) xa_nil)) (le_line rfl))))))))))) (fun hz => ?_) (fun hz => ?_)
    · have hm := condT hz hm
      cases hm
      exact go_ret x_bl (fun v H h => h)
    · have hm := condF hz hm
      refine go_join ?_
      obtain ⟨b_237, h_238, hm⟩ := Option.bind_eq_some_iff.mp hm
      refine go_if (xw_pt (xw_andP (xt_cmp (fun _ => op_gt) o_bl (nomark _) (x_callB (c_len _) T.g_len (by decide +kernel) (o_lenL LV.val.sv) (xa1 (x_var 4))) x_int) h_238 (fun z hm => by obtain ⟨r_228, h_229, hm⟩ := Option.bind_eq_some_iff.mp hm; obtain ⟨b_235, h_236, hm⟩ := Option.bind_eq_some_iff.mp hm; cases hm; exact (xw_andP (xt_cmp (c_eqD _) (o_eqD (DE.list (DE.list (DE.t2 DE.int DE.int))) (by decide) Vw.val Vw.val (fun _ _ => (fun _ _ => ⟨trivial, trivial⟩)) (fun _ _ => (fun _ _ => ⟨trivial, trivial⟩))) (nomark _) (x_var 4) (x_call (z := ((moves_187).length : Int)) (ok__law_turning T) (by decide) T.g__law_turning T.k__law_turning T.b__law_turning (xa_cons (x_callB (c_len _) T.g_len (by decide +kernel) (o_lenL LV.val.sv) (xa1 (x_var 4))) xa_nil) rfl (by repeat' (first | exact trivial | refine ⟨no_val, ?_⟩ | refine ⟨no_borL, ?_⟩ | refine ⟨no_bor, ?_⟩)) h_229)) h_236 (fun z hm => by obtain ⟨v_230, h_231, hm⟩ := Option.bind_eq_some_iff.mp hm; obtain ⟨n_232, h_233, hm⟩ := Option.bind_eq_some_iff.mp hm; obtain ⟨h_234, hm⟩ := guardO_some hm; cases hm; exact (xw_and1 (xt_cmp (fun _ => op_ne) o_neI (nomark _) (x_callB (c_len _) T.g_len (by decide +kernel) (o_lenD h_233) (xa1 (x_ixD (x_var 6) x_int h_231))) (x_op (fun _ => op_mul) (o_intC h_234) (x_op (fun _ => op_sub) o_int (x_callB (c_len _) T.g_len (by decide +kernel) (o_lenL LV.val.sv) (xa1 (x_var 4))) x_int) (x_op (fun _ => op_sub) o_int (x_callB (c_len _) T.g_len (by decide +kernel) (o_lenL LV.val.sv) (xa1 (x_var 4))) x_int))))))))) (fun hz => ?_) (fun hz => ?_)
      · have hm := condT hz hm
        cases hm
        exact go_ret x_bl (fun v H h => h)
      · have hm := condF hz hm
        refine go_join ?_
        obtain ⟨r_239, h_240, hm⟩ := Option.bind_eq_some_iff.mp hm
        obtain ⟨h_241, hm⟩ := guardO_some hm
        obtain ⟨h_242, hm⟩ := guardO_some hm
        obtain ⟨most_243, h_244, hm⟩ := letO_some hm
        refine go_set 8 (XV.eqV (x_op (fun _ => op_add) o_int x_int (x_op (fun _ => op_mod) (o_intC h_242) (x_call (z := (script_0, (1 : Int))) (ok__law_cell T) (by decide) T.g__law_cell T.k__law_cell T.b__law_cell (xa_cons (x_var 0) (xa_cons x_int xa_nil)) rfl (by repeat' (first | exact trivial | refine ⟨no_val, ?_⟩ | refine ⟨no_borL, ?_⟩ | refine ⟨no_bor, ?_⟩)) h_240) (x_op (fun _ => op_shl) (o_intC ⟨h_241.1, h_241.2, by decide⟩) x_int (x_callB (c_len _) T.g_len (by decide +kernel) (o_lenL LV.val.sv) (xa1 (x_var 4)))))) h_244) ?_
        show Go _ _ _ _ _ [val (pScr K) script_0, val pInt r_177, val pInt inputs_185, val pInt outputs_186, val (pL (pL (pT2 pInt pInt))) moves_187, val (pObj T.C_Machine ns_Machine sl_Machine) o_192.1, val (pDa K) r_194, val (pDa K) r_196, val pInt most_243]
        obtain ⟨r_245, h_246, hm⟩ := Option.bind_eq_some_iff.mp hm
        refine go_set 6 (x_call (z := (moves_187, inputs_185, most_243)) (ok__law_gathering T) (by decide) T.g__law_gathering T.k__law_gathering T.b__law_gathering (xa_cons (x_var 4) (xa_cons (x_var 2) (xa_cons (x_var 8) xa_nil))) rfl (by repeat' (first | exact trivial | refine ⟨no_val, ?_⟩ | refine ⟨no_borL, ?_⟩ | refine ⟨no_bor, ?_⟩)) h_246) ?_
        show Go _ _ _ _ _ [val (pScr K) script_0, val pInt r_177, val pInt inputs_185, val pInt outputs_186, val (pL (pL (pT2 pInt pInt))) moves_187, val (pObj T.C_Machine ns_Machine sl_Machine) o_192.1, val (pDa K) r_245, val (pDa K) r_196, val pInt most_243]
        obtain ⟨r_247, h_248, hm⟩ := Option.bind_eq_some_iff.mp hm
        refine go_set 7 (x_call (z := (o_192.1, most_243)) (ok__law_told T) (by decide) T.g__law_told T.k__law_told T.b__law_told (xa_cons (x_var 5) (xa_cons (x_var 8) xa_nil)) rfl (by repeat' (first | exact trivial | refine ⟨no_val, ?_⟩ | refine ⟨no_borL, ?_⟩ | refine ⟨no_bor, ?_⟩)) h_248) ?_
        show Go _ _ _ _ _ [val (pScr K) script_0, val pInt r_177, val pInt inputs_185, val pInt outputs_186, val (pL (pL (pT2 pInt pInt))) moves_187, val (pObj T.C_Machine ns_Machine sl_Machine) o_192.1, val (pDa K) r_245, val (pDa K) r_247, val pInt most_243]
        obtain ⟨v_249, h_250, hm⟩ := Option.bind_eq_some_iff.mp hm
        obtain ⟨h_251, hm⟩ := guardO_some hm
        obtain ⟨h_252, hm⟩ := guardO_some hm
        refine go_if (xt_cmp (c_eqD _) (o_eqP Vw.val Vw.val h_251 h_252) (nomark _) (x_ixD (x_var 6) x_int h_250) (XV.data DE.str x_str)) (fun hz => ?_) (fun hz => ?_)
        · have hm := condT hz hm
          obtain ⟨h_253, hm⟩ := guardO_some hm
          obtain ⟨h_254, hm⟩ := guardO_some hm
          cases hm
          exact go_ret (x_cmp (c_eqD _) (o_eqP Vw.val Vw.val h_253 h_254) (nomark _) (x_var 7) (x_var 6)) (fun v H h => h)
        · have hm := condF hz hm
          refine go_join ?_
          obtain ⟨v_255, h_256, hm⟩ := Option.bind_eq_some_iff.mp hm
          obtain ⟨h_257, hm⟩ := guardO_some hm
          obtain ⟨h_258, hm⟩ := guardO_some hm
          cases hm
          exact go_ret (x_cmp (c_eqD _) (o_eqP Vw.val Vw.val h_257 h_258) (nomark _) (x_var 7) (x_lstD (ds := [v_255, DE.bl.enc true]) (xa_cons (x_ixD (x_var 6) x_int h_256) (xa_cons (XV.data DE.bl x_bl) xa_nil)) (le_line rfl))) (fun v H h => h)
end
end K44

/-! K44P -/
namespace K44
open PySem PySem.Spec L2 Ty
theorem cell_ok (script : List Int) {k : Int} (hk : 0 ≤ k) : ∃ c, m__law_cell script k = some c ∧ 0 ≤ c := by
  unfold m__law_cell
  have rest : ∃ c, (letO (((7 : Int) * k) + (1 : Int)) fun cell_7 =>
      (bif decide ((0 : Int) < ((script).length : Int)) then (guardO (0 < ((script).length : Int)) <| (atI script (k % ((script).length : Int))).bind fun v_11 => letO (cell_7 + ((31 : Int) * v_11)) fun cell_13 => some cell_13)
      else some cell_7 : Option ((Int))).bind fun cell_9 =>
      letO (((cell_9 * (48271 : Int)) + ((69621 : Int) * k)) % (2147483647 : Int)) fun cell_17 =>
      some (((cell_17 * (69621 : Int)) + ((48271 : Int) * (cell_17 / (1000 : Int)))) % (2147483629 : Int))) = some c ∧ 0 ≤ c := by
    simp only [letO_eq]
    by_cases h : (0 : Int) < script.length
    · obtain ⟨v, hv, _⟩ := atI_some (xs := script) (i := k % script.length) (Int.emod_nonneg _ (by omega)) (Int.emod_lt_of_pos _ h)
      simp only [h, decide_true, cond_true, guard_pos, hv, Option.bind_some]
      exact ⟨_, rfl, Int.emod_nonneg _ (by decide)⟩
    · simp only [h, decide_false, cond_false, Option.bind_some]
      exact ⟨_, rfl, Int.emod_nonneg _ (by decide)⟩
  by_cases h1 : k < script.length
  · obtain ⟨v, hv, _⟩ := atI_some hk h1
    simp only [h1, decide_true, cond_true, hv, Option.bind_some]
    by_cases h2 : (10 : Int) ^ ((9 : Int)).toNat ≤ v
    · simp only [h2, decide_true, cond_true]
      refine ⟨v, rfl, ?_⟩
      have : (10 : Int) ^ ((9 : Int)).toNat = 1000000000 := by decide
      omega
    · simp only [h2, decide_false, cond_false]
      exact rest
  · simp only [h1, decide_false, cond_false, Option.bind_some]
    exact rest
/-- a machine's table: n states, 2 ^ i rows, o outputs -/
structure Good (i o : Int) (mv : List (List (Int × Int))) : Prop where
  i0 : 0 ≤ i ∧ i ≤ 6
  o0 : 0 ≤ o ∧ o ≤ 32
  n0 : 1 ≤ mv.length ∧ mv.length ≤ 40
  len : ∀ e ∈ mv, e.length = 2 ^ i.toNat
  mem : ∀ e ∈ mv, ∀ x ∈ e, (0 ≤ x.1 ∧ x.1 < mv.length) ∧ 0 ≤ x.2 ∧ x.2 < 2 ^ o.toNat
theorem pow_le6 {i : Int} (h : 0 ≤ i ∧ i ≤ 6) : (1 : Int) * 2 ^ i.toNat = ((2 ^ i.toNat : Nat) : Int) ∧ 1 ≤ 2 ^ i.toNat ∧ 2 ^ i.toNat ≤ 64 := by
  obtain ⟨j, rfl⟩ := Int.eq_ofNat_of_zero_le h.1
  refine ⟨by simp, Nat.one_le_two_pow, ?_⟩
  have : (j : Int).toNat ≤ 6 := by omega
  exact Nat.le_trans (Nat.pow_le_pow_right (by decide) this) (by decide)
theorem mod_lt {a b : Int} (h : 0 < b) : 0 ≤ a % b ∧ a % b < b := ⟨Int.emod_nonneg _ (by omega), Int.emod_lt_of_pos _ h⟩
theorem moves_ok (script : List Int) {a i o s : Int} (ha : 0 ≤ a) (hi : 0 ≤ i ∧ i ≤ 6) (ho : 0 ≤ o ∧ o ≤ 32) (hs : 1 ≤ s ∧ s ≤ 40) : ∃ mv, m__law_moves script a i o s = some mv ∧ Good i o mv ∧ (mv.length : Int) = s := by
  unfold m__law_moves
  obtain ⟨p1, p2, p3⟩ := pow_le6 hi
  have po : (0 : Int) < 1 * 2 ^ o.toNat := by
    have : (0 : Int) < 2 ^ o.toNat := Int.pow_pos (by decide)
    omega
  rw [guard_pos (by omega)]
  refine forF_cps (ρ := List (List (Int × Int))) (f := fun s_22 moves_21 =>
      guardO (0 ≤ i ∧ i ≤ 1000000) <| guardO (-(2 ^ 62) ≤ ((1 : Int) * 2 ^ (i).toNat) ∧ ((1 : Int) * 2 ^ (i).toNat) < 2 ^ 62) <|
      flK (forF (ρ := List (List ((Int) × (Int)))) (rangeL 0 ((1 : Int) * 2 ^ (i).toNat)) (([] : List ((Int) × (Int))) : (List ((Int) × (Int)))) fun r_27 entry_26 =>
      (m__law_cell script (a + s_22)).bind fun r_28 =>
      guardO (0 < (r_27 + (1 : Int)) ∧ (r_27 + (1 : Int)) < 1073741824) <|
      letO (((((r_28 / (r_27 + (1 : Int))) + ((40503 : Int) * r_27)) + ((31 : Int) * s_22)) * (48271 : Int)) % (2147483647 : Int)) fun cell_31 =>
      guardO (0 < s) <| guardO (0 ≤ o ∧ o ≤ 1000000) <| guardO (0 < ((1 : Int) * 2 ^ (o).toNat)) <| guardO ((entry_26).length < sizeLine) <|
      some (.next (entry_26 ++ [((cell_31 % s), ((cell_31 / (1009 : Int)) % ((1 : Int) * 2 ^ (o).toNat)))]))) (fun entry_26 =>
      guardO ((moves_21).length < sizeLine) <| some (.next (moves_21 ++ [entry_26]))) (fun _ => none))
    (fun p mv => mv.length = p.length ∧ (∀ e ∈ mv, e.length = 2 ^ i.toNat) ∧ ∀ e ∈ mv, ∀ x ∈ e, (0 ≤ x.1 ∧ x.1 < s) ∧ 0 ≤ x.2 ∧ x.2 < 2 ^ o.toNat) (xs := rangeL 0 s) (s0 := []) ⟨rfl, by simp, by simp⟩ ?_ ?_
  · intro mv h1 ⟨h2, h3, h4⟩
    rw [h1, flK_next]
    rw [rangeL_len] at h2
    refine ⟨mv, rfl, ⟨hi, ho, by omega, h3, fun e he x hx => ?_⟩, by omega⟩
    have := h4 e he x hx
    exact ⟨⟨this.1.1, by omega⟩, this.2⟩
  · intro p x q mv e ⟨g1, g2, g3⟩
    have hx := mem_rangeL (x := x) (lo := 0) (hi := s) (by rw [e]; simp)
    obtain ⟨c, hc, c0⟩ := cell_ok script (k := a + x) (by omega)
    have hlen : p.length + (q.length + 1) = s.toNat := by
      have := congrArg List.length e
      rw [rangeL_len] at this
      simp at this; omega
    simp only [hc, Option.bind_some, letO_eq]
    rw [guard_pos (by omega), guard_pos (by omega)]
    refine forF_cps (ρ := List (List (Int × Int))) (f := fun r_27 (entry_26 : List (Int × Int)) =>
        guardO (0 < (r_27 + (1 : Int)) ∧ (r_27 + (1 : Int)) < 1073741824) <| guardO (0 < s) <| guardO (0 ≤ o ∧ o ≤ 1000000) <| guardO (0 < ((1 : Int) * 2 ^ (o).toNat)) <| guardO ((entry_26).length < sizeLine) <|
        some (.next (entry_26 ++ [(((((((c / (r_27 + (1 : Int))) + ((40503 : Int) * r_27)) + ((31 : Int) * x)) * (48271 : Int)) % (2147483647 : Int)) % s), ((((((c / (r_27 + (1 : Int))) + ((40503 : Int) * r_27)) + ((31 : Int) * x)) * (48271 : Int)) % (2147483647 : Int)) / (1009 : Int)) % ((1 : Int) * 2 ^ (o).toNat))])))
      (fun p en => en.length = p.length ∧ ∀ x ∈ en, (0 ≤ x.1 ∧ x.1 < s) ∧ 0 ≤ x.2 ∧ x.2 < 2 ^ o.toNat) (xs := rangeL 0 (1 * 2 ^ i.toNat)) (s0 := []) ⟨rfl, by simp⟩ ?_ ?_
    · intro en k1 ⟨k2, k3⟩
      rw [k1, flK_next, guard_pos (line_lt (by omega))]
      rw [rangeL_len] at k2
      refine ⟨_, rfl, by simp; omega, fun e he => ?_, fun e he => ?_⟩
      · rcases List.mem_append.mp he with h | h
        · exact g2 e h
        · rw [List.mem_singleton.mp h, k2, p1, Int.toNat_natCast]
      · rcases List.mem_append.mp he with h | h
        · exact g3 e h
        · rw [List.mem_singleton.mp h]; exact k3
    · intro p r q en e ⟨j1, j2⟩
      have hr := mem_rangeL (x := r) (lo := 0) (hi := 1 * 2 ^ i.toNat) (by rw [e]; simp)
      have hlen : p.length + (q.length + 1) = (1 * 2 ^ i.toNat : Int).toNat := by
        have := congrArg List.length e
        rw [rangeL_len] at this
        simp only [List.length_append, List.length_cons] at this; omega
      rw [guard_pos (by omega), guard_pos (by omega), guard_pos (by omega), guard_pos po, guard_pos (line_lt (by omega))]
      refine ⟨_, rfl, by simp; omega, fun y hy => ?_⟩
      rcases List.mem_append.mp hy with h | h
      · exact j2 y h
      · rw [List.mem_singleton.mp h]
        have a1 := mod_lt (a := ((((c / (r + (1 : Int))) + ((40503 : Int) * r)) + ((31 : Int) * x)) * (48271 : Int)) % (2147483647 : Int)) (b := s) (by omega)
        have a2 := mod_lt (a := (((((c / (r + (1 : Int))) + ((40503 : Int) * r)) + ((31 : Int) * x)) * (48271 : Int)) % (2147483647 : Int)) / 1009) po
        rw [Int.one_mul] at a2
        rw [Int.one_mul]
        exact ⟨a1, a2⟩
end K44

/-! K44Q -/
namespace K44
open PySem PySem.Spec L2 Ty
abbrev MT := List (Int × Int)
abbrev KN := List (List Int × List (List Int))
abbrev ST := List (List Int)
abbrev RS := Option (List (List Int))
def rowF (i n : Int) : List Int := (rangeL 0 i).map fun p => (n / 2 ^ (i - 1 - p).toNat) % 2
theorem row_of_ok {i : Int} (h : 0 ≤ i ∧ i ≤ 6) (n : Int) : m_row_of i n = some (rowF i n) := by
  unfold m_row_of
  rw [guard_pos (by omega), guard_pos (line_le (by rw [rangeL_len]; omega)), fmO_all (g := fun p => (n / 2 ^ (i - 1 - p).toNat) % 2) (fun p hp => ?_)]
  · rfl
  · have := mem_rangeL hp
    rw [guard_pos (by omega), PyProof.Rows.bitAnd_m1]
theorem law_row_ok {i : Int} (h : 0 ≤ i ∧ i ≤ 6) (n : Int) : m__law_row i n = some (rowF i n) := by
  unfold m__law_row
  rw [guard_pos (by omega), guard_pos (line_le (by rw [rangeL_len]; omega)), fmO_all (g := fun p => (n / 2 ^ (i - 1 - p).toNat) % 2) (fun p hp => ?_)]
  · rfl
  · have := mem_rangeL hp
    rw [guard_pos (by omega)]
theorem pow6 {i : Int} (h : 0 ≤ i ∧ i ≤ 6) : (1 : Int) * 2 ^ i.toNat = ((2 ^ i.toNat : Nat) : Int) ∧ 1 ≤ 2 ^ i.toNat ∧ 2 ^ i.toNat ≤ 64 := by
  obtain ⟨j, rfl⟩ := Int.eq_ofNat_of_zero_le h.1
  refine ⟨by simp, Nat.one_le_two_pow, ?_⟩
  have : (j : Int).toNat ≤ 6 := by omega
  exact Nat.le_trans (Nat.pow_le_pow_right (by decide) this) (by decide)
/-! ### origins -/
inductive Path (o : MT) : Nat → List Int → Prop
  | root : Path o 0 []
  | step {i p : Nat} {n : Int} {ns : List Int} : o[i + 1]? = some ((p : Int), n) → p ≤ i → Path o p ns → Path o (i + 1) (n :: ns)
theorem Path.mono {o : MT} (l : MT) {i : Nat} {ns : List Int} (h : Path o i ns) : Path (o ++ l) i ns := by
  induction h with
  | root => exact .root
  | step h1 h2 _ ih =>
    refine .step ?_ h2 ih
    rw [List.getElem?_append_left (List.getElem?_eq_some_iff.mp h1).1]; exact h1
theorem Path.len {o : MT} {i : Nat} {ns : List Int} (h : Path o i ns) : ns.length ≤ i := by
  induction h with
  | root => exact Nat.le_refl _
  | step _ h2 _ ih => simp only [List.length_cons]; omega
theorem back_ok {o : MT} {F : Int × List Int → Option (Fl (List (List Int)) (Int × List Int))} (h0 : ∀ ns, F (0, ns) = some (.brk (0, ns))) (h1 : ∀ (i p : Nat) (n : Int) (ns : List Int), o[i + 1]? = some ((p : Int), n) → ns.length < 3000 → F (((i + 1 : Nat) : Int), ns) = some (.next ((p : Int), ns ++ [n]))) {i : Nat} {ns : List Int} (h : Path o i ns) :
    ∀ (fuel : Nat) (acc : List Int), i + 1 ≤ fuel → acc.length + ns.length < 3000 → whileF fuel ((i : Int), acc) F = some (.brk (0, acc ++ ns)) := by
  induction h with
  | root =>
    intro fuel acc hf _
    obtain ⟨f, rfl⟩ : ∃ f, fuel = f + 1 := ⟨fuel - 1, by omega⟩
    unfold whileF
    rw [show ((0 : Nat) : Int) = 0 from rfl, h0]; simp
  | @step i p n ns g1 g2 g3 ih =>
    intro fuel acc hf hl
    obtain ⟨f, rfl⟩ : ∃ f, fuel = f + 1 := ⟨fuel - 1, by omega⟩
    simp only [List.length_cons] at hl
    unfold whileF
    rw [h1 i p n acc g1 (by omega)]
    show whileF f ((p : Int), acc ++ [n]) F = _
    rw [ih f (acc ++ [n]) (by omega) (by simp; omega)]
    simp
theorem course_ok {o : MT} {i : Nat} {ns : List Int} {c : Int} (hc : 0 ≤ c ∧ c ≤ 6) (h : Path o i ns) (hi : i < o.length) (ho : o.length ≤ 2000) : m_course_to o (i : Int) c = some (ns.reverse.map (rowF c)) := by
  unfold m_course_to
  have hl := h.len
  rw [back_ok (o := o) ?_ ?_ h (o.length + 1) [] (by omega) (by simp; omega)]
  · rw [flK_brk]
    show guardO _ _ = _
    rw [guard_pos (line_le (by simp; omega)), fmO_all (g := rowF c) fun x _ => by rw [row_of_ok hc]; rfl]
    simp
  · intro ns
    rfl
  · intro i p n ns h1 h2
    have hz : (0 : Int) < ((i + 1 : Nat) : Int) := by omega
    show (bif decide _ then _ else _) = _
    rw [decide_eq_true hz, cond_true, atI_nat h1, Option.bind_some, guard_pos (line_lt (by omega))]
/-! ### the program's walk and the law's, by name -/
/-- the states that come behind a set of states -/
def latersO (mv : List MT) (n : Int) (set : List Int) : Option (List Int) :=
  guardO ((set).length ≤ sizeLine) <|
  (fmO set fun s => ((atI mv s).bind fun v => (atI v n).bind fun u => some (some u.1))).bind fun ys => guardO ((ys).length < 64) (some ys)
def pB (mv : List MT) (n : Int) (V : S_Visits) : Option (Fl (Rx RS) S_Visits) :=
  (atI V.met V.at_).bind fun set =>
  guardO ((set).length ≤ sizeLine) <|
  (fmO set fun s => ((atI mv s).bind fun v => (atI v n).bind fun u => some (some u.1))).bind fun ys =>
  guardO ((ys).length < 64) <|
  letO (sortD ys) fun tg =>
  bif decide (((tg).length : Int) = (1 : Int)) then ((m_Visits_course V n).bind fun r => some (.ret (.ok (some r))))
  else ((m_Visits_meet V tg n).bind fun o => some (.next o.1))
def pW (mv : List MT) (i most : Int) (V : S_Visits) : Option (Fl (Rx RS) S_Visits) :=
  bif decide (V.at_ < ((V.met).length : Int)) then (
  guardO (0 ≤ i ∧ i ≤ 1000000) <|
  guardO (-(2 ^ 62) ≤ ((1 : Int) * 2 ^ (i).toNat) ∧ ((1 : Int) * 2 ^ (i).toNat) < 2 ^ 62) <|
  flK (forF (rangeL 0 ((1 : Int) * 2 ^ (i).toNat)) V fun n V' => pB mv n V') (fun V' =>
  bif decide (most < ((V'.met).length : Int)) then (some (.ret (.ex ("TooManyStates", [])))) else (some (.next ({ V' with at_ := V'.at_ + (1 : Int) }))))
  (fun r => some (.ret r)))
  else some (.brk V)
theorem gathering_is (M : S_Machine) (most : Int) : m_gathering_course M most =
  (guardO (-(2 ^ 62) ≤ (0 : Int) ∧ (0 : Int) < 2 ^ 62 ∧ -(2 ^ 62) ≤ ((M.moves).length : Int) ∧ ((M.moves).length : Int) < 2 ^ 62 ∧ (((M.moves).length : Int) - (0 : Int)).toNat ≤ 2 ^ 24) <|
  (m_Visits_init (rangeL 0 ((M.moves).length : Int)) M.input_count).bind fun o =>
  bif decide (((M.moves).length : Int) = (1 : Int)) then (some (.ok (some ([]))))
  else (flK (whileF (2 ^ M.moves.length + 2) o.1 fun V => pW M.moves M.input_count most V) (fun _ => some (.ok none)) (fun r => some r))) := rfl
def lB (mv : List MT) (i turn : Int) (c : List (List Int)) (n : Int) (s : ST × KN) : Option (Fl PyData (ST × KN)) :=
  match s with
  | (met, known) =>
  (atI met turn).bind fun set =>
  guardO ((set).length ≤ sizeLine) <|
  (fmO set fun s => ((atI mv s).bind fun v => (atI v n).bind fun u => some (some u.1))).bind fun ys =>
  guardO ((ys).length < 64) <|
  letO (sortD ys) fun tg =>
  bif decide (((tg).length : Int) = (1 : Int)) then (
  (m__law_row i n).bind fun r => guardO ((c).length + ([r]).length ≤ sizeLine) <| some (.ret (PyData.list [DE.str.enc ("course" : Str), (DE.list (DE.list DE.int)).enc (c ++ [r])])))
  else (
  (bif (!(dget known tg).isSome) then (
  (m__law_row i n).bind fun r => guardO ((c).length + ([r]).length ≤ sizeLine) <| guardO ((known).length < sizeLine) <| guardO ((met).length < sizeLine) <|
  some ((met ++ [tg]), (dput known tg (c ++ [r]))))
  else (some (met, known)) : Option (ST × KN)).bind fun (m2, k2) => some (.next (m2, k2)))
def lT (mv : List MT) (i most turn : Int) (s : ST × KN) : Option (Fl PyData (ST × KN)) :=
  match s with
  | (met, known) =>
  bif decide (turn = ((met).length : Int)) then (some (.brk (met, known)))
  else (
  (atI met turn).bind fun v => (dget known v).bind fun c =>
  guardO (0 ≤ i ∧ i ≤ 1000000) <| guardO (-(2 ^ 62) ≤ ((1 : Int) * 2 ^ (i).toNat) ∧ ((1 : Int) * 2 ^ (i).toNat) < 2 ^ 62) <|
  flK (forF (rangeL 0 ((1 : Int) * 2 ^ (i).toNat)) ((met, known) : ST × KN) fun n s => lB mv i turn c n s) (fun (m2, k2) =>
  bif decide (most < ((m2).length : Int)) then (some (.ret (PyData.list [DE.str.enc ("many" : Str), DE.int.enc ((m2).length : Int)]))) else (some (.next (m2, k2))))
  (fun r => some (.ret r)))
theorem lgathering_is (mv : List MT) (i most : Int) : m__law_gathering mv i most =
  (bif decide (((mv).length : Int) = (1 : Int)) then (some (PyData.list [DE.str.enc ("course" : Str), (PyData.list [])]))
  else (
  guardO (-(2 ^ 62) ≤ (0 : Int) ∧ (0 : Int) < 2 ^ 62 ∧ -(2 ^ 62) ≤ ((mv).length : Int) ∧ ((mv).length : Int) < 2 ^ 62 ∧ (((mv).length : Int) - (0 : Int)).toNat ≤ 2 ^ 24) <|
  letO (rangeL 0 ((mv).length : Int)) fun st =>
  guardO (0 ≤ ((mv).length : Int) ∧ ((mv).length : Int) ≤ 1000000) <|
  guardO (-(2 ^ 62) ≤ ((1 : Int) * 2 ^ (((mv).length : Int)).toNat) ∧ ((1 : Int) * 2 ^ (((mv).length : Int)).toNat) < 2 ^ 62) <|
  flK (forF (rangeL 0 ((1 : Int) * 2 ^ (((mv).length : Int)).toNat)) (([st], [(st, ([] : List (List Int)))]) : ST × KN) fun turn s => lT mv i most turn s) (fun (met, _) =>
  some (PyData.list [DE.str.enc ("none" : Str), DE.int.enc ((met).length : Int)])) (fun r => some r))) := rfl
end K44

/-! K44R -/
namespace K44
open PySem PySem.Spec L2 Ty
/-- strictly ascending, within lo .. lo + k -/
def Srt (lo k : Int) (q : List Int) : Prop := q.Pairwise (· < ·) ∧ ∀ x ∈ q, lo ≤ x ∧ x < lo + k
def subsL : Int → Nat → List (List Int)
  | _, 0 => [[]]
  | lo, k + 1 => subsL (lo + 1) k ++ (subsL (lo + 1) k).map (lo :: ·)
theorem subsL_len : ∀ (lo : Int) (k : Nat), (subsL lo k).length = 2 ^ k
  | _, 0 => rfl
  | lo, k + 1 => by rw [subsL, List.length_append, List.length_map, subsL_len, Nat.pow_succ]; omega
theorem mem_subsL : ∀ (k : Nat) (lo : Int) (q : List Int), Srt lo k q → q ∈ subsL lo k
  | 0, lo, [], _ => by simp [subsL]
  | 0, lo, x :: r, h => by have := h.2 x List.mem_cons_self; omega
  | k + 1, lo, [], h => by
    rw [subsL]
    exact List.mem_append_left _ (mem_subsL k (lo + 1) [] ⟨List.Pairwise.nil, fun x hx => by cases hx⟩)
  | k + 1, lo, x :: r, h => by
    rw [subsL]
    obtain ⟨h1, h2⟩ := List.pairwise_cons.mp h.1
    have hx := h.2 x List.mem_cons_self
    by_cases e : x = lo
    · subst e
      refine List.mem_append_right _ (List.mem_map.mpr ⟨r, mem_subsL k (x + 1) r ⟨h2, fun y hy => ?_⟩, rfl⟩)
      have a1 := h1 y hy
      have a2 := h.2 y (List.mem_cons_of_mem _ hy)
      omega
    · refine List.mem_append_left _ (mem_subsL k (lo + 1) (x :: r) ⟨h.1, fun y hy => ?_⟩)
      have a2 := h.2 y hy
      rcases List.mem_cons.mp hy with rfl | hy
      · omega
      · have a1 := h1 y hy
        omega
structure Rel (i : Int) (n : Nat) (V : S_Visits) (met : ST) (known : KN) : Prop where
  hm : V.met = met
  hc : V.count = i
  hv : ∀ q, (dget V.known q).isSome = (dget known q).isSome
  hvl : V.known.length = met.length
  hkl : known.length = met.length
  hol : V.origins.length = met.length
  hco : ∀ (j : Nat) (q : List Int), met[j]? = some q → ∃ ns, Path V.origins j ns ∧ dget known q = some (ns.reverse.map (rowF i))
  nd : met.Nodup
  hin : ∀ q ∈ met, Srt 0 n q
section
variable {i : Int} {n : Nat} {V : S_Visits} {met : ST} {known : KN}
theorem Rel.le (R : Rel i n V met known) : met.length ≤ 2 ^ n := by
  rw [← subsL_len 0 n]
  exact nodup_le R.nd fun q hq => mem_subsL n 0 q (R.hin q hq)
theorem Rel.isS (R : Rel i n V met known) {q : List Int} (h : q ∈ met) : ∃ c, dget known q = some c := by
  obtain ⟨j, hj⟩ := List.getElem?_of_mem h
  obtain ⟨ns, _, e⟩ := R.hco j q hj
  exact ⟨_, e⟩
theorem Rel.meet_old (R : Rel i n V met known) {q : List Int} {k : Int} (h : (dget known q).isSome = true) : m_Visits_meet V q k = some (V, ()) := by
  unfold m_Visits_meet
  rw [R.hv q, h]
  rfl
theorem Rel.meet_new (R : Rel i n V met known) (hnm : 2 ^ n ≤ 2000) {t : Nat} {ns : List Int} {q : List Int} {k : Int} (ht : t < met.length) (hp : Path V.origins t ns) (hat : V.at_ = (t : Int)) (h : (dget known q).isSome = false) (hq : Srt 0 n q) :
    ∃ V', m_Visits_meet V q k = some (V', ()) ∧ V'.at_ = V.at_ ∧ Path V'.origins t ns ∧ Rel i n V' (met ++ [q]) (dput known q (ns.reverse.map (rowF i) ++ [rowF i k])) := by
  have hl := R.le
  have hk0 : dget known q = none := by simpa using h
  have hv0 : dget V.known q = none := by
    have := R.hv q
    rw [h] at this; simpa using this
  have hnm' : q ∉ met := fun hq' => by
    obtain ⟨c, hc⟩ := R.isS hq'
    rw [hk0] at hc; cases hc
  refine ⟨⟨V.met ++ [q], dput V.known q true, V.origins ++ [(V.at_, k)], V.count, V.at_⟩, ?_, rfl, hp.mono _, ?_⟩
  · unfold m_Visits_meet
    rw [R.hv q, h]
    show (guardO _ _).bind _ = _
    rw [guard_pos (line_lt (by rw [R.hvl]; omega)), guard_pos (line_lt (by rw [R.hm]; omega)), guard_pos (line_lt (by rw [R.hol]; omega))]
    rfl
  · refine ⟨?_, R.hc, fun p => ?_, ?_, ?_, ?_, fun j p hj => ?_, ?_, fun p hp => ?_⟩
    · show V.met ++ [q] = _
      rw [R.hm]
    · show (dget (dput V.known q true) p).isSome = _
      rw [dput_new hv0, dput_new hk0, dget_snoc hv0, dget_snoc hk0]
      by_cases e : p = q
      · simp [e]
      · simp only [e, if_false]; exact R.hv p
    · show (dput V.known q true).length = _
      rw [dput_new hv0]; simp [R.hvl]
    · rw [dput_new hk0]; simp [R.hkl]
    · show (V.origins ++ [(V.at_, k)]).length = _
      simp [R.hol]
    · show ∃ ns, Path (V.origins ++ [(V.at_, k)]) j ns ∧ _
      rw [dput_new hk0]
      by_cases hj2 : j < met.length
      · rw [List.getElem?_append_left hj2] at hj
        obtain ⟨ms, h1, h2⟩ := R.hco j p hj
        refine ⟨ms, h1.mono _, ?_⟩
        rw [dget_snoc hk0]
        have : ¬ p = q := fun e => hnm' (by rw [← e]; exact List.mem_of_getElem? hj)
        rw [if_neg this]; exact h2
      · have hjl : j < (met ++ [q]).length := (List.getElem?_eq_some_iff.mp hj).1
        rw [List.length_append, List.length_singleton] at hjl
        obtain rfl : j = met.length := by omega
        have hpq : p = q := by
          rw [List.getElem?_append_right (Nat.le_refl _)] at hj
          simpa using hj.symm
        subst hpq
        obtain ⟨l, hl2⟩ : ∃ l, met.length = l + 1 := ⟨met.length - 1, by omega⟩
        refine ⟨k :: ns, ?_, ?_⟩
        · rw [hl2]
          refine .step (p := t) ?_ (by omega) (hp.mono _)
          rw [← hl2, ← R.hol, List.getElem?_append_right (Nat.le_refl _), hat]; simp
        · rw [dget_snoc hk0, if_pos rfl]; simp
    · exact List.nodup_append.mpr ⟨R.nd, by simp, fun a ha b hb e => hnm' (by rw [List.mem_singleton.mp hb] at e; rw [← e]; exact ha)⟩
    · rcases List.mem_append.mp hp with h | h
      · exact R.hin p h
      · rw [List.mem_singleton.mp h]; exact hq
theorem Srt.len {n : Nat} {q : List Int} (h : Srt 0 n q) : q.length ≤ n := by
  have e : (rangeL 0 (n : Int)).length = n := by rw [rangeL_len]; simp
  rw [← e]
  refine nodup_le (List.Pairwise.imp (fun h => Int.ne_of_lt h) h.1) fun x hx => ?_
  have := h.2 x hx
  have g := rangeL_get (n := (n : Int)) (j := x.toNat) (by omega)
  rw [show ((x.toNat : Nat) : Int) = x by omega] at g
  exact List.mem_of_getElem? g
/-- the sets behind a set -/
theorem laters_ok {mv : List MT} {L : Nat} (hl : ∀ e ∈ mv, e.length = L) (hx : ∀ e ∈ mv, ∀ x ∈ e, 0 ≤ x.1 ∧ x.1 < mv.length) (hn : mv.length ≤ 40) {set : List Int} (hs : Srt 0 mv.length set) {c : Nat} (hc : c < L) :
    ∃ ys, ((fmO set fun s => ((atI mv s).bind fun v => (atI v (c : Int)).bind fun u => some (some u.1)))) = some ys ∧ ys.length = set.length ∧ Srt 0 mv.length (sortD ys) := by
  have key : ∀ s ∈ set, ∃ u, ((atI mv s).bind fun v => (atI v (c : Int)).bind fun u => some (some u.1)) = some (some u) ∧ 0 ≤ u ∧ u < mv.length := fun s hs' => by
    have hb := hs.2 s hs'
    obtain ⟨e, he, _⟩ := atI_some (xs := mv) (i := s) hb.1 (by omega)
    have hm := mem_of_atI he
    have hce : c < e.length := by rw [hl e hm]; exact hc
    exact ⟨e[c].1, by rw [he, Option.bind_some, atI_of hce, Option.bind_some], hx e hm _ (List.getElem_mem hce)⟩
  have all : ∀ l : List Int, (∀ s ∈ l, s ∈ set) → ∃ ys, (fmO l fun s => ((atI mv s).bind fun v => (atI v (c : Int)).bind fun u => some (some u.1))) = some ys ∧ ys.length = l.length ∧ ∀ y ∈ ys, 0 ≤ y ∧ y < mv.length := by
    intro l
    induction l with
    | nil => intro _; exact ⟨[], rfl, rfl, fun y hy => by cases hy⟩
    | cons s l ih =>
      intro hs'
      obtain ⟨u, h1, h2⟩ := key s (hs' s List.mem_cons_self)
      obtain ⟨ys, g1, g2, g3⟩ := ih fun s' h' => hs' s' (List.mem_cons_of_mem _ h')
      refine ⟨u :: ys, ?_, by simp [g2], fun y hy => ?_⟩
      · unfold fmO
        dsimp only
        rw [h1, Option.bind_some, g1]; rfl
      · rcases List.mem_cons.mp hy with rfl | hy
        · exact h2
        · exact g3 y hy
  obtain ⟨ys, g1, g2, g3⟩ := all set fun _ h => h
  refine ⟨ys, g1, g2, pw_sortD ys, fun x hx => ?_⟩
  have := g3 x (mem_sortD.mp hx)
  omega
end
end K44

/-! K44S -/
namespace K44
open PySem PySem.Spec L2 Ty
def pdCourse (c : List (List Int)) : PyData := PyData.list [DE.str.enc ("course" : Str), (DE.list (DE.list DE.int)).enc c]
structure Tab (i : Int) (mv : List MT) : Prop where
  i0 : 0 ≤ i ∧ i ≤ 6
  n0 : mv.length ≤ 40
  nm : 2 ^ mv.length ≤ 2000
  ll : ∀ e ∈ mv, e.length = 2 ^ i.toNat
  lx : ∀ e ∈ mv, ∀ x ∈ e, 0 ≤ x.1 ∧ x.1 < mv.length
theorem rng_step {N : Int} {j : Nat} (hj : j < (rangeL 0 N).length) : (rangeL 0 N).drop j = (j : Int) :: (rangeL 0 N).drop (j + 1) := by
  rw [List.drop_eq_getElem_cons hj]
  congr 1
  have := rangeL_get (n := N) (j := j) (by rw [rangeL_len] at hj; exact hj)
  rw [List.getElem?_eq_getElem hj] at this
  exact Option.some.inj this
theorem inner {i : Int} {mv : List MT} (T : Tab i mv) {t : Nat} {q : List Int} {ns : List Int} :
    ∀ (d j : Nat) (V : S_Visits) (met : ST) (known : KN), j + d = 2 ^ i.toNat → Rel i mv.length V met known → met[t]? = some q → Path V.origins t ns → V.at_ = (t : Int) →
    (∃ c, forF ((rangeL 0 (1 * 2 ^ i.toNat)).drop j) V (fun n V' => pB mv n V') = some (.ret (.ok (some c))) ∧ forF ((rangeL 0 (1 * 2 ^ i.toNat)).drop j) ((met, known) : ST × KN) (fun n s => lB mv i (t : Int) (ns.reverse.map (rowF i)) n s) = some (.ret (pdCourse c))) ∨
    ∃ V' met' known', forF ((rangeL 0 (1 * 2 ^ i.toNat)).drop j) V (fun n V' => pB mv n V') = some (.next V') ∧ forF ((rangeL 0 (1 * 2 ^ i.toNat)).drop j) ((met, known) : ST × KN) (fun n s => lB mv i (t : Int) (ns.reverse.map (rowF i)) n s) = some (.next (met', known')) ∧
      Rel i mv.length V' met' known' ∧ V'.at_ = (t : Int) ∧ met.length ≤ met'.length := by
  have hp2 : (1 * 2 ^ i.toNat : Int).toNat = 2 ^ i.toNat := by
    have : (1 * 2 ^ i.toNat : Int) = ((2 ^ i.toNat : Nat) : Int) := by simp
    rw [this, Int.toNat_natCast]
  intro d
  induction d with
  | zero =>
    intro j V met known hj R hq hpath hat
    refine .inr ⟨V, met, known, ?_, ?_, R, hat, Nat.le_refl _⟩
    · rw [List.drop_of_length_le (by rw [rangeL_len, hp2]; omega)]; rfl
    · rw [List.drop_of_length_le (by rw [rangeL_len, hp2]; omega)]; rfl
  | succ d ih =>
    intro j V met known hj R hq hpath hat
    have ht : t < met.length := (List.getElem?_eq_some_iff.mp hq).1
    have hle := R.le
    have hlen := hpath.len
    have hnm := T.nm
    have hn0 := T.n0
    have hqs := R.hin q (List.mem_of_getElem? hq)
    have hql := hqs.len
    obtain ⟨ys, hys, hyl, hsrt⟩ := laters_ok T.ll T.lx T.n0 hqs (c := j) (by omega)
    rw [rng_step (by rw [rangeL_len, hp2]; omega)]
    unfold forF
    dsimp only
    have hB : lB mv i (t : Int) (ns.reverse.map (rowF i)) (j : Int) (met, known) = (bif decide (((sortD ys).length : Int) = 1) then some (.ret (pdCourse (ns.reverse.map (rowF i) ++ [rowF i (j : Int)])))
        else (bif (!(dget known (sortD ys)).isSome) then some (.next (met ++ [sortD ys], dput known (sortD ys) (ns.reverse.map (rowF i) ++ [rowF i (j : Int)]))) else some (.next (met, known)))) := by
      unfold lB
      dsimp only
      rw [atI_nat hq, Option.bind_some, guard_pos (line_le (by omega)), hys, Option.bind_some, guard_pos (by omega), letO_eq, law_row_ok T.i0]
      simp only [Option.bind_some]
      rw [guard_pos (line_le (by simp; omega)), guard_pos (line_le (by simp; omega)), guard_pos (line_lt (by rw [R.hkl]; omega)), guard_pos (line_lt (by omega))]
      cases decide (((sortD ys).length : Int) = 1) <;> cases (!(dget known (sortD ys)).isSome) <;> rfl
    have hP : pB mv (j : Int) V = (bif decide (((sortD ys).length : Int) = 1) then some (.ret (.ok (some (ns.reverse.map (rowF i) ++ [rowF i (j : Int)])))) else ((m_Visits_meet V (sortD ys) (j : Int)).bind fun o => some (.next o.1))) := by
      unfold pB
      rw [hat, R.hm, atI_nat hq, Option.bind_some, guard_pos (line_le (by omega)), hys, Option.bind_some, guard_pos (by omega), letO_eq]
      unfold m_Visits_course
      rw [R.hc, hat, course_ok T.i0 hpath (by rw [R.hol]; exact ht) (by rw [R.hol]; omega), row_of_ok T.i0]
      simp only [Option.bind_some]
      rw [guard_pos (line_le (by simp; omega))]
      rfl
    rw [hB, hP]
    cases hd : decide (((sortD ys).length : Int) = 1) with
    | true => exact .inl ⟨_, rfl, rfl⟩
    | false =>
      simp only [cond_false]
      by_cases hs : (dget known (sortD ys)).isSome = true
      · rw [R.meet_old hs, hs]
        simp only [Option.bind_some, Bool.not_true, cond_false]
        exact ih (j + 1) V met known (by omega) R hq hpath hat
      · have hs' : (dget known (sortD ys)).isSome = false := by simpa using hs
        obtain ⟨V', h1, h2, h3, h4⟩ := R.meet_new (k := (j : Int)) hnm ht hpath hat hs' hsrt
        rw [h1, hs']
        simp only [Option.bind_some, Bool.not_false, cond_true]
        have hq' : (met ++ [sortD ys])[t]? = some q := by rw [List.getElem?_append_left ht]; exact hq
        rcases ih (j + 1) V' _ _ (by omega) h4 hq' h3 (by rw [h2]; exact hat) with ⟨X, g1, g2⟩ | ⟨V2, m2, k2, g1, g2, g3, g4, g5⟩
        · exact .inl ⟨X, g1, g2⟩
        · exact .inr ⟨V2, m2, k2, g1, g2, g3, g4, by simp at g5; omega⟩
end K44

/-! K44T -/
namespace K44
open PySem PySem.Spec L2 Ty
def pdMany (k : Int) : PyData := PyData.list [DE.str.enc ("many" : Str), DE.int.enc k]
def pdNone (k : Int) : PyData := PyData.list [DE.str.enc ("none" : Str), DE.int.enc k]
/-- how both end -/
def Out (n : Nat) (most : Int) (p : Rx RS) (l : PyData) : Prop :=
  (∃ c, p = .ok (some c) ∧ l = pdCourse c) ∨ (∃ k, most < 2 ^ n ∧ p = .ex ("TooManyStates", []) ∧ l = pdMany k) ∨ ∃ k, p = .ok none ∧ l = pdNone k
theorem Rel.at {i : Int} {n : Nat} {V : S_Visits} {met : ST} {known : KN} (R : Rel i n V met known) (z : Int) : Rel i n { V with at_ := z } met known :=
  ⟨R.hm, R.hc, R.hv, R.hvl, R.hkl, R.hol, R.hco, R.nd, R.hin⟩
theorem walk_eq {i most : Int} {mv : List MT} (T : Tab i mv) : ∀ (d t : Nat) (V : S_Visits) (met : ST) (known : KN), 2 ^ mv.length = t + d → Rel i mv.length V met known → V.at_ = (t : Int) → t ≤ met.length →
    ∃ pr lr, flK (whileF (d + 2) V fun V => pW mv i most V) (fun _ => some (.ok none)) (fun r => some r) = some pr ∧
      flK (forF ((rangeL 0 (1 * 2 ^ (mv.length : Int).toNat)).drop t) ((met, known) : ST × KN) fun turn s => lT mv i most turn s) (fun s => some (pdNone (s.1.length : Int))) (fun r => some r) = some lr ∧ Out mv.length most pr lr := by
  have hN : (1 * 2 ^ (mv.length : Int).toNat : Int).toNat = 2 ^ mv.length := by
    have : (1 * 2 ^ (mv.length : Int).toNat : Int) = ((2 ^ mv.length : Nat) : Int) := by simp
    rw [this, Int.toNat_natCast]
  obtain ⟨p1, p2, p3⟩ := pow6 T.i0
  intro d
  induction d with
  | zero =>
    intro t V met known hd R hat ht
    have hle := R.le
    have : t = met.length := by omega
    subst this
    refine ⟨.ok none, pdNone (met.length : Int), ?_, ?_, .inr (.inr ⟨_, rfl, rfl⟩)⟩
    · unfold whileF
      have hz : decide (V.at_ < ((V.met).length : Int)) = false := decide_eq_false (by rw [hat, R.hm]; omega)
      dsimp only
      unfold pW
      rw [hz]; rfl
    · rw [List.drop_of_length_le (by rw [rangeL_len, hN]; omega)]; rfl
  | succ d ih =>
    intro t V met known hd R hat ht
    have hle := R.le
    rw [rng_step (by rw [rangeL_len, hN]; omega)]
    unfold whileF forF
    dsimp only
    by_cases htm : t = met.length
    · refine ⟨.ok none, pdNone (met.length : Int), ?_, ?_, .inr (.inr ⟨_, rfl, rfl⟩)⟩
      · have hz : decide (V.at_ < ((V.met).length : Int)) = false := decide_eq_false (by rw [hat, R.hm]; omega)
        unfold pW
        rw [hz]; rfl
      · unfold lT
        dsimp only
        rw [decide_eq_true (by omega)]; rfl
    · have htlt : t < met.length := by omega
      have hq : met[t]? = some met[t] := List.getElem?_eq_getElem htlt
      obtain ⟨ns, hpath, hk⟩ := R.hco t _ hq
      have hz : decide (V.at_ < ((V.met).length : Int)) = true := decide_eq_true (by rw [hat, R.hm]; omega)
      have hP : pW mv i most V = flK (forF (rangeL 0 ((1 : Int) * 2 ^ (i).toNat)) V fun n V' => pB mv n V') (fun V' =>
          bif decide (most < ((V'.met).length : Int)) then (some (.ret (.ex ("TooManyStates", [])))) else (some (.next ({ V' with at_ := V'.at_ + (1 : Int) })))) (fun r => some (.ret r)) := by
        unfold pW
        rw [hz, cond_true, guard_pos (by have := T.i0; omega), guard_pos (by omega)]
      have hL : lT mv i most (t : Int) (met, known) = flK (forF (rangeL 0 ((1 : Int) * 2 ^ (i).toNat)) ((met, known) : ST × KN) fun n s => lB mv i (t : Int) (ns.reverse.map (rowF i)) n s) (fun s =>
          bif decide (most < ((s.1).length : Int)) then (some (.ret (pdMany (s.1.length : Int)))) else (some (.next s))) (fun r => some (.ret r)) := by
        unfold lT
        dsimp only
        rw [decide_eq_false (by omega), cond_false, atI_nat hq, Option.bind_some, hk, Option.bind_some, guard_pos (by have := T.i0; omega), guard_pos (by omega)]
        rfl
      rw [hP, hL]
      rcases inner T (2 ^ i.toNat) 0 V met known (by omega) R hq hpath hat with ⟨c, g1, g2⟩ | ⟨V', m2, k2, g1, g2, g3, g4, g5⟩
      · rw [List.drop_zero] at g1 g2
        refine ⟨.ok (some c), pdCourse c, ?_, ?_, .inl ⟨c, rfl, rfl⟩⟩
        · rw [g1]; rfl
        · rw [g2]; rfl
      · rw [List.drop_zero] at g1 g2
        rw [g1, g2, flK_next, flK_next]
        dsimp only
        have hmm : decide (most < ((V'.met).length : Int)) = decide (most < ((m2).length : Int)) := by rw [g3.hm]
        rw [hmm]
        have hle2 := g3.le
        cases hm : decide (most < ((m2).length : Int)) with
        | true =>
          refine ⟨.ex ("TooManyStates", []), pdMany (m2.length : Int), rfl, rfl, .inr (.inl ⟨_, ?_, rfl, rfl⟩)⟩
          have h1 := of_decide_eq_true hm
          have h2 : (m2.length : Int) ≤ ((2 ^ mv.length : Nat) : Int) := by omega
          rw [show ((2 : Int) ^ mv.length) = ((2 ^ mv.length : Nat) : Int) by simp]
          omega
        | false =>
          obtain ⟨pr, lr, h1, h2, h3⟩ := ih (t + 1) { V' with at_ := V'.at_ + (1 : Int) } m2 k2 (by omega) (g3.at _) (by show V'.at_ + 1 = _; rw [g4]; omega) (by omega)
          exact ⟨pr, lr, h1, h2, h3⟩
end K44

/-! K44V -/
namespace K44
open PySem PySem.Spec L2 Ty
theorem srt_range (n : Nat) : Srt 0 n (rangeL 0 (n : Int)) := by
  refine ⟨?_, fun x hx => ?_⟩
  · rw [rangeL_nat]
    exact List.pairwise_map.mpr (List.Pairwise.imp (fun h => by omega) List.pairwise_lt_range)
  · have := mem_rangeL hx
    omega
theorem gathering_ok {i o most : Int} {mv : List MT} (T : Tab i mv) (hn : 1 ≤ mv.length) : ∃ pr lr, m_gathering_course ⟨i, o, mv⟩ most = some pr ∧ m__law_gathering mv i most = some lr ∧ Out mv.length most pr lr := by
  have hnm := T.nm
  have hn0 := T.n0
  rw [gathering_is, lgathering_is]
  dsimp only
  rw [guard_pos (by omega)]
  cases h1 : decide (((mv).length : Int) = (1 : Int)) with
  | true => exact ⟨.ok (some []), pdCourse [], rfl, rfl, .inl ⟨[], rfl, rfl⟩⟩
  | false =>
    have hp : (1 : Int) * 2 ^ (mv.length : Int).toNat = ((2 ^ mv.length : Nat) : Int) := by simp
    have hb : -(2 ^ 62) ≤ (1 : Int) * 2 ^ (mv.length : Int).toNat ∧ (1 : Int) * 2 ^ (mv.length : Int).toNat < 2 ^ 62 := by
      rw [hp]
      generalize 2 ^ mv.length = z at hnm
      omega
    unfold m_Visits_init
    rw [Option.bind_some, cond_false, cond_false, guard_pos (by omega), letO_eq, guard_pos (by omega), guard_pos hb]
    have hR : Rel i mv.length ⟨[rangeL 0 (mv.length : Int)], [(rangeL 0 (mv.length : Int), true)], [((0 : Int), (0 : Int))], i, 0⟩ [rangeL 0 (mv.length : Int)] [(rangeL 0 (mv.length : Int), [])] := by
      refine ⟨rfl, rfl, fun q => ?_, rfl, rfl, rfl, fun j q hj => ?_, by simp, fun q hq => ?_⟩
      · show (dget [(rangeL 0 (mv.length : Int), true)] q).isSome = _
        rw [dget_cons, dget_cons]
        by_cases e : rangeL 0 (mv.length : Int) = q <;> simp [e, dget_nil]
      · cases j with
        | zero =>
          have : rangeL 0 (mv.length : Int) = q := by simpa using hj
          subst this
          exact ⟨[], .root, by rw [dget_cons]; simp⟩
        | succ j => simp at hj
      · rw [List.mem_singleton.mp hq]; exact srt_range _
    obtain ⟨pr, lr, g1, g2, g3⟩ := walk_eq (most := most) T (2 ^ mv.length) 0 _ _ _ (by omega) hR rfl (by simp)
    refine ⟨pr, lr, g1, ?_, g3⟩
    rw [List.drop_zero] at g2
    exact g2
end K44

/-! K44C -/
namespace K44
open PySem PySem.Spec L2 Ty
/-- the length of the course on a row that turns n states -/
def turnLen (n : Int) : Option Int := (m__law_turning n).bind fun mv => (m__law_gathering mv 1 1000).bind fun d => (pdIx d 1).bind pdLen
theorem turn_len5 : turnLen 5 = some 16 := by decide +kernel
theorem turn_len6 : turnLen 6 = some 25 := by decide +kernel
theorem turn_len7 : turnLen 7 = some 36 := by decide +kernel
theorem turn_len : turnLen 2 = some 1 ∧ turnLen 3 = some 4 ∧ turnLen 4 = some 9 := by decide +kernel
end K44

/-! K44U -/
namespace K44
open PySem PySem.Spec L2 Ty
theorem len_split {n : Int} {p q : List Int} {x : Int} (e : rangeL 0 n = p ++ x :: q) : p.length + (q.length + 1) = n.toNat ∧ x = (p.length : Int) := by
  have h1 := congrArg List.length e
  rw [rangeL_len] at h1
  simp only [List.length_append, List.length_cons] at h1
  refine ⟨h1.symm, ?_⟩
  have h2 := rangeL_get (n := n) (j := p.length) (by omega)
  rw [e, List.getElem?_append_right (Nat.le_refl _)] at h2
  simpa using h2
theorem init_ok {i o : Int} {mv : List MT} (G : Good i o mv) : m_Machine_init i o mv = some (⟨i, o, mv⟩, ()) := by
  unfold m_Machine_init
  have hi := G.i0
  have ho := G.o0
  have hn := G.n0
  obtain ⟨p1, p2, p3⟩ := pow_le6 G.i0
  have c1 : ((!(decide ((0 : Int) ≤ i) && decide (i ≤ (6 : Int)))) || (!(decide ((0 : Int) ≤ o) && decide (o ≤ (32 : Int))))) = false := by
    rw [decide_eq_true hi.1, decide_eq_true hi.2, decide_eq_true ho.1, decide_eq_true ho.2]; rfl
  have c2 : decide (((mv).length : Int) = (0 : Int)) = false := decide_eq_false (by omega)
  rw [c1, cond_false, c2, cond_false, guard_pos (by omega), letO_eq]
  generalize hF : flK (forF _ _ _) _ _ = Z
  refine flK_eq hF (fun _ _ => True) trivial ?_ ?_
  · intro u _ h1
    rw [← h1]
    try dsimp only
    rw [guard_pos (line_le (by omega)), fmO_all (g := fun x => x) (fun x _ => rfl)]
    simp
  · intro p x q u e _
    have hx : x ∈ (mv.zipIdx.map fun x => ((x.2 : Int), x.1)) := by rw [e]; simp
    obtain ⟨y, hy, rfl⟩ := List.mem_map.mp hx
    obtain ⟨h1, h2, h3⟩ := List.mem_zipIdx hy
    have hel : y.1 ∈ mv := by rw [h3]; exact List.getElem_mem _
    have hlen := G.len _ hel
    have hmem := G.mem _ hel
    try dsimp only
    have c3 : decide ((y.2 : Int) = (1000 : Int)) = false := decide_eq_false (by omega)
    have hl : ((y.1).length : Int) = 1 * 2 ^ i.toNat := by rw [hlen, p1]
    rw [c3, cond_false, hl]
    simp only [gt_iff_lt, Int.lt_irrefl, if_false]
    rw [guard_pos (by omega)]
    generalize hF : flK (forF _ _ _) _ _ = Z
    refine flK_eq hF (fun _ _ => True) trivial ?_ ?_
    · intro u _ h1
      rw [← h1]
      exact ⟨_, rfl, trivial⟩
    · intro p2 r q2 u e2 _
      obtain ⟨hl2, rfl⟩ := len_split e2
      have hr : p2.length < y.1.length := by omega
      have a1 := hmem _ (List.getElem_mem hr)
      have c4 : decide ((1 * 2 ^ i.toNat : Int) ≤ (p2.length : Int)) = false := decide_eq_false (by omega)
      try dsimp only
      rw [c4, cond_false, atI_of hr, Option.bind_some]
      have hmv : m_is_move y.1[p2.length] (mv.length : Int) o = some true := by
        unfold m_is_move
        rw [decide_eq_true a1.1.1, decide_eq_true a1.1.2, decide_eq_true a1.2.1, guard_pos (by omega)]
        simp only [Int.one_mul]
        rw [decide_eq_true a1.2.2]; rfl
      rw [hmv]
      exact ⟨_, rfl, trivial⟩
theorem Good.tab {i o : Int} {mv : List MT} (G : Good i o mv) (h7 : mv.length ≤ 7) : Tab i mv where
  i0 := G.i0
  n0 := G.n0.2
  nm := Nat.le_trans (Nat.pow_le_pow_right (by decide) h7) (by decide)
  ll := G.len
  lx := fun e he x hx => (G.mem e he x hx).1
theorem turning_ok {n : Int} (hn : 2 ≤ n ∧ n ≤ 7) : ∃ mv, m__law_turning n = some mv ∧ Good 1 1 mv ∧ (mv.length : Int) = n := by
  unfold m__law_turning
  rw [guard_pos (by omega), guard_pos (line_le (by rw [rangeL_len]; omega)), fmO_all (g := fun s => [((s + 1) % n, (0 : Int)), ((s + (if decide (s = n - 1) then 1 else 0)) % n, (0 : Int))]) (fun x hx => by rw [guard_pos (by omega), guard_pos (by omega)]), Option.bind_some]
  refine ⟨_, rfl, ⟨by decide, by decide, ?_, fun e he => ?_, fun e he x hx => ?_⟩, ?_⟩
  · rw [List.length_map, rangeL_len]; omega
  · obtain ⟨s, hs, rfl⟩ := List.mem_map.mp he
    rfl
  · obtain ⟨s, hs, rfl⟩ := List.mem_map.mp he
    have := mem_rangeL hs
    have hp : (2 : Int) ^ (1 : Int).toNat = 2 := by decide
    rw [List.length_map, rangeL_len, hp]
    rcases List.mem_cons.mp hx with rfl | hx
    · have := mod_lt (a := s + 1) (b := n) (by omega)
      dsimp only
      omega
    · rw [List.mem_singleton.mp hx]
      have := mod_lt (a := s + (if decide (s = n - 1) then 1 else 0)) (b := n) (by omega)
      dsimp only
      omega
  · rw [List.length_map, rangeL_len]; omega
def pdTold : Rx RS → PyData
  | .ok none => PyData.list [DE.str.enc ("none" : Str), DE.bl.enc true]
  | .ok (some c) => pdCourse c
  | .ex _ => PyData.list [DE.str.enc ("many" : Str), DE.bl.enc true]
theorem told_ok {M : S_Machine} {most : Int} {n : Nat} {pr : Rx RS} {lr : PyData} (h : m_gathering_course M most = some pr) (ho : Out n most pr lr) : m__law_told M most = some (pdTold pr) := by
  unfold m__law_told
  rw [h]
  rcases ho with ⟨c, rfl, _⟩ | ⟨k, _, rfl, _⟩ | ⟨k, rfl, _⟩ <;> rfl
theorem shaped_course (c : List (List Int)) : SeqAt.shaped (pdCourse c) = true := by
  unfold SeqAt.shaped pdCourse
  have h1 := (DE.list (DE.list DE.int)).sh c (fun _ _ _ _ => trivial)
  have h2 := (DE.list (DE.list DE.int)).hd c
  have h3 : (DE.list (DE.list DE.int)).d = 2 := rfl
  rw [h3] at h2
  have h4 : (DE.str.enc ("course" : Str)).canLay0 = true := by decide +kernel
  have h5 : (DE.str.enc ("course" : Str)).depth = 0 := by decide +kernel
  simp only [PyData.canLay0, PyData.canLayAll0, PyData.depth, PyData.depthAll, h1, h4, h5, Bool.true_and, Bool.and_true, decide_eq_true_eq]
  omega
theorem eqv_course (c : List (List Int)) : PyData.eqv (pdCourse c) (pdCourse c) = true := by
  unfold pdCourse
  rw [PyData.eqv, PyData.eqvAll, PyData.eqvAll, DE.eq, DE.eq, PyData.eqvAll]; simp
theorem pick_ok (script : List Int) {b : Int} (b0 : 0 ≤ b) : ∃ mv0 i o mv, Good i o mv ∧ mv.length ≤ 7 ∧
    m__law_moves script (4 : Int) (b % (3 : Int)) ((b / (3 : Int)) % (3 : Int)) ((1 : Int) + ((b / (9 : Int)) % (6 : Int))) = some mv0 ∧
  (bif decide (((b / (10007 : Int)) % (4 : Int)) = (1 : Int)) then (
  (m__law_turning ((2 : Int) + ((b / (40028 : Int)) % (6 : Int)))).bind fun r_188 =>
  some ((1 : Int), (1 : Int), r_188))
  else (
  some (b % (3 : Int), (b / (3 : Int)) % (3 : Int), mv0)) : Option ((Int) × (Int) × (List (List ((Int) × (Int)))))) = some (i, o, mv) := by
  obtain ⟨mv0, h0, G0, n0⟩ := moves_ok script (a := 4) (i := b % 3) (o := b / 3 % 3) (s := 1 + b / 9 % 6) (by decide) (by omega) (by omega) (by omega)
  cases hc : decide (((b / (10007 : Int)) % (4 : Int)) = (1 : Int)) with
  | true =>
    obtain ⟨mv', g1, g2, g3⟩ := turning_ok (n := 2 + b / 40028 % 6) (by omega)
    exact ⟨mv0, 1, 1, mv', g2, by omega, h0, by rw [cond_true, g1]; rfl⟩
  | false => exact ⟨mv0, _, _, mv0, G0, by omega, h0, rfl⟩
theorem two_pow7 {n : Nat} (h : n ≤ 7) : ¬ (1000 : Int) < 2 ^ n := by
  have : 2 ^ n ≤ 2 ^ 7 := Nat.pow_le_pow_right (by decide) h
  rw [show ((2 : Int) ^ n) = ((2 ^ n : Nat) : Int) by simp]
  omega
theorem turn_len_all {n : Int} (hn : 2 ≤ n ∧ n ≤ 7) : turnLen n = some ((n - 1) * (n - 1)) := by
  have : n = 2 ∨ n = 3 ∨ n = 4 ∨ n = 5 ∨ n = 6 ∨ n = 7 := by omega
  rcases this with rfl | rfl | rfl | rfl | rfl | rfl
  · exact turn_len.1
  · exact turn_len.2.1
  · exact turn_len.2.2
  · exact turn_len5
  · exact turn_len6
  · exact turn_len7
theorem turn_cond {i o : Int} {mv : List MT} (G : Good i o mv) (h7 : mv.length ≤ 7) {lr : PyData} (hl : m__law_gathering mv i 1000 = some lr) :
    (bif decide ((1 : Int) < ((mv).length : Int)) then ((m__law_turning ((mv).length : Int)).bind fun r_228 => (bif decide (mv = r_228) then ((pdIx lr (1 : Int)).bind fun v_230 => (pdLen v_230).bind fun n_232 => guardO ((-(2 ^ 64) < (((mv).length : Int) - (1 : Int)) ∧ (((mv).length : Int) - (1 : Int)) < 2 ^ 64) ∨ (-(2 ^ 64) < (((mv).length : Int) - (1 : Int)) ∧ (((mv).length : Int) - (1 : Int)) < 2 ^ 64)) (some (!decide (n_232 = ((((mv).length : Int) - (1 : Int)) * (((mv).length : Int) - (1 : Int))))))) else some false).bind fun b_235 => some b_235) else some false) = some false := by
  cases h1 : decide ((1 : Int) < ((mv).length : Int)) with
  | false => rfl
  | true =>
    have h1' := of_decide_eq_true h1
    obtain ⟨tv, g1, g2, g3⟩ := turning_ok (n := (mv.length : Int)) (by omega)
    rw [cond_true, g1, Option.bind_some]
    cases h2 : decide (mv = tv) with
    | false => rfl
    | true =>
      have h2' := of_decide_eq_true h2
      subst h2'
      have hm0 : 0 < mv.length := by omega
      have e1 := G.len mv[0] (List.getElem_mem hm0)
      have e2 := g2.len mv[0] (List.getElem_mem hm0)
      rw [e1] at e2
      have ei := G.i0
      have all : ∀ k : Fin 7, 2 ^ k.val = 2 ^ (1 : Int).toNat → k.val = 1 := by decide
      have e3 : i.toNat = 1 := all ⟨i.toNat, by omega⟩ e2
      have e4 : i = 1 := by have := G.i0; omega
      subst e4
      have ht := turn_len_all (n := (mv.length : Int)) (by omega)
      unfold turnLen at ht
      rw [g1, Option.bind_some, hl, Option.bind_some] at ht
      obtain ⟨v, hv, hlen⟩ := Option.bind_eq_some_iff.mp ht
      rw [cond_true, hv, Option.bind_some, hlen, Option.bind_some, guard_pos (by omega), decide_eq_true rfl]; rfl
theorem tail_ok (script : List Int) {i o : Int} {mv : List MT} (G : Good i o mv) (h7 : mv.length ≤ 7) : ((m__law_cell script (1 : Int)).bind fun r_239 =>
  guardO (0 ≤ ((mv).length : Int) ∧ ((mv).length : Int) ≤ 1000000) <|
  guardO (0 < ((1 : Int) * 2 ^ (((mv).length : Int)).toNat)) <|
  letO ((1 : Int) + (r_239 % ((1 : Int) * 2 ^ (((mv).length : Int)).toNat))) fun most_243 =>
  (m__law_gathering mv i most_243).bind fun r_245 =>
  (m__law_told ⟨i, o, mv⟩ most_243).bind fun r_247 =>
  (pdIx r_245 (0 : Int)).bind fun v_249 =>
  guardO (SeqAt.shaped v_249 = true) <|
  guardO (SeqAt.shaped (DE.str.enc ("course" : Str)) = true) <|
  bif PyData.eqv v_249 (DE.str.enc ("course" : Str)) then (
  guardO (SeqAt.shaped r_247 = true) <|
  guardO (SeqAt.shaped r_245 = true) <|
  some (PyData.eqv r_247 r_245))
  else (
  (pdIx r_245 (0 : Int)).bind fun v_255 =>
  guardO (SeqAt.shaped r_247 = true) <|
  guardO (SeqAt.shaped (PyData.list [v_255, DE.bl.enc true]) = true) <|
  some (PyData.eqv r_247 (PyData.list [v_255, DE.bl.enc true])))) = some true := by
  have hn0 := G.n0
  obtain ⟨a, ha, _⟩ := cell_ok script (k := 1) (by decide)
  have hp : (0 : Int) < 1 * 2 ^ (mv.length : Int).toNat := by
    have : (0 : Int) < 2 ^ (mv.length : Int).toNat := Int.pow_pos (by decide)
    omega
  rw [ha, Option.bind_some, guard_pos (by omega), guard_pos hp, letO_eq]
  generalize (1 : Int) + a % (1 * 2 ^ (mv.length : Int).toNat) = most
  obtain ⟨pr, lr, g1, g2, g3⟩ := gathering_ok (o := o) (most := most) (G.tab h7) hn0.1
  rw [g2, Option.bind_some, told_ok g1 g3, Option.bind_some]
  have sc : SeqAt.shaped (DE.str.enc ("course" : Str)) = true := by decide +kernel
  have sn : SeqAt.shaped (DE.str.enc ("none" : Str)) = true := by decide +kernel
  have sm : SeqAt.shaped (DE.str.enc ("many" : Str)) = true := by decide +kernel
  have ec : PyData.eqv (DE.str.enc ("course" : Str)) (DE.str.enc ("course" : Str)) = true := by decide +kernel
  have en : PyData.eqv (DE.str.enc ("none" : Str)) (DE.str.enc ("course" : Str)) = false := by decide +kernel
  have em : PyData.eqv (DE.str.enc ("many" : Str)) (DE.str.enc ("course" : Str)) = false := by decide +kernel
  have sN : SeqAt.shaped (PyData.list [DE.str.enc ("none" : Str), DE.bl.enc true]) = true := by decide +kernel
  have eN : PyData.eqv (PyData.list [DE.str.enc ("none" : Str), DE.bl.enc true]) (PyData.list [DE.str.enc ("none" : Str), DE.bl.enc true]) = true := by decide +kernel
  have sM : SeqAt.shaped (PyData.list [DE.str.enc ("many" : Str), DE.bl.enc true]) = true := by decide +kernel
  have eM : PyData.eqv (PyData.list [DE.str.enc ("many" : Str), DE.bl.enc true]) (PyData.list [DE.str.enc ("many" : Str), DE.bl.enc true]) = true := by decide +kernel
  rcases g3 with ⟨c, rfl, rfl⟩ | ⟨k, hk, rfl, rfl⟩ | ⟨k, rfl, rfl⟩
  · have x0 : pdIx (pdCourse c) 0 = some (DE.str.enc ("course" : Str)) := rfl
    have tt : pdTold (.ok (some c)) = pdCourse c := rfl
    rw [x0, Option.bind_some, guard_pos sc, guard_pos sc, ec, cond_true, tt, guard_pos (shaped_course c), guard_pos (shaped_course c), eqv_course]
  · have x0 : pdIx (pdMany k) 0 = some (DE.str.enc ("many" : Str)) := rfl
    have tt : pdTold (.ex ("TooManyStates", [])) = PyData.list [DE.str.enc ("many" : Str), DE.bl.enc true] := rfl
    rw [x0, Option.bind_some, guard_pos sm, guard_pos sc, em, cond_false, Option.bind_some, tt, guard_pos sM, guard_pos sM, eM]
  · have x0 : pdIx (pdNone k) 0 = some (DE.str.enc ("none" : Str)) := rfl
    have tt : pdTold (.ok none) = PyData.list [DE.str.enc ("none" : Str), DE.bl.enc true] := rfl
    rw [x0, Option.bind_some, guard_pos sn, guard_pos sc, en, cond_false, Option.bind_some, tt, guard_pos sN, guard_pos sN, eN]
theorem law_ok (script : List Int) : m_law script = some true := by
  unfold m_law
  obtain ⟨b, hb, b0⟩ := cell_ok script (k := 0) (by decide)
  rw [hb, Option.bind_some, letO_eq, letO_eq]
  obtain ⟨mv0, i, o, mv, G, h7, q0, q1⟩ := pick_ok script b0
  have hn0 := G.n0
  rw [q0, Option.bind_some, q1, Option.bind_some]
  dsimp only
  rw [init_ok G, Option.bind_some]
  obtain ⟨pr, lr, g1, g2, g3⟩ := gathering_ok (o := o) (most := 1000) (G.tab h7) hn0.1
  have hcond := turn_cond G h7 g2
  rw [g2, Option.bind_some, told_ok g1 g3, Option.bind_some]
  have sc : SeqAt.shaped (DE.str.enc ("course" : Str)) = true := by decide +kernel
  have sn : SeqAt.shaped (DE.str.enc ("none" : Str)) = true := by decide +kernel
  have ec : PyData.eqv (DE.str.enc ("course" : Str)) (DE.str.enc ("course" : Str)) = true := by decide +kernel
  have en : PyData.eqv (DE.str.enc ("none" : Str)) (DE.str.enc ("course" : Str)) = false := by decide +kernel
  have sN : SeqAt.shaped (PyData.list [DE.str.enc ("none" : Str), DE.bl.enc true]) = true := by decide +kernel
  have eN : PyData.eqv (PyData.list [DE.str.enc ("none" : Str), DE.bl.enc true]) (PyData.list [DE.str.enc ("none" : Str), DE.bl.enc true]) = true := by decide +kernel
  have kl : kitB "list" "list" = some true := by decide +kernel
  have hmm : decide ((⟨i, o, mv⟩ : S_Machine).moves = mv) = true := decide_eq_true rfl
  have tail := tail_ok script G h7
  rcases g3 with ⟨c, rfl, rfl⟩ | ⟨k, hk, rfl, rfl⟩ | ⟨k, rfl, rfl⟩
  · have x0 : pdIx (pdCourse c) 0 = some (DE.str.enc ("course" : Str)) := rfl
    have x1 : pdIx (pdCourse c) 1 = some ((DE.list (DE.list DE.int)).enc c) := rfl
    have ty : pdTy ((DE.list (DE.list DE.int)).enc c) = some "list" := rfl
    rw [x1] at hcond
    have tt : pdTold (.ok (some c)) = pdCourse c := rfl
    rw [tt, x0, Option.bind_some, guard_pos sc, guard_pos sc, ec, cond_true, x1, Option.bind_some, ty, Option.bind_some, kl, Option.bind_some, Option.bind_some, hmm, Bool.not_true, Bool.or_self, cond_false]
    rw [Option.bind_some, guard_pos sc, guard_pos sc, ec, cond_true, guard_pos (shaped_course c), guard_pos (shaped_course c), eqv_course, Bool.not_true, Option.bind_some, cond_false, Option.bind_some, guard_pos sc, guard_pos sc, ec, Bool.not_true, cond_false, Option.bind_some, Option.bind_some, cond_false, hcond, Option.bind_some, cond_false]
    exact tail
  · exact absurd hk (two_pow7 h7)
  · have x0 : pdIx (pdNone k) 0 = some (DE.str.enc ("none" : Str)) := rfl
    have tt : pdTold (.ok none) = PyData.list [DE.str.enc ("none" : Str), DE.bl.enc true] := rfl
    rw [tt, x0, Option.bind_some, guard_pos sn, guard_pos sc, en, cond_false, Option.bind_some, hmm, Bool.not_true, Bool.or_self, cond_false]
    rw [Option.bind_some, guard_pos sn, guard_pos sc, en, cond_false, Option.bind_some, cond_false, Option.bind_some, guard_pos sn, guard_pos sc, en, Bool.not_false, cond_true, guard_pos sN, guard_pos sN, eN, Bool.not_true, Option.bind_some, Option.bind_some, cond_false, hcond, Option.bind_some, cond_false]
    exact tail
end K44

/-! K44Z -/
namespace K44
open PySem PySem.Spec L2 Ty
def spLaw (K : PySem.W.Frag) : Sp := fun vs H Q _ => ∃ (a : Addr) (ns : List Int), vs = [.ref a] ∧ SqL K H a (ns.map V.int) ∧ ns.length ≤ 63 ∧ ∀ H2, Q (.bl true) H2
section
variable {P : Program} {w : World} {K : PySem.W.Frag} {mg : Str → Option Value} {base : Heap}
theorem ok_top (T : Txt K mg) : FnOk P w K mg base CX0 6 T.f_law T.d_law ["script"] (spLaw K) := (ok_law T).imp fun vs H Q E ⟨a, ns, ev, hS, hl, hq⟩ => by
  subst ev
  refine ⟨ns, true, H, law_ok ns, fun _ _ h => h, ?_, fun v F2 H2 fp W2 p2 => ?_⟩
  · exact Slots.cons (fp := []) ⟨rfl, _, rfl, a, rfl, hS⟩ .nil
  · rw [(val_P p2).2]; exact hq H2
end
theorem all_mk {l : PySem.W.OpenLaw} {w : World} {K : PySem.W.Frag} {h : Heap} {mg : Str → Option Value} {fa : Addr} (X : K.In h) (G : h.Ns mainGlobals mg) (hfa : mg "law" = some (.ref fa))
    {f1 : Addr}
    {od1 an1 : Option Addr}
    {sl1 : Array (Option Value)}
    {oc1 kV1 dc1 pm1 cd1 ct1 : Value}
    {f2 : Addr}
    {od2 an2 : Option Addr}
    {sl2 : Array (Option Value)}
    {oc2 kV2 dc2 pm2 cd2 ct2 : Value}
    {f3 : Addr}
    {od3 an3 : Option Addr}
    {sl3 : Array (Option Value)}
    {oc3 kV3 dc3 pm3 cd3 ct3 : Value}
    {f4 : Addr}
    {od4 an4 : Option Addr}
    {sl4 : Array (Option Value)}
    {oc4 kV4 dc4 pm4 cd4 ct4 : Value}
    {f5 : Addr}
    {od5 an5 : Option Addr}
    {sl5 : Array (Option Value)}
    {oc5 kV5 dc5 pm5 cd5 ct5 : Value}
    {f6 : Addr}
    {od6 an6 : Option Addr}
    {sl6 : Array (Option Value)}
    {oc6 kV6 dc6 pm6 cd6 ct6 : Value}
    {f7 : Addr}
    {od7 an7 : Option Addr}
    {sl7 : Array (Option Value)}
    {oc7 kV7 dc7 pm7 cd7 ct7 : Value}
    {f8 : Addr}
    {od8 an8 : Option Addr}
    {sl8 : Array (Option Value)}
    {oc8 kV8 dc8 pm8 cd8 ct8 : Value}
    {f9 : Addr}
    {od9 an9 : Option Addr}
    {sl9 : Array (Option Value)}
    {oc9 kV9 dc9 pm9 cd9 ct9 : Value}
    {f10 : Addr}
    {od10 an10 : Option Addr}
    {sl10 : Array (Option Value)}
    {oc10 kV10 dc10 pm10 cd10 ct10 : Value}
    {f11 : Addr}
    {od11 an11 : Option Addr}
    {sl11 : Array (Option Value)}
    {oc11 kV11 dc11 pm11 cd11 ct11 : Value}
    {f12 : Addr}
    {od12 an12 : Option Addr}
    {sl12 : Array (Option Value)}
    {oc12 kV12 dc12 pm12 cd12 ct12 : Value}
    {f13 : Addr}
    {od13 an13 : Option Addr}
    {sl13 : Array (Option Value)}
    {oc13 kV13 dc13 pm13 cd13 ct13 : Value}
    {f14 : Addr}
    {od14 an14 : Option Addr}
    {sl14 : Array (Option Value)}
    {oc14 kV14 dc14 pm14 cd14 ct14 : Value}
    {f15 : Addr}
    {od15 an15 : Option Addr}
    {sl15 : Array (Option Value)}
    {oc15 kV15 dc15 pm15 cd15 ct15 : Value}
    {CVisits : Addr}
    {CMachine : Addr}
    {CEvergateError : Addr}
    {CTooManyStates : Addr}
    {tMOST_INPUTS : Tok}
    {tMOST_OUTPUTS : Tok}
    {tMOST_STATES : Tok}
    (aCVisits : PySem.W.nsIn K mainGlobals "Visits" = some (some (.ref CVisits)))
    (aCMachine : PySem.W.nsIn K mainGlobals "Machine" = some (some (.ref CMachine)))
    (aCEvergateError : PySem.W.nsIn K mainGlobals "EvergateError" = some (some (.ref CEvergateError)))
    (aCTooManyStates : PySem.W.nsIn K mainGlobals "TooManyStates" = some (some (.ref CTooManyStates)))
    (a1 : PySem.W.nsIn K mainGlobals "_law_cell" = some (some (.ref f1)))
    (l1 : K.lookup f1 = some ⟨oc1, od1, .func (PySem.W.fnOf "_law_cell" "_law_cell" (defArgs s__law_cell) (defBody s__law_cell) (defScope s__law_cell) .none kV1 dc1 pm1 an1 cd1 ct1), sl1⟩)
    (c1 : PySem.W.codeIn K cd1 "_law_cell" = true)
    (k1 : PySem.W.keepIn K (.ref f1) = true)
    (a2 : PySem.W.nsIn K mainGlobals "_law_moves" = some (some (.ref f2)))
    (l2 : K.lookup f2 = some ⟨oc2, od2, .func (PySem.W.fnOf "_law_moves" "_law_moves" (defArgs s__law_moves) (defBody s__law_moves) (defScope s__law_moves) .none kV2 dc2 pm2 an2 cd2 ct2), sl2⟩)
    (c2 : PySem.W.codeIn K cd2 "_law_moves" = true)
    (k2 : PySem.W.keepIn K (.ref f2) = true)
    (a3 : PySem.W.nsIn K mainGlobals "is_move" = some (some (.ref f3)))
    (l3 : K.lookup f3 = some ⟨oc3, od3, .func (PySem.W.fnOf "is_move" "is_move" (defArgs s_is_move) (defBody s_is_move) (defScope s_is_move) .none kV3 dc3 pm3 an3 cd3 ct3), sl3⟩)
    (c3 : PySem.W.codeIn K cd3 "is_move" = true)
    (k3 : PySem.W.keepIn K (.ref f3) = true)
    (a4 : PySem.W.findIn K (.ref CMachine) "__init__" = some (some (.ref f4)))
    (l4 : K.lookup f4 = some ⟨oc4, od4, .func (PySem.W.fnOf "__init__" "Machine.__init__" (defArgs s_Machine_init) (defBody s_Machine_init) (defScope s_Machine_init) .none kV4 dc4 pm4 an4 cd4 ct4), sl4⟩)
    (c4 : PySem.W.codeIn K cd4 "Machine.__init__" = true)
    (k4 : PySem.W.keepIn K (.ref f4) = true)
    (i4 : PySem.W.isFn K (.ref f4) = true)
    (a5 : PySem.W.nsIn K mainGlobals "_law_row" = some (some (.ref f5)))
    (l5 : K.lookup f5 = some ⟨oc5, od5, .func (PySem.W.fnOf "_law_row" "_law_row" (defArgs s__law_row) (defBody s__law_row) (defScope s__law_row) .none kV5 dc5 pm5 an5 cd5 ct5), sl5⟩)
    (c5 : PySem.W.codeIn K cd5 "_law_row" = true)
    (k5 : PySem.W.keepIn K (.ref f5) = true)
    (a6 : PySem.W.nsIn K mainGlobals "_law_gathering" = some (some (.ref f6)))
    (l6 : K.lookup f6 = some ⟨oc6, od6, .func (PySem.W.fnOf "_law_gathering" "_law_gathering" (defArgs s__law_gathering) (defBody s__law_gathering) (defScope s__law_gathering) .none kV6 dc6 pm6 an6 cd6 ct6), sl6⟩)
    (c6 : PySem.W.codeIn K cd6 "_law_gathering" = true)
    (k6 : PySem.W.keepIn K (.ref f6) = true)
    (a7 : PySem.W.findIn K (.ref CVisits) "__init__" = some (some (.ref f7)))
    (l7 : K.lookup f7 = some ⟨oc7, od7, .func (PySem.W.fnOf "__init__" "Visits.__init__" (defArgs s_Visits_init) (defBody s_Visits_init) (defScope s_Visits_init) .none kV7 dc7 pm7 an7 cd7 ct7), sl7⟩)
    (c7 : PySem.W.codeIn K cd7 "Visits.__init__" = true)
    (k7 : PySem.W.keepIn K (.ref f7) = true)
    (i7 : PySem.W.isFn K (.ref f7) = true)
    (a8 : PySem.W.findIn K (.ref CVisits) "meet" = some (some (.ref f8)))
    (l8 : K.lookup f8 = some ⟨oc8, od8, .func (PySem.W.fnOf "meet" "Visits.meet" (defArgs s_Visits_meet) (defBody s_Visits_meet) (defScope s_Visits_meet) .none kV8 dc8 pm8 an8 cd8 ct8), sl8⟩)
    (c8 : PySem.W.codeIn K cd8 "Visits.meet" = true)
    (k8 : PySem.W.keepIn K (.ref f8) = true)
    (i8 : PySem.W.isFn K (.ref f8) = true)
    (a9 : PySem.W.nsIn K mainGlobals "row_of" = some (some (.ref f9)))
    (l9 : K.lookup f9 = some ⟨oc9, od9, .func (PySem.W.fnOf "row_of" "row_of" (defArgs s_row_of) (defBody s_row_of) (defScope s_row_of) .none kV9 dc9 pm9 an9 cd9 ct9), sl9⟩)
    (c9 : PySem.W.codeIn K cd9 "row_of" = true)
    (k9 : PySem.W.keepIn K (.ref f9) = true)
    (a10 : PySem.W.nsIn K mainGlobals "course_to" = some (some (.ref f10)))
    (l10 : K.lookup f10 = some ⟨oc10, od10, .func (PySem.W.fnOf "course_to" "course_to" (defArgs s_course_to) (defBody s_course_to) (defScope s_course_to) .none kV10 dc10 pm10 an10 cd10 ct10), sl10⟩)
    (c10 : PySem.W.codeIn K cd10 "course_to" = true)
    (k10 : PySem.W.keepIn K (.ref f10) = true)
    (a11 : PySem.W.findIn K (.ref CVisits) "course" = some (some (.ref f11)))
    (l11 : K.lookup f11 = some ⟨oc11, od11, .func (PySem.W.fnOf "course" "Visits.course" (defArgs s_Visits_course) (defBody s_Visits_course) (defScope s_Visits_course) .none kV11 dc11 pm11 an11 cd11 ct11), sl11⟩)
    (c11 : PySem.W.codeIn K cd11 "Visits.course" = true)
    (k11 : PySem.W.keepIn K (.ref f11) = true)
    (i11 : PySem.W.isFn K (.ref f11) = true)
    (a12 : PySem.W.nsIn K mainGlobals "gathering_course" = some (some (.ref f12)))
    (l12 : K.lookup f12 = some ⟨oc12, od12, .func (PySem.W.fnOf "gathering_course" "gathering_course" (defArgs s_gathering_course) (defBody s_gathering_course) (defScope s_gathering_course) .none kV12 dc12 pm12 an12 cd12 ct12), sl12⟩)
    (c12 : PySem.W.codeIn K cd12 "gathering_course" = true)
    (k12 : PySem.W.keepIn K (.ref f12) = true)
    (a13 : PySem.W.nsIn K mainGlobals "_law_told" = some (some (.ref f13)))
    (l13 : K.lookup f13 = some ⟨oc13, od13, .func (PySem.W.fnOf "_law_told" "_law_told" (defArgs s__law_told) (defBody s__law_told) (defScope s__law_told) .none kV13 dc13 pm13 an13 cd13 ct13), sl13⟩)
    (c13 : PySem.W.codeIn K cd13 "_law_told" = true)
    (k13 : PySem.W.keepIn K (.ref f13) = true)
    (a14 : PySem.W.nsIn K mainGlobals "_law_turning" = some (some (.ref f14)))
    (l14 : K.lookup f14 = some ⟨oc14, od14, .func (PySem.W.fnOf "_law_turning" "_law_turning" (defArgs s__law_turning) (defBody s__law_turning) (defScope s__law_turning) .none kV14 dc14 pm14 an14 cd14 ct14), sl14⟩)
    (c14 : PySem.W.codeIn K cd14 "_law_turning" = true)
    (k14 : PySem.W.keepIn K (.ref f14) = true)
    (a15 : PySem.W.nsIn K mainGlobals "law" = some (some (.ref f15)))
    (l15 : K.lookup f15 = some ⟨oc15, od15, .func (PySem.W.fnOf "law" "law" (defArgs s_law) (defBody s_law) (defScope s_law) .none kV15 dc15 pm15 an15 cd15 ct15), sl15⟩)
    (c15 : PySem.W.codeIn K cd15 "law" = true)
    (k15 : PySem.W.keepIn K (.ref f15) = true)
    (pgVisits : PySem.W.plainGet K CVisits Str.empty = true)
    (hdVisits : PySem.W.hasDictIn K CVisits = true)
    (poVisits : PySem.W.plainOver K CVisits = true)
    (saVisits : PySem.W.findIn K (.ref CVisits) "__setattr__" = some (some (.builtin "object.__setattr__")))
    (mkVisits : PySem.W.makesIn K CVisits = true)
    (kcVisits : PySem.W.keepIn K (.ref CVisits) = true)
    (nVisits_met : PySem.W.findIn K (.ref CVisits) "met" = some none)
    (nVisits_known : PySem.W.findIn K (.ref CVisits) "known" = some none)
    (nVisits_origins : PySem.W.findIn K (.ref CVisits) "origins" = some none)
    (nVisits_count : PySem.W.findIn K (.ref CVisits) "count" = some none)
    (nVisits_at : PySem.W.findIn K (.ref CVisits) "at" = some none)
    (pgMachine : PySem.W.plainGet K CMachine Str.empty = true)
    (hdMachine : PySem.W.hasDictIn K CMachine = true)
    (poMachine : PySem.W.plainOver K CMachine = true)
    (saMachine : PySem.W.findIn K (.ref CMachine) "__setattr__" = some (some (.builtin "object.__setattr__")))
    (mkMachine : PySem.W.makesIn K CMachine = true)
    (kcMachine : PySem.W.keepIn K (.ref CMachine) = true)
    (nMachine_input_count : PySem.W.findIn K (.ref CMachine) "input_count" = some none)
    (nMachine_output_count : PySem.W.findIn K (.ref CMachine) "output_count" = some none)
    (nMachine_moves : PySem.W.findIn K (.ref CMachine) "moves" = some none)
    (xqTooManyStates : PySem.W.excIn K CTooManyStates [.type "ValueError", .type "Exception", .type "BaseException", .type "object"] "ValueError.__new__" = true)
    (xkTooManyStates : PySem.W.keepIn K (.ref CTooManyStates) = true)
    (xsTooManyStates : PySem.W.subIn K (.ref CTooManyStates) (.type "BaseException") = some true)
    (xtTooManyStates : PySem.W.typeIn K (.ref CTooManyStates) = some (.type "type"))
    (ehgTooManyStates : PySem.W.findIn K (.ref CTooManyStates) "__getattribute__" = some (some (.builtin "BaseException.__getattribute__")))
    (ehkTooManyStates : PySem.W.findIn K (.ref CTooManyStates) "__getattr__" = some none)
    (ehsTooManyStates : PySem.W.subIn K (.ref CTooManyStates) (.type "BaseException") = some true)
    (ehdTooManyStates : PySem.W.hasDictIn K CTooManyStates = true)
    (ehaTooManyStates : PySem.W.findIn K (.ref CTooManyStates) "__class__" = some (some (.builtin "object.__class__")))
    (ehnTooManyStates : PySem.W.specialIn K (.builtin "object.__class__") "__get__" = some (some (.builtin "getset_descriptor.__get__")))
    (ehtTooManyStates : PySem.W.takesIn K (.builtin "object.__class__") = some true)
    (ehmTooManyStates : PySem.W.mroIn K CTooManyStates (.type "object") = some true)
    (ybTooManyStates_TooManyStates : PySem.W.subIn K (.ref CTooManyStates) (.type "BaseException") = some true)
    (yiTooManyStates_TooManyStates : PySem.W.isClsIn K CTooManyStates = true)
    (ytTooManyStates_TooManyStates : PySem.W.typeIn K (.ref CTooManyStates) = some (.type "type"))
    (ysTooManyStates_TooManyStates : PySem.W.subIn K (.ref CTooManyStates) (.ref CTooManyStates) = some true)
    (znTooManyStates_EvergateError : (Value.ref CTooManyStates == Value.ref CEvergateError) = false)
    (ziTooManyStates_EvergateError : PySem.W.isClsIn K CEvergateError = true)
    (ztTooManyStates_EvergateError : PySem.W.typeIn K (.ref CEvergateError) = some (.type "type"))
    (zsTooManyStates_EvergateError : PySem.W.subIn K (.ref CTooManyStates) (.ref CEvergateError) = some true)
    (z_enumerate : PySem.W.nsIn K mainGlobals "enumerate" = some none)
    (z_int : PySem.W.nsIn K mainGlobals "int" = some none)
    (z_isinstance : PySem.W.nsIn K mainGlobals "isinstance" = some none)
    (z_len : PySem.W.nsIn K mainGlobals "len" = some none)
    (z_list : PySem.W.nsIn K mainGlobals "list" = some none)
    (z_max : PySem.W.nsIn K mainGlobals "max" = some none)
    (z_min : PySem.W.nsIn K mainGlobals "min" = some none)
    (z_range : PySem.W.nsIn K mainGlobals "range" = some none)
    (z_reversed : PySem.W.nsIn K mainGlobals "reversed" = some none)
    (z_set : PySem.W.nsIn K mainGlobals "set" = some none)
    (z_sorted : PySem.W.nsIn K mainGlobals "sorted" = some none)
    (z_tuple : PySem.W.nsIn K mainGlobals "tuple" = some none)
    (z_MOST_INPUTS : PySem.W.nsIn K mainGlobals "MOST_INPUTS" = some (some (.int 6 tMOST_INPUTS)))
    (z_MOST_OUTPUTS : PySem.W.nsIn K mainGlobals "MOST_OUTPUTS" = some (some (.int 32 tMOST_OUTPUTS)))
    (z_MOST_STATES : PySem.W.nsIn K mainGlobals "MOST_STATES" = some (some (.int 1000 tMOST_STATES)))
    : ∃ fd : FuncData, (∀ (s : Shared) (v : Value), BindsTo s fd ⟨[v], []⟩ [("script", v)]) ∧ ∀ base : Heap, K.In base → base.Ns mainGlobals mg → FnOk l.prog w K mg base CX0 6 fa fd ["script"] (spLaw K) := by
  have e := hfa.symm.trans (PySem.W.mg_of X G a15)
  cases e
  refine ⟨PySem.W.fnOf "law" "law" (defArgs s_law) (defBody s_law) (defScope s_law) .none kV15 dc15 pm15 an15 cd15 ct15, fun s v => .of_eq rfl, fun base _ _ => ?_⟩
  have T : { T : Txt K mg // T.f_law = fa ∧ T.d_law = PySem.W.fnOf "law" "law" (defArgs s_law) (defBody s_law) (defScope s_law) .none kV15 dc15 pm15 an15 cd15 ct15 } := ⟨{
    f__law_cell := f1
    d__law_cell := _
    F__law_cell := fun_mk (st := s__law_cell) l1 c1 k1
    b__law_cell := (fun_mk (st := s__law_cell) l1 c1 k1).binds (ps := ["script", "k"]) fun _ _ _ _ _ _ us hl => match us, hl with | [_, _], _ => rfl
    g__law_cell := PySem.W.mg_of X G a1
    k__law_cell := k1
    f__law_moves := f2
    d__law_moves := _
    F__law_moves := fun_mk (st := s__law_moves) l2 c2 k2
    b__law_moves := (fun_mk (st := s__law_moves) l2 c2 k2).binds (ps := ["script", "at", "inputs", "outputs", "states"]) fun _ _ _ _ _ _ us hl => match us, hl with | [_, _, _, _, _], _ => rfl
    g__law_moves := PySem.W.mg_of X G a2
    k__law_moves := k2
    f_is_move := f3
    d_is_move := _
    F_is_move := fun_mk (st := s_is_move) l3 c3 k3
    b_is_move := (fun_mk (st := s_is_move) l3 c3 k3).binds (ps := ["move", "state_count", "output_count"]) fun _ _ _ _ _ _ us hl => match us, hl with | [_, _, _], _ => rfl
    g_is_move := PySem.W.mg_of X G a3
    k_is_move := k3
    f_Machine_init := f4
    d_Machine_init := _
    F_Machine_init := fun_mk (st := s_Machine_init) l4 c4 k4
    b_Machine_init := (fun_mk (st := s_Machine_init) l4 c4 k4).binds (ps := ["self", "input_count", "output_count", "moves"]) fun _ _ _ _ _ _ us hl => match us, hl with | [_, _, _, _], _ => rfl
    f__law_row := f5
    d__law_row := _
    F__law_row := fun_mk (st := s__law_row) l5 c5 k5
    b__law_row := (fun_mk (st := s__law_row) l5 c5 k5).binds (ps := ["count", "number"]) fun _ _ _ _ _ _ us hl => match us, hl with | [_, _], _ => rfl
    g__law_row := PySem.W.mg_of X G a5
    k__law_row := k5
    f__law_gathering := f6
    d__law_gathering := _
    F__law_gathering := fun_mk (st := s__law_gathering) l6 c6 k6
    b__law_gathering := (fun_mk (st := s__law_gathering) l6 c6 k6).binds (ps := ["moves", "inputs", "most"]) fun _ _ _ _ _ _ us hl => match us, hl with | [_, _, _], _ => rfl
    g__law_gathering := PySem.W.mg_of X G a6
    k__law_gathering := k6
    f_Visits_init := f7
    d_Visits_init := _
    F_Visits_init := fun_mk (st := s_Visits_init) l7 c7 k7
    b_Visits_init := (fun_mk (st := s_Visits_init) l7 c7 k7).binds (ps := ["self", "start", "count"]) fun _ _ _ _ _ _ us hl => match us, hl with | [_, _, _], _ => rfl
    f_Visits_meet := f8
    d_Visits_meet := _
    F_Visits_meet := fun_mk (st := s_Visits_meet) l8 c8 k8
    b_Visits_meet := (fun_mk (st := s_Visits_meet) l8 c8 k8).binds (ps := ["self", "place", "number"]) fun _ _ _ _ _ _ us hl => match us, hl with | [_, _, _], _ => rfl
    f_row_of := f9
    d_row_of := _
    F_row_of := fun_mk (st := s_row_of) l9 c9 k9
    b_row_of := (fun_mk (st := s_row_of) l9 c9 k9).binds (ps := ["count", "number"]) fun _ _ _ _ _ _ us hl => match us, hl with | [_, _], _ => rfl
    g_row_of := PySem.W.mg_of X G a9
    k_row_of := k9
    f_course_to := f10
    d_course_to := _
    F_course_to := fun_mk (st := s_course_to) l10 c10 k10
    b_course_to := (fun_mk (st := s_course_to) l10 c10 k10).binds (ps := ["origins", "place", "count"]) fun _ _ _ _ _ _ us hl => match us, hl with | [_, _, _], _ => rfl
    g_course_to := PySem.W.mg_of X G a10
    k_course_to := k10
    f_Visits_course := f11
    d_Visits_course := _
    F_Visits_course := fun_mk (st := s_Visits_course) l11 c11 k11
    b_Visits_course := (fun_mk (st := s_Visits_course) l11 c11 k11).binds (ps := ["self", "number"]) fun _ _ _ _ _ _ us hl => match us, hl with | [_, _], _ => rfl
    f_gathering_course := f12
    d_gathering_course := _
    F_gathering_course := fun_mk (st := s_gathering_course) l12 c12 k12
    b_gathering_course := kbinds_of (by decide) fun us ws h1 h2 => match us, ws, h1, h2 with | [_], [_], _, _ => rfl
    g_gathering_course := PySem.W.mg_of X G a12
    k_gathering_course := k12
    f__law_told := f13
    d__law_told := _
    F__law_told := fun_mk (st := s__law_told) l13 c13 k13
    b__law_told := (fun_mk (st := s__law_told) l13 c13 k13).binds (ps := ["machine", "most"]) fun _ _ _ _ _ _ us hl => match us, hl with | [_, _], _ => rfl
    g__law_told := PySem.W.mg_of X G a13
    k__law_told := k13
    f__law_turning := f14
    d__law_turning := _
    F__law_turning := fun_mk (st := s__law_turning) l14 c14 k14
    b__law_turning := (fun_mk (st := s__law_turning) l14 c14 k14).binds (ps := ["count"]) fun _ _ _ _ _ _ us hl => match us, hl with | [_], _ => rfl
    g__law_turning := PySem.W.mg_of X G a14
    k__law_turning := k14
    f_law := fa
    d_law := _
    F_law := fun_mk (st := s_law) l15 c15 k15
    b_law := (fun_mk (st := s_law) l15 c15 k15).binds (ps := ["script"]) fun _ _ _ _ _ _ us hl => match us, hl with | [_], _ => rfl
    g_law := PySem.W.mg_of X G a15
    k_law := k15
    C_Visits := CVisits
    cl_Visits := ⟨pgVisits, hdVisits, poVisits, saVisits⟩
    g_Visits := PySem.W.mg_of X G aCVisits
    at_Visits_met := ⟨⟨pgVisits, hdVisits, poVisits, saVisits⟩, nVisits_met⟩
    at_Visits_known := ⟨⟨pgVisits, hdVisits, poVisits, saVisits⟩, nVisits_known⟩
    at_Visits_origins := ⟨⟨pgVisits, hdVisits, poVisits, saVisits⟩, nVisits_origins⟩
    at_Visits_count := ⟨⟨pgVisits, hdVisits, poVisits, saVisits⟩, nVisits_count⟩
    at_Visits_at := ⟨⟨pgVisits, hdVisits, poVisits, saVisits⟩, nVisits_at⟩
    mk_Visits := ⟨mkVisits, a7, i7, kcVisits⟩
    me_Visits_meet := ⟨a8, i8, k8⟩
    me_Visits_course := ⟨a11, i11, k11⟩
    C_Machine := CMachine
    cl_Machine := ⟨pgMachine, hdMachine, poMachine, saMachine⟩
    g_Machine := PySem.W.mg_of X G aCMachine
    at_Machine_input_count := ⟨⟨pgMachine, hdMachine, poMachine, saMachine⟩, nMachine_input_count⟩
    at_Machine_output_count := ⟨⟨pgMachine, hdMachine, poMachine, saMachine⟩, nMachine_output_count⟩
    at_Machine_moves := ⟨⟨pgMachine, hdMachine, poMachine, saMachine⟩, nMachine_moves⟩
    mk_Machine := ⟨mkMachine, a4, i4, kcMachine⟩
    C_EvergateError := CEvergateError
    g_EvergateError := PySem.W.mg_of X G aCEvergateError
    C_TooManyStates := CTooManyStates
    g_TooManyStates := PySem.W.mg_of X G aCTooManyStates
    xq_TooManyStates := xqTooManyStates
    xk_TooManyStates := xkTooManyStates
    xs_TooManyStates := xsTooManyStates
    xt_TooManyStates := xtTooManyStates
    xe_TooManyStates := ⟨ehgTooManyStates, ehkTooManyStates, ehsTooManyStates, ehdTooManyStates, ehaTooManyStates, ehnTooManyStates, ehtTooManyStates, ehmTooManyStates⟩
    xp_TooManyStates_TooManyStates := exm_mk ybTooManyStates_TooManyStates yiTooManyStates_TooManyStates ytTooManyStates_TooManyStates ysTooManyStates_TooManyStates
    xi_TooManyStates_EvergateError := kit_mk znTooManyStates_EvergateError ziTooManyStates_EvergateError ztTooManyStates_EvergateError zsTooManyStates_EvergateError
    g_enumerate := PySem.W.mg_none_of X G z_enumerate
    g_int := PySem.W.mg_none_of X G z_int
    g_isinstance := PySem.W.mg_none_of X G z_isinstance
    g_len := PySem.W.mg_none_of X G z_len
    g_list := PySem.W.mg_none_of X G z_list
    g_max := PySem.W.mg_none_of X G z_max
    g_min := PySem.W.mg_none_of X G z_min
    g_range := PySem.W.mg_none_of X G z_range
    g_reversed := PySem.W.mg_none_of X G z_reversed
    g_set := PySem.W.mg_none_of X G z_set
    g_sorted := PySem.W.mg_none_of X G z_sorted
    g_tuple := PySem.W.mg_none_of X G z_tuple
    t_MOST_INPUTS := tMOST_INPUTS
    g_MOST_INPUTS := PySem.W.mg_of X G z_MOST_INPUTS
    t_MOST_OUTPUTS := tMOST_OUTPUTS
    g_MOST_OUTPUTS := PySem.W.mg_of X G z_MOST_OUTPUTS
    t_MOST_STATES := tMOST_STATES
    g_MOST_STATES := PySem.W.mg_of X G z_MOST_STATES
  }, rfl, rfl⟩
  obtain ⟨T, e1, e2⟩ := T
  rw [← e1, ← e2]
  exact ok_top T
theorem walk {l : PySem.W.OpenLaw} {q : Program} {loose : List Str} {XP : (Str → Option Value) → Heap → Prop} {YP : World → Heap → Prop} {d : DefRec} {K : Params → PySem.W.Frag} (hn : l.most = some 63) (hdf : d.params.defaults = [])
    (hY : ∀ (w : World) (h : Heap), YP w h → (K w.params).In h)
    (F : ∀ (w : World) (mg : Str → Option Value) (fa : Addr) (h : Heap), (K w.params).In h → h.Ns mainGlobals mg → mg d.name = some (.ref fa) →
      ∃ fd : FuncData, (∀ (s : Shared) (u : Value), BindsTo s fd ⟨[u], []⟩ [("script", u)]) ∧ ∀ base : Heap, (K w.params).In base → base.Ns mainGlobals mg → FnOk l.prog w (K w.params) mg base CX0 6 fa fd ["script"] (spLaw (K w.params))) :
    PySem.W.WalkO q loose XP YP l.row.toRowW d [] (fun f vs => PySem.call f vs) :=
  L2.walk_of (n := 63) (k := 6) (x := "script") (CX := fun _ => CX0) (sp := fun w => spLaw (K w.params)) hn (by decide) hdf ⟨rfl, by decide, by decide⟩ hY F (fun _ _ a ns hl _ hS => ⟨a, ns, rfl, hS, hl, fun _ => rfl⟩) fun _ _ _ _ _ z => z
end K44
open PySem PySem.W PyProof.Rows in
set_option maxRecDepth 100000 in
set_option maxHeartbeats 0 in
theorem PySem.Challenge.cw_evergate_k44_gathering_courses_holds : PySem.Challenge.rw_evergate_k44_gathering_courses.Holds := by
  w_on; o_law; k_head; (case hw => w_witness2)
  k_fill
  refine K44.walk (l := PySem.Challenge.rw_evergate_k44_gathering_courses) rfl rfl (fun w h Y => PySem.W.kIn_of Y) ?F
  case F =>
    intro w mg fa h KX G hmg
    refine' K44.all_mk KX G hmg ?aCVisits ?aCMachine ?aCEvergateError ?aCTooManyStates ?a1 ?l1 ?c1 ?k1 ?a2 ?l2 ?c2 ?k2 ?a3 ?l3 ?c3 ?k3 ?a4 ?l4 ?c4 ?k4 ?i4 ?a5 ?l5 ?c5 ?k5 ?a6 ?l6 ?c6 ?k6 ?a7 ?l7 ?c7 ?k7 ?i7 ?a8 ?l8 ?c8 ?k8 ?i8 ?a9 ?l9 ?c9 ?k9 ?a10 ?l10 ?c10 ?k10 ?a11 ?l11 ?c11 ?k11 ?i11 ?a12 ?l12 ?c12 ?k12 ?a13 ?l13 ?c13 ?k13 ?a14 ?l14 ?c14 ?k14 ?a15 ?l15 ?c15 ?k15 ?pgVisits ?hdVisits ?poVisits ?saVisits ?mkVisits ?kcVisits ?nVisits_met ?nVisits_known ?nVisits_origins ?nVisits_count ?nVisits_at ?pgMachine ?hdMachine ?poMachine ?saMachine ?mkMachine ?kcMachine ?nMachine_input_count ?nMachine_output_count ?nMachine_moves ?xqTooManyStates ?xkTooManyStates ?xsTooManyStates ?xtTooManyStates ?ehgTooManyStates ?ehkTooManyStates ?ehsTooManyStates ?ehdTooManyStates ?ehaTooManyStates ?ehnTooManyStates ?ehtTooManyStates ?ehmTooManyStates ?ybTooManyStates_TooManyStates ?yiTooManyStates_TooManyStates ?ytTooManyStates_TooManyStates ?ysTooManyStates_TooManyStates ?znTooManyStates_EvergateError ?ziTooManyStates_EvergateError ?ztTooManyStates_EvergateError ?zsTooManyStates_EvergateError ?z_enumerate ?z_int ?z_isinstance ?z_len ?z_list ?z_max ?z_min ?z_range ?z_reversed ?z_set ?z_sorted ?z_tuple ?z_MOST_INPUTS ?z_MOST_OUTPUTS ?z_MOST_STATES
    (case aCVisits => k_is)
    (case aCMachine => k_is)
    (case aCEvergateError => k_is)
    (case aCTooManyStates => k_is)
    (case a1 => k_is)
    (case l1 => k_is)
    (case c1 => k_is)
    (case k1 => k_is)
    (case a2 => k_is)
    (case l2 => k_is)
    (case c2 => k_is)
    (case k2 => k_is)
    (case a3 => k_is)
    (case l3 => k_is)
    (case c3 => k_is)
    (case k3 => k_is)
    (case a4 => k_is)
    (case l4 => k_is)
    (case c4 => k_is)
    (case k4 => k_is)
    (case i4 => k_is)
    (case a5 => k_is)
    (case l5 => k_is)
    (case c5 => k_is)
    (case k5 => k_is)
    (case a6 => k_is)
    (case l6 => k_is)
    (case c6 => k_is)
    (case k6 => k_is)
    (case a7 => k_is)
    (case l7 => k_is)
    (case c7 => k_is)
    (case k7 => k_is)
    (case i7 => k_is)
    (case a8 => k_is)
    (case l8 => k_is)
    (case c8 => k_is)
    (case k8 => k_is)
    (case i8 => k_is)
    (case a9 => k_is)
    (case l9 => k_is)
    (case c9 => k_is)
    (case k9 => k_is)
    (case a10 => k_is)
    (case l10 => k_is)
    (case c10 => k_is)
    (case k10 => k_is)
    (case a11 => k_is)
    (case l11 => k_is)
    (case c11 => k_is)
    (case k11 => k_is)
    (case i11 => k_is)
    (case a12 => k_is)
    (case l12 => k_is)
    (case c12 => k_is)
    (case k12 => k_is)
    (case a13 => k_is)
    (case l13 => k_is)
    (case c13 => k_is)
    (case k13 => k_is)
    (case a14 => k_is)
    (case l14 => k_is)
    (case c14 => k_is)
    (case k14 => k_is)
    (case a15 => k_is)
    (case l15 => k_is)
    (case c15 => k_is)
    (case k15 => k_is)
    (case pgVisits => k_is)
    (case hdVisits => k_is)
    (case poVisits => k_is)
    (case saVisits => k_is)
    (case mkVisits => k_is)
    (case kcVisits => k_is)
    (case nVisits_met => k_is)
    (case nVisits_known => k_is)
    (case nVisits_origins => k_is)
    (case nVisits_count => k_is)
    (case nVisits_at => k_is)
    (case pgMachine => k_is)
    (case hdMachine => k_is)
    (case poMachine => k_is)
    (case saMachine => k_is)
    (case mkMachine => k_is)
    (case kcMachine => k_is)
    (case nMachine_input_count => k_is)
    (case nMachine_output_count => k_is)
    (case nMachine_moves => k_is)
    (case xqTooManyStates => k_exc)
    (case xkTooManyStates => k_is)
    (case xsTooManyStates => k_is)
    (case xtTooManyStates => k_is)
    (case ehgTooManyStates => k_is)
    (case ehkTooManyStates => k_is)
    (case ehsTooManyStates => k_is)
    (case ehdTooManyStates => k_is)
    (case ehaTooManyStates => k_is)
    (case ehnTooManyStates => k_is)
    (case ehtTooManyStates => k_is)
    (case ehmTooManyStates => k_is)
    (case ybTooManyStates_TooManyStates => k_is)
    (case yiTooManyStates_TooManyStates => k_is)
    (case ytTooManyStates_TooManyStates => k_is)
    (case ysTooManyStates_TooManyStates => k_is)
    (case znTooManyStates_EvergateError => rfl)
    (case ziTooManyStates_EvergateError => k_is)
    (case ztTooManyStates_EvergateError => k_is)
    (case zsTooManyStates_EvergateError => k_is)
    (case z_enumerate => k_is)
    (case z_int => k_is)
    (case z_isinstance => k_is)
    (case z_len => k_is)
    (case z_list => k_is)
    (case z_max => k_is)
    (case z_min => k_is)
    (case z_range => k_is)
    (case z_reversed => k_is)
    (case z_set => k_is)
    (case z_sorted => k_is)
    (case z_tuple => k_is)
    (case z_MOST_INPUTS => k_is)
    (case z_MOST_OUTPUTS => k_is)
    (case z_MOST_STATES => k_is)
#print axioms PySem.Challenge.cw_evergate_k44_gathering_courses_holds

