import PyProof.Rows.All
import HandS.ForMost
import HandS.ForExc
import HandS.TupAny
import HandS.Iter
import HandS.Codes
import HandS.StrMore
import PyProof.ListStr
import HandS.EndBits
import PyProof.ReprRoads
import PyProof.Rows.NestShow
import HandS.Style
import Wide.All
import OpenK.AllK
import Wide.FinOn
import KE.KStateDown
import Lean
import HandS.Defaults
import HandS.Head0
import HandS.Head1
import HandS.Head2
import HandS.HeadEnd
import HandS.HeadHook1
import HandS.HeadHook2
import HandS.HeadHook3
import HandS.HeadHook4
import PySem.Challenge.RW_tonguetower_k02_words
set_option Elab.async false
set_option linter.all false
set_option maxRecDepth 100000
namespace TT
open PySem PySem.Spec PyProof.Rows L2
abbrev Fg := PySem.W.Frag
/-- a set of addresses -/
abbrev Fp := Addr → Prop
abbrev St := L2.St

/-- data: mls, mdc are lists and dicts that may be written (owned by one name) -/
inductive D where
  | non | bl (b : Bool) | int (i : Int) | str (x : Str)
  | tup (xs : List D) | lst (xs : List D) | sq (xs : List D) | dct (ks : List Key) (xs : List D)
  | mls (xs : List D) | mdc (ks : List Key) (xs : List D)

def imm : D → Bool
  | .mls _ => false
  | .mdc _ _ => false
  | _ => true

mutual
/-- v stands for d, all of it frozen in R -/
def Rp (K : Fg) (R : Hp) : D → V → Prop
  | .non, v => v = .non
  | .bl b, v => v = .bl b
  | .int i, v => v = .int i
  | .str x, v => v = .str x
  | .tup ds, v => ∃ a vs, v = .ref a ∧ SqT K R a vs ∧ RpL K R ds vs
  | .lst ds, v => ∃ a vs, v = .ref a ∧ R a = some (.lst vs) ∧ RpL K R ds vs
  | .sq ds, v => ∃ a vs, v = .ref a ∧ SqL K R a vs ∧ RpL K R ds vs
  | .dct ks ds, v => ∃ a kvs, v = .ref a ∧ R a = some (.dK kvs) ∧ kvs.map (·.1) = ks ∧ RpL K R ds (kvs.map (·.2))
  | .mls _, _ => False
  | .mdc _ _, _ => False
def RpL (K : Fg) (R : Hp) : List D → List V → Prop
  | [], vs => vs = []
  | d :: ds, vs => ∃ v vs', vs = v :: vs' ∧ Rp K R d v ∧ RpL K R ds vs'
end

mutual
/-- v stands for d; the objects of f are owned, the rest is frozen in R -/
def Ow (K : Fg) (R H : Hp) : D → V → Fp → Prop
  | .mls ds, v, f => ∃ a vs g, v = .ref a ∧ H a = some (.lst vs) ∧ R a = none ∧ OwL K R H ds vs g ∧ ¬ g a ∧ ∀ b, f b ↔ b = a ∨ g b
  | .mdc ks ds, v, f => ∃ a kvs g, v = .ref a ∧ H a = some (.dK kvs) ∧ R a = none ∧ kvs.map (·.1) = ks ∧ OwL K R H ds (kvs.map (·.2)) g ∧ ¬ g a ∧ ∀ b, f b ↔ b = a ∨ g b
  | .non, v, f => Rp K R .non v ∧ ∀ b, ¬ f b
  | .bl x, v, f => Rp K R (.bl x) v ∧ ∀ b, ¬ f b
  | .int x, v, f => Rp K R (.int x) v ∧ ∀ b, ¬ f b
  | .str x, v, f => Rp K R (.str x) v ∧ ∀ b, ¬ f b
  | .tup ds, v, f => Rp K R (.tup ds) v ∧ ∀ b, ¬ f b
  | .lst ds, v, f => Rp K R (.lst ds) v ∧ ∀ b, ¬ f b
  | .sq ds, v, f => Rp K R (.sq ds) v ∧ ∀ b, ¬ f b
  | .dct ks ds, v, f => Rp K R (.dct ks ds) v ∧ ∀ b, ¬ f b
def OwL (K : Fg) (R H : Hp) : List D → List V → Fp → Prop
  | [], vs, f => vs = [] ∧ ∀ b, ¬ f b
  | d :: ds, vs, f => ∃ v vs' f1 f2, vs = v :: vs' ∧ Ow K R H d v f1 ∧ OwL K R H ds vs' f2 ∧ (∀ b, f1 b → ¬ f2 b) ∧ ∀ b, f b ↔ f1 b ∨ f2 b
end

mutual
/-- frozen -/
def fz : D → D
  | .mls ds => .lst (fzL ds)
  | .mdc ks ds => .dct ks (fzL ds)
  | .non => .non
  | .bl b => .bl b
  | .int i => .int i
  | .str x => .str x
  | .tup ds => .tup ds
  | .lst ds => .lst ds
  | .sq ds => .sq ds
  | .dct ks ds => .dct ks ds
def fzL : List D → List D
  | [] => []
  | d :: ds => fz d :: fzL ds
end

section
variable {K : Fg} {R R' H H' : Hp}
theorem sqL_mono (s : Same R R') {a : Addr} {vs : List V} (h : SqL K R a vs) : SqL K R' a vs := s.seq h
theorem sqT_mono (s : Same R R') {a : Addr} {vs : List V} (h : SqT K R a vs) : SqT K R' a vs := by
  rcases h with (h | ⟨o, h⟩) | h
  · exact .inl (.inl (s _ _ h))
  · exact .inl (.inr ⟨o, s _ _ h⟩)
  · exact .inr h
mutual
theorem Rp.mono (s : Same R R') : ∀ {d : D} {v : V}, Rp K R d v → Rp K R' d v
  | .non, _, h => h
  | .bl _, _, h => h
  | .int _, _, h => h
  | .str _, _, h => h
  | .tup ds, v, h => by
    unfold Rp at h ⊢
    obtain ⟨a, vs, e, q, r⟩ := h
    exact ⟨a, vs, e, sqT_mono s q, RpL.mono s r⟩
  | .lst ds, v, h => by
    unfold Rp at h ⊢
    obtain ⟨a, vs, e, q, r⟩ := h
    exact ⟨a, vs, e, s _ _ q, RpL.mono s r⟩
  | .sq ds, v, h => by
    unfold Rp at h ⊢
    obtain ⟨a, vs, e, q, r⟩ := h
    exact ⟨a, vs, e, sqL_mono s q, RpL.mono s r⟩
  | .dct ks ds, v, h => by
    unfold Rp at h ⊢
    obtain ⟨a, kvs, e, q, k, r⟩ := h
    exact ⟨a, kvs, e, s _ _ q, k, RpL.mono s r⟩
  | .mls _, _, h => by unfold Rp at h; exact h.elim
  | .mdc _ _, _, h => by unfold Rp at h; exact h.elim
theorem RpL.mono (s : Same R R') : ∀ {ds : List D} {vs : List V}, RpL K R ds vs → RpL K R' ds vs
  | [], _, h => h
  | d :: ds, vs, h => by
    unfold RpL at h ⊢
    obtain ⟨v, vs', e, r, q⟩ := h
    exact ⟨v, vs', e, Rp.mono s r, RpL.mono s q⟩
end
theorem Ow.of_imm {d : D} {v : V} {f : Fp} (hi : imm d = true) (h : Rp K R d v) (hf : ∀ b, ¬ f b) : Ow K R H d v f := by
  cases d <;> first | (simp [imm] at hi; done) | (unfold Ow; exact ⟨h, hf⟩)
theorem Ow.rp {d : D} {v : V} {f : Fp} (hi : imm d = true) (h : Ow K R H d v f) : Rp K R d v ∧ ∀ b, ¬ f b := by
  cases d <;> first | (simp [imm] at hi; done) | (unfold Ow at h; exact h)
theorem Rp.imm {d : D} {v : V} (h : Rp K R d v) : imm d = true := by
  cases d <;> first | rfl | (unfold Rp at h; exact h.elim)
theorem Rp.ow {d : D} {v : V} (h : Rp K R d v) : Ow K R H d v fun _ => False := Ow.of_imm h.imm h fun _ z => z
mutual
/-- what is owned stands in H, not in R -/
theorem Ow.at : ∀ {d : D} {v : V} {f : Fp}, Ow K R H d v f → ∀ b, f b → (∃ o, H b = some o) ∧ R b = none
  | .mls ds, v, f, h => by
    unfold Ow at h
    obtain ⟨a, vs, g, e, ha, hr, q, ng, hf⟩ := h
    intro b hb
    rcases (hf b).mp hb with rfl | hb
    · exact ⟨⟨_, ha⟩, hr⟩
    · exact OwL.at q b hb
  | .mdc ks ds, v, f, h => by
    unfold Ow at h
    obtain ⟨a, kvs, g, e, ha, hr, k, q, ng, hf⟩ := h
    intro b hb
    rcases (hf b).mp hb with rfl | hb
    · exact ⟨⟨_, ha⟩, hr⟩
    · exact OwL.at q b hb
  | .non, _, _, h => fun b hb => (((Ow.rp rfl h).2 b hb)).elim
  | .bl _, _, _, h => fun b hb => (((Ow.rp rfl h).2 b hb)).elim
  | .int _, _, _, h => fun b hb => (((Ow.rp rfl h).2 b hb)).elim
  | .str _, _, _, h => fun b hb => (((Ow.rp rfl h).2 b hb)).elim
  | .tup _, _, _, h => fun b hb => (((Ow.rp rfl h).2 b hb)).elim
  | .lst _, _, _, h => fun b hb => (((Ow.rp rfl h).2 b hb)).elim
  | .sq _, _, _, h => fun b hb => (((Ow.rp rfl h).2 b hb)).elim
  | .dct _ _, _, _, h => fun b hb => (((Ow.rp rfl h).2 b hb)).elim
theorem OwL.at : ∀ {ds : List D} {vs : List V} {f : Fp}, OwL K R H ds vs f → ∀ b, f b → (∃ o, H b = some o) ∧ R b = none
  | [], _, _, h => by unfold OwL at h; exact fun b hb => (h.2 b hb).elim
  | d :: ds, vs, f, h => by
    unfold OwL at h
    obtain ⟨v, vs', f1, f2, e, h1, h2, dj, hf⟩ := h
    intro b hb
    rcases (hf b).mp hb with hb | hb
    · exact Ow.at h1 b hb
    · exact OwL.at h2 b hb
end
mutual
/-- .. and stays where the owned objects are kept -/
theorem Ow.keep (s : Same R R') : ∀ {d : D} {v : V} {f : Fp}, Ow K R H d v f → (∀ a o, f a → H a = some o → H' a = some o) → (∀ a, f a → R' a = none) → Ow K R' H' d v f
  | .mls ds, v, f, h, k, n => by
    unfold Ow at h ⊢
    obtain ⟨a, vs, g, e, ha, hr, q, ng, hf⟩ := h
    exact ⟨a, vs, g, e, k a _ ((hf a).mpr (.inl rfl)) ha, n a ((hf a).mpr (.inl rfl)), OwL.keep s q (fun b o hb e => k b o ((hf b).mpr (.inr hb)) e) (fun b hb => n b ((hf b).mpr (.inr hb))), ng, hf⟩
  | .mdc ks ds, v, f, h, k, n => by
    unfold Ow at h ⊢
    obtain ⟨a, vs, g, e, ha, hr, kk, q, ng, hf⟩ := h
    exact ⟨a, vs, g, e, k a _ ((hf a).mpr (.inl rfl)) ha, n a ((hf a).mpr (.inl rfl)), kk, OwL.keep s q (fun b o hb e => k b o ((hf b).mpr (.inr hb)) e) (fun b hb => n b ((hf b).mpr (.inr hb))), ng, hf⟩
  | .non, _, _, h, _, _ => let z := Ow.rp rfl h; Ow.of_imm rfl (z.1.mono s) z.2
  | .bl _, _, _, h, _, _ => let z := Ow.rp rfl h; Ow.of_imm rfl (z.1.mono s) z.2
  | .int _, _, _, h, _, _ => let z := Ow.rp rfl h; Ow.of_imm rfl (z.1.mono s) z.2
  | .str _, _, _, h, _, _ => let z := Ow.rp rfl h; Ow.of_imm rfl (z.1.mono s) z.2
  | .tup _, _, _, h, _, _ => let z := Ow.rp rfl h; Ow.of_imm rfl (z.1.mono s) z.2
  | .lst _, _, _, h, _, _ => let z := Ow.rp rfl h; Ow.of_imm rfl (z.1.mono s) z.2
  | .sq _, _, _, h, _, _ => let z := Ow.rp rfl h; Ow.of_imm rfl (z.1.mono s) z.2
  | .dct _ _, _, _, h, _, _ => let z := Ow.rp rfl h; Ow.of_imm rfl (z.1.mono s) z.2
theorem OwL.keep (s : Same R R') : ∀ {ds : List D} {vs : List V} {f : Fp}, OwL K R H ds vs f → (∀ a o, f a → H a = some o → H' a = some o) → (∀ a, f a → R' a = none) → OwL K R' H' ds vs f
  | [], _, _, h, _, _ => h
  | d :: ds, vs, f, h, k, n => by
    unfold OwL at h ⊢
    obtain ⟨v, vs', f1, f2, e, h1, h2, dj, hf⟩ := h
    exact ⟨v, vs', f1, f2, e, Ow.keep s h1 (fun b o hb e => k b o ((hf b).mpr (.inl hb)) e) (fun b hb => n b ((hf b).mpr (.inl hb))),
      OwL.keep s h2 (fun b o hb e => k b o ((hf b).mpr (.inr hb)) e) (fun b hb => n b ((hf b).mpr (.inr hb))), dj, hf⟩
end
mutual
/-- frozen: what was owned is now of R' -/
theorem Ow.fz (s : Same R R') : ∀ {d : D} {v : V} {f : Fp}, Ow K R H d v f → (∀ a o, f a → H a = some o → R' a = some o) → Rp K R' (TT.fz d) v
  | .mls ds, v, f, h, k => by
    unfold Ow at h
    obtain ⟨a, vs, g, e, ha, hr, q, ng, hf⟩ := h
    unfold TT.fz Rp
    exact ⟨a, vs, e, k a _ ((hf a).mpr (.inl rfl)) ha, OwL.fz s q fun b o hb e => k b o ((hf b).mpr (.inr hb)) e⟩
  | .mdc ks ds, v, f, h, k => by
    unfold Ow at h
    obtain ⟨a, kvs, g, e, ha, hr, kk, q, ng, hf⟩ := h
    unfold TT.fz Rp
    exact ⟨a, kvs, e, k a _ ((hf a).mpr (.inl rfl)) ha, kk, OwL.fz s q fun b o hb e => k b o ((hf b).mpr (.inr hb)) e⟩
  | .non, _, _, h, _ => (Ow.rp rfl h).1.mono s
  | .bl _, _, _, h, _ => (Ow.rp rfl h).1.mono s
  | .int _, _, _, h, _ => (Ow.rp rfl h).1.mono s
  | .str _, _, _, h, _ => (Ow.rp rfl h).1.mono s
  | .tup _, _, _, h, _ => by unfold TT.fz; exact (Ow.rp rfl h).1.mono s
  | .lst _, _, _, h, _ => by unfold TT.fz; exact (Ow.rp rfl h).1.mono s
  | .sq _, _, _, h, _ => by unfold TT.fz; exact (Ow.rp rfl h).1.mono s
  | .dct _ _, _, _, h, _ => by unfold TT.fz; exact (Ow.rp rfl h).1.mono s
theorem OwL.fz (s : Same R R') : ∀ {ds : List D} {vs : List V} {f : Fp}, OwL K R H ds vs f → (∀ a o, f a → H a = some o → R' a = some o) → RpL K R' (fzL ds) vs
  | [], _, _, h, _ => by unfold OwL at h; unfold fzL RpL; exact h.1
  | d :: ds, vs, f, h, k => by
    unfold OwL at h
    obtain ⟨v, vs', f1, f2, e, h1, h2, dj, hf⟩ := h
    unfold fzL RpL
    exact ⟨v, vs', e, Ow.fz s h1 fun b o hb e => k b o ((hf b).mpr (.inl hb)) e, OwL.fz s h2 fun b o hb e => k b o ((hf b).mpr (.inr hb)) e⟩
end
theorem fz_imm {d : D} (h : imm d = true) : fz d = d := by
  cases d <;> first | (simp [imm] at h; done) | (unfold fz; rfl)
theorem RpL.imm : ∀ {ds : List D} {vs : List V}, RpL K R ds vs → ds.all TT.imm = true
  | [], _, _ => rfl
  | d :: ds, vs, h => by
    unfold RpL at h
    obtain ⟨v, vs', e, r, q⟩ := h
    rw [List.all_cons, r.imm, RpL.imm q]; rfl
theorem OwL.len : ∀ {ds : List D} {vs : List V} {f : Fp}, OwL K R H ds vs f → vs.length = ds.length
  | [], _, _, h => by unfold OwL at h; rw [h.1]; rfl
  | d :: ds, vs, f, h => by
    unfold OwL at h
    obtain ⟨v, vs', f1, f2, e, h1, h2, dj, hf⟩ := h
    rw [e, List.length_cons, List.length_cons, OwL.len h2]
theorem RpL.len : ∀ {ds : List D} {vs : List V}, RpL K R ds vs → vs.length = ds.length
  | [], _, h => by unfold RpL at h; rw [h]; rfl
  | d :: ds, vs, h => by
    unfold RpL at h
    obtain ⟨v, vs', e, h1, h2⟩ := h
    rw [e, List.length_cons, List.length_cons, RpL.len h2]
theorem RpL.owL : ∀ {ds : List D} {vs : List V}, RpL K R ds vs → OwL K R H ds vs fun _ => False
  | [], _, h => by unfold RpL at h; unfold OwL; exact ⟨h, fun _ z => z⟩
  | d :: ds, vs, h => by
    unfold RpL at h
    obtain ⟨v, vs', e, h1, h2⟩ := h
    unfold OwL
    exact ⟨v, vs', _, _, e, h1.ow, RpL.owL h2, fun _ z _ => z, fun b => ⟨fun z => z.elim, fun z => z.elim (fun z => z) fun z => z⟩⟩
theorem OwL.rpL : ∀ {ds : List D} {vs : List V} {f : Fp}, ds.all TT.imm = true → OwL K R H ds vs f → RpL K R ds vs ∧ ∀ b, ¬ f b
  | [], _, _, _, h => by unfold OwL at h; unfold RpL; exact h
  | d :: ds, vs, f, hi, h => by
    rw [List.all_cons, Bool.and_eq_true] at hi
    unfold OwL at h
    obtain ⟨v, vs', f1, f2, e, h1, h2, dj, hf⟩ := h
    unfold RpL
    obtain ⟨r1, n1⟩ := Ow.rp hi.1 h1
    obtain ⟨r2, n2⟩ := OwL.rpL hi.2 h2
    exact ⟨⟨v, vs', e, r1, r2⟩, fun b hb => ((hf b).mp hb).elim (n1 b) (n2 b)⟩
end

/-! ### slots, worlds -/
/-- a slot: unknown; a value of its own; a parameter that is handed in to be written -/
inductive SV where
  | un | loc (d : D) | par (d : D)
  /-- handed on for a while (p: a parameter's) -/
  | hol (p : Bool)
def SV.isPar : SV → Bool
  | .par _ => true
  | .hol p => p
  | _ => false

def OwS (K : Fg) (R H : Hp) : List SV → St → Fp → Prop
  | [], σ, f => σ = [] ∧ ∀ b, ¬ f b
  | .un :: ρ, σ, f => ∃ o σ', σ = o :: σ' ∧ OwS K R H ρ σ' f
  | .hol _ :: ρ, σ, f => ∃ o σ', σ = o :: σ' ∧ OwS K R H ρ σ' f
  | .loc d :: ρ, σ, f => ∃ v σ' f1 f2, σ = some v :: σ' ∧ Ow K R H d v f1 ∧ OwS K R H ρ σ' f2 ∧ (∀ b, f1 b → ¬ f2 b) ∧ ∀ b, f b ↔ f1 b ∨ f2 b
  | .par d :: ρ, σ, f => ∃ v σ' f1 f2, σ = some v :: σ' ∧ Ow K R H d v f1 ∧ OwS K R H ρ σ' f2 ∧ (∀ b, f1 b → ¬ f2 b) ∧ ∀ b, f b ↔ f1 b ∨ f2 b

structure Wd where
  ρ : List SV
  R : Hp
  H : Hp
  F : Fp

structure Rel (K : Fg) (σ : St) (w : Wd) : Prop where
  sub : Same w.R w.H
  ow : OwS K w.R w.H w.ρ σ w.F

structure Mod (σ : St) (w : Wd) (σ' : St) (w' : Wd) : Prop where
  rr : Same w.R w'.R
  keep : ∀ a o, w.H a = some o → ¬ w.F a → w'.H a = some o
  own : ∀ a, w'.F a → w.F a ∨ w.H a = none
  new : ∀ a, w.R a = none → w'.R a ≠ none → w.H a = none ∨ w.F a
  fx : ∀ (i : Nat) (s : SV), w.ρ[i]? = some s → s.isPar = true → σ'[i]? = σ[i]? ∧ ∃ s', w'.ρ[i]? = some s' ∧ s'.isPar = true
  len : w'.ρ.length = w.ρ.length

section
variable {K : Fg} {R R' H H' : Hp}
theorem OwS.keep (s : Same R R') : ∀ {ρ : List SV} {σ : St} {f : Fp}, OwS K R H ρ σ f → (∀ a o, f a → H a = some o → H' a = some o) → (∀ a, f a → R' a = none) → OwS K R' H' ρ σ f
  | [], _, _, h, _, _ => h
  | .un :: ρ, σ, f, h, k, n => by
    unfold OwS at h ⊢
    obtain ⟨o, σ', e, q⟩ := h
    exact ⟨o, σ', e, OwS.keep s q k n⟩
  | .hol _ :: ρ, σ, f, h, k, n => by
    unfold OwS at h ⊢
    obtain ⟨o, σ', e, q⟩ := h
    exact ⟨o, σ', e, OwS.keep s q k n⟩
  | .loc d :: ρ, σ, f, h, k, n => by
    unfold OwS at h ⊢
    obtain ⟨v, σ', f1, f2, e, h1, h2, dj, hf⟩ := h
    exact ⟨v, σ', f1, f2, e, h1.keep s (fun b o hb e => k b o ((hf b).mpr (.inl hb)) e) (fun b hb => n b ((hf b).mpr (.inl hb))),
      OwS.keep s h2 (fun b o hb e => k b o ((hf b).mpr (.inr hb)) e) (fun b hb => n b ((hf b).mpr (.inr hb))), dj, hf⟩
  | .par d :: ρ, σ, f, h, k, n => by
    unfold OwS at h ⊢
    obtain ⟨v, σ', f1, f2, e, h1, h2, dj, hf⟩ := h
    exact ⟨v, σ', f1, f2, e, h1.keep s (fun b o hb e => k b o ((hf b).mpr (.inl hb)) e) (fun b hb => n b ((hf b).mpr (.inl hb))),
      OwS.keep s h2 (fun b o hb e => k b o ((hf b).mpr (.inr hb)) e) (fun b hb => n b ((hf b).mpr (.inr hb))), dj, hf⟩
theorem OwS.at : ∀ {ρ : List SV} {σ : St} {f : Fp}, OwS K R H ρ σ f → ∀ b, f b → (∃ o, H b = some o) ∧ R b = none
  | [], _, _, h => by unfold OwS at h; exact fun b hb => (h.2 b hb).elim
  | .un :: ρ, σ, f, h => by
    unfold OwS at h
    obtain ⟨o, σ', e, q⟩ := h
    exact OwS.at q
  | .hol _ :: ρ, σ, f, h => by
    unfold OwS at h
    obtain ⟨o, σ', e, q⟩ := h
    exact OwS.at q
  | .loc d :: ρ, σ, f, h => by
    unfold OwS at h
    obtain ⟨v, σ', f1, f2, e, h1, h2, dj, hf⟩ := h
    exact fun b hb => ((hf b).mp hb).elim (h1.at b) (OwS.at h2 b)
  | .par d :: ρ, σ, f, h => by
    unfold OwS at h
    obtain ⟨v, σ', f1, f2, e, h1, h2, dj, hf⟩ := h
    exact fun b hb => ((hf b).mp hb).elim (h1.at b) (OwS.at h2 b)
theorem OwS.len : ∀ {ρ : List SV} {σ : St} {f : Fp}, OwS K R H ρ σ f → σ.length = ρ.length
  | [], _, _, h => by unfold OwS at h; rw [h.1]; rfl
  | .un :: ρ, σ, f, h => by
    unfold OwS at h
    obtain ⟨o, σ', e, q⟩ := h
    rw [e, List.length_cons, List.length_cons, OwS.len q]
  | .hol _ :: ρ, σ, f, h => by
    unfold OwS at h
    obtain ⟨o, σ', e, q⟩ := h
    rw [e, List.length_cons, List.length_cons, OwS.len q]
  | .loc d :: ρ, σ, f, h => by
    unfold OwS at h
    obtain ⟨v, σ', f1, f2, e, h1, h2, dj, hf⟩ := h
    rw [e, List.length_cons, List.length_cons, OwS.len h2]
  | .par d :: ρ, σ, f, h => by
    unfold OwS at h
    obtain ⟨v, σ', f1, f2, e, h1, h2, dj, hf⟩ := h
    rw [e, List.length_cons, List.length_cons, OwS.len h2]

/-- what a slot holds -/
def SV.d? : SV → Option D
  | .un => none
  | .hol _ => none
  | .loc d => some d
  | .par d => some d
/-- the same sort of slot with another content -/
def SV.put : SV → D → SV
  | .un, d => .loc d
  | .hol true, d => .par d
  | .hol false, d => .loc d
  | .loc _, d => .loc d
  | .par _, d => .par d
def slot (ρ : List SV) (i : Nat) : Option D := (ρ[i]?).bind SV.d?

/-- a slot taken out of the row: it, and how to put another thing there -/
theorem OwS.get : ∀ {ρ : List SV} {σ : St} {f : Fp} {i : Nat} {d : D}, OwS K R H ρ σ f → slot ρ i = some d →
    ∃ (v : V) (f1 f2 : Fp), σ[i]? = some (some v) ∧ Ow K R H d v f1 ∧ (∀ b, f1 b → ¬ f2 b) ∧ (∀ b, f b ↔ f1 b ∨ f2 b) ∧
      ∀ (R' H' : Hp) (s : SV) (d' : D) (v' : V) (f' : Fp), s.d? = some d' → Same R R' → (∀ a o, f2 a → H a = some o → H' a = some o) → (∀ a, f2 a → R' a = none) → Ow K R' H' d' v' f' → (∀ b, f' b → ¬ f2 b) →
        OwS K R' H' (ρ.set i s) (σ.set i (some v')) fun b => f' b ∨ f2 b
  | [], _, _, _, _, _, e => by simp [slot] at e
  | .un :: ρ, σ, f, 0, d, h, e => by simp [slot, SV.d?] at e
  | .hol _ :: ρ, σ, f, 0, d, h, e => by simp [slot, SV.d?] at e
  | .un :: ρ, σ, f, i + 1, d, h, e => by
    unfold OwS at h
    obtain ⟨o, σ', e1, q⟩ := h
    obtain ⟨v, f1, f2, g1, g2, g3, g4, g5⟩ := OwS.get (i := i) (d := d) q (by simpa [slot] using e)
    refine ⟨v, f1, f2, by rw [e1]; exact g1, g2, g3, g4, fun R' H' s d' v' f' hs hr hk hn h' dj => ?_⟩
    rw [e1, List.set_cons_succ, List.set_cons_succ]
    unfold OwS
    exact ⟨o, _, rfl, g5 R' H' s d' v' f' hs hr hk hn h' dj⟩
  | .hol _ :: ρ, σ, f, i + 1, d, h, e => by
    unfold OwS at h
    obtain ⟨o, σ', e1, q⟩ := h
    obtain ⟨v, f1, f2, g1, g2, g3, g4, g5⟩ := OwS.get (i := i) (d := d) q (by simpa [slot] using e)
    refine ⟨v, f1, f2, by rw [e1]; exact g1, g2, g3, g4, fun R' H' s d' v' f' hs hr hk hn h' dj => ?_⟩
    rw [e1, List.set_cons_succ, List.set_cons_succ]
    unfold OwS
    exact ⟨o, _, rfl, g5 R' H' s d' v' f' hs hr hk hn h' dj⟩
  | .loc d0 :: ρ, σ, f, 0, d, h, e => by
    unfold OwS at h
    obtain ⟨v, σ', f1, f2, e1, h1, h2, dj, hf⟩ := h
    have ed : d0 = d := by simpa [slot, SV.d?] using e
    subst ed
    refine ⟨v, f1, f2, by rw [e1]; rfl, h1, dj, hf, fun R' H' s d' v' f' hs hr hk hn h' dj' => ?_⟩
    rw [e1, List.set_cons_zero, List.set_cons_zero]
    have h2' := h2.keep hr hk hn
    cases s with
    | un => simp [SV.d?] at hs
    | hol _ => simp [SV.d?] at hs
    | loc x => cases hs; unfold OwS; exact ⟨v', σ', f', f2, rfl, h', h2', dj', fun b => Iff.rfl⟩
    | par x => cases hs; unfold OwS; exact ⟨v', σ', f', f2, rfl, h', h2', dj', fun b => Iff.rfl⟩
  | .par d0 :: ρ, σ, f, 0, d, h, e => by
    unfold OwS at h
    obtain ⟨v, σ', f1, f2, e1, h1, h2, dj, hf⟩ := h
    have ed : d0 = d := by simpa [slot, SV.d?] using e
    subst ed
    refine ⟨v, f1, f2, by rw [e1]; rfl, h1, dj, hf, fun R' H' s d' v' f' hs hr hk hn h' dj' => ?_⟩
    rw [e1, List.set_cons_zero, List.set_cons_zero]
    have h2' := h2.keep hr hk hn
    cases s with
    | un => simp [SV.d?] at hs
    | hol _ => simp [SV.d?] at hs
    | loc x => cases hs; unfold OwS; exact ⟨v', σ', f', f2, rfl, h', h2', dj', fun b => Iff.rfl⟩
    | par x => cases hs; unfold OwS; exact ⟨v', σ', f', f2, rfl, h', h2', dj', fun b => Iff.rfl⟩
  | .loc d0 :: ρ, σ, f, i + 1, d, h, e => by
    unfold OwS at h
    obtain ⟨v0, σ', k1, k2, e1, h1, h2, dj, hf⟩ := h
    obtain ⟨v, f1, f2, g1, g2, g3, g4, g5⟩ := OwS.get (i := i) (d := d) h2 (by simpa [slot] using e)
    refine ⟨v, f1, fun b => k1 b ∨ f2 b, by rw [e1]; exact g1, g2, fun b hb z => z.elim (fun z => dj b z ((g4 b).mpr (.inl hb))) (g3 b hb), fun b => ?_, fun R' H' s d' v' f' hs hr hk hn h' dj' => ?_⟩
    · rw [hf, g4]; constructor
      · rintro (z | z | z)
        · exact .inr (.inl z)
        · exact .inl z
        · exact .inr (.inr z)
      · rintro (z | z | z)
        · exact .inr (.inl z)
        · exact .inl z
        · exact .inr (.inr z)
    · rw [e1, List.set_cons_succ, List.set_cons_succ]
      unfold OwS
      refine ⟨v0, _, k1, fun b => f' b ∨ f2 b, rfl, h1.keep hr (fun a o ha => hk a o (.inl ha)) (fun a ha => hn a (.inl ha)), g5 R' H' s d' v' f' hs hr (fun a o ha => hk a o (.inr ha)) (fun a ha => hn a (.inr ha)) h' (fun b hb z => dj' b hb (.inr z)), fun b hb z => ?_, fun b => ?_⟩
      · exact z.elim (fun z => dj' b z (.inl hb)) fun z => dj b hb ((g4 b).mpr (.inr z))
      · constructor
        · rintro (z | z | z)
          · exact .inr (.inl z)
          · exact .inl z
          · exact .inr (.inr z)
        · rintro (z | z | z)
          · exact .inr (.inl z)
          · exact .inl z
          · exact .inr (.inr z)
  | .par d0 :: ρ, σ, f, i + 1, d, h, e => by
    unfold OwS at h
    obtain ⟨v0, σ', k1, k2, e1, h1, h2, dj, hf⟩ := h
    obtain ⟨v, f1, f2, g1, g2, g3, g4, g5⟩ := OwS.get (i := i) (d := d) h2 (by simpa [slot] using e)
    refine ⟨v, f1, fun b => k1 b ∨ f2 b, by rw [e1]; exact g1, g2, fun b hb z => z.elim (fun z => dj b z ((g4 b).mpr (.inl hb))) (g3 b hb), fun b => ?_, fun R' H' s d' v' f' hs hr hk hn h' dj' => ?_⟩
    · rw [hf, g4]; constructor
      · rintro (z | z | z)
        · exact .inr (.inl z)
        · exact .inl z
        · exact .inr (.inr z)
      · rintro (z | z | z)
        · exact .inr (.inl z)
        · exact .inl z
        · exact .inr (.inr z)
    · rw [e1, List.set_cons_succ, List.set_cons_succ]
      unfold OwS
      refine ⟨v0, _, k1, fun b => f' b ∨ f2 b, rfl, h1.keep hr (fun a o ha => hk a o (.inl ha)) (fun a ha => hn a (.inl ha)), g5 R' H' s d' v' f' hs hr (fun a o ha => hk a o (.inr ha)) (fun a ha => hn a (.inr ha)) h' (fun b hb z => dj' b hb (.inr z)), fun b hb z => ?_, fun b => ?_⟩
      · exact z.elim (fun z => dj' b z (.inl hb)) fun z => dj b hb ((g4 b).mpr (.inr z))
      · constructor
        · rintro (z | z | z)
          · exact .inr (.inl z)
          · exact .inl z
          · exact .inr (.inr z)
        · rintro (z | z | z)
          · exact .inr (.inl z)
          · exact .inl z
          · exact .inr (.inr z)

/-- a slot is set, whatever stood there -/
theorem OwS.put : ∀ {ρ : List SV} {σ : St} {f : Fp} {i : Nat}, OwS K R H ρ σ f → i < ρ.length →
    ∃ f2 : Fp, (∀ b, f2 b → f b) ∧
      ∀ (R' H' : Hp) (s : SV) (d' : D) (v' : V) (f' : Fp), s.d? = some d' → Same R R' → (∀ a o, f2 a → H a = some o → H' a = some o) → (∀ a, f2 a → R' a = none) → Ow K R' H' d' v' f' → (∀ b, f' b → ¬ f2 b) →
        OwS K R' H' (ρ.set i s) (σ.set i (some v')) fun b => f' b ∨ f2 b
  | [], _, _, _, _, e => by simp at e
  | .un :: ρ, σ, f, 0, h, e => by
    unfold OwS at h
    obtain ⟨o, σ', e1, q⟩ := h
    refine ⟨f, fun b hb => hb, fun R' H' s d' v' f' hs hr hk hn h' dj' => ?_⟩
    rw [e1, List.set_cons_zero, List.set_cons_zero]
    have q' := q.keep hr hk hn
    cases s with
    | un => simp [SV.d?] at hs
    | hol _ => simp [SV.d?] at hs
    | loc x => cases hs; unfold OwS; exact ⟨v', σ', f', f, rfl, h', q', dj', fun b => Iff.rfl⟩
    | par x => cases hs; unfold OwS; exact ⟨v', σ', f', f, rfl, h', q', dj', fun b => Iff.rfl⟩
  | .un :: ρ, σ, f, i + 1, h, e => by
    unfold OwS at h
    obtain ⟨o, σ', e1, q⟩ := h
    obtain ⟨f2, g1, g2⟩ := OwS.put (i := i) q (by simpa using e)
    refine ⟨f2, g1, fun R' H' s d' v' f' hs hr hk hn h' dj' => ?_⟩
    rw [e1, List.set_cons_succ, List.set_cons_succ]
    unfold OwS
    exact ⟨o, _, rfl, g2 R' H' s d' v' f' hs hr hk hn h' dj'⟩
  | .hol _ :: ρ, σ, f, 0, h, e => by
    unfold OwS at h
    obtain ⟨o, σ', e1, q⟩ := h
    refine ⟨f, fun b hb => hb, fun R' H' s d' v' f' hs hr hk hn h' dj' => ?_⟩
    rw [e1, List.set_cons_zero, List.set_cons_zero]
    have q' := q.keep hr hk hn
    cases s with
    | un => simp [SV.d?] at hs
    | hol _ => simp [SV.d?] at hs
    | loc x => cases hs; unfold OwS; exact ⟨v', σ', f', f, rfl, h', q', dj', fun b => Iff.rfl⟩
    | par x => cases hs; unfold OwS; exact ⟨v', σ', f', f, rfl, h', q', dj', fun b => Iff.rfl⟩
  | .hol _ :: ρ, σ, f, i + 1, h, e => by
    unfold OwS at h
    obtain ⟨o, σ', e1, q⟩ := h
    obtain ⟨f2, g1, g2⟩ := OwS.put (i := i) q (by simpa using e)
    refine ⟨f2, g1, fun R' H' s d' v' f' hs hr hk hn h' dj' => ?_⟩
    rw [e1, List.set_cons_succ, List.set_cons_succ]
    unfold OwS
    exact ⟨o, _, rfl, g2 R' H' s d' v' f' hs hr hk hn h' dj'⟩
  | .loc d0 :: ρ, σ, f, 0, h, e => by
    obtain ⟨v, f1, f2, g1, g2, g3, g4, g5⟩ := OwS.get (i := 0) (d := d0) h rfl
    exact ⟨f2, fun b hb => (g4 b).mpr (.inr hb), g5⟩
  | .par d0 :: ρ, σ, f, 0, h, e => by
    obtain ⟨v, f1, f2, g1, g2, g3, g4, g5⟩ := OwS.get (i := 0) (d := d0) h rfl
    exact ⟨f2, fun b hb => (g4 b).mpr (.inr hb), g5⟩
  | .loc d0 :: ρ, σ, f, i + 1, h, e => by
    unfold OwS at h
    obtain ⟨v0, σ', k1, k2, e1, h1, h2, dj, hf⟩ := h
    obtain ⟨f2, g1, g2⟩ := OwS.put (i := i) h2 (by simpa using e)
    refine ⟨fun b => k1 b ∨ f2 b, fun b hb => (hf b).mpr (hb.imp (fun z => z) (g1 b)), fun R' H' s d' v' f' hs hr hk hn h' dj' => ?_⟩
    rw [e1, List.set_cons_succ, List.set_cons_succ]
    unfold OwS
    refine ⟨v0, _, k1, fun b => f' b ∨ f2 b, rfl, h1.keep hr (fun a o ha => hk a o (.inl ha)) (fun a ha => hn a (.inl ha)), g2 R' H' s d' v' f' hs hr (fun a o ha => hk a o (.inr ha)) (fun a ha => hn a (.inr ha)) h' (fun b hb z => dj' b hb (.inr z)), fun b hb z => ?_, fun b => ?_⟩
    · exact z.elim (fun z => dj' b z (.inl hb)) fun z => dj b hb (g1 b z)
    · constructor
      · rintro (z | z | z)
        · exact .inr (.inl z)
        · exact .inl z
        · exact .inr (.inr z)
      · rintro (z | z | z)
        · exact .inr (.inl z)
        · exact .inl z
        · exact .inr (.inr z)
  | .par d0 :: ρ, σ, f, i + 1, h, e => by
    unfold OwS at h
    obtain ⟨v0, σ', k1, k2, e1, h1, h2, dj, hf⟩ := h
    obtain ⟨f2, g1, g2⟩ := OwS.put (i := i) h2 (by simpa using e)
    refine ⟨fun b => k1 b ∨ f2 b, fun b hb => (hf b).mpr (hb.imp (fun z => z) (g1 b)), fun R' H' s d' v' f' hs hr hk hn h' dj' => ?_⟩
    rw [e1, List.set_cons_succ, List.set_cons_succ]
    unfold OwS
    refine ⟨v0, _, k1, fun b => f' b ∨ f2 b, rfl, h1.keep hr (fun a o ha => hk a o (.inl ha)) (fun a ha => hn a (.inl ha)), g2 R' H' s d' v' f' hs hr (fun a o ha => hk a o (.inr ha)) (fun a ha => hn a (.inr ha)) h' (fun b hb z => dj' b hb (.inr z)), fun b hb z => ?_, fun b => ?_⟩
    · exact z.elim (fun z => dj' b z (.inl hb)) fun z => dj b hb (g1 b z)
    · constructor
      · rintro (z | z | z)
        · exact .inr (.inl z)
        · exact .inl z
        · exact .inr (.inr z)
      · rintro (z | z | z)
        · exact .inr (.inl z)
        · exact .inl z
        · exact .inr (.inr z)
/-- a slot is forgotten -/
theorem OwS.drop : ∀ {ρ : List SV} {σ : St} {f : Fp} {i : Nat} {o : Option V}, OwS K R H ρ σ f → ∃ f' : Fp, (∀ b, f' b → f b) ∧ OwS K R H (ρ.set i .un) (σ.set i o) f'
  | [], σ, f, i, o, h => by
    unfold OwS at h
    refine ⟨f, fun b hb => hb, ?_⟩
    rw [h.1]
    unfold OwS
    exact ⟨by simp, h.2⟩
  | .un :: ρ, σ, f, 0, o, h => by
    unfold OwS at h
    obtain ⟨o1, σ', e1, q⟩ := h
    refine ⟨f, fun b hb => hb, ?_⟩
    rw [e1, List.set_cons_zero, List.set_cons_zero]
    unfold OwS
    exact ⟨o, σ', rfl, q⟩
  | .un :: ρ, σ, f, i + 1, o, h => by
    unfold OwS at h
    obtain ⟨o1, σ', e1, q⟩ := h
    obtain ⟨f', g1, g2⟩ := OwS.drop (i := i) (o := o) q
    refine ⟨f', g1, ?_⟩
    rw [e1, List.set_cons_succ, List.set_cons_succ]
    unfold OwS
    exact ⟨o1, _, rfl, g2⟩
  | .hol _ :: ρ, σ, f, 0, o, h => by
    unfold OwS at h
    obtain ⟨o1, σ', e1, q⟩ := h
    refine ⟨f, fun b hb => hb, ?_⟩
    rw [e1, List.set_cons_zero, List.set_cons_zero]
    unfold OwS
    exact ⟨o, σ', rfl, q⟩
  | .hol _ :: ρ, σ, f, i + 1, o, h => by
    unfold OwS at h
    obtain ⟨o1, σ', e1, q⟩ := h
    obtain ⟨f', g1, g2⟩ := OwS.drop (i := i) (o := o) q
    refine ⟨f', g1, ?_⟩
    rw [e1, List.set_cons_succ, List.set_cons_succ]
    unfold OwS
    exact ⟨o1, _, rfl, g2⟩
  | .loc d0 :: ρ, σ, f, 0, o, h => by
    unfold OwS at h
    obtain ⟨v0, σ', k1, k2, e1, h1, h2, dj, hf⟩ := h
    refine ⟨k2, fun b hb => (hf b).mpr (.inr hb), ?_⟩
    rw [e1, List.set_cons_zero, List.set_cons_zero]
    unfold OwS
    exact ⟨o, σ', rfl, h2⟩
  | .par d0 :: ρ, σ, f, 0, o, h => by
    unfold OwS at h
    obtain ⟨v0, σ', k1, k2, e1, h1, h2, dj, hf⟩ := h
    refine ⟨k2, fun b hb => (hf b).mpr (.inr hb), ?_⟩
    rw [e1, List.set_cons_zero, List.set_cons_zero]
    unfold OwS
    exact ⟨o, σ', rfl, h2⟩
  | .loc d0 :: ρ, σ, f, i + 1, o, h => by
    unfold OwS at h
    obtain ⟨v0, σ', k1, k2, e1, h1, h2, dj, hf⟩ := h
    obtain ⟨f', g1, g2⟩ := OwS.drop (i := i) (o := o) h2
    refine ⟨fun b => k1 b ∨ f' b, fun b hb => (hf b).mpr (hb.imp (fun z => z) (g1 b)), ?_⟩
    rw [e1, List.set_cons_succ, List.set_cons_succ]
    unfold OwS
    exact ⟨v0, _, k1, f', rfl, h1, g2, fun b hb z => dj b hb (g1 b z), fun b => Iff.rfl⟩
  | .par d0 :: ρ, σ, f, i + 1, o, h => by
    unfold OwS at h
    obtain ⟨v0, σ', k1, k2, e1, h1, h2, dj, hf⟩ := h
    obtain ⟨f', g1, g2⟩ := OwS.drop (i := i) (o := o) h2
    refine ⟨fun b => k1 b ∨ f' b, fun b hb => (hf b).mpr (hb.imp (fun z => z) (g1 b)), ?_⟩
    rw [e1, List.set_cons_succ, List.set_cons_succ]
    unfold OwS
    exact ⟨v0, _, k1, f', rfl, h1, g2, fun b hb z => dj b hb (g1 b z), fun b => Iff.rfl⟩
end

/-! ### results, readings -/
/-- an exception: its class's name, its fields -/
structure Exc where
  cls : Str
  fs : List (Str × D)
inductive Res (α : Type) where
  | ok (a : α) (ρ : List SV)
  | ex (c : Exc) (ρ : List SV)
abbrev M (α : Type) := List SV → Option (Res α)
def mb {α β : Type} (m : M α) (k : α → M β) : M β := fun ρ => match m ρ with
  | some (.ok a ρ') => k a ρ'
  | some (.ex c ρ') => some (.ex c ρ')
  | none => none
def mr {α : Type} (a : α) : M α := fun ρ => some (.ok a ρ)
def mo {α : Type} (o : Option α) : M α := fun ρ => o.map fun a => .ok a ρ
/-- an operand: a value that was reckoned, or a name's slot -/
inductive Opd where
  | val (d : D) | sl (i : Nat)
def rs (ρ : List SV) : Opd → Option D
  | .val d => some d
  | .sl i => slot ρ i

structure Cn where
  K : Fg
  xc : Str → Value
  W : WX

def RpX (C : Cn) (w : Wd) (c : Exc) (cls : Value) (dd : Option Addr) : Prop := cls = C.xc c.cls ∧
  ((dd = none ∧ c.fs = []) ∨ ∃ d fs, dd = some d ∧ w.H d = some (.xd fs) ∧ fs.map (·.1) = c.fs.map (·.1) ∧ RpL C.K w.R (c.fs.map (·.2)) (fs.map (·.2)))

/-- v stands for the operand in w; f: what is owned by it alone -/
def OpOk (K : Fg) (σ : St) (w : Wd) : Opd → V → Fp → Prop
  | .val d, v, f => Ow K w.R w.H d v f ∧ ∀ a, f a → ¬ w.F a
  | .sl i, v, f => σ[i]? = some (some v) ∧ ∀ a, ¬ f a
def Fresh (w : Wd) (f : Fp) : Prop := ∀ a, f a → w.H a = none ∨ w.F a

def AftX (C : Cn) (σ : St) (w : Wd) (c : Exc) (ρ' : List SV) : Prop :=
  ∀ cls dd w', w'.ρ = ρ' → Rel C.K σ w' → Mod σ w σ w' → RpX C w' c cls dd → C.W cls dd σ w'.H
def Aft (C : Cn) (σ : St) (w : Wd) (Q : VK) : Res Opd → Prop
  | .ok p ρ' => ∀ v f w', w'.ρ = ρ' → Rel C.K σ w' → Mod σ w σ w' → OpOk C.K σ w' p v f → Fresh w f → Q v w'.H
  | .ex c ρ' => AftX C σ w c ρ'
def tO (C : Cn) (m : M Opd) : TE := fun σ H Q => ∃ w r, w.H = H ∧ Rel C.K σ w ∧ m w.ρ = some r ∧ Aft C σ w Q r

section
variable {K : Fg} {σ σ1 σ2 : St} {w w1 w2 w3 : Wd}
theorem Mod.refl (h : Rel K σ w) : Mod σ w σ w := ⟨Same.refl _, fun _ _ h _ => h, fun _ h => .inl h, fun a h n => absurd h n, fun i s h p => ⟨rfl, s, h, p⟩, rfl⟩
theorem Mod.trans (a : Mod σ w σ1 w1) (b : Mod σ1 w1 σ2 w2) : Mod σ w σ2 w2 where
  rr := a.rr.trans b.rr
  keep := fun x o h n => by
    have h1 := a.keep x o h n
    exact b.keep x o h1 fun z => (a.own x z).elim n fun q => by rw [h] at q; cases q
  own := fun x z => by
    rcases b.own x z with z | z
    · exact a.own x z
    · cases q : w.H x with
      | none => exact .inr rfl
      | some o =>
        refine .inl (Classical.byContradiction fun n => ?_)
        rw [a.keep x o q n] at z; cases z
  new := fun x h n => by
    by_cases q : w1.R x = none
    · rcases b.new x q n with z | z
      · cases q : w.H x with
        | none => exact .inl rfl
        | some o =>
          refine .inr (Classical.byContradiction fun n => ?_)
          rw [a.keep x o q n] at z; cases z
      · rcases a.own x z with z | z
        · exact .inr z
        · exact .inl z
    · exact a.new x h q
  fx := fun i s h p => by
    obtain ⟨e, s', h', p'⟩ := a.fx i s h p
    obtain ⟨e2, s2, h2, p2⟩ := b.fx i s' h' p'
    exact ⟨e2.trans e, s2, h2, p2⟩
  len := b.len.trans a.len
theorem Rel.fr (h : Rel K σ w) : ∀ a, w.F a → (∃ o, w.H a = some o) ∧ w.R a = none := h.ow.at
/-- an operand stays while the rest goes on -/
theorem OpOk.step {p : Opd} {v : V} {f : Fp} (h : OpOk K σ w p v f) (m : Mod σ w σ w1) : OpOk K σ w1 p v f := by
  cases p with
  | sl i => exact h
  | val d =>
    obtain ⟨h, n⟩ := h
    have at' := h.at
    refine ⟨h.keep m.rr (fun a o hf ho => m.keep a o ho (n a hf)) fun a hf => ?_, fun a hf z => ?_⟩
    · obtain ⟨⟨o, ho⟩, hr⟩ := at' a hf
      refine Classical.byContradiction fun q => ?_
      rcases m.new a hr q with z | z
      · rw [ho] at z; cases z
      · exact n a hf z
    · obtain ⟨⟨o, ho⟩, hr⟩ := at' a hf
      rcases m.own a z with z | z
      · exact n a hf z
      · rw [ho] at z; cases z
/-- what comes later is apart from it -/
theorem OpOk.apart {p : Opd} {v : V} {f g : Fp} (h : OpOk K σ w p v f) (hg : Fresh w g) : ∀ a, f a → ¬ g a := by
  cases p with
  | sl i => exact fun a z => (h.2 a z).elim
  | val d =>
    intro a hf hgf
    obtain ⟨⟨o, ho⟩, hr⟩ := h.1.at a hf
    rcases hg a hgf with z | z
    · rw [ho] at z; cases z
    · exact h.2 a hf z
theorem OpOk.see {p : Opd} {v : V} {f : Fp} {d : D} (h : OpOk K σ w p v f) (r : Rel K σ w) (e : rs w.ρ p = some d) : ∃ f', Ow K w.R w.H d v f' := by
  cases p with
  | val d' => cases e; exact ⟨f, h.1⟩
  | sl i =>
    obtain ⟨v', f1, f2, g1, g2, _⟩ := r.ow.get e
    rw [h.1] at g1
    cases g1
    exact ⟨f1, g2⟩
theorem Fresh.back {f : Fp} (h : Fresh w1 f) (m : Mod σ w σ1 w1) : Fresh w f := fun a ha => by
  rcases h a ha with z | z
  · cases q : w.H a with
    | none => exact .inl rfl
    | some o =>
      refine .inr (Classical.byContradiction fun n => ?_)
      rw [m.keep a o q n] at z; cases z
  · exact (m.own a z).elim .inr .inl

/-- new objects alone -/
structure Ex (w w' : Wd) : Prop where
  ρ : w'.ρ = w.ρ
  F : w'.F = w.F
  rr : Same w.R w'.R
  hh : Same w.H w'.H
  sub : Same w'.R w'.H
  new : ∀ a, w.R a = none → w'.R a ≠ none → w.H a = none
theorem Ex.refl (h : Same w.R w.H) : Ex w w := ⟨rfl, rfl, Same.refl _, Same.refl _, h, fun a h n => absurd h n⟩
theorem Ex.rel (x : Ex w w1) (h : Rel K σ w) : Rel K σ w1 := ⟨x.sub, by
  rw [x.ρ, x.F]
  refine h.ow.keep x.rr (fun a o _ e => x.hh a o e) fun a ha => Classical.byContradiction fun n => ?_
  obtain ⟨⟨o, ho⟩, hr⟩ := h.fr a ha
  have := x.new a hr n
  rw [ho] at this; cases this⟩
theorem Ex.mod (x : Ex w w1) : Mod σ w σ w1 := ⟨x.rr, fun a o h _ => x.hh a o h, fun a h => .inl (by rw [← x.F]; exact h), fun a h n => .inl (x.new a h n), fun i s h p => ⟨rfl, s, by rw [x.ρ]; exact h, p⟩, by rw [x.ρ]⟩
end

section
variable {X : Cx} {C : Cn}
theorem PE.weak {e : Expr} {t t' : TE} (h : PE X e t) (k : ∀ σ H Q, t' σ H Q → t σ H Q) : PE X e t' := ⟨fun pins s σ H Q I q => h.run pins s σ H Q I (k _ _ _ q)⟩
/-- the first part of a row of parts -/
theorem tO_step {α : Type} {oa : M Opd} {k : Opd → M α} {σ : St} {w : Wd} {r : Res α} {Q : VK} (hr : Rel C.K σ w) (hm : mb oa k w.ρ = some r) (hx : ∀ c ρ', r = .ex c ρ' → AftX C σ w c ρ')
    (hk : ∀ p v f w1, Rel C.K σ w1 → Mod σ w σ w1 → OpOk C.K σ w1 p v f → Fresh w f → k p w1.ρ = some r → Q v w1.H) : tO C oa σ w.H Q := by
  unfold mb at hm
  cases e : oa w.ρ with
  | none => rw [e] at hm; cases hm
  | some q =>
    refine ⟨w, q, rfl, hr, e, ?_⟩
    rw [e] at hm
    cases q with
    | ok p ρ1 => exact fun v f w1 e1 r1 m1 o1 f1 => hk p v f w1 r1 m1 o1 f1 (by rw [e1]; exact hm)
    | ex c ρ1 => exact hx c ρ1 (Option.some.inj hm).symm
theorem AftX.step {σ : St} {w w1 : Wd} {c : Exc} {ρ' : List SV} (h : AftX C σ w c ρ') (m : Mod σ w σ w1) : AftX C σ w1 c ρ' :=
  fun cls dd w' e r m' x => h cls dd w' e r (m.trans m') x
end
end TT

set_option Elab.async false
set_option linter.all false
set_option maxRecDepth 100000
namespace TT
open PySem PySem.Spec PyProof.Rows L2
section
variable {X : Cx} {C : Cn} {K : Fg}
/-! ### names, constants -/
def mName (i : Nat) : M Opd := fun ρ => (slot ρ i).map fun _ => .ok (.sl i) ρ
theorem opd_fin {σ : St} {w w1 w2 : Wd} {c : D} {ρ' : List SV} {Q : VK} {v : V} {f : Fp} (h : Aft C σ w Q (.ok (.val c) ρ')) (r1 : Rel C.K σ w1) (m : Mod σ w σ w1) (e : w1.ρ = ρ') (x : Ex w1 w2)
    (o : Ow C.K w2.R w2.H c v f) (fr : ∀ a, f a → w1.H a = none) : Q v w2.H := by
  have r2 := x.rel r1
  refine h v f w2 (x.ρ.trans e) r2 (m.trans x.mod) ⟨o, fun a ha z => ?_⟩ (Fresh.back (fun a ha => .inl (fr a ha)) m)
  rw [x.F] at z
  obtain ⟨⟨o, ho⟩, _⟩ := r1.fr a z
  rw [fr a ha] at ho; cases ho
theorem m_name (i : Nat) {x : Str} {pos : Pos} (hN : X.N[i]? = some x := by rfl) (hv : Vis X.env.scope x := by first | exact Or.inl rfl | exact Or.inr (Or.inl rfl) | exact Or.inr (Or.inr rfl)) (hd : (x == ("__debug__" : Str)) = false := by decide)
    (hcd : (x == ("__classdict__" : Str)) = false := by decide) : PE X (.Name x pos) (tO C (mName i)) := by
  refine PE.weak (pe_var hN hv hd hcd) fun σ H Q ⟨w, r, eH, hr, hm, h⟩ => ?_
  subst eH
  unfold mName at hm
  cases e : slot w.ρ i with
  | none => rw [e] at hm; cases hm
  | some d =>
    rw [e] at hm
    cases hm
    obtain ⟨v, f1, f2, g1, g2, _⟩ := hr.ow.get e
    exact ⟨v, g1, h v (fun _ => False) w rfl hr (Mod.refl hr) ⟨g1, fun _ z => z⟩ fun _ z => z.elim⟩
/-- a value that needs no heap -/
theorem m_const {e : Expr} {v : V} {d : D} (h : PE X e (tC v)) (hd : ∀ R, Rp C.K R d v) : PE X e (tO C (mr (.val d))) := by
  refine PE.weak h fun σ H Q ⟨w, r, eH, hr, hm, h⟩ => ?_
  subst eH
  cases hm
  exact opd_fin h hr (Mod.refl hr) rfl (Ex.refl hr.sub) (hd w.R).ow fun _ z => z.elim
theorem m_int {i j pos} : PE X (.Constant (.int i) j pos) (tO C (mr (.val (.int i)))) := m_const pe_int fun R => by unfold Rp; rfl
theorem m_bl {b j pos} : PE X (.Constant (.bool b) j pos) (tO C (mr (.val (.bl b)))) := m_const pe_bl fun R => by unfold Rp; rfl
theorem m_non {j pos} : PE X (.Constant .none j pos) (tO C (mr (.val .non))) := m_const pe_non fun R => by unfold Rp; rfl
theorem m_str {x j pos} : PE X (.Constant (.str x) j pos) (tO C (mr (.val (.str x)))) := m_const pe_str fun R => by unfold Rp; rfl
theorem m_glob {x : Str} {v : V} {u : Value} {d : D} {pos : Pos} (hd : ∀ R, Rp C.K R d v) (hg : Gl X x) (hm : X.mg x = some u) (r : RelV v u) (hdb : (x == ("__debug__" : Str)) = false := by decide) : PE X (.Name x pos) (tO C (mr (.val d))) :=
  m_const (pe_glob hg hm r hdb) hd

/-! ### operators on two values -/
def Op2S (K : Fg) (r : R2) (g : D → D → Option D) : Prop := ∀ (x y : V) (d e c : D) (w : Wd) (Q : VK) (fx fy : Fp), Same w.R w.H → Ow K w.R w.H d x fx → Ow K w.R w.H e y fy → g d e = some c →
  (∀ v f w', Ex w w' → Ow K w'.R w'.H c v f → (∀ a, f a → w.H a = none) → Q v w'.H) → r x y w.H Q
def op2 (g : D → D → Option D) (p q : Opd) : M Opd := fun ρ => match rs ρ p, rs ρ q with
  | some x, some y => (g x y).map fun c => .ok (.val c) ρ
  | _, _ => none
def mOp2 (g : D → D → Option D) (oa ob : M Opd) : M Opd := mb oa fun p => mb ob fun q => op2 g p q
theorem op2_run {r : R2} {g : D → D → Option D} (hg : Op2S C.K r g) {σ : St} {w w2 : Wd} {z : Res Opd} {Q : VK} {p q : Opd} {x y : V} {f1 f2 : Fp} (h : Aft C σ w Q z) (r2 : Rel C.K σ w2) (m : Mod σ w σ w2) (op : OpOk C.K σ w2 p x f1) (oq : OpOk C.K σ w2 q y f2)
    (e : op2 g p q w2.ρ = some z) : r x y w2.H Q := by
  unfold op2 at e
  cases ep : rs w2.ρ p with
  | none => rw [ep] at e; cases e
  | some d =>
    cases eq : rs w2.ρ q with
    | none => rw [ep, eq] at e; cases e
    | some d' =>
      rw [ep, eq] at e
      cases eg : g d d' with
      | none => simp only [eg] at e; cases e
      | some c =>
        simp only [eg] at e
        cases e
        obtain ⟨k1, o1⟩ := op.see r2 ep
        obtain ⟨k2, o2⟩ := oq.see r2 eq
        exact hg x y d d' c w2 Q k1 k2 r2.sub o1 o2 eg fun v f w' ex o fr => opd_fin h r2 m rfl ex o fr
theorem tO_op2 {r : R2} {g : D → D → Option D} (hg : Op2S C.K r g) {oa ob : M Opd} {σ : St} {H : Hp} {Q : VK} (h : tO C (mOp2 g oa ob) σ H Q) : tOp r (tO C oa) (tO C ob) σ H Q := by
  obtain ⟨w, z, eH, hr, hm, h⟩ := h
  subst eH
  refine tO_step hr hm (fun c ρ' e => by subst e; exact h) fun p v f w1 r1 m1 o1 fr1 e1 => ?_
  refine tO_step r1 e1 (fun c ρ' e => by subst e; exact AftX.step h m1) fun q v' f' w2 r2 m2 o2 fr2 e2 => ?_
  exact op2_run hg h r2 (m1.trans m2) (o1.step m2) o2 e2
theorem m_bin {a b : Expr} {op : Operator} {r : R2} {g : D → D → Option D} {oa ob : M Opd} {pos : Pos} (ho : OpR X (binaryOp op) r) (hg : Op2S C.K r g) (ha : PE X a (tO C oa)) (hb : PE X b (tO C ob)) : PE X (.BinOp a op b pos) (tO C (mOp2 g oa ob)) :=
  PE.weak (pe_op ho ha hb) fun _ _ _ h => tO_op2 hg h
theorem m_cmp {a b : Expr} {op : CmpOp} {r : R2} {g : D → D → Option D} {oa ob : M Opd} {pos : Pos} (ho : OpR X (compareOp op) r) (hg : Op2S C.K r g) (ha : PE X a (tO C oa)) (hb : PE X b (tO C ob)) (hm : behindInMarks op b = false := by first | exact nomark _ | rfl | with_unfolding_all rfl) :
    PE X (.Compare a [op] [b] pos) (tO C (mOp2 g oa ob)) :=
  PE.weak (pe_cmpR ho ha hb hm) fun _ _ _ h => tO_op2 hg h
theorem m_ix {a b : Expr} {r : R2} {g : D → D → Option D} {oa ob : M Opd} {pos : Pos} (ho : IxR X r) (hg : Op2S C.K r g) (ha : PE X a (tO C oa)) (hb : PE X b (tO C ob)) (hs : PlainIx b := by exact fun _ _ => rfl) : PE X (.Subscript a b pos) (tO C (mOp2 g oa ob)) :=
  PE.weak (pe_ix ho ha hb hs) fun _ _ _ h => tO_op2 hg h

/-! ### tests -/
def AftT (C : Cn) (σ : St) (w : Wd) (Q : Bool → Hp → Prop) : Res Bool → Prop
  | .ok b ρ' => ∀ w', w'.ρ = ρ' → Rel C.K σ w' → Mod σ w σ w' → Q b w'.H
  | .ex c ρ' => AftX C σ w c ρ'
def tT (C : Cn) (m : M Bool) : TT := fun σ H Q => ∃ w r, w.H = H ∧ Rel C.K σ w ∧ m w.ρ = some r ∧ AftT C σ w Q r
theorem PT.weak {e : Expr} {t t' : TT} (h : PT X e t) (k : ∀ σ H Q, t' σ H Q → t σ H Q) : PT X e t' := ⟨fun pins s σ H Q I q => h.run pins s σ H Q I (k _ _ _ q)⟩
theorem PW.weak {e : Expr} {t t' : TT} (h : PW X e t) (k : ∀ σ H Q, t' σ H Q → t σ H Q) : PW X e t' := ⟨fun wh pins s σ H Q I q => h.run wh pins s σ H Q I (k _ _ _ q)⟩
/-- the bool that an operand is -/
def isB (p : Opd) : M Bool := fun ρ => match rs ρ p with
  | some (.bl b) => some (.ok b ρ)
  | _ => none
/-- the truth of an operand -/
def truD : D → Option Bool
  | .non => some false
  | .bl b => some b
  | .int i => some (i != 0)
  | .str y => if y.length ≤ sizeLine then some ((y.length : Int) != 0) else none
  | .lst ds => some (!ds.isEmpty)
  | .sq ds => some (!ds.isEmpty)
  | .mls ds => some (!ds.isEmpty)
  | .tup ds => some (!ds.isEmpty)
  | _ => none
def tru (p : Opd) : M Bool := fun ρ => ((rs ρ p).bind truD).map fun b => .ok b ρ
theorem tT_step {oa : M Opd} {k : Opd → M Bool} {σ : St} {w : Wd} {r : Res Bool} {Q : Bool → Hp → Prop} {Q' : VK} (hr : Rel C.K σ w) (hm : mb oa k w.ρ = some r) (h : AftT C σ w Q r)
    (hk : ∀ p v f w1, Rel C.K σ w1 → Mod σ w σ w1 → OpOk C.K σ w1 p v f → Fresh w f → k p w1.ρ = some r → Q' v w1.H) : tO C oa σ w.H Q' :=
  tO_step hr hm (fun c ρ' e => by subst e; exact h) hk
theorem isB_run {σ : St} {w w1 : Wd} {z : Res Bool} {Q : Bool → Hp → Prop} {p : Opd} {v : V} {f : Fp} (h : AftT C σ w Q z) (r1 : Rel C.K σ w1) (m : Mod σ w σ w1) (o : OpOk C.K σ w1 p v f) (e : isB p w1.ρ = some z) : ∃ k, v = .bl k ∧ Q k w1.H := by
  unfold isB at e
  cases ep : rs w1.ρ p with
  | none => rw [ep] at e; cases e
  | some d =>
    rw [ep] at e
    obtain ⟨f', o'⟩ := o.see r1 ep
    cases d <;> first | (cases e; done) | skip
    rename_i b
    cases e
    have hv : v = .bl b := by have := (Ow.rp rfl o').1; unfold Rp at this; exact this
    exact ⟨b, hv, h w1 rfl r1 m⟩
/-- a comparison as a test -/
theorem t_cmp {a b : Expr} {op : CmpOp} {r : R2} {g : D → D → Option D} {oa ob : M Opd} {pos : Pos} (ho : OpR X (compareOp op) r) (hg : Op2S C.K r g) (ha : PE X a (tO C oa)) (hb : PE X b (tO C ob)) (hm : behindInMarks op b = false := by first | exact nomark _ | rfl | with_unfolding_all rfl) :
    PT X (.Compare a [op] [b] pos) (tT C (mb (mOp2 g oa ob) isB)) := by
  refine PT.weak (pt_cmpR ho ha hb hm) fun σ H Q ⟨w, z, eH, hr, hm, h⟩ => ?_
  subst eH
  exact tO_op2 hg (tT_step hr hm h fun p v f w1 r1 m1 o1 _ e1 => isB_run h r1 m1 o1 e1)
/-- an expression that gives a bool, as a test -/
theorem t_val {e : Expr} {oa : M Opd} (h : PE X e (tO C oa)) (he : ∀ whole, isTrue e X.env whole = (do let v ← whole; standAt e.pos; holding [v] (truthy v)) := by intro _; rfl) : PT X e (tT C (mb oa isB)) := by
  refine PT.weak (pt_val h he) fun σ H Q ⟨w, z, eH, hr, hm, h⟩ => ?_
  subst eH
  exact tT_step hr hm h fun p v f w1 r1 m1 o1 _ e1 => isB_run h r1 m1 o1 e1
theorem ow_len {ds : List D} {vs : List V} (h : vs.length = ds.length) : (!vs.isEmpty) = !ds.isEmpty := by
  cases vs <;> cases ds <;> first | rfl | (simp at h)
theorem tru_run {σ : St} {w w1 : Wd} {z : Res Bool} {Q : Bool → Hp → Prop} {p : Opd} {v : V} {f : Fp} (h : AftT C σ w Q z) (r1 : Rel C.K σ w1) (m : Mod σ w σ w1) (o : OpOk C.K σ w1 p v f) (e : tru p w1.ρ = some z) : ∃ k, TruV C.K v w1.H k ∧ Q k w1.H := by
  unfold tru at e
  cases ep : rs w1.ρ p with
  | none => rw [ep] at e; cases e
  | some d =>
    rw [ep] at e
    obtain ⟨f', o'⟩ := o.see r1 ep
    have hs := r1.sub
    have fin : ∀ b, truD d = some b → Q b w1.H := fun b eb => by
      simp only [Option.bind_some, eb] at e
      cases e
      exact h w1 rfl r1 m
    cases d with
    | non =>
      have hv := (Ow.rp rfl o').1; unfold Rp at hv; subst hv
      exact ⟨false, rfl, fin _ rfl⟩
    | bl b =>
      have hv := (Ow.rp rfl o').1; unfold Rp at hv; subst hv
      exact ⟨b, rfl, fin _ rfl⟩
    | int i =>
      have hv := (Ow.rp rfl o').1; unfold Rp at hv; subst hv
      exact ⟨i != 0, rfl, fin _ rfl⟩
    | str y =>
      have hv := (Ow.rp rfl o').1; unfold Rp at hv; subst hv
      by_cases hy : y.length ≤ sizeLine
      · exact ⟨_, ⟨hy, rfl⟩, fin _ (if_pos hy)⟩
      · simp only [Option.bind_some, truD, if_neg hy] at e; cases e
    | lst ds =>
      have hv := (Ow.rp rfl o').1; unfold Rp at hv
      obtain ⟨a, vs, rfl, ha, q⟩ := hv
      exact ⟨_, .inl ⟨vs, SqL.of (hs _ _ ha), (ow_len q.len).symm⟩, fin _ rfl⟩
    | sq ds =>
      have hv := (Ow.rp rfl o').1; unfold Rp at hv
      obtain ⟨a, vs, rfl, ha, q⟩ := hv
      exact ⟨_, .inl ⟨vs, sqL_mono hs ha, (ow_len q.len).symm⟩, fin _ rfl⟩
    | tup ds =>
      have hv := (Ow.rp rfl o').1; unfold Rp at hv
      obtain ⟨a, vs, rfl, ha, q⟩ := hv
      exact ⟨_, .inr (.inl ⟨vs, sqT_mono hs ha, (ow_len q.len).symm⟩), fin _ rfl⟩
    | mls ds =>
      unfold Ow at o'
      obtain ⟨a, vs, g, rfl, ha, _, q, _⟩ := o'
      exact ⟨_, .inl ⟨vs, SqL.of ha, (ow_len q.len).symm⟩, fin _ rfl⟩
    | dct ks ds => cases e
    | mdc ks ds => cases e
/-- any expression as a test -/
theorem t_tru {e : Expr} {oa : M Opd} (hK : C.K = X.K) (h : PE X e (tO C oa)) (he : ∀ whole, isTrue e X.env whole = (do let v ← whole; standAt e.pos; holding [v] (truthy v)) := by intro _; rfl) : PT X e (tT C (mb oa tru)) := by
  refine PT.weak (pt_truth h he) fun σ H Q ⟨w, z, eH, hr, hm, h⟩ => ?_
  subst eH
  rw [← hK]
  exact tT_step hr hm h fun p v f w1 r1 m1 o1 _ e1 => tru_run h r1 m1 o1 e1
def mNot (t : M Bool) : M Bool := mb t fun b => mr (!b)
def mAnd (t u : M Bool) : M Bool := mb t fun b => if b = true then u else mr false
def mOr (t u : M Bool) : M Bool := mb t fun b => if b = true then mr true else u
theorem tT_seq {ta : M Bool} {k : Bool → M Bool} {σ : St} {w : Wd} {r : Res Bool} {Q Q' : Bool → Hp → Prop} (hr : Rel C.K σ w) (hm : mb ta k w.ρ = some r) (h : AftT C σ w Q r)
    (hk : ∀ b w1, Rel C.K σ w1 → Mod σ w σ w1 → k b w1.ρ = some r → Q' b w1.H) : tT C ta σ w.H Q' := by
  unfold mb at hm
  cases e : ta w.ρ with
  | none => rw [e] at hm; cases hm
  | some q =>
    refine ⟨w, q, rfl, hr, e, ?_⟩
    rw [e] at hm
    cases q with
    | ok p ρ1 => exact fun w1 e1 r1 m1 => hk p w1 r1 m1 (by rw [e1]; exact hm)
    | ex c ρ1 => cases hm; exact h
theorem AftT.step {σ : St} {w w1 : Wd} {Q : Bool → Hp → Prop} {r : Res Bool} (h : AftT C σ w Q r) (m : Mod σ w σ w1) : AftT C σ w1 Q r := by
  cases r with
  | ok b ρ' => exact fun w' e r' m' => h w' e r' (m.trans m')
  | ex c ρ' => exact AftX.step h m
theorem t_not {e : Expr} {ta : M Bool} {pos : Pos} (h : PT X e (tT C ta)) : PT X (.UnaryOp .Not e pos) (tT C (mNot ta)) := by
  refine PT.weak (pt_not h) fun σ H Q ⟨w, z, eH, hr, hm, h⟩ => ?_
  subst eH
  refine tT_seq hr hm h fun b w1 r1 m1 e1 => ?_
  cases e1
  exact h w1 rfl r1 m1
theorem t_and1 {a : Expr} {ta : M Bool} {pos : Pos} (h : PT X a (tT C ta)) : PW X (.BoolOp .And [a] pos) (tT C ta) := pw_and1 h
theorem t_or1 {a : Expr} {ta : M Bool} {pos : Pos} (h : PT X a (tT C ta)) : PW X (.BoolOp .Or [a] pos) (tT C ta) := pw_or1 h
theorem t_and {a b : Expr} {rest : List Expr} {ta tb : M Bool} {pos : Pos} (ha : PT X a (tT C ta)) (hb : PW X (.BoolOp .And (b :: rest) pos) (tT C tb)) : PW X (.BoolOp .And (a :: b :: rest) pos) (tT C (mAnd ta tb)) := by
  refine PW.weak (pw_and ha hb) fun σ H Q ⟨w, z, eH, hr, hm, h⟩ => ?_
  subst eH
  refine tT_seq hr hm h fun c w1 r1 m1 e1 => ?_
  cases c with
  | true => rw [if_pos rfl] at e1 ⊢; exact ⟨w1, z, rfl, r1, e1, h.step m1⟩
  | false => rw [if_neg Bool.false_ne_true] at e1 ⊢; cases e1; exact h w1 rfl r1 m1
theorem t_or {a b : Expr} {rest : List Expr} {ta tb : M Bool} {pos : Pos} (ha : PT X a (tT C ta)) (hb : PW X (.BoolOp .Or (b :: rest) pos) (tT C tb)) : PW X (.BoolOp .Or (a :: b :: rest) pos) (tT C (mOr ta tb)) := by
  refine PW.weak (pw_or ha hb) fun σ H Q ⟨w, z, eH, hr, hm, h⟩ => ?_
  subst eH
  refine tT_seq hr hm h fun c w1 r1 m1 e1 => ?_
  cases c with
  | true => rw [if_pos rfl] at e1 ⊢; cases e1; exact h w1 rfl r1 m1
  | false => rw [if_neg Bool.false_ne_true] at e1 ⊢; exact ⟨w1, z, rfl, r1, e1, h.step m1⟩
end
end TT

set_option Elab.async false
set_option linter.all false
set_option maxRecDepth 100000
namespace TT
open PySem PySem.Spec PyProof.Rows L2
section
variable {X : Cx} {C : Cn} {K : Fg} {σ : St} {w w1 w2 : Wd}
/-! ### values and, or, not, if -/
def mAndV (oa ob : M Opd) : M Opd := mb oa fun p => mb (isB p) fun b => if b = true then ob else mr (.val (.bl false))
def mOrV (oa ob : M Opd) : M Opd := mb oa fun p => mb (isB p) fun b => if b = true then mr (.val (.bl true)) else ob
def mNotV (oa : M Opd) : M Opd := mb oa fun p => mb (isB p) fun b => mr (.val (.bl (!b)))
def mIf (t : M Bool) (oa ob : M Opd) : M Opd := mb t fun b => if b = true then oa else ob
theorem isB_get {p : Opd} {v : V} {f : Fp} {z : Res Bool} (r1 : Rel K σ w1) (o : OpOk K σ w1 p v f) (e : isB p w1.ρ = some z) : ∃ k, v = .bl k ∧ z = .ok k w1.ρ := by
  unfold isB at e
  cases ep : rs w1.ρ p with
  | none => rw [ep] at e; cases e
  | some d =>
    rw [ep] at e
    obtain ⟨f', o'⟩ := o.see r1 ep
    cases d <;> first | (cases e; done) | skip
    rename_i b
    cases e
    have hv : v = .bl b := by have := (Ow.rp rfl o').1; unfold Rp at this; exact this
    exact ⟨b, hv, rfl⟩
theorem Aft.step {w w1 : Wd} {Q : VK} {r : Res Opd} (h : Aft C σ w Q r) (m : Mod σ w σ w1) : Aft C σ w1 Q r := by
  cases r with
  | ok p ρ' => exact fun v f w' e r' m' o fr => h v f w' e r' (m.trans m') o (fr.back m)
  | ex c ρ' => exact AftX.step h m
theorem tO_of {m : M Opd} {z : Res Opd} {Q : VK} (r : Rel C.K σ w) (e : m w.ρ = some z) (h : Aft C σ w Q z) : tO C m σ w.H Q := ⟨w, z, rfl, r, e, h⟩
theorem opd_val {c : D} {v : V} {ρ' : List SV} {Q : VK} (h : Aft C σ w Q (.ok (.val c) ρ')) (r1 : Rel C.K σ w1) (m : Mod σ w σ w1) (e : w1.ρ = ρ') (o : Rp C.K w1.R c v) : Q v w1.H :=
  opd_fin h r1 m e (Ex.refl r1.sub) o.ow fun _ z => z.elim
/-- the bool of the operand, then the rest -/
theorem isB_bind {p : Opd} {v : V} {f : Fp} {k : Bool → M Opd} {z : Res Opd} (r1 : Rel K σ w1) (o : OpOk K σ w1 p v f) (e : mb (isB p) k w1.ρ = some z) : ∃ b, v = .bl b ∧ k b w1.ρ = some z := by
  unfold mb at e
  cases ep : isB p w1.ρ with
  | none => rw [ep] at e; cases e
  | some y =>
    obtain ⟨b, hv, rfl⟩ := isB_get r1 o ep
    rw [ep] at e
    exact ⟨b, hv, e⟩
theorem m_one {op : BoolOp} {a : Expr} {oa : M Opd} {pos : Pos} (h : PE X a (tO C oa)) : PE X (.BoolOp op [a] pos) (tO C oa) := pe_one h
theorem m_and {a b : Expr} {rest : List Expr} {oa ob : M Opd} {pos : Pos} (ha : PE X a (tO C oa)) (hb : PE X (.BoolOp .And (b :: rest) pos) (tO C ob)) : PE X (.BoolOp .And (a :: b :: rest) pos) (tO C (mAndV oa ob)) := by
  refine PE.weak (pe_and ha hb) fun σ H Q ⟨w, z, eH, hr, hm, h⟩ => ?_
  subst eH
  refine tO_step hr hm (fun c ρ' e => by subst e; exact h) fun p v f w1 r1 m1 o1 fr1 e1 => ?_
  obtain ⟨b, hv, e2⟩ := isB_bind r1 o1 e1
  refine ⟨b, hv, ?_⟩
  cases b with
  | true => rw [if_pos rfl] at e2 ⊢; exact tO_of r1 e2 (h.step m1)
  | false => rw [if_neg Bool.false_ne_true] at e2 ⊢; cases e2; exact opd_val h r1 m1 rfl (by unfold Rp; rfl)
theorem m_or {a b : Expr} {rest : List Expr} {oa ob : M Opd} {pos : Pos} (ha : PE X a (tO C oa)) (hb : PE X (.BoolOp .Or (b :: rest) pos) (tO C ob)) : PE X (.BoolOp .Or (a :: b :: rest) pos) (tO C (mOrV oa ob)) := by
  refine PE.weak (pe_or ha hb) fun σ H Q ⟨w, z, eH, hr, hm, h⟩ => ?_
  subst eH
  refine tO_step hr hm (fun c ρ' e => by subst e; exact h) fun p v f w1 r1 m1 o1 fr1 e1 => ?_
  obtain ⟨b, hv, e2⟩ := isB_bind r1 o1 e1
  refine ⟨b, hv, ?_⟩
  cases b with
  | false => rw [if_neg Bool.false_ne_true] at e2 ⊢; exact tO_of r1 e2 (h.step m1)
  | true => rw [if_pos rfl] at e2 ⊢; cases e2; exact opd_val h r1 m1 rfl (by unfold Rp; rfl)
theorem m_not {a : Expr} {oa : M Opd} {pos : Pos} (ha : PE X a (tO C oa)) : PE X (.UnaryOp .Not a pos) (tO C (mNotV oa)) := by
  refine PE.weak (pe_not ha) fun σ H Q ⟨w, z, eH, hr, hm, h⟩ => ?_
  subst eH
  refine tO_step hr hm (fun c ρ' e => by subst e; exact h) fun p v f w1 r1 m1 o1 fr1 e1 => ?_
  obtain ⟨b, hv, e2⟩ := isB_bind r1 o1 e1
  cases e2
  exact ⟨b, hv, opd_val h r1 m1 rfl (by unfold Rp; rfl)⟩
theorem m_if {c a b : Expr} {t : M Bool} {oa ob : M Opd} {pos : Pos} (hc : PT X c (tT C t)) (ha : PE X a (tO C oa)) (hb : PE X b (tO C ob)) : PE X (.IfExp c a b pos) (tO C (mIf t oa ob)) := by
  refine PE.weak (pe_ifExp hc ha hb) fun σ H Q ⟨w, z, eH, hr, hm, h⟩ => ?_
  subst eH
  unfold mIf mb at hm
  cases e : t w.ρ with
  | none => rw [e] at hm; cases hm
  | some q =>
    refine ⟨w, q, rfl, hr, e, ?_⟩
    rw [e] at hm
    cases q with
    | ex c ρ1 => cases hm; exact h
    | ok k ρ1 =>
      intro w1 e1 r1 m1
      subst e1
      cases k with
      | true => rw [if_pos rfl]; exact tO_of r1 (by simpa using hm) (h.step m1)
      | false => rw [if_neg Bool.false_ne_true]; exact tO_of r1 (by simpa using hm) (h.step m1)
theorem aft_step {α : Type} {oa : M Opd} {k : Opd → M α} {σ : St} {w : Wd} {r : Res α} {Q : VK} (hm : mb oa k w.ρ = some r) (hx : ∀ c ρ', r = .ex c ρ' → AftX C σ w c ρ')
    (hk : ∀ p v f w1, Rel C.K σ w1 → Mod σ w σ w1 → OpOk C.K σ w1 p v f → Fresh w f → k p w1.ρ = some r → Q v w1.H) : ∃ q, oa w.ρ = some q ∧ Aft C σ w Q q := by
  unfold mb at hm
  cases e : oa w.ρ with
  | none => rw [e] at hm; cases hm
  | some q =>
    refine ⟨q, rfl, ?_⟩
    rw [e] at hm
    cases q with
    | ok p ρ1 => exact fun v f w1 e1 r1 m1 o1 f1 => hk p v f w1 r1 m1 o1 f1 (by rw [e1]; exact hm)
    | ex c ρ1 => exact hx c ρ1 (Option.some.inj hm).symm
/-- a op b op' c -/
def mChain (g g' : D → D → Option D) (oa ob oc : M Opd) : M Opd := mb oa fun p => mb ob fun q => mb (op2 g p q) fun z => mb (isB z) fun k => if k = true then mb oc fun s => op2 g' q s else mr (.val (.bl false))
theorem chain_run {r r' : R2} {g g' : D → D → Option D} (hg : Op2S C.K r g) (hg' : Op2S C.K r' g') {oa ob oc : M Opd} {σ : St} {H : Hp} {Q : VK} (h : tO C (mChain g g' oa ob oc) σ H Q) : tChain r r' (tO C oa) (tO C ob) (tO C oc) σ H Q := by
  obtain ⟨w, z, eH, hr, hm, h⟩ := h
  subst eH
  refine tO_step hr hm (fun c ρ' e => by subst e; exact h) fun p v f w1 r1 m1 o1 fr1 e1 => ?_
  refine tO_step r1 e1 (fun c ρ' e => by subst e; exact AftX.step h m1) fun q v' f' w2 r2 m2 o2 fr2 e2 => ?_
  have h2 : Aft C σ w2 Q z := h.step (m1.trans m2)
  have hk : ∀ y u f3 w3, Rel C.K σ w3 → Mod σ w2 σ w3 → OpOk C.K σ w3 y u f3 → Fresh w2 f3 → mb (isB y) (fun k => if k = true then mb oc fun s => op2 g' q s else mr (.val (.bl false))) w3.ρ = some z →
      ∃ k, u = .bl k ∧ (if k = true then tO C oc σ w3.H fun w' H4 => r' v' w' H4 Q else Q (.bl false) w3.H) := fun y u f3 w3 r3 m3 o3 fr3 e3 => by
    obtain ⟨k, hv, e4⟩ := isB_bind r3 o3 e3
    refine ⟨k, hv, ?_⟩
    cases k with
    | false => rw [if_neg Bool.false_ne_true] at e4 ⊢; cases e4; exact opd_val h2 r3 m3 rfl (by unfold Rp; rfl)
    | true =>
      rw [if_pos rfl] at e4 ⊢
      refine tO_step r3 e4 (fun c ρ' e => by subst e; exact AftX.step h2 m3) fun s u' f4 w4 r4 m4 o4 fr4 e5 => ?_
      exact op2_run hg' h2 r4 (m3.trans m4) ((o2.step m3).step m4) o4 e5
  obtain ⟨y, ey, hy⟩ := aft_step (Q := fun z H3 => ∃ k, z = .bl k ∧ (if k = true then tO C oc σ H3 fun w' H4 => r' v' w' H4 Q else Q (.bl false) H3)) e2 (fun c ρ' e => by subst e; exact h2) hk
  exact op2_run hg hy r2 (Mod.refl r2) (o1.step m2) o2 ey
theorem m_chain {a b c : Expr} {op op' : CmpOp} {r r' : R2} {g g' : D → D → Option D} {oa ob oc : M Opd} {pos : Pos} (ho : OpR X (compareOp op) r) (ho' : OpR X (compareOp op') r') (hg : Op2S C.K r g) (hg' : Op2S C.K r' g')
    (ha : PE X a (tO C oa)) (hb : PE X b (tO C ob)) (hc : PE X c (tO C oc)) (hm : lastMarks [op, op'] [b, c] = false := by with_unfolding_all rfl) : PE X (.Compare a [op, op'] [b, c] pos) (tO C (mChain g g' oa ob oc)) :=
  PE.weak (pe_chain ho ho' ha hb hc hm) fun _ _ _ h => chain_run hg hg' h
theorem t_chain {a b c : Expr} {op op' : CmpOp} {r r' : R2} {g g' : D → D → Option D} {oa ob oc : M Opd} {pos : Pos} (ho : OpR X (compareOp op) r) (ho' : OpR X (compareOp op') r') (hg : Op2S C.K r g) (hg' : Op2S C.K r' g')
    (ha : PE X a (tO C oa)) (hb : PE X b (tO C ob)) (hc : PE X c (tO C oc)) (hm : lastMarks [op, op'] [b, c] = false := by with_unfolding_all rfl) : PT X (.Compare a [op, op'] [b, c] pos) (tT C (mb (mChain g g' oa ob oc) isB)) := by
  refine PT.weak (pt_chain ho ho' ha hb hc hm) fun σ H Q ⟨w, z, eH, hr, hm, h⟩ => ?_
  subst eH
  exact chain_run hg hg' (tT_step hr hm h fun p v f w1 r1 m1 o1 _ e1 => isB_run h r1 m1 o1 e1)

/-! ### a row of operands -/
def OpsOk (K : Fg) (σ : St) (w : Wd) : List Opd → List V → Fp → Prop
  | [], vs, f => vs = [] ∧ ∀ b, ¬ f b
  | p :: ps, vs, f => ∃ v vs' f1 f2, vs = v :: vs' ∧ OpOk K σ w p v f1 ∧ OpsOk K σ w ps vs' f2 ∧ (∀ b, f1 b → ¬ f2 b) ∧ ∀ b, f b ↔ f1 b ∨ f2 b
def AftL (C : Cn) (σ : St) (w : Wd) (Q : List V → Hp → Prop) : Res (List Opd) → Prop
  | .ok ps ρ' => ∀ vs f w', w'.ρ = ρ' → Rel C.K σ w' → Mod σ w σ w' → OpsOk C.K σ w' ps vs f → Fresh w f → Q vs w'.H
  | .ex c ρ' => AftX C σ w c ρ'
def tOL (C : Cn) (m : M (List Opd)) : TA := fun σ H Q => ∃ w r, w.H = H ∧ Rel C.K σ w ∧ m w.ρ = some r ∧ AftL C σ w Q r
def mCons (oa : M Opd) (os : M (List Opd)) : M (List Opd) := mb oa fun p => mb os fun ps => mr (p :: ps)
theorem OpsOk.step : ∀ {ps : List Opd} {vs : List V} {f : Fp}, OpsOk K σ w ps vs f → Mod σ w σ w1 → OpsOk K σ w1 ps vs f
  | [], _, _, h, _ => h
  | p :: ps, vs, f, h, m => by
    unfold OpsOk at h ⊢
    obtain ⟨v, vs', f1, f2, e, h1, h2, dj, hf⟩ := h
    exact ⟨v, vs', f1, f2, e, h1.step m, OpsOk.step h2 m, dj, hf⟩
theorem tOL_step {α : Type} {oa : M (List Opd)} {k : List Opd → M α} {σ : St} {w : Wd} {r : Res α} {Q : List V → Hp → Prop} (hr : Rel C.K σ w) (hm : mb oa k w.ρ = some r) (hx : ∀ c ρ', r = .ex c ρ' → AftX C σ w c ρ')
    (hk : ∀ ps vs f w1, Rel C.K σ w1 → Mod σ w σ w1 → OpsOk C.K σ w1 ps vs f → Fresh w f → k ps w1.ρ = some r → Q vs w1.H) : tOL C oa σ w.H Q := by
  unfold mb at hm
  cases e : oa w.ρ with
  | none => rw [e] at hm; cases hm
  | some q =>
    refine ⟨w, q, rfl, hr, e, ?_⟩
    rw [e] at hm
    cases q with
    | ok p ρ1 => exact fun v f w1 e1 r1 m1 o1 f1 => hk p v f w1 r1 m1 o1 f1 (by rw [e1]; exact hm)
    | ex c ρ1 => exact hx c ρ1 (Option.some.inj hm).symm
theorem a_nil : PA X [] (tOL C (mr [])) := by
  refine ⟨fun pos pins s σ H Q I ⟨w, z, eH, hr, hm, h⟩ => ?_⟩
  subst eH
  cases hm
  exact pa_nil.run pos pins s σ _ Q I (h [] (fun _ => False) w rfl hr (Mod.refl hr) ⟨rfl, fun _ z => z⟩ fun _ z => z.elim)
theorem a_cons {e : Expr} {es : List Expr} {oa : M Opd} {os : M (List Opd)} (ha : PE X e (tO C oa)) (hs : PA X es (tOL C os)) (hst : starEach (e :: es) X.env = (false, eval e X.env) :: starEach es X.env := by rfl) : PA X (e :: es) (tOL C (mCons oa os)) := by
  refine ⟨fun pos pins s σ H Q I ⟨w, z, eH, hr, hm, h⟩ => ?_⟩
  subst eH
  refine (pa_cons ha hs hst).run pos pins s σ _ Q I ?_
  refine tO_step hr hm (fun c ρ' e => by subst e; exact h) fun p v f w1 r1 m1 o1 fr1 e1 => ?_
  refine tOL_step r1 e1 (fun c ρ' e => by subst e; exact AftX.step h m1) fun ps vs f' w2 r2 m2 o2 fr2 e2 => ?_
  cases e2
  exact h (v :: vs) (fun a => f a ∨ f' a) w2 rfl r2 (m1.trans m2) ⟨v, vs, f, f', rfl, o1.step m2, o2, o1.apart fr2, fun b => Iff.rfl⟩ fun a ha => ha.elim (fr1 a) (fr2.back m1 a)

/-! ### calls of built-ins -/
/-- v is to be seen as d -/
def VwL (K : Fg) (w : Wd) : List D → List V → Prop
  | [], vs => vs = []
  | d :: ds, vs => ∃ v vs' f, vs = v :: vs' ∧ Ow K w.R w.H d v f ∧ VwL K w ds vs'
def rsL (ρ : List SV) : List Opd → Option (List D)
  | [] => some []
  | p :: ps => match rs ρ p, rsL ρ ps with
    | some d, some ds => some (d :: ds)
    | _, _ => none
theorem OpsOk.see : ∀ {ps : List Opd} {vs : List V} {f : Fp} {ds : List D}, OpsOk K σ w ps vs f → Rel K σ w → rsL w.ρ ps = some ds → VwL K w ds vs
  | [], _, _, _, h, _, e => by cases e; unfold OpsOk at h; unfold VwL; exact h.1
  | p :: ps, vs, f, ds, h, r, e => by
    unfold OpsOk at h
    obtain ⟨v, vs', f1, f2, e1, h1, h2, dj, hf⟩ := h
    unfold rsL at e
    cases ep : rs w.ρ p with
    | none => rw [ep] at e; cases e
    | some d =>
      cases eq : rsL w.ρ ps with
      | none => rw [ep, eq] at e; cases e
      | some ds' =>
        rw [ep, eq] at e
        cases e
        obtain ⟨f', o⟩ := h1.see r ep
        exact ⟨v, vs', f', e1, o, OpsOk.see h2 r eq⟩
def OpNS (K : Fg) (r : List V → Hp → VK → Prop) (g : List D → Option D) : Prop := ∀ (vs : List V) (ds : List D) (c : D) (w : Wd) (Q : VK), Same w.R w.H → VwL K w ds vs → g ds = some c →
  (∀ v f w', Ex w w' → Ow K w'.R w'.H c v f → (∀ a, f a → w.H a = none) → Q v w'.H) → r vs w.H Q
def opN (g : List D → Option D) (ps : List Opd) : M Opd := fun ρ => ((rsL ρ ps).bind g).map fun c => .ok (.val c) ρ
def mOpN (g : List D → Option D) (os : M (List Opd)) : M Opd := mb os fun ps => opN g ps
theorem opN_run {r : List V → Hp → VK → Prop} {g : List D → Option D} (hg : OpNS C.K r g) {w w2 : Wd} {z : Res Opd} {Q : VK} {ps : List Opd} {vs : List V} {f : Fp} (h : Aft C σ w Q z) (r2 : Rel C.K σ w2) (m : Mod σ w σ w2) (op : OpsOk C.K σ w2 ps vs f)
    (e : opN g ps w2.ρ = some z) : r vs w2.H Q := by
  unfold opN at e
  cases ep : rsL w2.ρ ps with
  | none => rw [ep] at e; cases e
  | some ds =>
    rw [ep] at e
    simp only [Option.bind_some] at e
    cases eg : g ds with
    | none => rw [eg] at e; cases e
    | some c =>
      rw [eg] at e
      cases e
      exact hg vs ds c w2 Q r2.sub (op.see r2 ep) eg fun v f w' ex o fr => opd_fin h r2 m rfl ex o fr
theorem m_callB {x : Str} {e : Expr} {es : List Expr} {p pos : Pos} {id : String} {r : List V → Hp → VK → Prop} {g : List D → Option D} {os : M (List Opd)} (hc : CallR X (.builtin id) r) (hg : OpNS C.K r g) (hgl : Gl X x) (hm : X.mg x = none) (hv : bootBuiltins x = some (.builtin id)) (ha : PA X (e :: es) (tOL C os))
    (hn : x ≠ "__name__" := by decide) (hdb : (x == ("__debug__" : Str)) = false := by decide) (he : starEach (e :: es) X.env = (false, eval e X.env) :: starEach es X.env := by rfl) (hpl : (backTo pos (starEach es X.env)).any (·.1) = false := by rfl) :
    PE X (.Call (.Name x p) (e :: es) [] pos) (tO C (mOpN g os)) := by
  refine PE.weak (pe_callB hc hgl hm hv ha hn hdb he hpl) fun σ H Q ⟨w, z, eH, hr, hm, h⟩ => ?_
  subst eH
  refine tOL_step hr hm (fun c ρ' e => by subst e; exact h) fun ps vs f w1 r1 m1 o1 fr1 e1 => ?_
  exact opN_run hg h r1 m1 o1 e1
theorem m_callTy {x : Str} {e : Expr} {es : List Expr} {p pos : Pos} {T : String} {r : List V → Hp → VK → Prop} {g : List D → Option D} {os : M (List Opd)} (hc : CallR X (.type T) r) (hg : OpNS C.K r g) (hgl : Gl X x) (hm : X.mg x = none) (hv : bootBuiltins x = some (.type T)) (ha : PA X (e :: es) (tOL C os))
    (hn : x ≠ "__name__" := by decide) (hdb : (x == ("__debug__" : Str)) = false := by decide) (he : starEach (e :: es) X.env = (false, eval e X.env) :: starEach es X.env := by rfl) (hpl : (backTo pos (starEach es X.env)).any (·.1) = false := by rfl) :
    PE X (.Call (.Name x p) (e :: es) [] pos) (tO C (mOpN g os)) := by
  refine PE.weak (pe_callTy hc hgl hm hv ha hn hdb he hpl) fun σ H Q ⟨w, z, eH, hr, hm, h⟩ => ?_
  subst eH
  refine tOL_step hr hm (fun c ρ' e => by subst e; exact h) fun ps vs f w1 r1 m1 o1 fr1 e1 => ?_
  exact opN_run hg h r1 m1 o1 e1

/-! ### taking an operand -/
/-- the operand as one's own: a name's list is frozen -/
def mTake : Opd → M D
  | .val d => mr d
  | .sl i => fun ρ => match ρ[i]? with
    | some (.loc d) => some (.ok (fz d) (ρ.set i (.loc (fz d))))
    | some (.par d) => if imm d then some (.ok d ρ) else none
    | _ => none
/-- what is owned by an operand alone is frozen -/
theorem fz_world {f : Fp} (r : Rel K σ w) (at' : ∀ a, f a → (∃ o, w.H a = some o) ∧ w.R a = none) (nf : ∀ a, f a → ¬ w.F a) (hF : Fresh w1 f) (hm : Mod σ w1 σ w) :
    ∃ w', w'.ρ = w.ρ ∧ w'.H = w.H ∧ w'.F = w.F ∧ Rel K σ w' ∧ Mod σ w1 σ w' ∧ Same w.R w'.R ∧ (∀ a o, f a → w.H a = some o → w'.R a = some o) ∧ (∀ a, w'.R a ≠ none → w.R a ≠ none ∨ f a) := by
  classical
  have s1 : Same w.R fun a => if f a then w.H a else w.R a := fun a ob e => by
    show (if f a then w.H a else w.R a) = some ob
    split
    · exact r.sub a ob e
    · exact e
  have nw : ∀ a, (if f a then w.H a else w.R a) ≠ none → w.R a ≠ none ∨ f a := fun a h => by
    by_cases q : f a
    · exact .inr q
    · rw [if_neg q] at h; exact .inl h
  refine ⟨⟨w.ρ, fun a => if f a then w.H a else w.R a, w.H, w.F⟩, rfl, rfl, rfl, ⟨fun a ob e => ?_, ?_⟩, ?_, s1, fun a ob hf e => ?_, nw⟩
  · have e : (if f a then w.H a else w.R a) = some ob := e
    split at e
    · exact e
    · exact r.sub a ob e
  · refine r.ow.keep s1 (fun a ob _ e => e) fun a ha => ?_
    show (if f a then w.H a else w.R a) = none
    rw [if_neg fun z => nf a z ha]
    exact (r.fr a ha).2
  · refine ⟨hm.rr.trans s1, hm.keep, hm.own, fun a h n => ?_, hm.fx, hm.len⟩
    rcases nw a n with z | z
    · exact hm.new a h z
    · exact hF a z
  · show (if f a then w.H a else w.R a) = some ob
    rw [if_pos hf]; exact e
theorem mTake_run {p : Opd} {v : V} {f : Fp} {d : D} {ρ' : List SV} (o : OpOk K σ w p v f) (r : Rel K σ w) (e : mTake p w.ρ = some (.ok d ρ')) :
    ∃ w', w'.ρ = ρ' ∧ w'.H = w.H ∧ Rel K σ w' ∧ Mod σ w σ w' ∧ Ow K w'.R w'.H d v f ∧ ∀ a, f a → ¬ w'.F a := by
  cases p with
  | val d0 => cases e; exact ⟨w, rfl, rfl, r, Mod.refl r, o.1, o.2⟩
  | sl i =>
    unfold mTake at e
    simp only at e
    split at e
    · rename_i d0 hi
      cases e
      have hs : slot w.ρ i = some d0 := by unfold slot; rw [hi]; rfl
      obtain ⟨v', f1, f2, g1, g2, g3, g4, g5⟩ := r.ow.get hs
      have ev : v' = v := by have := o.1; rw [g1] at this; simpa using this
      subst ev
      classical
      have at1 := g2.at
      have s1 : Same w.R fun a => if f1 a then w.H a else w.R a := fun a ob e => by
        show (if f1 a then w.H a else w.R a) = some ob
        split
        · exact r.sub a ob e
        · exact e
      have rp : Rp K (fun a => if f1 a then w.H a else w.R a) (fz d0) v' := g2.fz s1 fun a ob hf e => by
        show (if f1 a then w.H a else w.R a) = some ob
        rw [if_pos hf]; exact e
      have q := g5 (fun a => if f1 a then w.H a else w.R a) w.H (.loc (fz d0)) (fz d0) v' (fun _ => False) rfl s1 (fun a ob _ e => e) (fun a ha => by
        show (if f1 a then w.H a else w.R a) = none
        rw [if_neg fun z => g3 a z ha]
        exact (r.fr a ((g4 a).mpr (.inr ha))).2) rp.ow fun _ z => z.elim
      have eσ : σ.set i (some v') = σ := by
        apply List.ext_getElem?
        intro j
        by_cases hj : i = j
        · subst hj; rw [List.getElem?_set_self (List.getElem?_eq_some_iff.mp g1).1, g1]
        · rw [List.getElem?_set_ne hj]
      rw [eσ] at q
      refine ⟨⟨w.ρ.set i (.loc (fz d0)), fun a => if f1 a then w.H a else w.R a, w.H, fun b => False ∨ f2 b⟩, rfl, rfl, ⟨fun a ob e => ?_, q⟩, ⟨s1, fun a ob h _ => h, fun a z => .inl ((g4 a).mpr (.inr (z.elim (fun z => z.elim) fun z => z))), fun a h n => ?_, fun j s hj hp => ⟨rfl, s, ?_, hp⟩, List.length_set⟩, ?_, fun a z => (o.2 a z).elim⟩
      · have e : (if f1 a then w.H a else w.R a) = some ob := e
        split at e
        · exact e
        · exact r.sub a ob e
      · by_cases z : f1 a
        · exact .inr ((g4 a).mpr (.inl z))
        · have n : (if f1 a then w.H a else w.R a) ≠ none := n
          rw [if_neg z] at n; exact absurd h n
      · show (w.ρ.set i (.loc (fz d0)))[j]? = _
        rw [List.getElem?_set_ne fun z => by subst z; rw [hi] at hj; cases hj; cases hp]
        exact hj
      · exact Ow.of_imm rp.imm rp o.2
    · rename_i d0 hi
      by_cases hd : imm d0 = true
      · rw [if_pos hd] at e
        cases e
        have hs : slot w.ρ i = some d := by unfold slot; rw [hi]; rfl
        obtain ⟨v', f1, f2, g1, g2, g3, g4, g5⟩ := r.ow.get hs
        have ev : v' = v := by have := o.1; rw [g1] at this; simpa using this
        subst ev
        exact ⟨w, rfl, rfl, r, Mod.refl r, Ow.of_imm hd (g2.rp hd).1 o.2, fun a z => (o.2 a z).elim⟩
      · rw [if_neg hd] at e; cases e
    · cases e
end
end TT

set_option Elab.async false
set_option linter.all false
set_option maxRecDepth 100000
namespace TT
open PySem PySem.Spec PyProof.Rows L2
section
variable {X : Cx} {C : Cn} {K : Fg} {σ : St} {w w1 w2 : Wd}
/-! ### displays -/
def mTakeL : List Opd → M (List D)
  | [] => mr []
  | p :: ps => mb (mTake p) fun d => mb (mTakeL ps) fun ds => mr (d :: ds)
theorem mTake_noex : ∀ {p : Opd} {ρ : List SV} {c : Exc} {ρ' : List SV}, mTake p ρ ≠ some (.ex c ρ') := by
  intro p ρ c ρ' h
  cases p with
  | val d => cases h
  | sl i =>
    unfold mTake at h
    simp only at h
    split at h
    · cases h
    · split at h <;> cases h
    · cases h
theorem mTakeL_run : ∀ {ps : List Opd} {vs : List V} {f : Fp} {ds : List D} {ρ' : List SV} {w : Wd}, OpsOk K σ w ps vs f → Rel K σ w → mTakeL ps w.ρ = some (.ok ds ρ') →
    ∃ w', w'.ρ = ρ' ∧ w'.H = w.H ∧ Rel K σ w' ∧ Mod σ w σ w' ∧ OwL K w'.R w'.H ds vs f ∧ ∀ a, f a → ¬ w'.F a
  | [], vs, f, ds, ρ', w, o, r, e => by
    cases e
    unfold OpsOk at o
    exact ⟨w, rfl, rfl, r, Mod.refl r, by unfold OwL; exact o, fun a ha => (o.2 a ha).elim⟩
  | p :: ps, vs, f, ds, ρ', w, o, r, e => by
    unfold OpsOk at o
    obtain ⟨v, vs', f1, f2, ev, h1, h2, dj, hf⟩ := o
    unfold mTakeL mb at e
    cases e1 : mTake p w.ρ with
    | none => rw [e1] at e; cases e
    | some q =>
      cases q with
      | ex c ρ1 => exact (mTake_noex e1).elim
      | ok d ρ1 =>
        rw [e1] at e
        simp only at e
        obtain ⟨w1, hρ, hH, r1, m1, o1, n1⟩ := mTake_run h1 r e1
        subst hρ
        cases e2 : mTakeL ps w1.ρ with
        | none => simp only [mb, e2] at e; cases e
        | some q =>
          cases q with
          | ex c ρ2 => simp only [mb, e2] at e; cases e
          | ok ds' ρ2 =>
            simp only [mb, e2] at e
            cases e
            obtain ⟨w2, hρ2, hH2, r2, m2, o2, n2⟩ := mTakeL_run (h2.step m1) r1 e2
            have q1 : OpOk K σ w2 (.val d) v f1 := OpOk.step (p := .val d) ⟨o1, n1⟩ m2
            refine ⟨w2, hρ2, hH2.trans hH, r2, m1.trans m2, ?_, fun a ha => ((hf a).mp ha).elim (q1.2 a) (n2 a)⟩
            unfold OwL
            exact ⟨v, vs', f1, f2, ev, q1.1, o2, dj, hf⟩
theorem mTakeL_noex : ∀ {ps : List Opd} {ρ : List SV} {c : Exc} {ρ' : List SV}, mTakeL ps ρ ≠ some (.ex c ρ')
  | [], ρ, c, ρ', h => by cases h
  | p :: ps, ρ, c, ρ', h => by
    unfold mTakeL mb at h
    cases e1 : mTake p ρ with
    | none => rw [e1] at h; cases h
    | some q =>
      cases q with
      | ex c ρ1 => exact mTake_noex e1
      | ok d ρ1 =>
        rw [e1] at h
        simp only at h
        cases e2 : mTakeL ps ρ1 with
        | none => simp only [mb, e2] at h; cases h
        | some q =>
          cases q with
          | ex c ρ2 => exact mTakeL_noex e2
          | ok ds' ρ2 => simp only [mb, e2] at h; cases h
/-- the taken row, then the rest -/
theorem takeL_bind {ps : List Opd} {vs : List V} {f : Fp} {k : List D → M Opd} {z : Res Opd} (o : OpsOk K σ w ps vs f) (r : Rel K σ w) (e : mb (mTakeL ps) k w.ρ = some z) :
    ∃ ds w', w'.H = w.H ∧ Rel K σ w' ∧ Mod σ w σ w' ∧ OwL K w'.R w'.H ds vs f ∧ (∀ a, f a → ¬ w'.F a) ∧ k ds w'.ρ = some z := by
  unfold mb at e
  cases e1 : mTakeL ps w.ρ with
  | none => rw [e1] at e; cases e
  | some q =>
    cases q with
    | ex c ρ1 => exact (mTakeL_noex e1).elim
    | ok ds ρ1 =>
      rw [e1] at e
      obtain ⟨w1, hρ, hH, r1, m1, o1, n1⟩ := mTakeL_run o r e1
      subst hρ
      exact ⟨ds, w1, hH, r1, m1, o1, n1, e⟩
def mLst (os : M (List Opd)) : M Opd := mb os fun ps => mb (mTakeL ps) fun ds => if ds.length ≤ sizeLine then mr (.val (.mls ds)) else fun _ => none
def mTup (os : M (List Opd)) : M Opd := mb os fun ps => mb (mTakeL ps) fun ds => if ds.length ≤ sizeLine then mr (.val (.tup (fzL ds))) else fun _ => none
theorem fzL_len : ∀ ds : List D, (fzL ds).length = ds.length
  | [] => rfl
  | d :: ds => by unfold fzL; rw [List.length_cons, List.length_cons, fzL_len ds]
/-- a new list of owned things -/
theorem new_mls {ds : List D} {vs : List V} {f : Fp} {ρ' : List SV} {Q : VK} {w0 : Wd} (h : Aft C σ w0 Q (.ok (.val (.mls ds)) ρ')) (r : Rel C.K σ w) (m : Mod σ w0 σ w) (e : w.ρ = ρ') (o : OwL C.K w.R w.H ds vs f) (n : ∀ a, f a → ¬ w.F a) (fr : Fresh w0 f) {p : Addr} (hp : w.H p = none) :
    Q (.ref p) (upd w.H p (.lst vs)) := by
  have hR : w.R p = none := by
    cases q : w.R p with
    | none => rfl
    | some u => rw [r.sub p u q] at hp; cases hp
  have sH : Same w.H (upd w.H p (.lst vs)) := fun a ob ea => by rw [upd_ne (ne_of_none ea hp)]; exact ea
  have x : Ex w { w with H := upd w.H p (.lst vs) } := ⟨rfl, rfl, Same.refl _, sH, r.sub.trans sH, fun a h n => absurd h n⟩
  have at' := o.at
  have nfp : ¬ f p := fun z => by obtain ⟨⟨ob, ho⟩, _⟩ := at' p z; rw [hp] at ho; cases ho
  refine h (.ref p) (fun a => a = p ∨ f a) { w with H := upd w.H p (.lst vs) } e (x.rel r) (m.trans x.mod) ⟨?_, fun a ha z => ?_⟩ fun a ha => ?_
  · unfold Ow
    refine ⟨p, vs, f, rfl, upd_same, hR, o.keep (Same.refl _) (fun a ob _ ea => sH a ob ea) (fun a ha => (at' a ha).2), nfp, fun b => Iff.rfl⟩
  · rcases ha with rfl | ha
    · obtain ⟨⟨ob, ho⟩, _⟩ := r.fr a z
      rw [hp] at ho; cases ho
    · exact n a ha z
  · rcases ha with rfl | ha
    · exact (Fresh.back (f := fun b => b = a) (fun b hb => .inl (by rw [hb]; exact hp)) m) a rfl
    · exact fr a ha
theorem none_R (r : Rel K σ w) {p : Addr} (hp : w.H p = none) : w.R p = none := by
  cases q : w.R p with
  | none => rfl
  | some u => rw [r.sub p u q] at hp; cases hp
theorem ex_new {p : Addr} {o : HO} (s : Same w.R w.H) (hp : w.H p = none) : Ex w { w with H := upd w.H p o } := by
  have sH : Same w.H (upd w.H p o) := fun a ob ea => by rw [upd_ne (ne_of_none ea hp)]; exact ea
  exact ⟨rfl, rfl, Same.refl _, sH, s.trans sH, fun a h n => absurd h n⟩
/-- a new frozen object -/
theorem ex_frz {p : Addr} {o : HO} (s : Same w.R w.H) (hp : w.H p = none) : Ex w { w with R := upd w.R p o, H := upd w.H p o } := by
  have hR : w.R p = none := by
    cases q : w.R p with
    | none => rfl
    | some u => rw [s p u q] at hp; cases hp
  have sH : Same w.H (upd w.H p o) := fun a ob ea => by rw [upd_ne (ne_of_none ea hp)]; exact ea
  have sR : Same w.R (upd w.R p o) := fun a ob ea => by rw [upd_ne (ne_of_none ea hR)]; exact ea
  refine ⟨rfl, rfl, sR, sH, fun a ob e => ?_, fun a h n => ?_⟩
  · by_cases q : a = p
    · subst q
      have e : upd w.R a o a = some ob := e
      show upd w.H a o a = some ob
      rw [upd_same] at e ⊢; exact e
    · have e : upd w.R p o a = some ob := e
      show upd w.H p o a = some ob
      rw [upd_ne q] at e ⊢; exact s a ob e
  · by_cases q : a = p
    · rw [q]; exact hp
    · have n : upd w.R p o a ≠ none := n
      rw [upd_ne q] at n; exact absurd h n
theorem new_tup {ds : List D} {vs : List V} {ρ' : List SV} {Q : VK} {w0 : Wd} (h : Aft C σ w0 Q (.ok (.val (.tup ds)) ρ')) (r : Rel C.K σ w) (m : Mod σ w0 σ w) (e : w.ρ = ρ') (o : RpL C.K w.R ds vs) {p : Addr} (hp : w.H p = none) :
    Q (.ref p) (upd w.H p (.tup vs)) := by
  have x := ex_frz (o := .tup vs) r.sub hp
  exact opd_fin h r m e x (Rp.ow (by unfold Rp; exact ⟨p, vs, rfl, SqT.of upd_same, o.mono x.rr⟩)) fun _ z => z.elim
theorem m_lst {es : List Expr} {os : M (List Opd)} {pos : Pos} (ha : PA X es (tOL C os)) : PE X (.List es pos) (tO C (mLst os)) := by
  refine PE.weak (pe_lst ha) fun σ H Q ⟨w, z, eH, hr, hm, h⟩ => ?_
  subst eH
  refine tOL_step hr hm (fun c ρ' e => by subst e; exact h) fun ps vs f w1 r1 m1 o1 fr1 e1 => ?_
  obtain ⟨ds, w2, hH, r2, m2, o2, n2, e2⟩ := takeL_bind o1 r1 e1
  have hl := o2.len
  by_cases hz : ds.length ≤ sizeLine
  · rw [if_pos hz] at e2
    cases e2
    refine ⟨by rw [hl]; exact hz, fun p hp => ?_⟩
    rw [← hH] at hp ⊢
    exact new_mls h r2 (m1.trans m2) rfl o2 n2 fr1 hp
  · rw [if_neg hz] at e2; cases e2
theorem m_tup {es : List Expr} {x1} {os : M (List Opd)} {pos : Pos} (ha : PA X es (tOL C os)) : PE X (.Tuple es x1 pos) (tO C (mTup os)) := by
  refine PE.weak (pe_tup ha) fun σ H Q ⟨w, z, eH, hr, hm, h⟩ => ?_
  subst eH
  refine tOL_step hr hm (fun c ρ' e => by subst e; exact h) fun ps vs f w1 r1 m1 o1 fr1 e1 => ?_
  obtain ⟨ds, w2, hH, r2, m2, o2, n2, e2⟩ := takeL_bind o1 r1 e1
  have hl := o2.len
  by_cases hz : ds.length ≤ sizeLine
  · rw [if_pos hz] at e2
    cases e2
    refine ⟨by rw [hl]; exact hz, fun p hp => ?_⟩
    rw [← hH] at hp ⊢
    obtain ⟨w3, e3, hH3, hF3, r3, m3, s3, k3, _⟩ := fz_world (w1 := w) r2 o2.at n2 fr1 (m1.trans m2)
    rw [← hH3] at hp ⊢
    exact new_tup h r3 m3 e3 (o2.fz s3 k3) hp
  · rw [if_neg hz] at e2; cases e2

/-! ### slices -/
structure PO2 (X : Cx) (e : Option Expr) (t : TO) : Prop where
  ok : PO X e t
def AftP (C : Cn) (σ : St) (w : Wd) (Q : Option Int → Hp → Prop) : Res (Option Int) → Prop
  | .ok i ρ' => ∀ w', w'.ρ = ρ' → Rel C.K σ w' → Mod σ w σ w' → Q i w'.H
  | .ex c ρ' => AftX C σ w c ρ'
def tP (C : Cn) (m : M (Option Int)) : TO := fun σ H Q => ∃ w r, w.H = H ∧ Rel C.K σ w ∧ m w.ρ = some r ∧ AftP C σ w Q r
theorem PO.weak {e : Option Expr} {t t' : TO} (h : PO X e t) (k : ∀ σ H Q, t' σ H Q → t σ H Q) : PO X e t' := ⟨fun pins s σ H Q I q => h.run pins s σ H Q I (k _ _ _ q)⟩
def isI (p : Opd) : M (Option Int) := fun ρ => match rs ρ p with
  | some (.int i) => some (.ok (some i) ρ)
  | _ => none
theorem po_n : PO X none (tP C (mr none)) := by
  refine PO.weak po_none fun σ H Q ⟨w, z, eH, hr, hm, h⟩ => ?_
  subst eH
  cases hm
  exact h w rfl hr (Mod.refl hr)
theorem po_s {e : Expr} {oa : M Opd} (h : PE X e (tO C oa)) : PO X (some e) (tP C (mb oa isI)) := by
  refine PO.weak (po_some h) fun σ H Q ⟨w, z, eH, hr, hm, h⟩ => ?_
  subst eH
  refine tO_step hr hm (fun c ρ' e => by subst e; exact h) fun p v f w1 r1 m1 o1 fr1 e1 => ?_
  unfold isI at e1
  cases ep : rs w1.ρ p with
  | none => rw [ep] at e1; cases e1
  | some d =>
    rw [ep] at e1
    obtain ⟨f', o'⟩ := o1.see r1 ep
    cases d <;> first | (cases e1; done) | skip
    rename_i i
    cases e1
    have hv : v = .int i := by have := (Ow.rp rfl o').1; unfold Rp at this; exact this
    exact ⟨i, hv, h w1 rfl r1 m1⟩
def OpPS (K : Fg) (r : V → Option Int → Option Int → Hp → VK → Prop) (g : D → Option Int → Option Int → Option D) : Prop := ∀ (x : V) (i j : Option Int) (d c : D) (w : Wd) (Q : VK) (fx : Fp), Same w.R w.H → Ow K w.R w.H d x fx → g d i j = some c →
  (∀ v f w', Ex w w' → Ow K w'.R w'.H c v f → (∀ a, f a → w.H a = none) → Q v w'.H) → r x i j w.H Q
def opP (g : D → Option Int → Option Int → Option D) (p : Opd) (i j : Option Int) : M Opd := fun ρ => match rs ρ p with
  | some x => (g x i j).map fun c => .ok (.val c) ρ
  | _ => none
def mSl (g : D → Option Int → Option Int → Option D) (oa : M Opd) (tl th : M (Option Int)) : M Opd := mb oa fun p => mb tl fun i => mb th fun j => opP g p i j
theorem tP_step {α : Type} {oa : M (Option Int)} {k : Option Int → M α} {σ : St} {w : Wd} {r : Res α} {Q : Option Int → Hp → Prop} (hr : Rel C.K σ w) (hm : mb oa k w.ρ = some r) (hx : ∀ c ρ', r = .ex c ρ' → AftX C σ w c ρ')
    (hk : ∀ i w1, Rel C.K σ w1 → Mod σ w σ w1 → k i w1.ρ = some r → Q i w1.H) : tP C oa σ w.H Q := by
  unfold mb at hm
  cases e : oa w.ρ with
  | none => rw [e] at hm; cases hm
  | some q =>
    refine ⟨w, q, rfl, hr, e, ?_⟩
    rw [e] at hm
    cases q with
    | ok p ρ1 => exact fun w1 e1 r1 m1 => hk p w1 r1 m1 (by rw [e1]; exact hm)
    | ex c ρ1 => exact hx c ρ1 (Option.some.inj hm).symm
theorem m_slice {e : Expr} {lo hi : Option Expr} {p2 pos : Pos} {r : V → Option Int → Option Int → Hp → VK → Prop} {g : D → Option Int → Option Int → Option D} {oa : M Opd} {tl th : M (Option Int)} (hs : SlR X r) (hg : OpPS C.K r g) (he : PE X e (tO C oa)) (hl : PO X lo (tP C tl)) (hh : PO X hi (tP C th)) :
    PE X (.Subscript e (.Slice lo hi none p2) pos) (tO C (mSl g oa tl th)) := by
  refine PE.weak (pe_slice hs he hl hh) fun σ H Q ⟨w, z, eH, hr, hm, h⟩ => ?_
  subst eH
  refine tO_step hr hm (fun c ρ' e => by subst e; exact h) fun p v f w1 r1 m1 o1 fr1 e1 => ?_
  refine tP_step r1 e1 (fun c ρ' e => by subst e; exact AftX.step h m1) fun i w2 r2 m2 e2 => ?_
  refine tP_step r2 e2 (fun c ρ' e => by subst e; exact AftX.step h (m1.trans m2)) fun j w3 r3 m3 e3 => ?_
  unfold opP at e3
  have o3 := (o1.step m2).step m3
  cases ep : rs w3.ρ p with
  | none => rw [ep] at e3; cases e3
  | some d =>
    rw [ep] at e3
    simp only at e3
    cases eg : g d i j with
    | none => rw [eg] at e3; cases e3
    | some c =>
      rw [eg] at e3
      cases e3
      obtain ⟨k1, q1⟩ := o3.see r3 ep
      exact hg v i j d c w3 Q k1 r3.sub q1 eg fun v f w' ex o fr => opd_fin h r3 ((m1.trans m2).trans m3) rfl ex o fr

/-! ### methods of texts -/
theorem m_strM0 {o : Expr} {id : String} {name : Str} {apos pos : Pos} {r : V → List V → Hp → VK → Prop} {g : D → Option D} {oa : M Opd} (slot : Slot "str" name id) (ty : typeOf (.builtin id) = pure (.type "method_descriptor")) (rule : MtR X id r)
    (hg : ∀ (y : Str) (c : D) (w : Wd) (Q : VK), Same w.R w.H → g (.str y) = some c → (∀ v f w', Ex w w' → Ow C.K w'.R w'.H c v f → (∀ a, f a → w.H a = none) → Q v w'.H) → r (.str y) [] w.H Q)
    (hs : ∀ d, g d ≠ none → ∃ y, d = .str y) (ho : PE X o (tO C oa)) (hbase : attributeBase o name X.env (eval o X.env) = eval o X.env := by rfl) (hline : (apos.endLine == pos.line) = true := by rfl) :
    PE X (.Call (.Attribute o name apos) [] [] pos) (tO C (mb oa fun p => opN (fun | [d] => g d | _ => none) [p])) := by
  refine PE.weak (pe_m0 slot ty rule ho hbase hline) fun σ H Q ⟨w, z, eH, hr, hm, h⟩ => ?_
  subst eH
  refine tO_step hr hm (fun c ρ' e => by subst e; exact h) fun p v f w1 r1 m1 o1 fr1 e1 => ?_
  unfold opN rsL rsL at e1
  cases ep : rs w1.ρ p with
  | none => rw [ep] at e1; cases e1
  | some d =>
    rw [ep] at e1
    simp only [Option.bind_some] at e1
    cases eg : g d with
    | none => rw [eg] at e1; cases e1
    | some c =>
      rw [eg] at e1
      cases e1
      obtain ⟨y, rfl⟩ := hs d (by rw [eg]; simp)
      obtain ⟨k1, q1⟩ := o1.see r1 ep
      have hv : v = .str y := by have := (Ow.rp rfl q1).1; unfold Rp at this; exact this
      subst hv
      exact ⟨⟨y, rfl⟩, hg y c w1 Q r1.sub eg fun v f w' ex o fr => opd_fin h r1 m1 rfl ex o fr⟩
/-- the text that an operand is -/
def isS (p : Opd) : M Str := fun ρ => match rs ρ p with
  | some (.str y) => some (.ok y ρ)
  | _ => none
theorem isS_bind {α : Type} {p : Opd} {v : V} {f : Fp} {k : Str → M α} {z : Res α} (r1 : Rel K σ w1) (o : OpOk K σ w1 p v f) (e : mb (isS p) k w1.ρ = some z) : ∃ y, v = .str y ∧ k y w1.ρ = some z := by
  unfold mb at e
  cases ep : isS p w1.ρ with
  | none => rw [ep] at e; cases e
  | some q =>
    rw [ep] at e
    unfold isS at ep
    cases er : rs w1.ρ p with
    | none => rw [er] at ep; cases ep
    | some d =>
      rw [er] at ep
      obtain ⟨f', o'⟩ := o.see r1 er
      cases d <;> first | (cases ep; done) | skip
      rename_i y
      cases ep
      have hv : v = .str y := by have := (Ow.rp rfl o').1; unfold Rp at this; exact this
      exact ⟨y, hv, e⟩
theorem m_strM1 {o e : Expr} {id : String} {name : Str} {apos pos : Pos} {r : V → List V → Hp → VK → Prop} {g : Str → D → Option D} {oa ob : M Opd} (slot : Slot "str" name id) (ty : typeOf (.builtin id) = pure (.type "method_descriptor")) (rule : MtR X id r)
    (hg : ∀ (y : Str) (x : V) (d c : D) (w : Wd) (Q : VK) (fx : Fp), Same w.R w.H → Ow C.K w.R w.H d x fx → g y d = some c → (∀ v f w', Ex w w' → Ow C.K w'.R w'.H c v f → (∀ a, f a → w.H a = none) → Q v w'.H) → r (.str y) [x] w.H Q)
    (ho : PE X o (tO C oa)) (he : PE X e (tO C ob)) (hsx : starEach [e] X.env = [(false, eval e X.env)] := by rfl) (hbase : attributeBase o name X.env (eval o X.env) = eval o X.env := by rfl) (hline : (apos.endLine == pos.line) = true := by rfl) :
    PE X (.Call (.Attribute o name apos) [e] [] pos) (tO C (mb oa fun p => mb (isS p) fun y => mb ob fun q => op2 (fun _ d => g y d) q q)) := by
  refine PE.weak (pe_m1 slot ty rule ho he hsx hbase hline) fun σ H Q ⟨w, z, eH, hr, hm, h⟩ => ?_
  subst eH
  refine tO_step hr hm (fun c ρ' e => by subst e; exact h) fun p v f w1 r1 m1 o1 fr1 e1 => ?_
  obtain ⟨y, hv, e1⟩ := isS_bind r1 o1 e1
  subst hv
  refine ⟨⟨y, rfl⟩, ?_⟩
  refine tO_step r1 e1 (fun c ρ' e => by subst e; exact AftX.step h m1) fun q u f2 w2 r2 m2 o2 fr2 e2 => ?_
  unfold op2 at e2
  cases eq : rs w2.ρ q with
  | none => rw [eq] at e2; cases e2
  | some d' =>
    rw [eq] at e2
    simp only at e2
    cases eg : g y d' with
    | none => rw [eg] at e2; cases e2
    | some c =>
      rw [eg] at e2
      cases e2
      obtain ⟨k2, q2⟩ := o2.see r2 eq
      exact hg y u d' c w2 Q k2 r2.sub q2 eg fun v f w' ex o fr => opd_fin h r2 (m1.trans m2) rfl ex o fr
end
end TT

set_option Elab.async false
set_option linter.all false
set_option maxRecDepth 100000
namespace TT
open PySem PySem.Spec PyProof.Rows L2
section
variable {X : Cx} {C : Cn} {K : Fg} {σ : St} {w w1 w2 : Wd}
/-! ### what a def promises; its call -/
def mkS (b : Bool) (d : D) : SV := if b then .par d else .loc d
def mkSs : List Bool → List D → List SV
  | b :: bs, d :: ds => mkS b d :: mkSs bs ds
  | _, _ => []
/-- a mirror's promise: md tells which parameters are handed in to be written -/
def spM (K : Fg) (xc : Str → Value) (md : List Bool) (m : M Opd) : Sp := fun vs H Q E => vs.length = md.length ∧ ∃ (ds : List D) (w : Wd) (z : Res Opd), ds.length = md.length ∧ w.H = H ∧ w.ρ = mkSs md ds ∧ Rel K (vs.map some) w ∧ m w.ρ = some z ∧
  (∀ p ρ', z = .ok p ρ' → ∃ d, p = .val d) ∧ Aft ⟨K, xc, fun cls dd _ H => E cls dd H⟩ (vs.map some) w Q z
/-- an argument: by value (frozen), or its thing itself -/
def mPass1 (b : Bool) (p : Opd) : M D := if b then (match p with
    | .val d => mr d
    | .sl i => fun ρ => match ρ[i]? with
      | some (.loc d) => some (.ok d (ρ.set i (.hol false)))
      | some (.par d) => some (.ok d (ρ.set i (.hol true)))
      | _ => none)
  else mb (mTake p) fun d => if imm d then mr d else fun _ => none
def mPass : List Bool → List Opd → M (List D)
  | [], [] => mr []
  | b :: bs, p :: ps => mb (mPass1 b p) fun d => mb (mPass bs ps) fun ds => mr (d :: ds)
  | _, _ => fun _ => none
/-- what was handed on comes back -/
def mBack1 (b : Bool) (p : Opd) (s : SV) (ρ : List SV) : Option (List SV) := match b, p, s with
  | true, .sl i, .par d => (match ρ[i]? with
    | some (.hol q) => some (ρ.set i (mkS q d))
    | _ => none)
  | _, _, _ => some ρ
def mBack : List Bool → List Opd → List SV → List SV → Option (List SV)
  | [], [], [], ρ => some ρ
  | b :: bs, p :: ps, s :: ss, ρ => (mBack1 b p s ρ).bind (mBack bs ps ss)
  | _, _, _, _ => none
/-- the end of a call (x: whether it may raise) -/
def mEnd (x : Bool) (md : List Bool) (ps : List Opd) (ρ : List SV) : Option (Res Opd) → Option (Res Opd)
  | some (.ok (.val d) ss) => (mBack md ps ss ρ).map fun ρ' => .ok (.val d) ρ'
  | some (.ex c ss) => if x then (mBack md ps ss ρ).map fun ρ' => .ex c ρ' else none
  | _ => none
def mCall (x : Bool) (md : List Bool) (m : M Opd) (os : M (List Opd)) : M Opd := mb os fun ps => mb (mPass md ps) fun ds ρ => mEnd x md ps ρ (m (mkSs md ds))
theorem σ_set {i : Nat} {v : V} (h : σ[i]? = some (some v)) : σ.set i (some v) = σ := by
  apply List.ext_getElem?
  intro j
  by_cases hj : i = j
  · subst hj; rw [List.getElem?_set_self (List.getElem?_eq_some_iff.mp h).1, h]
  · rw [List.getElem?_set_ne hj]
/-- what a hole keeps of the row -/
theorem OwS.hole : ∀ {R H : Hp} {ρ : List SV} {σ : St} {f : Fp} {i : Nat} {d : D} {b : Bool}, OwS K R H ρ σ f → slot ρ i = some d →
    ∃ (v : V) (f1 f2 : Fp), σ[i]? = some (some v) ∧ Ow K R H d v f1 ∧ (∀ b, f1 b → ¬ f2 b) ∧ (∀ b, f b ↔ f1 b ∨ f2 b) ∧ OwS K R H (ρ.set i (.hol b)) σ f2
  | R, H, [], _, _, _, _, _, _, e => by simp [slot] at e
  | R, H, .un :: ρ, σ, f, 0, d, b, h, e => by simp [slot, SV.d?] at e
  | R, H, .hol _ :: ρ, σ, f, 0, d, b, h, e => by simp [slot, SV.d?] at e
  | R, H, .un :: ρ, σ, f, i + 1, d, b, h, e => by
    unfold OwS at h
    obtain ⟨o, σ', e1, q⟩ := h
    obtain ⟨v, f1, f2, g1, g2, g3, g4, g5⟩ := OwS.hole (i := i) (d := d) (b := b) q (by simpa [slot] using e)
    refine ⟨v, f1, f2, by rw [e1]; exact g1, g2, g3, g4, ?_⟩
    rw [List.set_cons_succ]
    unfold OwS
    exact ⟨o, σ', e1, g5⟩
  | R, H, .hol _ :: ρ, σ, f, i + 1, d, b, h, e => by
    unfold OwS at h
    obtain ⟨o, σ', e1, q⟩ := h
    obtain ⟨v, f1, f2, g1, g2, g3, g4, g5⟩ := OwS.hole (i := i) (d := d) (b := b) q (by simpa [slot] using e)
    refine ⟨v, f1, f2, by rw [e1]; exact g1, g2, g3, g4, ?_⟩
    rw [List.set_cons_succ]
    unfold OwS
    exact ⟨o, σ', e1, g5⟩
  | R, H, .loc d0 :: ρ, σ, f, 0, d, b, h, e => by
    unfold OwS at h
    obtain ⟨v, σ', f1, f2, e1, h1, h2, dj, hf⟩ := h
    have ed : d0 = d := by simpa [slot, SV.d?] using e
    subst ed
    refine ⟨v, f1, f2, by rw [e1]; rfl, h1, dj, hf, ?_⟩
    rw [List.set_cons_zero]
    unfold OwS
    exact ⟨_, σ', e1, h2⟩
  | R, H, .par d0 :: ρ, σ, f, 0, d, b, h, e => by
    unfold OwS at h
    obtain ⟨v, σ', f1, f2, e1, h1, h2, dj, hf⟩ := h
    have ed : d0 = d := by simpa [slot, SV.d?] using e
    subst ed
    refine ⟨v, f1, f2, by rw [e1]; rfl, h1, dj, hf, ?_⟩
    rw [List.set_cons_zero]
    unfold OwS
    exact ⟨_, σ', e1, h2⟩
  | R, H, .loc d0 :: ρ, σ, f, i + 1, d, b, h, e => by
    unfold OwS at h
    obtain ⟨v0, σ', k1, k2, e1, h1, h2, dj, hf⟩ := h
    obtain ⟨v, f1, f2, g1, g2, g3, g4, g5⟩ := OwS.hole (i := i) (d := d) (b := b) h2 (by simpa [slot] using e)
    refine ⟨v, f1, fun b => k1 b ∨ f2 b, by rw [e1]; exact g1, g2, fun b hb z => z.elim (fun z => dj b z ((g4 b).mpr (.inl hb))) (g3 b hb), fun b => ?_, ?_⟩
    · rw [hf, g4]
      constructor
      · rintro (z | z | z)
        · exact .inr (.inl z)
        · exact .inl z
        · exact .inr (.inr z)
      · rintro (z | z | z)
        · exact .inr (.inl z)
        · exact .inl z
        · exact .inr (.inr z)
    · rw [List.set_cons_succ]
      unfold OwS
      exact ⟨v0, σ', k1, f2, e1, h1, g5, fun b hb z => dj b hb ((g4 b).mpr (.inr z)), fun b => Iff.rfl⟩
  | R, H, .par d0 :: ρ, σ, f, i + 1, d, b, h, e => by
    unfold OwS at h
    obtain ⟨v0, σ', k1, k2, e1, h1, h2, dj, hf⟩ := h
    obtain ⟨v, f1, f2, g1, g2, g3, g4, g5⟩ := OwS.hole (i := i) (d := d) (b := b) h2 (by simpa [slot] using e)
    refine ⟨v, f1, fun b => k1 b ∨ f2 b, by rw [e1]; exact g1, g2, fun b hb z => z.elim (fun z => dj b z ((g4 b).mpr (.inl hb))) (g3 b hb), fun b => ?_, ?_⟩
    · rw [hf, g4]
      constructor
      · rintro (z | z | z)
        · exact .inr (.inl z)
        · exact .inl z
        · exact .inr (.inr z)
      · rintro (z | z | z)
        · exact .inr (.inl z)
        · exact .inl z
        · exact .inr (.inr z)
    · rw [List.set_cons_succ]
      unfold OwS
      exact ⟨v0, σ', k1, f2, e1, h1, g5, fun b hb z => dj b hb ((g4 b).mpr (.inr z)), fun b => Iff.rfl⟩
/-- a slot's thing is handed on -/
theorem out_run {i : Nat} {s : SV} {d : D} {v : V} {b : Bool} (r : Rel K σ w) (hv : σ[i]? = some (some v)) (hi : w.ρ[i]? = some s) (hd : s.d? = some d) (hb : s.isPar = true → b = true) :
    ∃ (w' : Wd) (f : Fp), w'.ρ = w.ρ.set i (.hol b) ∧ w'.H = w.H ∧ Rel K σ w' ∧ Mod σ w σ w' ∧ Ow K w'.R w'.H d v f ∧ (∀ a, f a → ¬ w'.F a) ∧ Fresh w f := by
  have hs : slot w.ρ i = some d := by unfold slot; rw [hi]; exact hd
  obtain ⟨v', f1, f2, g1, g2, g3, g4, g5⟩ := r.ow.hole (b := b) hs
  have ev : v' = v := by rw [g1] at hv; simpa using hv
  subst ev
  refine ⟨⟨w.ρ.set i (.hol b), w.R, w.H, f2⟩, f1, rfl, rfl, ⟨r.sub, g5⟩, ⟨Same.refl _, fun a o h _ => h, fun a z => .inl ((g4 a).mpr (.inr z)), fun a h n => absurd h n, fun j s' hj hp => ⟨rfl, ?_⟩, List.length_set⟩, g2, g3, fun a ha => .inr ((g4 a).mpr (.inl ha))⟩
  by_cases hji : i = j
  · subst hji
    rw [hi] at hj; cases hj
    exact ⟨.hol b, by rw [List.getElem?_set_self (List.getElem?_eq_some_iff.mp hi).1], hb hp⟩
  · exact ⟨s', by rw [List.getElem?_set_ne hji]; exact hj, hp⟩
theorem OpsOk.own_apart : ∀ {ps : List Opd} {vs : List V} {f : Fp}, OpsOk K σ w ps vs f → ∀ a, f a → ¬ w.F a
  | [], _, _, h => by unfold OpsOk at h; exact fun a ha => (h.2 a ha).elim
  | p :: ps, vs, f, h => by
    unfold OpsOk at h
    obtain ⟨v, vs', f1, f2, e, h1, h2, dj, hf⟩ := h
    intro a ha
    rcases (hf a).mp ha with z | z
    · cases p with
      | val d => exact h1.2 a z
      | sl i => exact (h1.2 a z).elim
    · exact OpsOk.own_apart h2 a z
/-- how an argument that was passed stands -/
theorem mPass1_run {b : Bool} {p : Opd} {v : V} {f : Fp} {d : D} {ρ' : List SV} (o : OpOk K σ w p v f) (r : Rel K σ w) (hF : Fresh w1 f) (m : Mod σ w1 σ w) (e : mPass1 b p w.ρ = some (.ok d ρ')) :
    ∃ (w' : Wd) (f' : Fp), w'.ρ = ρ' ∧ w'.H = w.H ∧ Rel K σ w' ∧ Mod σ w σ w' ∧ Ow K w'.R w'.H d v f' ∧ (∀ a, f' a → ¬ w'.F a) ∧ (∀ a, f' a → f a ∨ w.F a) := by
  unfold mPass1 at e
  cases b with
  | true =>
    rw [if_pos rfl] at e
    cases p with
    | val d0 =>
      cases e
      exact ⟨w, f, rfl, rfl, r, Mod.refl r, o.1, o.2, fun a h => .inl h⟩
    | sl i =>
      simp only at e
      split at e
      · rename_i d0 hi
        cases e
        obtain ⟨w', f', h1, h2, h3, h4, h5, h6, h7⟩ := out_run (b := false) r o.1 hi rfl (fun z => by cases z)
        refine ⟨w', f', h1, h2, h3, h4, h5, h6, fun a ha => .inr ?_⟩
        rcases h7 a ha with z | z
        · obtain ⟨⟨ob, ho⟩, _⟩ := h5.at a ha
          rw [h2, z] at ho; cases ho
        · exact z
      · rename_i d0 hi
        cases e
        obtain ⟨w', f', h1, h2, h3, h4, h5, h6, h7⟩ := out_run (b := true) r o.1 hi rfl (fun _ => rfl)
        refine ⟨w', f', h1, h2, h3, h4, h5, h6, fun a ha => .inr ?_⟩
        rcases h7 a ha with z | z
        · obtain ⟨⟨ob, ho⟩, _⟩ := h5.at a ha
          rw [h2, z] at ho; cases ho
        · exact z
      · cases e
  | false =>
    rw [if_neg Bool.false_ne_true] at e
    unfold mb at e
    cases e1 : mTake p w.ρ with
    | none => rw [e1] at e; cases e
    | some q =>
      cases q with
      | ex c ρ1 => exact (mTake_noex e1).elim
      | ok d0 ρ1 =>
        rw [e1] at e
        simp only at e
        split at e
        · rename_i hd
          cases e
          obtain ⟨w', h1, h2, h3, h4, h5, h6⟩ := mTake_run o r e1
          have n := (h5.rp hd).2
          exact ⟨w', f, h1, h2, h3, h4, h5, h6, fun a ha => (n a ha).elim⟩
        · cases e
theorem mPass_run : ∀ {md : List Bool} {ps : List Opd} {vs : List V} {f : Fp} {ds : List D} {ρ' : List SV} {w : Wd}, OpsOk K σ w ps vs f → Rel K σ w → Fresh w1 f → Mod σ w1 σ w → mPass md ps w.ρ = some (.ok ds ρ') →
    ∃ (w' : Wd) (f' : Fp), w'.ρ = ρ' ∧ w'.H = w.H ∧ Rel K σ w' ∧ Mod σ w σ w' ∧ OwL K w'.R w'.H ds vs f' ∧ (∀ a, f' a → ¬ w'.F a) ∧ (∀ a, f' a → f a ∨ w.F a) ∧ ds.length = md.length ∧ vs.length = md.length
  | [], [], vs, f, ds, ρ', w, o, r, hF, m, e => by
    cases e
    unfold OpsOk at o
    exact ⟨w, f, rfl, rfl, r, Mod.refl r, by unfold OwL; exact o, fun a ha => (o.2 a ha).elim, fun a ha => .inl ha, rfl, by rw [o.1]; rfl⟩
  | [], p :: ps, _, _, _, _, _, _, _, _, _, e => by unfold mPass at e; cases e
  | b :: bs, [], _, _, _, _, _, _, _, _, _, e => by unfold mPass at e; cases e
  | b :: bs, p :: ps, vs, f, ds, ρ', w, o, r, hF, m, e => by
    unfold OpsOk at o
    obtain ⟨v, vs', f1, f2, ev, h1, h2, dj, hf⟩ := o
    unfold mPass mb at e
    cases e1 : mPass1 b p w.ρ with
    | none => rw [e1] at e; cases e
    | some q =>
      cases q with
      | ex c ρ1 => rw [e1] at e; cases e
      | ok d ρ1 =>
        rw [e1] at e
        simp only at e
        obtain ⟨wa, g1, hρ, hH, r1, m1, o1, n1, s1⟩ := mPass1_run h1 r (fun a ha => hF a ((hf a).mpr (.inl ha))) m e1
        subst hρ
        cases e2 : mPass bs ps wa.ρ with
        | none => simp only [mb, e2] at e; cases e
        | some q =>
          cases q with
          | ex c ρ2 => simp only [mb, e2] at e; cases e
          | ok ds' ρ2 =>
            simp only [mb, e2] at e
            cases e
            obtain ⟨wb, g2, hρ2, hH2, r2, m2, o2, n2, s2, l2, l3⟩ := mPass_run (h2.step m1) r1 (fun a ha => hF a ((hf a).mpr (.inr ha))) (m.trans m1) e2
            have q1 : OpOk K σ wb (.val d) v g1 := OpOk.step (p := .val d) ⟨o1, n1⟩ m2
            have at1 := o1.at
            have dj' : ∀ a, g1 a → ¬ g2 a := fun a ha hb => by
              rcases s2 a hb with z | z
              · rcases s1 a ha with y | y
                · exact dj a y z
                · -- z: a of the later operands' own, y: of the slots
                  have := OpsOk.own_apart h2 a z y
                  exact this
              · exact n1 a ha z
            refine ⟨wb, fun a => g1 a ∨ g2 a, hρ2, hH2.trans hH, r2, m1.trans m2, ?_, fun a ha => ha.elim (q1.2 a) (n2 a), fun a ha => ?_, by rw [List.length_cons, List.length_cons, l2], by rw [ev, List.length_cons, List.length_cons, l3]⟩
            · unfold OwL
              exact ⟨v, vs', g1, g2, ev, q1.1, o2, dj', fun b => Iff.rfl⟩
            · rcases ha with ha | ha
              · exact (s1 a ha).imp (fun z => (hf a).mpr (.inl z)) fun z => z
              · rcases s2 a ha with z | z
                · exact .inl ((hf a).mpr (.inr z))
                · rcases m1.own a z with y | y
                  · exact .inr y
                  · obtain ⟨⟨ob, ho⟩, _⟩ := r1.fr a z
                    rw [hH, y] at ho; cases ho

theorem mPass_noex : ∀ {md : List Bool} {ps : List Opd} {ρ : List SV} {c : Exc} {ρ' : List SV}, mPass md ps ρ ≠ some (.ex c ρ')
  | [], [], ρ, c, ρ', h => by cases h
  | [], p :: ps, _, _, _, h => by cases h
  | b :: bs, [], _, _, _, h => by cases h
  | b :: bs, p :: ps, ρ, c, ρ', h => by
    unfold mPass mb at h
    cases e1 : mPass1 b p ρ with
    | none => rw [e1] at h; cases h
    | some q =>
      cases q with
      | ex c ρ1 =>
        unfold mPass1 at e1
        cases b with
        | true =>
          rw [if_pos rfl] at e1
          cases p with
          | val d0 => cases e1
          | sl i => simp only at e1; split at e1 <;> cases e1
        | false =>
          rw [if_neg Bool.false_ne_true] at e1
          unfold mb at e1
          cases e2 : mTake p ρ with
          | none => rw [e2] at e1; cases e1
          | some q =>
            cases q with
            | ex c ρ1 => exact mTake_noex e2
            | ok d0 ρ1 =>
              rw [e2] at e1
              simp only at e1
              split at e1 <;> cases e1
      | ok d ρ1 =>
        rw [e1] at h
        simp only at h
        cases e2 : mPass bs ps ρ1 with
        | none => simp only [mb, e2] at h; cases h
        | some q =>
          cases q with
          | ex c ρ2 => exact mPass_noex e2
          | ok ds' ρ2 => simp only [mb, e2] at h; cases h
theorem OwL.owS : ∀ {R H : Hp} {md : List Bool} {ds : List D} {vs : List V} {f : Fp}, OwL K R H ds vs f → ds.length = md.length → OwS K R H (mkSs md ds) (vs.map some) f
  | R, H, [], [], vs, f, h, _ => by
    unfold OwL at h
    unfold mkSs OwS
    exact ⟨by rw [h.1]; rfl, h.2⟩
  | R, H, b :: bs, d :: ds, vs, f, h, e => by
    unfold OwL at h
    obtain ⟨v, vs', f1, f2, ev, h1, h2, dj, hf⟩ := h
    have q := OwL.owS (md := bs) h2 (by simpa using e)
    unfold mkSs mkS
    cases b with
    | true => unfold OwS; exact ⟨v, _, f1, f2, by rw [ev]; rfl, h1, q, dj, hf⟩
    | false => unfold OwS; exact ⟨v, _, f1, f2, by rw [ev]; rfl, h1, q, dj, hf⟩
  | R, H, [], d :: ds, vs, f, h, e => by simp at e
  | R, H, b :: bs, [], vs, f, h, e => by simp at e
theorem OwS.tail {R H : Hp} {s : SV} {ss : List SV} {o : Option V} {σs : St} {g : Fp} (h : OwS K R H (s :: ss) (o :: σs) g) : ∃ g2 : Fp, (∀ a, g2 a → g a) ∧ OwS K R H ss σs g2 := by
  cases s with
  | un =>
    unfold OwS at h
    obtain ⟨o', σ', e, q⟩ := h
    cases e
    exact ⟨g, fun a ha => ha, q⟩
  | hol _ =>
    unfold OwS at h
    obtain ⟨o', σ', e, q⟩ := h
    cases e
    exact ⟨g, fun a ha => ha, q⟩
  | loc d =>
    unfold OwS at h
    obtain ⟨v, σ', f1, f2, e, h1, h2, dj, hf⟩ := h
    cases e
    exact ⟨f2, fun a ha => (hf a).mpr (.inr ha), h2⟩
  | par d =>
    unfold OwS at h
    obtain ⟨v, σ', f1, f2, e, h1, h2, dj, hf⟩ := h
    cases e
    exact ⟨f2, fun a ha => (hf a).mpr (.inr ha), h2⟩
theorem mkS_d (q : Bool) (d : D) : (mkS q d).d? = some d := by cases q <;> rfl
theorem mBack_cons {b : Bool} {bs : List Bool} {p : Opd} {ps : List Opd} {s : SV} {ss ρ : List SV} : mBack (b :: bs) (p :: ps) (s :: ss) ρ = (mBack1 b p s ρ).bind (mBack bs ps ss) := rfl
theorem mBack1_skip {b : Bool} {p : Opd} {s : SV} {ρ ρ1 : List SV} (e : mBack1 b p s ρ = some ρ1) : ρ1 = ρ ∨ ∃ (i : Nat) (d : D) (q : Bool), p = .sl i ∧ s = .par d ∧ ρ[i]? = some (.hol q) ∧ ρ1 = ρ.set i (mkS q d) := by
  unfold mBack1 at e
  split at e
  · split at e
    · rename_i q hi
      cases e
      exact .inr ⟨_, _, q, rfl, rfl, hi, rfl⟩
    · cases e
  · cases e; exact .inl rfl
theorem mBack_run : ∀ {R H : Hp} {md : List Bool} {ps : List Opd} {ss ρ ρ' : List SV} {vs : List V} {g F f : Fp} {w : Wd}, OpsOk K σ w ps vs f → OwS K R H ss (vs.map some) g → OwS K R H ρ σ F → (∀ a, F a → ¬ g a) → mBack md ps ss ρ = some ρ' →
    ∃ F' : Fp, OwS K R H ρ' σ F' ∧ (∀ a, F' a → F a ∨ g a) ∧ ∀ (j : Nat) (s : SV), ρ[j]? = some s → s.isPar = true → ∃ s', ρ'[j]? = some s' ∧ s'.isPar = true
  | R, H, [], [], [], ρ, ρ', vs, g, F, f, w, o, hs, hρ, dj, e => by
    unfold mBack at e
    cases e
    exact ⟨F, hρ, fun a h => .inl h, fun j s h p => ⟨s, h, p⟩⟩
  | R, H, [], [], _ :: _, ρ, ρ', vs, g, F, f, w, o, hs, hρ, dj, e => by cases e
  | R, H, [], _ :: _, _, ρ, ρ', vs, g, F, f, w, o, hs, hρ, dj, e => by cases e
  | R, H, _ :: _, [], _, ρ, ρ', vs, g, F, f, w, o, hs, hρ, dj, e => by cases e
  | R, H, _ :: _, _ :: _, [], ρ, ρ', vs, g, F, f, w, o, hs, hρ, dj, e => by cases e
  | R, H, b :: bs, p :: ps, s :: ss, ρ, ρ', vs, g, F, f, w, o, hs, hρ, dj, e => by
    unfold OpsOk at o
    obtain ⟨v, vs', f1, f2, ev, h1, h2, _, _⟩ := o
    subst ev
    rw [List.map_cons] at hs
    rw [mBack_cons] at e
    cases e1 : mBack1 b p s ρ with
    | none => rw [e1] at e; cases e
    | some ρ1 =>
      rw [e1] at e
      have e : mBack bs ps ss ρ1 = some ρ' := e
      rcases mBack1_skip e1 with e2 | ⟨i, d, q, rfl, rfl, hi, e2⟩
      · subst e2
        obtain ⟨g2, k1, k2⟩ := hs.tail
        obtain ⟨F', q1, q2, q3⟩ := mBack_run h2 k2 hρ (fun a ha z => dj a ha (k1 a z)) e
        exact ⟨F', q1, fun a ha => (q2 a ha).imp (fun z => z) (k1 a), q3⟩
      · subst e2
        unfold OwS at hs
        obtain ⟨v', σ', g1, g2, e2, k1, k2, k3, k4⟩ := hs
        cases e2
        have hlt := (List.getElem?_eq_some_iff.mp hi).1
        obtain ⟨F2, c1, c2⟩ := hρ.put hlt
        have c3 := c2 R H (mkS q d) d v g1 (mkS_d q d) (Same.refl _) (fun a ob _ ea => ea) (fun a ha => (hρ.at a (c1 a ha)).2) k1 fun a ha z => dj a (c1 a z) ((k4 a).mpr (.inl ha))
        rw [σ_set h1.1] at c3
        obtain ⟨F', q1, q2, q3⟩ := mBack_run h2 k2 c3 (fun a ha z => ha.elim (fun y => k3 a y z) fun y => dj a (c1 a y) ((k4 a).mpr (.inr z))) e
        refine ⟨F', q1, fun a ha => ?_, fun j s hj hp => ?_⟩
        · rcases q2 a ha with (z | z) | z
          · exact .inr ((k4 a).mpr (.inl z))
          · exact .inl (c1 a z)
          · exact .inr ((k4 a).mpr (.inr z))
        · by_cases hji : i = j
          · subst hji
            rw [hi] at hj
            cases hj
            refine q3 i (mkS q d) (by rw [List.getElem?_set_self hlt]) ?_
            have hq : q = true := hp
            rw [hq]; rfl
          · exact q3 j s (by rw [List.getElem?_set_ne hji]; exact hj) hp
/-- behind a call, ahead of what comes back -/
theorem call_world {τ τ' : St} {f : Fp} {wc w' : Wd} (m : Mod σ w σ w2) (r2 : Rel K σ w2) (hR : wc.R = w2.R) (hH : wc.H = w2.H) (hF : wc.F = f) (fr : Fresh w f) (dj : ∀ a, f a → ¬ w2.F a) (m' : Mod τ wc τ' w') (sub : Same w'.R w'.H) :
    Rel K σ ⟨w2.ρ, w'.R, w'.H, w2.F⟩ ∧ Mod σ w σ ⟨w2.ρ, w'.R, w'.H, w2.F⟩ := by
  have rr : Same w2.R w'.R := by rw [← hR]; exact m'.rr
  have keep : ∀ a o, w2.H a = some o → ¬ f a → w'.H a = some o := fun a o h n => m'.keep a o (by rw [hH]; exact h) (by rw [hF]; exact n)
  have new : ∀ a, w2.R a = none → w'.R a ≠ none → w2.H a = none ∨ f a := fun a h n => by
    have := m'.new a (by rw [hR]; exact h) n
    rw [hH, hF] at this; exact this
  refine ⟨⟨sub, r2.ow.keep rr (fun a o ha e => keep a o e fun z => dj a z ha) fun a ha => ?_⟩, ⟨m.rr.trans rr, fun a o h n => ?_, m.own, fun a h n => ?_, m.fx, m.len⟩⟩
  · obtain ⟨⟨o, ho⟩, hr⟩ := r2.fr a ha
    refine Classical.byContradiction fun q => ?_
    rcases new a hr q with z | z
    · rw [ho] at z; cases z
    · exact dj a z ha
  · refine keep a o (m.keep a o h n) fun z => ?_
    rcases fr a z with y | y
    · rw [h] at y; cases y
    · exact n y
  · by_cases q : w2.R a = none
    · rcases new a q n with z | z
      · cases q2 : w.H a with
        | none => exact .inl rfl
        | some o =>
          refine .inr (Classical.byContradiction fun n2 => ?_)
          rw [m.keep a o q2 n2] at z; cases z
      · exact fr a z
    · exact m.new a h q
theorem call_run {xc : Str → Value} {x : Bool} {md : List Bool} {m : M Opd} {os : M (List Opd)} {H : Hp} {Q : VK} {E : XK} (hxc : C.xc = xc) (hE : x = true → ∀ cls dd H', C.W cls dd σ H' → E cls dd H')
    (h : tO C (mCall x md m os) σ H Q) : tOL C os σ H fun vs H1 => spM C.K xc md m vs H1 Q E := by
  obtain ⟨w, z, eH, hr, hm, h⟩ := h
  subst eH
  refine tOL_step hr hm (fun c ρ' e => by subst e; exact h) fun ps vs f w1 r1 m1 o1 fr1 e1 => ?_
  unfold mb at e1
  cases ep : mPass md ps w1.ρ with
  | none => rw [ep] at e1; cases e1
  | some q =>
    cases q with
    | ex c ρ2 => exact (mPass_noex ep).elim
    | ok ds ρ2 =>
      rw [ep] at e1
      simp only at e1
      obtain ⟨w2, f2, hρ2, hH2, r2, m2, o2, n2, s2, l2, l3⟩ := mPass_run o1 r1 fr1 m1 ep
      subst hρ2
      have fr2 : Fresh w f2 := fun a ha => (s2 a ha).elim (fr1 a) fun z => (m1.own a z).elim .inr .inl
      have m12 := m1.trans m2
      cases ey : m (mkSs md ds) with
      | none => rw [ey] at e1; cases e1
      | some y =>
        rw [ey] at e1
        have op2 : OpsOk C.K σ w2 ps vs f := o1.step m2
        refine ⟨l3, ds, ⟨mkSs md ds, w2.R, w2.H, f2⟩, y, l2, hH2, rfl, ⟨r2.sub, OwL.owS o2 l2⟩, ey, fun p ρ' e => ?_, ?_⟩
        · subst e
          cases p with
          | val d => exact ⟨d, rfl⟩
          | sl i => unfold mEnd at e1; cases e1
        · have back : ∀ (ss ρ' : List SV) (w' : Wd), w'.ρ = ss → Rel C.K (vs.map some) w' → Mod (vs.map some) ⟨mkSs md ds, w2.R, w2.H, f2⟩ (vs.map some) w' → mBack md ps ss w2.ρ = some ρ' →
              ∃ F' : Fp, Rel C.K σ ⟨ρ', w'.R, w'.H, F'⟩ ∧ Mod σ w σ ⟨ρ', w'.R, w'.H, F'⟩ ∧ ∀ a, F' a → w2.F a ∨ w'.F a := fun ss ρ' w' hss r' m' eb => by
            obtain ⟨cr, cm⟩ := call_world (wc := ⟨mkSs md ds, w2.R, w2.H, f2⟩) m12 r2 rfl rfl rfl fr2 n2 m' r'.sub
            have hss' := r'.ow
            rw [hss] at hss'
            have dj : ∀ a, w2.F a → ¬ w'.F a := fun a ha z => by
              rcases m'.own a z with y | y
              · exact n2 a y ha
              · obtain ⟨⟨ob, ho⟩, _⟩ := r2.fr a ha
                have y : w2.H a = none := y
                rw [ho] at y; cases y
            obtain ⟨F', b1, b2, b3⟩ := mBack_run op2 hss' cr.ow dj eb
            refine ⟨F', ⟨r'.sub, b1⟩, ⟨cm.rr, cm.keep, fun a ha => ?_, cm.new, fun i s hi hp => ?_, ?_⟩, b2⟩
            · rcases b2 a ha with z | z
              · exact m12.own a z
              · rcases m'.own a z with y | y
                · exact (fr2 a y).symm
                · have y : w2.H a = none := y
                  cases q : w.H a with
                  | none => exact .inr rfl
                  | some ob =>
                    refine .inl (Classical.byContradiction fun nn => ?_)
                    rw [m12.keep a ob q nn] at y; cases y
            · obtain ⟨e2, s', h', p'⟩ := cm.fx i s hi hp
              obtain ⟨s'', h'', p''⟩ := b3 i s' h' p'
              exact ⟨e2, s'', h'', p''⟩
            · have l1 : ρ'.length = w2.ρ.length := b1.len.symm.trans cr.ow.len
              exact l1.trans m12.len
          cases y with
          | ex c ss =>
            unfold mEnd at e1
            simp only at e1
            cases x with
            | false => cases e1
            | true =>
              simp only [if_true] at e1
              intro cls dd w' hss r' m' rx
              cases eb : mBack md ps ss w2.ρ with
              | none => rw [eb] at e1; cases e1
              | some ρ' =>
                rw [eb] at e1
                cases e1
                obtain ⟨F', c1, c2, c3⟩ := back ss ρ' w' hss r' m' eb
                refine hE rfl cls dd _ (h cls dd ⟨ρ', w'.R, w'.H, F'⟩ rfl c1 c2 ?_)
                rw [← hxc] at rx
                exact rx
          | ok p ss =>
            cases p with
            | sl i => unfold mEnd at e1; cases e1
            | val d =>
              unfold mEnd at e1
              simp only at e1
              intro v fv w' hss r' m' ov frv
              cases eb : mBack md ps ss w2.ρ with
              | none => rw [eb] at e1; cases e1
              | some ρ' =>
                rw [eb] at e1
                cases e1
                obtain ⟨F', c1, c2, c3⟩ := back ss ρ' w' hss r' m' eb
                refine h v fv ⟨ρ', w'.R, w'.H, F'⟩ rfl c1 c2 ⟨ov.1, fun a ha z => ?_⟩ fun a ha => ?_
                · rcases c3 a z with y | y
                  · rcases frv a ha with q | q
                    · obtain ⟨⟨ob, ho⟩, _⟩ := r2.fr a y
                      have q : w2.H a = none := q
                      rw [ho] at q; cases q
                    · exact n2 a q y
                  · exact ov.2 a ha y
                · rcases frv a ha with q | q
                  · have q : w2.H a = none := q
                    cases q3 : w.H a with
                    | none => exact .inl rfl
                    | some ob =>
                      refine .inr (Classical.byContradiction fun nn => ?_)
                      rw [m12.keep a ob q3 nn] at q; cases q
                  · exact fr2 a q
end
end TT

set_option Elab.async false
set_option linter.all false
set_option maxRecDepth 100000
namespace TT
open PySem PySem.Spec PyProof.Rows L2
section
variable {X : Cx} {C : Cn} {K : Fg} {σ : St} {w w1 w2 : Wd}
/-! ### statements -/
inductive Out where
  | nx (ρ : List SV) | rt (d : D) (ρ : List SV) | bk (ρ : List SV) | ct (ρ : List SV) | ex (c : Exc) (ρ : List SV)
abbrev SM := List SV → Option Out
def AftN (K : Fg) (σ : St) (w : Wd) (N : St → Hp → Prop) (ρ' : List SV) : Prop := ∀ σ' w', w'.ρ = ρ' → Rel K σ' w' → Mod σ w σ' w' → N σ' w'.H
def AftS (C : Cn) (σ : St) (w : Wd) (E : Ends) : Out → Prop
  | .nx ρ' => AftN C.K σ w E.nx ρ'
  | .bk ρ' => AftN C.K σ w E.bk ρ'
  | .ct ρ' => AftN C.K σ w E.ct ρ'
  | .rt d ρ' => ∀ v f σ' w', w'.ρ = ρ' → Rel C.K σ' w' → Mod σ w σ' w' → OpOk C.K σ' w' (.val d) v f → Fresh w f → E.rt v w'.H
  | .ex c ρ' => ∀ cls dd σ' w', w'.ρ = ρ' → Rel C.K σ' w' → Mod σ w σ' w' → RpX C w' c cls dd → C.W cls dd σ' w'.H
def tS (C : Cn) (s : SM) : TS := fun E σ H => ∃ w o, w.H = H ∧ Rel C.K σ w ∧ s w.ρ = some o ∧ AftS C σ w E o
theorem PS.weak {st : Stmt} {t t' : TS} (h : PS X st t) (k : ∀ E σ H, t' E σ H → t E σ H) : PS X st t' := ⟨fun pins s σ H D I q => h.run pins s σ H D I (k _ _ _ q)⟩
theorem PSs.weak {st : List Stmt} {t t' : TS} (h : PSs X st t) (k : ∀ E σ H, t' E σ H → t E σ H) : PSs X st t' := ⟨fun pins s σ H D I q => h.run pins s σ H D I (k _ _ _ q)⟩
theorem AftN.step {σ1 : St} {N : St → Hp → Prop} {ρ' : List SV} (h : AftN K σ w N ρ') (m : Mod σ w σ1 w1) : AftN K σ1 w1 N ρ' := fun σ' w' e r m' => h σ' w' e r (m.trans m')
theorem AftS.step {σ1 : St} {E : Ends} {o : Out} (h : AftS C σ w E o) (m : Mod σ w σ1 w1) : AftS C σ1 w1 E o := by
  cases o with
  | nx ρ' => exact AftN.step h m
  | bk ρ' => exact AftN.step h m
  | ct ρ' => exact AftN.step h m
  | rt d ρ' => exact fun v f σ' w' e r m' o fr => h v f σ' w' e r (m.trans m') o (fr.back m)
  | ex c ρ' => exact fun cls dd σ' w' e r m' x => h cls dd σ' w' e r (m.trans m') x
def sSeq (a b : SM) : SM := fun ρ => match a ρ with
  | some (.nx ρ') => b ρ'
  | o => o
def sNext : SM := fun ρ => some (.nx ρ)
theorem s_nil : PSs X [] (tS C sNext) := PSs.weak pss_nil fun E σ H ⟨w, o, eH, hr, hm, h⟩ => by
  subst eH; cases hm; exact h σ w rfl hr (Mod.refl hr)
theorem seq_run {a b : SM} {E : Ends} {H : Hp} (h : tS C (sSeq a b) E σ H) : tSeq (tS C a) (tS C b) E σ H := by
  obtain ⟨w, o, eH, hr, hm, h⟩ := h
  subst eH
  unfold sSeq at hm
  cases e : a w.ρ with
  | none => rw [e] at hm; cases hm
  | some q =>
    rw [e] at hm
    refine ⟨w, q, rfl, hr, e, ?_⟩
    cases q with
    | nx ρ1 => exact fun σ1 w1 e1 r1 m1 => ⟨w1, o, rfl, r1, by rw [e1]; exact hm, h.step m1⟩
    | rt d ρ1 => cases hm; exact h
    | bk ρ1 => cases hm; exact h
    | ct ρ1 => cases hm; exact h
    | ex c ρ1 => cases hm; exact h
theorem s_cons {st : Stmt} {rest : List Stmt} {a b : SM} (h1 : PS X st (tS C a)) (h2 : PSs X rest (tS C b)) : PSs X (st :: rest) (tS C (sSeq a b)) := PSs.weak (pss_cons h1 h2) fun _ _ _ h => seq_run h
theorem s_one {st : Stmt} {a : SM} (h1 : PS X st (tS C a)) : PSs X [st] (tS C a) := pss_one h1
theorem s_pass {pos : Pos} : PS X (.Pass pos) (tS C sNext) := PS.weak ps_pass fun E σ H ⟨w, o, eH, hr, hm, h⟩ => by
  subst eH; cases hm; exact h σ w rfl hr (Mod.refl hr)
theorem s_break {pos : Pos} : PS X (.Break pos) (tS C fun ρ => some (.bk ρ)) := PS.weak ps_break fun E σ H ⟨w, o, eH, hr, hm, h⟩ => by
  subst eH; cases hm; exact h σ w rfl hr (Mod.refl hr)
theorem s_cont {pos : Pos} : PS X (.Continue pos) (tS C fun ρ => some (.ct ρ)) := PS.weak ps_continue fun E σ H ⟨w, o, eH, hr, hm, h⟩ => by
  subst eH; cases hm; exact h σ w rfl hr (Mod.refl hr)
/-- an operand, then a statement's end -/
def sOf (oa : M Opd) (k : Opd → SM) : SM := fun ρ => match oa ρ with
  | some (.ok p ρ') => k p ρ'
  | some (.ex c ρ') => some (.ex c ρ')
  | none => none
theorem sOf_run {oa : M Opd} {k : Opd → SM} {E : Ends} {o : Out} {Q : VK} (hr : Rel C.K σ w) (hm : sOf oa k w.ρ = some o) (h : AftS C σ w E o) (hk : ∀ p v f w1, Rel C.K σ w1 → Mod σ w σ w1 → OpOk C.K σ w1 p v f → Fresh w f → k p w1.ρ = some o → Q v w1.H) : tO C oa σ w.H Q := by
  unfold sOf at hm
  cases e : oa w.ρ with
  | none => rw [e] at hm; cases hm
  | some q =>
    refine ⟨w, q, rfl, hr, e, ?_⟩
    rw [e] at hm
    cases q with
    | ok p ρ1 => exact fun v f w1 e1 r1 m1 o1 f1 => hk p v f w1 r1 m1 o1 f1 (by rw [e1]; exact hm)
    | ex c ρ1 => cases hm; exact fun cls dd w' e r m x => h cls dd σ w' e r m x
def sExpr (oa : M Opd) : SM := sOf oa fun _ => sNext
theorem s_expr {e : Expr} {oa : M Opd} {pos : Pos} (he : PE X e (tO C oa)) (hs : swapsWith e none pos.line X.env = pure false := by rfl) : PS X (.Expr e pos) (tS C (sExpr oa)) := PS.weak (ps_expr he hs) fun E σ H ⟨w, o, eH, hr, hm, h⟩ => by
  subst eH
  refine sOf_run hr hm h fun p v f w1 r1 m1 o1 fr1 e1 => ?_
  cases e1
  exact h σ w1 rfl r1 m1
/-- what is handed back: a value, or the name's own thing -/
def kRet : Opd → SM
  | .val d, ρ => some (.rt d ρ)
  | .sl i, ρ => match ρ[i]? with
    | some (.loc d) => some (.rt d (ρ.set i (.hol false)))
    | some (.par d) => if imm d then some (.rt d ρ) else none
    | _ => none
def sRet (oa : M Opd) : SM := sOf oa kRet
theorem s_ret {e : Expr} {oa : M Opd} {pos : Pos} (he : PE X e (tO C oa)) : PS X (.Return (some e) pos) (tS C (sRet oa)) := PS.weak (ps_ret he) fun E σ H ⟨w, o, eH, hr, hm, h⟩ => by
  subst eH
  refine sOf_run hr hm h fun p v f w1 r1 m1 o1 fr1 e1 => ?_
  cases p with
  | val d => cases e1; exact h v f σ w1 rfl r1 m1 o1 fr1
  | sl i =>
    unfold kRet at e1
    simp only at e1
    split at e1
    · rename_i d hi
      cases e1
      obtain ⟨w2, f2, h1, h2, h3, h4, h5, h6, h7⟩ := out_run (b := false) r1 o1.1 hi rfl (fun z => by cases z)
      rw [← h2]
      exact h v f2 σ w2 h1 h3 (m1.trans h4) ⟨h5, h6⟩ (h7.back m1)
    · rename_i d hi
      split at e1
      · rename_i hd
        cases e1
        have hs : slot w1.ρ i = some d := by unfold slot; rw [hi]; rfl
        obtain ⟨v', f1, f2, g1, g2, _⟩ := r1.ow.get hs
        have ev : v' = v := by have := o1.1; rw [g1] at this; simpa using this
        subst ev
        exact h v' f σ w1 rfl r1 m1 ⟨Ow.of_imm hd (g2.rp hd).1 o1.2, fun a z => (o1.2 a z).elim⟩ fr1
      · cases e1
    · cases e1
theorem s_retN {pos : Pos} : PS X (.Return none pos) (tS C fun ρ => some (.rt .non ρ)) := PS.weak ps_retN fun E σ H ⟨w, o, eH, hr, hm, h⟩ => by
  subst eH
  cases hm
  exact h .non (fun _ => False) σ w rfl hr (Mod.refl hr) ⟨Rp.ow (by unfold Rp; rfl), fun _ z => z.elim⟩ fun _ z => z.elim
def sIf (t : M Bool) (a b : SM) : SM := fun ρ => match t ρ with
  | some (.ok true ρ') => a ρ'
  | some (.ok false ρ') => b ρ'
  | some (.ex c ρ') => some (.ex c ρ')
  | none => none
theorem s_if {c : Expr} {sa sb : List Stmt} {t : M Bool} {a b : SM} {pos : Pos} (hc : PT X c (tT C t)) (ha : PSs X sa (tS C a)) (hb : PSs X sb (tS C b)) : PS X (.If c sa sb pos) (tS C (sIf t a b)) := PS.weak (ps_if hc ha hb) fun E σ H ⟨w, o, eH, hr, hm, h⟩ => by
  subst eH
  unfold sIf at hm
  cases e : t w.ρ with
  | none => rw [e] at hm; cases hm
  | some q =>
    refine ⟨w, q, rfl, hr, e, ?_⟩
    rw [e] at hm
    cases q with
    | ex c ρ1 => cases hm; exact fun cls dd w' e r m x => h cls dd σ w' e r m x
    | ok k ρ1 =>
      intro w1 e1 r1 m1
      subst e1
      cases k with
      | true => rw [if_pos rfl]; exact ⟨w1, o, rfl, r1, hm, h.step m1⟩
      | false => rw [if_neg Bool.false_ne_true]; exact ⟨w1, o, rfl, r1, hm, h.step m1⟩
/-- a slot is set -/
def setSlot (i : Nat) (d : D) (ρ : List SV) : Option (List SV) := match ρ[i]? with
  | some .un => some (ρ.set i (.loc d))
  | some (.loc _) => some (ρ.set i (.loc d))
  | some (.hol false) => some (ρ.set i (.loc d))
  | _ => none
theorem setSlot_run {i : Nat} {d : D} {v : V} {f : Fp} {ρ' : List SV} (r : Rel K σ w1) (m : Mod σ w σ w1) (o : Ow K w1.R w1.H d v f) (n : ∀ a, f a → ¬ w1.F a) (fr : Fresh w f) (e : setSlot i d w1.ρ = some ρ') :
    ∃ w', w'.ρ = ρ' ∧ w'.H = w1.H ∧ w'.R = w1.R ∧ Rel K (σ.set i (some v)) w' ∧ Mod σ w (σ.set i (some v)) w' := by
  have main : ∀ s, w1.ρ[i]? = some s → s.isPar = false → ρ' = w1.ρ.set i (.loc d) → ∃ w', w'.ρ = ρ' ∧ w'.H = w1.H ∧ w'.R = w1.R ∧ Rel K (σ.set i (some v)) w' ∧ Mod σ w (σ.set i (some v)) w' := fun s hi hp e => by
    have hlt := (List.getElem?_eq_some_iff.mp hi).1
    obtain ⟨f2, c1, c2⟩ := r.ow.put hlt
    have c3 := c2 w1.R w1.H (.loc d) d v f rfl (Same.refl _) (fun a ob _ ea => ea) (fun a ha => (r.fr a (c1 a ha)).2) o fun a ha z => n a ha (c1 a z)
    refine ⟨⟨w1.ρ.set i (.loc d), w1.R, w1.H, fun b => f b ∨ f2 b⟩, e.symm, rfl, rfl, ⟨r.sub, c3⟩, ⟨m.rr, m.keep, fun a ha => ?_, m.new, fun j s' hj hp' => ?_, List.length_set.trans m.len⟩⟩
    · rcases ha with z | z
      · exact (fr a z).symm
      · exact m.own a (c1 a z)
    · obtain ⟨e2, s2, h2, p2⟩ := m.fx j s' hj hp'
      have hji : i ≠ j := fun z => by
        subst z
        rw [hi] at h2; cases h2
        rw [hp] at p2; cases p2
      exact ⟨by rw [List.getElem?_set_ne hji], s2, by rw [List.getElem?_set_ne hji]; exact h2, p2⟩
  unfold setSlot at e
  split at e
  · rename_i hi; cases e; exact main _ hi rfl rfl
  · rename_i d0 hi; cases e; exact main _ hi rfl rfl
  · rename_i hi; cases e; exact main _ hi rfl rfl
  · cases e
def kSet (i : Nat) (p : Opd) : SM := fun ρ => match mTake p ρ with
  | some (.ok d ρ') => (setSlot i d ρ').map .nx
  | _ => none
def sSet (i : Nat) (oa : M Opd) : SM := sOf oa (kSet i)
theorem kSet_run {i : Nat} {p : Opd} {v : V} {f : Fp} {o : Out} {E : Ends} (h : AftS C σ w E o) (r1 : Rel C.K σ w1) (m1 : Mod σ w σ w1) (o1 : OpOk C.K σ w1 p v f) (fr : Fresh w f) (e : kSet i p w1.ρ = some o) : E.nx (σ.set i (some v)) w1.H := by
  unfold kSet at e
  cases e1 : mTake p w1.ρ with
  | none => rw [e1] at e; cases e
  | some q =>
    cases q with
    | ex c ρ1 => exact (mTake_noex e1).elim
    | ok d ρ1 =>
      rw [e1] at e
      simp only at e
      cases e2 : setSlot i d ρ1 with
      | none => rw [e2] at e; cases e
      | some ρ2 =>
        rw [e2] at e
        cases e
        obtain ⟨w2, hρ, hH, r2, m2, o2, n2⟩ := mTake_run o1 r1 e1
        subst hρ
        obtain ⟨w3, h1, h2, _, h3, h4⟩ := setSlot_run r2 (m1.trans m2) o2 n2 fr e2
        rw [← hH, ← h2]
        exact h _ w3 h1 h3 h4
theorem s_set {i : Nat} {x : Str} {e : Expr} {oa : M Opd} {pos pos' : Pos} (he : PE X e (tO C oa)) (hN : X.N.Nodup) (hi : X.N[i]? = some x := by rfl) (hx : Loc X.env.scope x := by first | exact Or.inl rfl | exact Or.inr rfl) (hs : swapsWith e (some (.Name x pos')) pos.line X.env = pure false := by rfl)
    (hf : X.fn x = true ∨ X.env.scope.names.lookup x = some .local := by first | exact .inl rfl | exact .inr rfl) : PS X (.Assign [.Name x pos'] e pos) (tS C (sSet i oa)) := PS.weak (ps_set hN hi hx he hs hf) fun E σ H ⟨w, o, eH, hr, hm, h⟩ => by
  subst eH
  exact sOf_run hr hm h fun p v f w1 r1 m1 o1 fr1 e1 => kSet_run h r1 m1 o1 fr1 e1

/-! ### a def, by its body -/
def keep1 : SV → SV
  | .par d => .par d
  | .hol true => .hol true
  | _ => .un
def keepP : List Bool → List SV → List SV
  | true :: bs, s :: ρ => keep1 s :: keepP bs ρ
  | false :: bs, _ :: ρ => .un :: keepP bs ρ
  | _, _ => []
theorem keep1_par {s : SV} (h : s.isPar = true) : (keep1 s).isPar = true := by
  cases s with
  | un => cases h
  | loc d => cases h
  | par d => rfl
  | hol p => have : p = true := h; subst this; rfl
/-- what a def's mirror is: its body from the parameters, N names in all -/
def mDef (x : Bool) (md : List Bool) (N : Nat) (s : SM) : M Opd := fun ρ => match s (ρ ++ List.replicate (N - md.length) .un) with
  | some (.rt d ρ') => some (.ok (.val d) (keepP md ρ'))
  | some (.nx ρ') => some (.ok (.val .non) (keepP md ρ'))
  | some (.ex c ρ') => if x then some (.ex c (keepP md ρ')) else none
  | _ => none
theorem owS_start : ∀ {R H : Hp} {ρ : List SV} {σ : St} {f : Fp} {k : Nat}, OwS K R H ρ σ f → OwS K R H (ρ ++ List.replicate k .un) (σ ++ List.replicate k none) f
  | R, H, [], σ, f, k, h => by
    unfold OwS at h
    rw [h.1, List.nil_append, List.nil_append]
    induction k with
    | zero => unfold OwS; exact ⟨rfl, h.2⟩
    | succ k ih => rw [List.replicate_succ, List.replicate_succ]; unfold OwS; exact ⟨none, _, rfl, ih⟩
  | R, H, .un :: ρ, σ, f, k, h => by
    unfold OwS at h
    obtain ⟨o, σ', e, q⟩ := h
    rw [e, List.cons_append, List.cons_append]
    unfold OwS
    exact ⟨o, _, rfl, owS_start q⟩
  | R, H, .hol _ :: ρ, σ, f, k, h => by
    unfold OwS at h
    obtain ⟨o, σ', e, q⟩ := h
    rw [e, List.cons_append, List.cons_append]
    unfold OwS
    exact ⟨o, _, rfl, owS_start q⟩
  | R, H, .loc d :: ρ, σ, f, k, h => by
    unfold OwS at h
    obtain ⟨v, σ', f1, f2, e, h1, h2, dj, hf⟩ := h
    rw [e, List.cons_append, List.cons_append]
    unfold OwS
    exact ⟨v, _, f1, f2, rfl, h1, owS_start h2, dj, hf⟩
  | R, H, .par d :: ρ, σ, f, k, h => by
    unfold OwS at h
    obtain ⟨v, σ', f1, f2, e, h1, h2, dj, hf⟩ := h
    rw [e, List.cons_append, List.cons_append]
    unfold OwS
    exact ⟨v, _, f1, f2, rfl, h1, owS_start h2, dj, hf⟩
/-- behind a body: the parameters that were handed in to be written -/
theorem owS_end : ∀ {R H : Hp} {md : List Bool} {ρ : List SV} {σ' σ0 : St} {f : Fp}, OwS K R H ρ σ' f → md.length ≤ ρ.length → σ0.length = md.length → (∀ i : Nat, md[i]? = some true → σ'[i]? = σ0[i]?) → ∃ g : Fp, (∀ a, g a → f a) ∧ OwS K R H (keepP md ρ) σ0 g
  | R, H, [], ρ, σ', σ0, f, h, hn, hl, hp => by
    have e : σ0 = [] := List.eq_nil_of_length_eq_zero hl
    refine ⟨fun _ => False, fun a z => z.elim, ?_⟩
    unfold keepP OwS
    exact ⟨e, fun _ z => z⟩
  | R, H, b :: md, [], σ', σ0, f, h, hn, hl, hp => by simp at hn
  | R, H, b :: md, s :: ρ, σ', σ0, f, h, hn, hl, hp => by
    obtain ⟨o0, σ0', e0⟩ : ∃ o σ1, σ0 = o :: σ1 := by
      cases σ0 with
      | nil => simp at hl
      | cons a b => exact ⟨a, b, rfl⟩
    subst e0
    obtain ⟨o, σ1, e1⟩ : ∃ o σ1, σ' = o :: σ1 := by
      have := h.len
      cases σ' with
      | nil => simp at this
      | cons a b => exact ⟨a, b, rfl⟩
    subst e1
    have hp' : ∀ i : Nat, md[i]? = some true → σ1[i]? = σ0'[i]? := fun i hi => by
      have := hp (i + 1) (by simpa using hi)
      simpa using this
    have skip : ∀ x : SV, (∀ (σ : St) (o : Option V) (g : Fp), OwS K R H (keepP md ρ) σ g → OwS K R H (x :: keepP md ρ) (o :: σ) g) → ∃ g : Fp, (∀ a, g a → f a) ∧ OwS K R H (x :: keepP md ρ) (o0 :: σ0') g := fun x hx => by
      obtain ⟨g2, k1, k2⟩ := h.tail
      obtain ⟨g, q1, q2⟩ := owS_end k2 (by simpa using hn) (by simpa using hl) hp'
      exact ⟨g, fun a ha => k1 a (q1 a ha), hx _ _ _ q2⟩
    have hun : ∀ (σ : St) (o : Option V) (g : Fp), OwS K R H (keepP md ρ) σ g → OwS K R H (.un :: keepP md ρ) (o :: σ) g := fun σ o g q => by
      unfold OwS; exact ⟨o, σ, rfl, q⟩
    cases b with
    | false => exact skip .un hun
    | true =>
      cases s with
      | un => exact skip .un hun
      | loc d => exact skip .un hun
      | hol p =>
        cases p with
        | true => exact skip (.hol true) fun σ o g q => by unfold OwS; exact ⟨o, σ, rfl, q⟩
        | false => exact skip .un hun
      | par d =>
        have e2 := hp 0 rfl
        unfold OwS at h
        obtain ⟨v, σ2, f1, f2, e, h1, h2, dj, hf⟩ := h
        cases e
        obtain ⟨g, q1, q2⟩ := owS_end h2 (by simpa using hn) (by simpa using hl) hp'
        have e3 : o0 = some v := by simpa using e2.symm
        subst e3
        refine ⟨fun b => f1 b ∨ g b, fun a ha => (hf a).mpr (ha.imp (fun z => z) (q1 a)), ?_⟩
        show OwS K R H (.par d :: keepP md ρ) _ _
        unfold OwS
        exact ⟨v, σ0', f1, g, rfl, h1, q2, fun a ha z => dj a ha (q1 a z), fun b => Iff.rfl⟩
theorem mkSs_len : ∀ {md : List Bool} {ds : List D}, ds.length = md.length → (mkSs md ds).length = md.length
  | [], [], _ => rfl
  | b :: bs, d :: ds, h => by unfold mkSs; rw [List.length_cons, List.length_cons, mkSs_len (by simpa using h)]
  | [], _ :: _, h => by simp at h
  | _ :: _, [], h => by simp at h
theorem mkSs_get : ∀ {md : List Bool} {ds : List D} {i : Nat} {s : SV}, ds.length = md.length → (mkSs md ds)[i]? = some s → s.isPar = true → md[i]? = some true
  | [], [], i, s, _, h, _ => by unfold mkSs at h; simp at h
  | b :: bs, d :: ds, 0, s, hl, h, hp => by
    unfold mkSs mkS at h
    cases b with
    | true => rfl
    | false => simp at h; subst h; cases hp
  | b :: bs, d :: ds, i + 1, s, hl, h, hp => by
    unfold mkSs at h
    have := mkSs_get (i := i) (by simpa using hl) (by simpa using h) hp
    simpa using this
  | [], _ :: _, _, _, h, _, _ => by simp at h
  | _ :: _, [], _, _, h, _, _ => by simp at h
theorem mkSs_par : ∀ {md : List Bool} {ds : List D} {i : Nat}, ds.length = md.length → md[i]? = some true → ∃ d, (mkSs md ds)[i]? = some (.par d)
  | [], [], i, _, h => by simp at h
  | b :: bs, d :: ds, 0, hl, h => by
    have : b = true := by simpa using h
    subst this
    exact ⟨d, rfl⟩
  | b :: bs, d :: ds, i + 1, hl, h => by
    obtain ⟨d', e⟩ := mkSs_par (md := bs) (ds := ds) (i := i) (by simpa using hl) (by simpa using h)
    exact ⟨d', by unfold mkSs; simpa using e⟩
  | [], _ :: _, _, h, _ => by simp at h
  | _ :: _, [], _, h, _ => by simp at h
theorem keepP_get : ∀ {md : List Bool} {ρ : List SV} {i : Nat} {s : SV}, md[i]? = some true → ρ[i]? = some s → (keepP md ρ)[i]? = some (keep1 s)
  | [], _, i, s, h, _ => by simp at h
  | b :: md, [], i, s, h, h' => by simp at h'
  | b :: md, s0 :: ρ, 0, s, h, h' => by
    have e1 : b = true := by simpa using h
    have e2 : s0 = s := by simpa using h'
    subst e1 e2
    rfl
  | b :: md, s0 :: ρ, i + 1, s, h, h' => by
    have := keepP_get (md := md) (ρ := ρ) (i := i) (s := s) (by simpa using h) (by simpa using h')
    cases b <;> (unfold keepP; simpa using this)
theorem keepP_len : ∀ {md : List Bool} {ρ : List SV}, md.length ≤ ρ.length → (keepP md ρ).length = md.length
  | [], _, _ => by unfold keepP; rfl
  | b :: md, [], h => by simp at h
  | b :: md, s :: ρ, h => by
    have := keepP_len (md := md) (ρ := ρ) (by simpa using h)
    cases b <;> (unfold keepP; simp [this])
/-- what the body's end means for the caller -/
theorem def_run {xc : Str → Value} {x : Bool} {md : List Bool} {N : Nat} {s : SM} {vs : List V} {H : Hp} {Q : VK} {E : XK} {W : WX} (hW : x = true → ∀ cls dd σ H, E cls dd H → W cls dd σ H) (hN : md.length ≤ N) (h : spM K xc md (mDef x md N s) vs H Q E) :
    tS ⟨K, xc, W⟩ s { nx := fun _ H' => Q .non H', rt := Q } (vs.map some ++ List.replicate (N - vs.length) none) H := by
  obtain ⟨hl, ds, w, z, hd, eH, eρ, r, hm, hv, h⟩ := h
  subst eH
  have hlen : w.ρ.length = md.length := by rw [eρ]; exact mkSs_len hd
  have hlv : (vs.map some).length = md.length := by rw [List.length_map]; exact hl
  unfold mDef at hm
  cases e : s (w.ρ ++ List.replicate (N - md.length) .un) with
  | none => rw [e] at hm; cases hm
  | some o =>
    rw [e] at hm
    have r0 : Rel K (vs.map some ++ List.replicate (N - vs.length) none) ⟨w.ρ ++ List.replicate (N - md.length) .un, w.R, w.H, w.F⟩ := ⟨r.sub, by rw [hl]; exact owS_start r.ow⟩
    refine ⟨⟨w.ρ ++ List.replicate (N - md.length) .un, w.R, w.H, w.F⟩, o, rfl, r0, e, ?_⟩
    have back : ∀ σ' w', Rel K σ' w' → Mod (vs.map some ++ List.replicate (N - vs.length) none) ⟨w.ρ ++ List.replicate (N - md.length) .un, w.R, w.H, w.F⟩ σ' w' →
        ∃ g : Fp, (∀ a, g a → w'.F a) ∧ Rel K (vs.map some) ⟨keepP md w'.ρ, w'.R, w'.H, g⟩ ∧ Mod (vs.map some) w (vs.map some) ⟨keepP md w'.ρ, w'.R, w'.H, g⟩ := fun σ' w' r' m' => by
      have fx' : ∀ i : Nat, md[i]? = some true → σ'[i]? = (vs.map some)[i]? ∧ ∃ s', w'.ρ[i]? = some s' ∧ s'.isPar = true := fun i hi => by
        obtain ⟨d, hd'⟩ := mkSs_par (ds := ds) hd hi
        rw [← eρ] at hd'
        have hlt := (List.getElem?_eq_some_iff.mp hd').1
        have q := m'.fx i (.par d) (by show (w.ρ ++ _)[i]? = _; rw [List.getElem?_append_left hlt]; exact hd') rfl
        rw [List.getElem?_append_left (by omega)] at q
        exact q
      have hn : md.length ≤ w'.ρ.length := by
        have := m'.len
        simp at this
        omega
      obtain ⟨g, g1, g2⟩ := owS_end (σ0 := vs.map some) r'.ow hn hlv fun i hi => (fx' i hi).1
      refine ⟨g, g1, ⟨r'.sub, g2⟩, ⟨m'.rr, m'.keep, fun a ha => m'.own a (g1 a ha), m'.new, fun i s0 hi hp => ⟨rfl, ?_⟩, ?_⟩⟩
      · have hmd : md[i]? = some true := mkSs_get hd (by rw [← eρ]; exact hi) hp
        obtain ⟨_, s', h', p'⟩ := fx' i hmd
        exact ⟨keep1 s', keepP_get hmd h', keep1_par p'⟩
      · show (keepP md w'.ρ).length = w.ρ.length
        rw [keepP_len hn, hlen]
    cases o with
    | nx ρ' =>
      cases hm
      intro σ' w' e1 r' m'
      subst e1
      obtain ⟨g, g1, g2, g3⟩ := back σ' w' r' m'
      exact h .non (fun _ => False) ⟨keepP md w'.ρ, w'.R, w'.H, g⟩ rfl g2 g3 ⟨Rp.ow (by unfold Rp; rfl), fun _ z => z.elim⟩ fun _ z => z.elim
    | rt d ρ' =>
      cases hm
      intro v f σ' w' e1 r' m' o' fr'
      subst e1
      obtain ⟨g, g1, g2, g3⟩ := back σ' w' r' m'
      exact h v f ⟨keepP md w'.ρ, w'.R, w'.H, g⟩ rfl g2 g3 ⟨o'.1, fun a ha z => o'.2 a ha (g1 a z)⟩ fr'
    | ex c ρ' =>
      cases x with
      | false => cases hm
      | true =>
        cases hm
        intro cls dd σ' w' e1 r' m' x'
        subst e1
        obtain ⟨g, g1, g2, g3⟩ := back σ' w' r' m'
        exact hW rfl cls dd σ' _ (h cls dd ⟨keepP md w'.ρ, w'.R, w'.H, g⟩ rfl g2 g3 x')
    | bk ρ' => cases hm
    | ct ρ' => cases hm

end
section
variable {P : Program} {w : World} {K : Fg} {mg : Str → Option Value} {base : Heap} {xc : Str → Value}
abbrev W0 : WX := fun _ _ _ _ => False
/-- a def that lets no exception out -/
theorem def_ok {x qual : Str} {st : Stmt} {f : Addr} {fd : FuncData} {N ps : List Str} {k : Nat} {s : SM} (F : Fun K x qual st f fd) (S : FnScope N ps (defScope st)) (md : List Bool) (hmd : md.length = ps.length)
    (hbody : ∀ (cdv : Value) (A : Around) (outer : List Env) (s0 : Shared) (H : Hp) (E : XK), Room k (A.deeper (envOfC qual (defScope st) s0.heap.objs.size f cdv)) →
      PSs (cxOf CX0 P w K mg base N qual (defScope st) f cdv A outer s0 H E).nox (defBody st) (tS ⟨K, xc, W0⟩ s)) :
    FnOk P w K mg base CX0 (k + 1) f fd ps (spM K xc md (mDef false md N.length s)) := by
  refine F.ok S (fun vs H Q E h => h.1.trans hmd) (fun cdv A outer s0 H vs Q E hr h => ⟨_, hbody cdv A outer s0 H E hr, ?_⟩)
  have hpl : ps.length ≤ N.length := by have := congrArg List.length S.pre; rw [List.length_take] at this; omega
  exact def_run (fun z => by cases z) (by omega) h
/-- its call -/
theorem m_call {X : Cx} {W : WX} {md : List Bool} {m : M Opd} {k : Nat} {f : Addr} {fd : FuncData} {ps : List Str} {x : Str} {e : Expr} {es : List Expr} {p pos : Pos} {os : M (List Opd)} (F : FnOk X.prog X.w X.K X.mg X.base CX0 k f fd ps (spM X.K xc md m)) (hr : Room k X.A) (hm : X.mg x = some (.ref f))
    (hk : PySem.W.keepIn X.K (.ref f) = true) (hb : Binds X.K fd ps []) (ha : PA X (e :: es) (tOL ⟨X.K, xc, W⟩ os)) (hg : Gl X x := by rfl) (hdb : (x == ("__debug__" : Str)) = false := by decide) (he : starEach (e :: es) X.env = (false, eval e X.env) :: starEach es X.env := by rfl)
    (hpl : (backTo pos (starEach es X.env)).any (·.1) = false := by rfl) : PE X (.Call (.Name x p) (e :: es) [] pos) (tO ⟨X.K, xc, W⟩ (mCall false md m os)) := by
  refine PE.weak (pe_call (dvs := []) F hr hg hm hk hb .nil pass0 ha hdb he hpl) fun σ H Q h => ?_
  have q := call_run (E := E0) rfl (fun z => by cases z) h
  unfold tCall
  simpa using q
end
end TT

set_option Elab.async false
set_option linter.all false
set_option maxRecDepth 100000
namespace TT
open PySem PySem.Spec PyProof.Rows L2
section
variable {X : Cx} {C : Cn} {K : Fg} {σ : St} {w w1 w2 : Wd}
/-! ### what is walked -/
def IterOk (K : Fg) (J : It) (ds : List D) (w0 : Wd) : Prop := ∀ w : Wd, Same w0.R w.R → Same w.R w.H → ∀ i : Nat,
  (i < ds.length → J.go i w.H ∧ ∀ x H3, J.yld i w.H x H3 → ∃ w3 d, Ex w w3 ∧ w3.H = H3 ∧ ds[i]? = some d ∧ Rp K w3.R d x) ∧ (ds.length ≤ i → J.stop i w.H)
def AftI (C : Cn) (σ : St) (w : Wd) (R : It → Hp → Prop) : Res (List D) → Prop
  | .ok ds ρ' => ∀ J w', w'.ρ = ρ' → Rel C.K σ w' → Mod σ w σ w' → IterOk C.K J ds w' → R J w'.H
  | .ex c ρ' => AftX C σ w c ρ'
def tI (C : Cn) (m : M (List D)) : TI := fun σ H R => ∃ w z, w.H = H ∧ Rel C.K σ w ∧ m w.ρ = some z ∧ AftI C σ w R z
theorem PI.weak {tg it : Expr} {t t' : TI} (h : PI X tg it t) (k : ∀ σ H R, t' σ H R → t σ H R) : PI X tg it t' := ⟨fun pins s σ H R I q => h.run pins s σ H R I (k _ _ _ q)⟩
/-- signs of a text -/
def chars (y : Str) : List D := y.cps.toList.map fun c => .str ⟨#[c]⟩
/-- the items of a frozen row -/
def rowOf : D → Option (List D)
  | .str y => some (chars y)
  | .lst ds => some ds
  | .sq ds => some ds
  | .tup ds => some ds
  | _ => none
def kRow (p : Opd) : M (List D) := mb (mTake p) fun d => mo (rowOf (fz d))
def mRow (oa : M Opd) : M (List D) := mb oa kRow
theorem rpL_get : ∀ {R : Hp} {ds : List D} {vs : List V} {i : Nat} {v : V}, RpL K R ds vs → vs[i]? = some v → ∃ d, ds[i]? = some d ∧ Rp K R d v
  | R, [], vs, i, v, h, e => by unfold RpL at h; rw [h] at e; simp at e
  | R, d :: ds, vs, i, v, h, e => by
    unfold RpL at h
    obtain ⟨v0, vs', e1, h1, h2⟩ := h
    subst e1
    cases i with
    | zero => have : v0 = v := by simpa using e
              subst this; exact ⟨d, rfl, h1⟩
    | succ i => obtain ⟨d', q1, q2⟩ := rpL_get h2 (show vs'[i]? = some v by simpa using e); exact ⟨d', by simpa using q1, q2⟩
theorem iter_list {a : Addr} {ds : List D} {vs : List V} {w0 : Wd} (hL : ∀ H, Same w0.R H → SqL K H a vs) (inj : ∀ H ys, SqL K H a ys → Same w0.R H → True) (r : RpL K w0.R ds vs) : IterOk K (Itl K a) ds w0 := by
  intro w s1 s2 i
  have hs := hL w.H (s1.trans s2)
  have hl := r.len
  refine ⟨fun hi => ⟨⟨vs, vs[i]'(by omega), hs, List.getElem?_eq_getElem (by omega)⟩, fun x H3 y => ?_⟩, fun hi => ⟨vs, hs, by omega⟩⟩
  obtain ⟨e, y⟩ := y
  subst e
  obtain ⟨d, q1, q2⟩ := rpL_get r (y vs hs)
  exact ⟨w, d, Ex.refl s2, rfl, q1, q2.mono s1⟩
theorem iter_tup {a : Addr} {ds : List D} {vs : List V} {w0 : Wd} (hT : ∀ H, Same w0.R H → SqT K H a vs) (r : RpL K w0.R ds vs) : IterOk K (Itt K a) ds w0 := by
  intro w s1 s2 i
  have hs := hT w.H (s1.trans s2)
  have hl := r.len
  refine ⟨fun hi => ⟨⟨vs, vs[i]'(by omega), hs, List.getElem?_eq_getElem (by omega)⟩, fun x H3 y => ?_⟩, fun hi => ⟨vs, hs, by omega⟩⟩
  obtain ⟨e, y⟩ := y
  subst e
  obtain ⟨d, q1, q2⟩ := rpL_get r (y vs hs)
  exact ⟨w, d, Ex.refl s2, rfl, q1, q2.mono s1⟩
/-- over a list or a tuple, whichever it is -/
theorem pi_either {tg l : Expr} {tl : TE} (hl : PE X l tl) : PI X tg l (fun σ H R => tl σ H fun x H1 => (∃ y, x = .str y ∧ R (Its y) H1) ∨ ∃ a, x = .ref a ∧ (((∃ xs, SqL X.K H1 a xs) ∧ R (Itl X.K a) H1) ∨ ((∃ xs, SqT X.K H1 a xs) ∧ R (Itt X.K a) H1))) := by
  refine ⟨fun pins s σ H R I h => thn (hl.run pins s σ H _ I h) fun v s1 ⟨x, H1, I1, r1, q⟩ => ?_⟩
  rcases q with ⟨y, e, q⟩ | ⟨a, e, q⟩
  · subst e
    obtain ⟨t, rfl⟩ := r1
    cases ha : y.cps.all (· < 128)
    · exact wpAny_pyIter_wide ha (pi_one (tk := s1.toks) I1 _ (turn_str _ y t "str_iterator" (.inr rfl)) ⟨_, Heap.get?_push_size _ rfl, rfl, rfl⟩ q)
    · exact wpAny_pyIter_ascii ha (pi_one (tk := s1.toks) I1 _ (turn_str _ y t "str_ascii_iterator" (.inl rfl)) ⟨_, Heap.get?_push_size _ rfl, rfl, rfl⟩ q)
  subst e
  cases r1
  have fp : ∀ b, b ∈ [s1.heap.objs.size] → FpOk X pins H1 b := fun b hb => by
    rw [List.mem_singleton.mp hb]
    exact I1.fpOk (Nat.le_refl _) (I1.hok.fresh (Nat.le_refl _))
  rcases q with ⟨⟨xs, hq⟩, q⟩ | ⟨⟨xs, hq⟩, q⟩
  · obtain ⟨its, _, p, _⟩ := I1.list hq
    exact wpAny_pyIter_list p.isList ⟨s1.heap.objs.size, [s1.heap.objs.size], _, _, H1, rfl, I1.kept (t' := s1.toks) (fun b o e => Heap.get?_push_of_some _ e), turn_list a _, ⟨_, Heap.get?_push_size _ rfl, rfl, rfl⟩, fp, q⟩
  · obtain ⟨its, _, p, _⟩ := I1.tuple hq
    exact wpAny_pyIter_tuple (items := its.toArray) p ⟨s1.heap.objs.size, [s1.heap.objs.size], _, _, H1, rfl, I1.kept (t' := s1.toks) (fun b o e => Heap.get?_push_of_some _ e), turn_tuple a _, ⟨_, Heap.get?_push_size _ rfl, rfl, rfl⟩, fp, q⟩
theorem iter_str {y : Str} {w0 : Wd} : IterOk K (Its y) (chars y) w0 := by
  intro w s1 s2 i
  have hl : (chars y).length = y.cps.size := by unfold chars; simp
  rw [hl]
  refine ⟨fun hi => ⟨hi, fun x H3 q => ?_⟩, fun hi => hi⟩
  obtain ⟨e, c, hc, q⟩ := q
  subst e q
  refine ⟨w, .str ⟨#[c]⟩, Ex.refl s2, rfl, ?_, by unfold Rp; rfl⟩
  unfold chars
  rw [List.getElem?_map, Array.getElem?_toList, hc]; rfl
theorem i_row {tg e : Expr} {oa : M Opd} (hK : C.K = X.K) (he : PE X e (tO C oa)) : PI X tg e (tI C (mRow oa)) := by
  refine PI.weak (pi_either he) fun σ H R ⟨w, z, eH, hr, hm, h⟩ => ?_
  subst eH
  refine tO_step hr hm (fun c ρ' e => by subst e; exact h) fun p v f w1 r1 m1 o1 fr1 e1 => ?_
  unfold kRow mb at e1
  cases e2 : mTake p w1.ρ with
  | none => rw [e2] at e1; cases e1
  | some q =>
    cases q with
    | ex c ρ1 => exact (mTake_noex e2).elim
    | ok d ρ1 =>
      rw [e2] at e1
      simp only [mo] at e1
      cases e3 : rowOf (fz d) with
      | none => rw [e3] at e1; cases e1
      | some ds =>
        rw [e3] at e1
        cases e1
        obtain ⟨w2, hρ, hH, r2, m2, o2, n2⟩ := mTake_run o1 r1 e2
        subst hρ
        obtain ⟨w3, hρ3, hH3, _, r3, m3, s3, k3, _⟩ := fz_world (w1 := w) r2 o2.at n2 fr1 (m1.trans m2)
        have rp : Rp C.K w3.R (fz d) v := o2.fz s3 k3
        rw [← hH, ← hH3, ← hK]
        have sub := r3.sub
        generalize hg : fz d = d' at rp e3
        have go : ∀ J, IterOk C.K J ds w3 → R J w3.H := fun J hJ => h J w3 hρ3 r3 m3 hJ
        cases d' with
        | lst xs =>
          unfold Rp at rp
          obtain ⟨a, vs, rfl, ha, q⟩ := rp
          cases e3
          exact .inr ⟨a, rfl, .inl ⟨⟨vs, SqL.of (sub _ _ ha)⟩, go _ (iter_list (vs := vs) (fun H s => SqL.of (s _ _ ha)) (fun _ _ _ _ => trivial) q)⟩⟩
        | sq xs =>
          unfold Rp at rp
          obtain ⟨a, vs, rfl, ha, q⟩ := rp
          cases e3
          exact .inr ⟨a, rfl, .inl ⟨⟨vs, sqL_mono sub ha⟩, go _ (iter_list (vs := vs) (fun H s => sqL_mono s ha) (fun _ _ _ _ => trivial) q)⟩⟩
        | tup xs =>
          unfold Rp at rp
          obtain ⟨a, vs, rfl, ha, q⟩ := rp
          cases e3
          exact .inr ⟨a, rfl, .inr ⟨⟨vs, sqT_mono sub ha⟩, go _ (iter_tup (vs := vs) (fun H s => sqT_mono s ha) q)⟩⟩
        | str y =>
          unfold Rp at rp
          subst rp
          cases e3
          exact .inl ⟨y, rfl, go _ iter_str⟩
        | _ => cases e3
/-- range(n) -/
def rangeD (lo : Int) (n : Nat) : List D := (List.range n).map fun (i : Nat) => D.int (lo + (i : Int))
theorem rangeD_len (lo : Int) (n : Nat) : (rangeD lo n).length = n := by unfold rangeD; simp
theorem rangeD_get {lo : Int} {n i : Nat} (h : i < n) : (rangeD lo n)[i]? = some (.int (lo + (i : Int))) := by
  unfold rangeD
  rw [List.getElem?_map, List.getElem?_range h]; rfl
theorem iter_range {lo : Int} {n : Nat} {w0 : Wd} : IterOk K (Itr lo n) (rangeD lo n) w0 := by
  intro w s1 s2 i
  rw [rangeD_len]
  refine ⟨fun hi => ⟨hi, fun x H3 y => ?_⟩, fun hi => hi⟩
  obtain ⟨e, y⟩ := y
  subst e y
  exact ⟨w, _, Ex.refl s2, rfl, rangeD_get hi, by unfold Rp; rfl⟩
def kRange1 (ps : List Opd) : M (List D) := fun ρ => match rsL ρ ps with
  | some [.int j] => if -(2 ^ 62) ≤ j ∧ j < 2 ^ 62 then some (.ok (rangeD 0 j.toNat) ρ) else none
  | _ => none
def kRange2 (ps : List Opd) : M (List D) := fun ρ => match rsL ρ ps with
  | some [.int i, .int j] => if -(2 ^ 62) ≤ i ∧ i < 2 ^ 62 ∧ -(2 ^ 62) ≤ j ∧ j < 2 ^ 62 then some (.ok (rangeD i (j - i).toNat) ρ) else none
  | _ => none
theorem vw_int {d : D} {v : V} {f : Fp} {R H : Hp} (h : Ow K R H d v f) {j : Int} (e : d = .int j) : v = .int j := by
  subst e
  have := (Ow.rp rfl h).1
  unfold Rp at this
  exact this
theorem i_range1 {tg a : Expr} {os : M (List Opd)} {p pos : Pos} (ha : PA X [a] (tOL C os)) (hm : X.mg "range" = none) (hg : Gl X "range" := by rfl) (hs : starEach [a] X.env = [(false, eval a X.env)] := by rfl) : PI X tg (.Call (.Name "range" p) [a] [] pos) (tI C (mb os kRange1)) := by
  refine PI.weak (pi_range1 hg hm ha hs) fun σ H R ⟨w, z, eH, hr, hm, h⟩ => ?_
  subst eH
  refine tOL_step hr hm (fun c ρ' e => by subst e; exact h) fun ps vs f w1 r1 m1 o1 fr1 e1 => ?_
  unfold kRange1 at e1
  split at e1
  · rename_i j ej
    split at e1
    · rename_i hj
      cases e1
      have q := o1.see r1 ej
      unfold VwL VwL at q
      obtain ⟨v, vs', f', e2, q1, q2⟩ := q
      subst e2 q2
      have := vw_int q1 rfl
      subst this
      exact ⟨j, rfl, hj.1, hj.2, h _ w1 rfl r1 m1 iter_range⟩
    · cases e1
  · cases e1
theorem i_range2 {tg a b : Expr} {os : M (List Opd)} {p pos : Pos} (ha : PA X [a, b] (tOL C os)) (hm : X.mg "range" = none) (hg : Gl X "range" := by rfl) (hs : starEach [a, b] X.env = [(false, eval a X.env), (false, eval b X.env)] := by rfl) (hs2 : starEach [b] X.env = [(false, eval b X.env)] := by rfl) :
    PI X tg (.Call (.Name "range" p) [a, b] [] pos) (tI C (mb os kRange2)) := by
  refine PI.weak (pi_range2 hg hm ha hs hs2) fun σ H R ⟨w, z, eH, hr, hm, h⟩ => ?_
  subst eH
  refine tOL_step hr hm (fun c ρ' e => by subst e; exact h) fun ps vs f w1 r1 m1 o1 fr1 e1 => ?_
  unfold kRange2 at e1
  split at e1
  · rename_i i j ej
    split at e1
    · rename_i hj
      cases e1
      have q := o1.see r1 ej
      unfold VwL VwL VwL at q
      obtain ⟨v, vs', f', e2, q1, v2, vs2, f2, e3, q2, q3⟩ := q
      subst e2 e3 q3
      have := vw_int q1 rfl
      subst this
      have := vw_int q2 rfl
      subst this
      exact ⟨i, j, rfl, hj, h _ w1 rfl r1 m1 iter_range⟩
    · cases e1
  · cases e1

/-! ### targets -/
/-- a target takes a frozen thing; is: the slots it sets -/
def AftG (K : Fg) (is : List Nat) (σ : St) (w : Wd) (Q : St → Hp → Prop) (ρ' : List SV) : Prop :=
  ∀ σ' w', w'.ρ = ρ' → w'.H = w.H → Rel K σ' w' → Mod σ w σ' w' → σ'.length = σ.length → (∀ j, j ∉ is → σ'[j]? = σ[j]?) → Q σ' w'.H
def tG (C : Cn) (is : List Nat) (t : D → List SV → Option (List SV)) : TG := fun v σ H Q => ∃ w d ρ', w.H = H ∧ Rel C.K σ w ∧ Rp C.K w.R d v ∧ t d w.ρ = some ρ' ∧ AftG C.K is σ w Q ρ'
theorem PG.weak {tg : Expr} {t t' : TG} (h : PG X tg t) (k : ∀ v σ H Q, t' v σ H Q → t v σ H Q) : PG X tg t' := ⟨fun pins s σ H v u Q I r q => h.run pins s σ H v u Q I r (k _ _ _ _ q)⟩
theorem PGs.weak {tg : List Expr} {t t' : TGs} (h : PGs X tg t) (k : ∀ v σ H Q, t' v σ H Q → t v σ H Q) : PGs X tg t' := ⟨fun pins s σ H v u Q I r q => h.run pins s σ H v u Q I r (k _ _ _ _ q)⟩
theorem g_name {i : Nat} {x : Str} {pos : Pos} (hN : X.N.Nodup) (hi : X.N[i]? = some x := by rfl) (hx : Loc X.env.scope x := by first | exact Or.inl rfl | exact Or.inr rfl) (hf : X.fn x = true ∨ X.env.scope.names.lookup x = some .local := by first | exact .inl rfl | exact .inr rfl) :
    PG X (.Name x pos) (tG C [i] (setSlot i)) := by
  refine PG.weak (pg_name hN hi hx hf) fun v σ H Q ⟨w, d, ρ', eH, hr, rp, e, h⟩ => ?_
  subst eH
  obtain ⟨w', h1, h2, h3, h4, h5⟩ := setSlot_run hr (Mod.refl hr) rp.ow (fun _ z => z.elim) (fun _ z => z.elim) e
  show Q (σ.set i (some v)) w.H
  rw [← h2]
  exact h _ w' h1 h2 h4 h5 List.length_set fun j hj => by
    rw [List.getElem?_set_ne fun z => hj (by rw [← z]; exact List.mem_singleton_self _)]
def tGs (C : Cn) (is : List Nat) (t : List D → List SV → Option (List SV)) : TGs := fun vs σ H Q => ∃ w ds ρ', w.H = H ∧ Rel C.K σ w ∧ RpL C.K w.R ds vs ∧ t ds w.ρ = some ρ' ∧ AftG C.K is σ w Q ρ'
def gsNil (ds : List D) (ρ : List SV) : Option (List SV) := if ds.isEmpty then some ρ else none
def gsCons (t : D → List SV → Option (List SV)) (u : List D → List SV → Option (List SV)) : List D → List SV → Option (List SV)
  | d :: ds, ρ => (t d ρ).bind (u ds)
  | [], _ => none
theorem gs_nil : PGs X [] (tGs C [] gsNil) := by
  refine PGs.weak pgs_nil fun vs σ H Q ⟨w, ds, ρ', eH, hr, rp, e, h⟩ => ?_
  subst eH
  unfold gsNil at e
  cases ds with
  | nil => cases e; unfold RpL at rp; exact ⟨rp, h σ w rfl rfl hr (Mod.refl hr) rfl fun _ _ => rfl⟩
  | cons d ds => cases e
theorem gs_cons {e : Expr} {es : List Expr} {is js : List Nat} {t : D → List SV → Option (List SV)} {u : List D → List SV → Option (List SV)} (h1 : PG X e (tG C is t)) (h2 : PGs X es (tGs C js u))
    (hs : (assignEach (e :: es) X.env).map (·.2) = assign e X.env :: (assignEach es X.env).map (·.2) := by rfl) : PGs X (e :: es) (tGs C (is ++ js) (gsCons t u)) := by
  refine PGs.weak (pgs_cons h1 h2 hs) fun vs σ H Q ⟨w, ds, ρ', eH, hr, rp, e, h⟩ => ?_
  subst eH
  cases ds with
  | nil => cases e
  | cons d ds =>
    unfold RpL at rp
    obtain ⟨v, vs', ev, q1, q2⟩ := rp
    have e : (t d w.ρ).bind (u ds) = some ρ' := e
    cases e1 : t d w.ρ with
    | none => rw [e1] at e; cases e
    | some ρ1 =>
      rw [e1] at e
      refine ⟨v, vs', ev, w, d, ρ1, rfl, hr, q1, e1, fun σ1 w1 a1 a2 a3 a4 a5 a6 => ?_⟩
      refine ⟨w1, ds, ρ', rfl, a3, q2.mono a4.rr, by rw [a1]; exact e, fun σ2 w2 b1 b2 b3 b4 b5 b6 => ?_⟩
      exact h σ2 w2 b1 (b2.trans a2) b3 (a4.trans b4) (b5.trans a5) fun j hj => by
        rw [b6 j fun z => hj (List.mem_append_right _ z), a6 j fun z => hj (List.mem_append_left _ z)]
def gTupD (n : Nat) (t : List D → List SV → Option (List SV)) : D → List SV → Option (List SV)
  | .tup ds, ρ => if ds.length = n then t ds ρ else none
  | _, _ => none
theorem g_tup {es : List Expr} {k : Nat} {pos : Pos} {is : List Nat} {t : List D → List SV → Option (List SV)} {n : Nat} (hK : C.K = X.K) (h : PGs X es (tGs C is t)) (hc : X.calm = true := by rfl) (hn : (assignEach es X.env).length = n := by rfl) (hst : (assignEach es X.env).findIdx? (·.1) = none := by rfl) :
    PG X (.Tuple es k pos) (tG C is (gTupD n t)) := by
  refine PG.weak (pg_tup hc h hn hst) fun v σ H Q ⟨w, d, ρ', eH, hr, rp, e, h⟩ => ?_
  subst eH
  cases d <;> first | (cases e; done) | skip
  rename_i ds
  unfold gTupD at e
  simp only at e
  split at e
  · rename_i hl
    unfold Rp at rp
    obtain ⟨a, vs, ev, q1, q2⟩ := rp
    refine ⟨a, vs, ev, by rw [← hK]; exact sqT_mono hr.sub q1, q2.len.trans hl, w, ds, ρ', rfl, hr, q2, e, h⟩
  · cases e
/-- targets = value, where the value isn't just stored under one name -/
def sAsg (oa : M Opd) (t : D → List SV → Option (List SV)) : SM := sOf oa fun p ρ => match mTake p ρ with
  | some (.ok d ρ') => (t (fz d) ρ').map .nx
  | _ => none
theorem s_asg {tg e : Expr} {pos : Pos} {oa : M Opd} {is : List Nat} {t : D → List SV → Option (List SV)} (he : PE X e (tO C oa)) (hg : PG X tg (tG C is t)) (hs : swapsWithSole [tg] e pos.line X.env = pure false := by rfl) (hw : swappedStores [tg] e X.env = pure none := by rfl)
    (h1 : (assignEach [tg] X.env).map (·.2) = [assign tg X.env] := by rfl) : PS X (.Assign [tg] e pos) (tS C (sAsg oa t)) := by
  refine PS.weak (ps_asg he hg hs hw h1) fun E σ H ⟨w, o, eH, hr, hm, h⟩ => ?_
  subst eH
  refine sOf_run hr hm h fun p v f w1 r1 m1 o1 fr1 e1 => ?_
  cases e2 : mTake p w1.ρ with
  | none => simp only [e2] at e1; cases e1
  | some q =>
    cases q with
    | ex c ρ1 => exact (mTake_noex e2).elim
    | ok d ρ1 =>
      simp only [e2] at e1
      cases e3 : t (fz d) ρ1 with
      | none => rw [e3] at e1; cases e1
      | some ρ2 =>
        rw [e3] at e1
        cases e1
        obtain ⟨w2, hρ, hH, r2, m2, o2, n2⟩ := mTake_run o1 r1 e2
        obtain ⟨w3, hρ3, hH3, _, r3, m3, s3, k3, _⟩ := fz_world (w1 := w) r2 o2.at n2 fr1 (m1.trans m2)
        have rp : Rp C.K w3.R (fz d) v := o2.fz s3 k3
        rw [← hH, ← hH3]
        refine ⟨w3, fz d, ρ2, rfl, r3, rp, by rw [hρ3, hρ]; exact e3, fun σ' w' a1 a2 a3 a4 a5 a6 => h σ' w' a1 a3 (m3.trans a4)⟩
end
end TT

set_option Elab.async false
set_option linter.all false
set_option maxRecDepth 100000
namespace TT
open PySem PySem.Spec PyProof.Rows L2
section
variable {X : Cx} {C : Cn} {K : Fg} {σ : St} {w w1 w2 : Wd}
/-! ### for -/
def forL (t : D → List SV → Option (List SV)) (b : SM) : List D → SM
  | [], ρ => some (.nx ρ)
  | d :: ds, ρ => match t d ρ with
    | none => none
    | some ρ1 => match b ρ1 with
      | some (.nx ρ2) => forL t b ds ρ2
      | some (.ct ρ2) => forL t b ds ρ2
      | some (.bk ρ2) => some (.nx ρ2)
      | o => o
def sFor (src : M (List D)) (t : D → List SV → Option (List SV)) (b : SM) : SM := fun ρ => match src ρ with
  | some (.ok ds ρ') => forL t b ds ρ'
  | some (.ex c ρ') => some (.ex c ρ')
  | none => none
theorem for_run {src : M (List D)} {t : D → List SV → Option (List SV)} {b : SM} {is : List Nat} {E : Ends} {σ : St} {H : Hp} (h : tS C (sFor src t b) E σ H) : tFor (tI C src) (tG C is t) (tS C b) E σ H := by
  obtain ⟨w, o, eH, hr, hm, h⟩ := h
  subst eH
  unfold sFor at hm
  cases e : src w.ρ with
  | none => rw [e] at hm; cases hm
  | some q =>
    refine ⟨w, q, rfl, hr, e, ?_⟩
    rw [e] at hm
    cases q with
    | ex c ρ1 => cases hm; exact fun cls dd w' e r m x => h cls dd σ w' e r m x
    | ok ds ρ1 =>
      intro J w1 e1 r1 m1 it
      subst e1
      refine ⟨fun i m σ' H' => ∃ w', w'.H = H' ∧ Rel C.K σ' w' ∧ Mod σ w σ' w' ∧ Same w1.R w'.R ∧ m = ds.length - i ∧ i ≤ ds.length ∧ forL t b (ds.drop i) w'.ρ = some o,
        ⟨ds.length, w1, rfl, r1, m1, Same.refl _, by omega, by omega, hm⟩, ?_⟩
      rintro i m σ' H' ⟨w', rfl, r', m', s', rfl, hi, hf⟩
      obtain ⟨it1, it2⟩ := it w' s' r'.sub i
      by_cases hlt : i < ds.length
      · right
        obtain ⟨go, it1⟩ := it1 hlt
        refine ⟨go, fun σ2 H2 => ∃ m', m' < ds.length - i ∧ ∃ w', w'.H = H2 ∧ Rel C.K σ2 w' ∧ Mod σ w σ2 w' ∧ Same w1.R w'.R ∧ m' = ds.length - (i + 1) ∧ i + 1 ≤ ds.length ∧ forL t b (ds.drop (i + 1)) w'.ρ = some o, fun σ2 H2 n => n, fun x H3 y => ?_⟩
        obtain ⟨w3, d, ex, e3, ed, rp⟩ := it1 x H3 y
        subst e3
        have edr : ds.drop i = d :: ds.drop (i + 1) := by
          rw [List.drop_eq_getElem_cons hlt]
          congr 1
          rw [List.getElem?_eq_getElem hlt] at ed
          exact Option.some.inj ed
        rw [edr] at hf
        unfold forL at hf
        cases et : t d w'.ρ with
        | none => rw [et] at hf; cases hf
        | some ρ2 =>
          rw [et] at hf
          simp only at hf
          have r3 := ex.rel r'
          refine ⟨w3, d, ρ2, rfl, r3, rp, by rw [ex.ρ]; exact et, fun σ4 w4 a1 a2 a3 a4 a5 a6 => ?_⟩
          subst a1
          have m4 : Mod σ w σ4 w4 := (m'.trans ex.mod).trans a4
          have s4 : Same w1.R w4.R := (s'.trans ex.rr).trans a4.rr
          cases eb : b w4.ρ with
          | none => rw [eb] at hf; cases hf
          | some ob =>
            rw [eb] at hf
            refine ⟨w4, ob, rfl, a3, eb, ?_⟩
            cases ob with
            | nx ρ5 => exact fun σ5 w5 c1 c2 c3 => ⟨ds.length - (i + 1), by omega, w5, rfl, c2, m4.trans c3, s4.trans c3.rr, rfl, hlt, by rw [c1]; exact hf⟩
            | ct ρ5 => exact fun σ5 w5 c1 c2 c3 => ⟨ds.length - (i + 1), by omega, w5, rfl, c2, m4.trans c3, s4.trans c3.rr, rfl, hlt, by rw [c1]; exact hf⟩
            | bk ρ5 => cases hf; exact AftN.step h m4
            | rt d ρ5 => cases hf; exact AftS.step (C := C) (o := .rt d ρ5) (E := E) h m4
            | ex c ρ5 => cases hf; exact AftS.step (C := C) (o := .ex c ρ5) (E := E) h m4
      · left
        have e4 : ds.drop i = [] := List.drop_eq_nil_of_le (by omega)
        rw [e4] at hf
        cases hf
        exact ⟨it2 (by omega), h σ' w' rfl r' m'⟩
theorem s_for {tg iter : Expr} {body : List Stmt} {pos : Pos} {src : M (List D)} {t : D → List SV → Option (List SV)} {b : SM} {is : List Nat} (hi : PI X tg iter (tI C src)) (hg : PG X tg (tG C is t)) (hb : PSs X body (tS C b)) (hp : PassesOwn (model X.prog X.w) X.A X.env X.xe := by exact PassesOwn.never) (hc : X.calm = true := by rfl)
    (hs : ∀ x, foldedSetIterable iter X.env x = pure x := by intro _; rfl) : PS X (.For tg iter body [] pos) (tS C (sFor src t b)) := PS.weak (ps_for hp hc hi hg hb hs) fun _ _ _ h => for_run h

/-! ### while -/
def whileF (t : M Bool) (b : SM) : Nat → SM
  | 0, _ => none
  | n + 1, ρ => match t ρ with
    | some (.ok true ρ1) => (match b ρ1 with
      | some (.nx ρ2) => whileF t b n ρ2
      | some (.ct ρ2) => whileF t b n ρ2
      | some (.bk ρ2) => some (.nx ρ2)
      | o => o)
    | some (.ok false ρ1) => some (.nx ρ1)
    | some (.ex c ρ1) => some (.ex c ρ1)
    | none => none
open Classical in
noncomputable def sWhile (t : M Bool) (b : SM) : SM := fun ρ => if h : ∃ p : Nat × Out, whileF t b p.1 ρ = some p.2 then some h.choose.2 else none
theorem whileF_det {t : M Bool} {b : SM} : ∀ {n m : Nat} {ρ : List SV} {o o' : Out}, whileF t b n ρ = some o → whileF t b m ρ = some o' → o = o'
  | 0, _, _, _, _, h, _ => by cases h
  | _ + 1, 0, _, _, _, _, h => by cases h
  | n + 1, m + 1, ρ, o, o', h, h' => by
    unfold whileF at h h'
    cases et : t ρ with
    | none => rw [et] at h; cases h
    | some q =>
      rw [et] at h h'
      cases q with
      | ex c ρ1 => cases h; cases h'; rfl
      | ok k ρ1 =>
        cases k with
        | false => cases h; cases h'; rfl
        | true =>
          simp only at h h'
          cases eb : b ρ1 with
          | none => rw [eb] at h; cases h
          | some ob =>
            rw [eb] at h h'
            cases ob with
            | nx ρ2 => exact whileF_det h h'
            | ct ρ2 => exact whileF_det h h'
            | bk ρ2 => cases h; cases h'; rfl
            | rt d ρ2 => cases h; cases h'; rfl
            | ex c ρ2 => cases h; cases h'; rfl
theorem sWhile_of {t : M Bool} {b : SM} {n : Nat} {ρ : List SV} {o : Out} (h : whileF t b n ρ = some o) : sWhile t b ρ = some o := by
  have hx : ∃ p : Nat × Out, whileF t b p.1 ρ = some p.2 := ⟨(n, o), h⟩
  unfold sWhile
  rw [dif_pos hx]
  exact congrArg some (whileF_det hx.choose_spec h)
theorem sWhile_get {t : M Bool} {b : SM} {ρ : List SV} {o : Out} (h : sWhile t b ρ = some o) : ∃ n, whileF t b n ρ = some o := by
  unfold sWhile at h
  split at h
  · rename_i hx
    cases h
    exact ⟨hx.choose.1, hx.choose_spec⟩
  · cases h
theorem while_run {t : M Bool} {b : SM} {E : Ends} {σ : St} {H : Hp} (h : tS C (sWhile t b) E σ H) : tWhile (tT C t) (tS C b) E σ H := by
  obtain ⟨w, o, eH, hr, hm, h⟩ := h
  subst eH
  obtain ⟨n, hn⟩ := sWhile_get hm
  refine ⟨fun m σ' H' => ∃ w', w'.H = H' ∧ Rel C.K σ' w' ∧ Mod σ w σ' w' ∧ whileF t b m w'.ρ = some o, ⟨n, w, rfl, hr, Mod.refl hr, hn⟩, ?_⟩
  rintro m σ' H' ⟨w', rfl, r', m', hf⟩
  cases m with
  | zero => cases hf
  | succ m =>
    unfold whileF at hf
    cases et : t w'.ρ with
    | none => rw [et] at hf; cases hf
    | some q =>
      refine ⟨w', q, rfl, r', et, ?_⟩
      rw [et] at hf
      cases q with
      | ex c ρ1 => cases hf; exact fun cls dd w2 e r m2 x => h cls dd σ' w2 e r (m'.trans m2) x
      | ok k ρ1 =>
        intro w2 e2 r2 m2
        subst e2
        have m3 := m'.trans m2
        cases k with
        | false =>
          rw [if_neg Bool.false_ne_true]
          cases hf
          exact h σ' w2 rfl r2 m3
        | true =>
          rw [if_pos rfl]
          simp only at hf
          refine ⟨fun σ2 H2 => ∃ m', m' < m + 1 ∧ ∃ w', w'.H = H2 ∧ Rel C.K σ2 w' ∧ Mod σ w σ2 w' ∧ whileF t b m' w'.ρ = some o, fun _ _ z => z, ?_⟩
          cases eb : b w2.ρ with
          | none => rw [eb] at hf; cases hf
          | some ob =>
            rw [eb] at hf
            refine ⟨w2, ob, rfl, r2, eb, ?_⟩
            cases ob with
            | nx ρ5 => exact fun σ5 w5 c1 c2 c3 => ⟨m, by omega, w5, rfl, c2, m3.trans c3, by rw [c1]; exact hf⟩
            | ct ρ5 => exact fun σ5 w5 c1 c2 c3 => ⟨m, by omega, w5, rfl, c2, m3.trans c3, by rw [c1]; exact hf⟩
            | bk ρ5 => cases hf; exact AftN.step h m3
            | rt d ρ5 => cases hf; exact AftS.step (C := C) (o := .rt d ρ5) (E := E) h m3
            | ex c ρ5 => cases hf; exact AftS.step (C := C) (o := .ex c ρ5) (E := E) h m3
theorem s_while {c : Expr} {body : List Stmt} {pos : Pos} {t : M Bool} {b : SM} (hc : PT X c (tT C t)) (hb : PSs X body (tS C b)) (hp : PassesOwn (model X.prog X.w) X.A X.env X.xe := by exact PassesOwn.never) : PS X (.While c body [] pos) (tS C (sWhile t b)) :=
  PS.weak (ps_while hp hc hb) fun _ _ _ h => while_run h

/-! ### comprehensions -/
def wipeS (ρ : List SV) : List Nat → List SV
  | [] => ρ
  | v :: vs => (wipeS ρ vs).set v .un
def okWipe (vs : List Nat) (ρ : List SV) : Bool := vs.all fun i => match ρ[i]? with
  | some s => !s.isPar
  | none => true
theorem OwS.wipe : ∀ {R H : Hp} {ρ : List SV} {σ : St} {f : Fp} (vs : List Nat), OwS K R H ρ σ f → ∃ f' : Fp, (∀ a, f' a → f a) ∧ OwS K R H (wipeS ρ vs) (L2.wipe σ vs) f'
  | R, H, ρ, σ, f, [], h => ⟨f, fun a z => z, h⟩
  | R, H, ρ, σ, f, v :: vs, h => by
    obtain ⟨f1, g1, g2⟩ := OwS.wipe vs h
    obtain ⟨f2, k1, k2⟩ := g2.drop (i := v) (o := none)
    exact ⟨f2, fun a z => g1 a (k1 a z), k2⟩
/-- a slot that says nothing may hold anything -/
theorem OwS.agree : ∀ {R H : Hp} {ρ : List SV} {σ σ' : St} {f : Fp}, OwS K R H ρ σ f → σ'.length = σ.length → (∀ (i : Nat) (s : SV), ρ[i]? = some s → s.d? ≠ none → σ'[i]? = σ[i]?) → OwS K R H ρ σ' f
  | R, H, [], σ, σ', f, h, hl, ha => by
    unfold OwS at h ⊢
    obtain ⟨e, n⟩ := h
    subst e
    exact ⟨List.eq_nil_of_length_eq_zero hl, n⟩
  | R, H, s :: ρ, σ, σ', f, h, hl, ha => by
    have l0 := h.len
    obtain ⟨o, σ1, e1⟩ : ∃ o σ1, σ = o :: σ1 := by
      cases σ with
      | nil => simp at l0
      | cons a b => exact ⟨a, b, rfl⟩
    subst e1
    obtain ⟨o', σ1', e1'⟩ : ∃ o σ1, σ' = o :: σ1 := by
      cases σ' with
      | nil => simp at hl
      | cons a b => exact ⟨a, b, rfl⟩
    subst e1'
    have ha' : ∀ (i : Nat) (s : SV), ρ[i]? = some s → s.d? ≠ none → σ1'[i]? = σ1[i]? := fun i s h n => by
      have := ha (i + 1) s (by simpa using h) n
      simpa using this
    have hl' : σ1'.length = σ1.length := by simpa using hl
    cases s with
    | un =>
      unfold OwS at h ⊢
      obtain ⟨o2, σ2, e, q⟩ := h
      cases e
      exact ⟨o', σ1', rfl, OwS.agree q hl' ha'⟩
    | hol _ =>
      unfold OwS at h ⊢
      obtain ⟨o2, σ2, e, q⟩ := h
      cases e
      exact ⟨o', σ1', rfl, OwS.agree q hl' ha'⟩
    | loc d =>
      have e0 := ha 0 (.loc d) rfl (by unfold SV.d?; simp)
      unfold OwS at h ⊢
      obtain ⟨v, σ2, f1, f2, e, h1, h2, dj, hf⟩ := h
      cases e
      have e0 : o' = some v := by simpa using e0
      subst e0
      exact ⟨v, σ1', f1, f2, rfl, h1, OwS.agree h2 hl' ha', dj, hf⟩
    | par d =>
      have e0 := ha 0 (.par d) rfl (by unfold SV.d?; simp)
      unfold OwS at h ⊢
      obtain ⟨v, σ2, f1, f2, e, h1, h2, dj, hf⟩ := h
      cases e
      have e0 : o' = some v := by simpa using e0
      subst e0
      exact ⟨v, σ1', f1, f2, rfl, h1, OwS.agree h2 hl' ha', dj, hf⟩
theorem wipe_get {σ : St} : ∀ {vs : List Nat} {i : Nat}, i ∉ vs → (L2.wipe σ vs)[i]? = σ[i]?
  | [], i, _ => rfl
  | v :: vs, i, h => by
    unfold L2.wipe
    rw [List.getElem?_set_ne fun z => h (by rw [z]; exact List.mem_cons_self), wipe_get fun z => h (List.mem_cons_of_mem _ z)]
theorem wipeS_get {ρ : List SV} : ∀ {vs : List Nat} {i : Nat}, i ∉ vs → (wipeS ρ vs)[i]? = ρ[i]?
  | [], i, _ => rfl
  | v :: vs, i, h => by
    unfold wipeS
    rw [List.getElem?_set_ne fun z => h (by rw [z]; exact List.mem_cons_self), wipeS_get fun z => h (List.mem_cons_of_mem _ z)]
theorem wipeS_un {ρ : List SV} : ∀ {vs : List Nat} {i : Nat} {s : SV}, i ∈ vs → (wipeS ρ vs)[i]? = some s → s = .un
  | v :: vs, i, s, h, e => by
    unfold wipeS at e
    by_cases hv : v = i
    · subst hv
      have hlt : v < (wipeS ρ vs).length := by
        have := (List.getElem?_eq_some_iff.mp e).1
        simpa using this
      rw [List.getElem?_set_self hlt] at e
      exact (Option.some.inj e).symm
    · rw [List.getElem?_set_ne hv] at e
      exact wipeS_un ((List.mem_cons.mp h).resolve_left fun z => hv z.symm) e
theorem wipeS_len (ρ : List SV) : ∀ vs : List Nat, (wipeS ρ vs).length = ρ.length
  | [] => rfl
  | v :: vs => by unfold wipeS; rw [List.length_set, wipeS_len ρ vs]
theorem wipe_none {σ : St} : ∀ {vs : List Nat} {i : Nat}, i ∈ vs → i < σ.length → (L2.wipe σ vs)[i]? = some none
  | v :: vs, i, h, hl => by
    unfold L2.wipe
    by_cases hv : v = i
    · subst hv
      rw [List.getElem?_set_self (by rw [L2.wipe_length]; exact hl)]
    · rw [List.getElem?_set_ne hv]
      exact wipe_none ((List.mem_cons.mp h).resolve_left fun z => hv z.symm) hl
theorem wipe_same {σ σ' : St} {vs : List Nat} (hl : σ'.length = σ.length) (h : ∀ i, i ∉ vs → σ'[i]? = σ[i]?) : L2.wipe σ' vs = L2.wipe σ vs := by
  apply List.ext_getElem?
  intro i
  by_cases hi : i ∈ vs
  · by_cases hlt : i < σ.length
    · rw [wipe_none hi hlt, wipe_none hi (by omega)]
    · rw [List.getElem?_eq_none (by rw [L2.wipe_length]; omega), List.getElem?_eq_none (by rw [L2.wipe_length]; omega)]
  · rw [wipe_get hi, wipe_get hi, h i hi]
def lcL (t : D → List SV → Option (List SV)) (c : M Bool) (e : M D) (vs : List Nat) : List D → List D → M (List D)
  | [], acc, ρ => some (.ok acc ρ)
  | d :: ds, acc, ρ => match t d ρ with
    | none => none
    | some ρ1 => match c ρ1 with
      | some (.ok false ρ2) => if okWipe vs ρ2 then lcL t c e vs ds acc (wipeS ρ2 vs) else none
      | some (.ok true ρ2) => (match e ρ2 with
        | some (.ok y ρ3) => if okWipe vs ρ3 && decide (acc.length < sizeLine) then lcL t c e vs ds (acc ++ [fz y]) (wipeS ρ3 vs) else none
        | _ => none)
      | _ => none
def mLc (src : M (List D)) (t : D → List SV → Option (List SV)) (c : M Bool) (oe : M Opd) (vs : List Nat) : M Opd := fun ρ => match src ρ with
  | some (.ok ds ρ1) => if okWipe vs ρ1 then (match lcL t c (mb oe mTake) vs ds [] (wipeS ρ1 vs) with
      | some (.ok acc ρ2) => some (.ok (.val (.mls acc)) ρ2)
      | _ => none) else none
  | some (.ex c ρ') => some (.ex c ρ')
  | none => none
/-- the slots of a block's own names are forgotten -/
theorem wipe_world {σ0 : St} {vs : List Nat} (r : Rel K σ w1) (m : Mod σ0 w σ w1) (ok : okWipe vs w1.ρ = true) : ∃ F' : Fp, (∀ a, F' a → w1.F a) ∧ Rel K (L2.wipe σ vs) ⟨wipeS w1.ρ vs, w1.R, w1.H, F'⟩ ∧ Mod σ0 w (L2.wipe σ vs) ⟨wipeS w1.ρ vs, w1.R, w1.H, F'⟩ := by
  obtain ⟨F', g1, g2⟩ := r.ow.wipe vs
  refine ⟨F', g1, ⟨r.sub, g2⟩, ⟨m.rr, m.keep, fun a ha => m.own a (g1 a ha), m.new, fun i s hi hp => ?_, (wipeS_len _ _).trans m.len⟩⟩
  obtain ⟨e0, s', h', p'⟩ := m.fx i s hi hp
  have ni : i ∉ vs := fun z => by
    unfold okWipe at ok
    rw [List.all_eq_true] at ok
    have := ok i z
    rw [h'] at this
    simp only [p'] at this
    cases this
  exact ⟨(wipe_get ni).trans e0, s', by show (wipeS w1.ρ vs)[i]? = _; rw [wipeS_get ni]; exact h', p'⟩

/-- an object that is nobody's stays through a step -/
theorem lone_step {σ1 : St} {D : Addr} {o : HO} (m : Mod σ w1 σ1 w2) (hH : w1.H D = some o) (hF : ¬ w1.F D) (hR : w1.R D = none) : w2.H D = some o ∧ ¬ w2.F D ∧ w2.R D = none := by
  refine ⟨m.keep D o hH hF, fun z => ?_, Classical.byContradiction fun z => ?_⟩
  · rcases m.own D z with y | y
    · exact hF y
    · rw [hH] at y; cases y
  · rcases m.new D hR z with y | y
    · rw [hH] at y; cases y
    · exact hF y
theorem lone_upd {σ0 : St} {D : Addr} {o o' : HO} (r : Rel K σ w1) (m : Mod σ0 w σ w1) (hw : ∀ ob, w.H D = some ob → w.F D) (hF : ¬ w1.F D) (hR : w1.R D = none) : Rel K σ { w1 with H := upd w1.H D o' } ∧ Mod σ0 w σ { w1 with H := upd w1.H D o' } := by
  refine ⟨⟨fun a ob e => ?_, r.ow.keep (Same.refl _) (fun a ob ha e => ?_) fun a ha => (r.fr a ha).2⟩, ⟨m.rr, fun a ob h n => ?_, m.own, m.new, m.fx, m.len⟩⟩
  · show upd w1.H D o' a = some ob
    rw [upd_ne fun z => by subst z; rw [hR] at e; cases e]
    exact r.sub a ob e
  · show upd w1.H D o' a = some ob
    rw [upd_ne fun z => by subst z; exact hF ha]; exact e
  · show upd w1.H D o' a = some ob
    rw [upd_ne fun z => by subst z; exact n (hw ob h)]
    exact m.keep a ob h n
theorem rpL_snoc : ∀ {R : Hp} {ds : List D} {vs : List V} {d : D} {v : V}, RpL K R ds vs → Rp K R d v → RpL K R (ds ++ [d]) (vs ++ [v])
  | R, [], vs, d, v, h, h' => by
    unfold RpL at h
    subst h
    exact ⟨v, [], rfl, h', by unfold RpL; rfl⟩
  | R, d0 :: ds, vs, d, v, h, h' => by
    unfold RpL at h
    obtain ⟨v0, vs', e, h1, h2⟩ := h
    subst e
    exact ⟨v0, vs' ++ [v], rfl, h1, rpL_snoc h2 h'⟩
/-- one element -/
theorem elt_run {xc : Str → Value} {oe : M Opd} {y : D} {ρ3 : List SV} {Q : VK} (r : Rel K σ w) (e : mb oe mTake w.ρ = some (.ok y ρ3)) (hk : ∀ v w', w'.ρ = ρ3 → Rel K σ w' → Mod σ w σ w' → Rp K w'.R (fz y) v → Q v w'.H) : tO ⟨K, xc, W0⟩ oe σ w.H Q := by
  unfold mb at e
  cases e1 : oe w.ρ with
  | none => rw [e1] at e; cases e
  | some q =>
    rw [e1] at e
    cases q with
    | ex c ρ1 => cases e
    | ok p ρ1 =>
      refine ⟨w, .ok p ρ1, rfl, r, e1, fun v f w1 h1 r1 m1 o1 fr1 => ?_⟩
      subst h1
      obtain ⟨w2, hρ, hH, r2, m2, o2, n2⟩ := mTake_run o1 r1 e
      obtain ⟨w3, hρ3, hH3, _, r3, m3, s3, k3, _⟩ := fz_world (w1 := w) r2 o2.at n2 fr1 (m1.trans m2)
      rw [← hH, ← hH3]
      exact hk v w3 (hρ3.trans hρ) r3 m3 (o2.fz s3 k3)
theorem lc_run {xc : Str → Value} {W : WX} {src : M (List D)} {t : D → List SV → Option (List SV)} {c : M Bool} {oe : M Opd} {is vs : List Nat} {H : Hp} {Q : VK} (hin : ∀ i, i ∈ is → i ∈ vs) (h : tO ⟨K, xc, W⟩ (mLc src t c oe vs) σ H Q) :
    tLc (tI ⟨K, xc, W⟩ src) (tG ⟨K, xc, W0⟩ is t) (tT ⟨K, xc, W0⟩ c) (tO ⟨K, xc, W0⟩ oe) vs σ H Q := by
  obtain ⟨w, z, eH, hr, hm, h⟩ := h
  subst eH
  unfold mLc at hm
  cases e : src w.ρ with
  | none => rw [e] at hm; cases hm
  | some q =>
    refine ⟨w, q, rfl, hr, e, ?_⟩
    rw [e] at hm
    cases q with
    | ex c ρ1 => cases hm; exact h
    | ok ds ρ1 =>
      intro J w1 e1 r1 m1 it D hD
      subst e1
      simp only at hm
      split at hm
      case isFalse => cases hm
      case isTrue hok =>
        cases el : lcL t c (mb oe mTake) vs ds [] (wipeS w1.ρ vs) with
        | none => rw [el] at hm; cases hm
        | some q2 =>
          rw [el] at hm
          cases q2 with
          | ex c ρ2 => cases hm
          | ok accF ρF =>
            cases hm
            have hR0 : w1.R D = none := none_R r1 hD
            have hF0 : ¬ w1.F D := fun z => by obtain ⟨⟨o, ho⟩, _⟩ := r1.fr D z; rw [hD] at ho; cases ho
            have hwD : ∀ ob, w.H D = some ob → w.F D := fun ob e => Classical.byContradiction fun n => by
              rw [m1.keep D ob e n] at hD; cases hD
            obtain ⟨F1, f1, rw1, mw1⟩ := wipe_world (vs := vs) r1 m1 hok
            refine ⟨fun i m H' => ∃ w' accV acc, w'.H = H' ∧ Rel K (L2.wipe σ vs) w' ∧ Mod σ w (L2.wipe σ vs) w' ∧ Same w1.R w'.R ∧ H' D = some (.lst accV) ∧ ¬ w'.F D ∧ w'.R D = none ∧ RpL K w'.R acc accV ∧
              (∀ i, i ∈ vs → ∀ s, w'.ρ[i]? = some s → s = .un) ∧ m = ds.length - i ∧ i ≤ ds.length ∧ lcL t c (mb oe mTake) vs (ds.drop i) acc w'.ρ = some (.ok accF ρF), ⟨ds.length, ?_⟩, ?_⟩
            · obtain ⟨k1, k2⟩ := lone_upd (o := .lst []) (o' := .lst []) rw1 mw1 hwD (fun z => hF0 (f1 D z)) hR0
              exact ⟨_, [], [], rfl, k1, k2, Same.refl _, upd_same, fun z => hF0 (f1 D z), hR0, by unfold RpL; rfl, fun i hi s hs => wipeS_un hi hs, by omega, by omega, el⟩
            · rintro i m H' ⟨w', accV, acc, rfl, r', m', s', hDv, hFv, hRv, rp, hun, rfl, hi, hf⟩
              obtain ⟨it1, it2⟩ := it w' s' r'.sub i
              by_cases hlt : i < ds.length
              · right
                obtain ⟨go, it1⟩ := it1 hlt
                refine ⟨go, fun H2 => ∃ m', m' < ds.length - i ∧ ∃ w' accV acc, w'.H = H2 ∧ Rel K (L2.wipe σ vs) w' ∧ Mod σ w (L2.wipe σ vs) w' ∧ Same w1.R w'.R ∧ H2 D = some (.lst accV) ∧ ¬ w'.F D ∧ w'.R D = none ∧ RpL K w'.R acc accV ∧
                  (∀ i, i ∈ vs → ∀ s, w'.ρ[i]? = some s → s = .un) ∧ m' = ds.length - (i + 1) ∧ i + 1 ≤ ds.length ∧ lcL t c (mb oe mTake) vs (ds.drop (i + 1)) acc w'.ρ = some (.ok accF ρF), fun H2 n => n, fun x H3 y => ?_⟩
                obtain ⟨w3, d, ex, e3, ed, rpd⟩ := it1 x H3 y
                subst e3
                have edr : ds.drop i = d :: ds.drop (i + 1) := by
                  rw [List.drop_eq_getElem_cons hlt]
                  congr 1
                  rw [List.getElem?_eq_getElem hlt] at ed
                  exact Option.some.inj ed
                rw [edr] at hf
                unfold lcL at hf
                cases et : t d w'.ρ with
                | none => rw [et] at hf; cases hf
                | some ρ2 =>
                  rw [et] at hf
                  simp only at hf
                  have r3 := ex.rel r'
                  have m3 := m'.trans (ex.mod (σ := L2.wipe σ vs))
                  obtain ⟨d3, g3, q3⟩ := lone_step (ex.mod (σ := L2.wipe σ vs)) hDv hFv hRv
                  refine ⟨w3, d, ρ2, rfl, r3, rpd, by rw [ex.ρ]; exact et, fun σ4 w4 a1 a2 a3 a4 a5 a6 => ?_⟩
                  subst a1
                  have hw4 : L2.wipe σ4 vs = L2.wipe σ vs := by
                    have q := wipe_same (σ := L2.wipe σ vs) (σ' := σ4) (vs := vs) a5 fun j hj => a6 j fun z => hj (hin j z)
                    rw [q]
                    exact wipe_same (by rw [L2.wipe_length]) fun j hj => wipe_get hj
                  refine ⟨hw4, ?_⟩
                  have m4 := m3.trans a4
                  have s4 : Same w1.R w4.R := (s'.trans ex.rr).trans a4.rr
                  have rp4 := rp.mono (ex.rr.trans a4.rr)
                  obtain ⟨d4, g4, q4⟩ := lone_step a4 d3 g3 q3
                  cases ec : c w4.ρ with
                  | none => rw [ec] at hf; cases hf
                  | some qc =>
                    rw [ec] at hf
                    cases qc with
                    | ex cc ρ5 => cases hf
                    | ok b ρ5 =>
                      refine ⟨w4, .ok b ρ5, rfl, a3, ec, fun w5 h5 r5 m5 => ?_⟩
                      subst h5
                      obtain ⟨d5, g5, q5⟩ := lone_step m5 d4 g4 q4
                      cases b with
                      | false =>
                        rw [if_neg Bool.false_ne_true]
                        simp only at hf
                        split at hf
                        case isFalse => cases hf
                        case isTrue hok5 =>
                          obtain ⟨F6, f6, r6, m6⟩ := wipe_world (vs := vs) r5 (m4.trans m5) hok5
                          rw [hw4] at r6 m6
                          exact ⟨ds.length - (i + 1), by omega, ⟨wipeS w5.ρ vs, w5.R, w5.H, F6⟩, accV, acc, rfl, r6, m6, s4.trans m5.rr, d5, fun z => g5 (f6 D z), q5, rp4.mono m5.rr, fun i hi s hs => wipeS_un hi hs, rfl, hlt, hf⟩
                      | true =>
                        rw [if_pos rfl]
                        simp only at hf
                        cases ee : mb oe mTake w5.ρ with
                        | none => rw [ee] at hf; cases hf
                        | some qe =>
                          rw [ee] at hf
                          cases qe with
                          | ex cc ρ6 => cases hf
                          | ok yv ρ6 =>
                            simp only at hf
                            split at hf
                            case isFalse => cases hf
                            case isTrue hok6 =>
                              rw [Bool.and_eq_true] at hok6
                              obtain ⟨hok6, hsz⟩ := hok6
                              have hsz := of_decide_eq_true hsz
                              refine elt_run r5 ee fun v w7 h7 r7 m7 rp7 => ?_
                              subst h7
                              obtain ⟨d7, g7, q7⟩ := lone_step m7 d5 g5 q5
                              have rpA := rp4.mono (m5.rr.trans m7.rr)
                              refine ⟨accV, d7, by rw [rpA.len]; exact hsz, ?_⟩
                              have m7' := (m4.trans m5).trans m7
                              obtain ⟨k1, k2⟩ := lone_upd (o := .lst accV) (o' := .lst (accV ++ [v])) r7 m7' hwD g7 q7
                              obtain ⟨F8, f8, r8, m8⟩ := wipe_world (vs := vs) k1 k2 hok6
                              rw [hw4] at r8 m8
                              exact ⟨ds.length - (i + 1), by omega, ⟨wipeS w7.ρ vs, w7.R, upd w7.H D (.lst (accV ++ [v])), F8⟩, accV ++ [v], acc ++ [fz yv], rfl, r8, m8, (s4.trans m5.rr).trans m7.rr, upd_same, fun z => g7 (f8 D z), q7, rpL_snoc rpA rp7, fun i hi s hs => wipeS_un hi hs, rfl, hlt, hf⟩
              · left
                have e4 : ds.drop i = [] := List.drop_eq_nil_of_le (by omega)
                rw [e4] at hf
                cases hf
                refine ⟨it2 (by omega), ?_⟩
                have rE : Rel K σ w' := ⟨r'.sub, r'.ow.agree (by rw [L2.wipe_length]) fun j s hj hs => by
                  have nj : j ∉ vs := fun z => by rw [hun j z s hj] at hs; exact hs rfl
                  exact (wipe_get nj).symm⟩
                have mE : Mod σ w σ w' := ⟨m'.rr, m'.keep, m'.own, m'.new, fun j s hj hp => ⟨rfl, (m'.fx j s hj hp).2⟩, m'.len⟩
                refine h (.ref D) (fun a => a = D) w' rfl rE mE ⟨?_, fun a ha z => by subst ha; exact hFv z⟩ fun a ha => ?_
                · unfold Ow
                  exact ⟨D, accV, fun _ => False, rfl, hDv, hRv, rp.owL, fun z => z, fun b => ⟨fun z => .inl z, fun z => z.elim (fun z => z) fun z => z.elim⟩⟩
                · subst ha
                  cases q : w.H a with
                  | none => exact .inl rfl
                  | some ob => exact .inr (hwD ob q)
theorem m_lc {xc : Str → Value} {W : WX} {elt tg iter : Expr} {ifs : List Expr} {scope : Scope} {own : List (Str × Nat)} {pos : Pos} {src : M (List D)} {t : D → List SV → Option (List SV)} {c : M Bool} {oe : M Opd} {is : List Nat} (hN : X.N.Nodup) (ok : BlkOk X.N X.env.scope scope own) (hin : ∀ i, i ∈ is → i ∈ own.map (·.2))
    (hi : PI X tg iter (tI ⟨X.K, xc, W⟩ src))
    (hg : ∀ (s : Shared) (H : Hp) (C : Addr) (cl : List (Str × Addr)) (fp : List Addr), PG (X.blk s H scope (compEnvC scope cl C X.env) fp) tg (tG ⟨X.K, xc, W0⟩ is t)) (ht : ∀ (s : Shared) (H : Hp) (C : Addr) (cl : List (Str × Addr)) (fp : List Addr), PTs (X.blk s H scope (compEnvC scope cl C X.env) fp) ifs (tT ⟨X.K, xc, W0⟩ c))
    (he : ∀ (s : Shared) (H : Hp) (C : Addr) (cl : List (Str × Addr)) (fp : List Addr), PE (X.blk s H scope (compEnvC scope cl C X.env) fp) elt (tO ⟨X.K, xc, W0⟩ oe)) (hc : X.calm = true := by rfl) (hs : ∀ x, foldedSetIterable iter X.env x = pure x := by intro _; rfl) :
    PE X (.ListComp elt [⟨tg, iter, ifs, 0⟩] scope pos) (tO ⟨X.K, xc, W⟩ (mLc src t c oe (own.map (·.2)))) :=
  PE.weak (pe_lc hc hN hi ok hg ht he hs) fun _ _ _ h => lc_run hin h
/-- name = [..] on one line -/
theorem s_setLc {xc : Str → Value} {W : WX} {i : Nat} {y : Str} {py : Pos} {elt tg iter : Expr} {ifs : List Expr} {scope : Scope} {own : List (Str × Nat)} {pos spos : Pos} {src : M (List D)} {t : D → List SV → Option (List SV)} {c : M Bool} {oe : M Opd} {is : List Nat} (hN : X.N.Nodup) (ok : BlkOk X.N X.env.scope scope own) (hin : ∀ i, i ∈ is → i ∈ own.map (·.2))
    (hi : PI X tg iter (tI ⟨X.K, xc, W⟩ src))
    (hg : ∀ (s : Shared) (H : Hp) (C : Addr) (cl : List (Str × Addr)) (fp : List Addr), PG (X.blk s H scope (compEnvC scope cl C X.env) fp) tg (tG ⟨X.K, xc, W0⟩ is t)) (ht : ∀ (s : Shared) (H : Hp) (C : Addr) (cl : List (Str × Addr)) (fp : List Addr), PTs (X.blk s H scope (compEnvC scope cl C X.env) fp) ifs (tT ⟨X.K, xc, W0⟩ c))
    (he : ∀ (s : Shared) (H : Hp) (C : Addr) (cl : List (Str × Addr)) (fp : List Addr), PE (X.blk s H scope (compEnvC scope cl C X.env) fp) elt (tO ⟨X.K, xc, W0⟩ oe))
    (hsw : swapsWith (.ListComp elt [⟨tg, iter, ifs, 0⟩] scope pos) (some (.Name y py)) spos.line X.env = pure true) (hy : X.N[i]? = some y := by rfl) (hyl : X.env.scope.names.lookup y = some .local := by rfl) (hc : X.calm = true := by rfl) (hs : ∀ x, foldedSetIterable iter X.env x = pure x := by intro _; rfl) :
    PS X (.Assign [.Name y py] (.ListComp elt [⟨tg, iter, ifs, 0⟩] scope pos) spos) (tS ⟨X.K, xc, W⟩ (sSet i (mLc src t c oe (own.map (·.2))))) := by
  refine PS.weak (ps_setLc hc hN hy hyl hsw hi ok hg ht he hs) fun E σ H ⟨w, o, eH, hr, hm, h⟩ => ?_
  subst eH
  exact lc_run hin (sOf_run hr hm h fun p v f w1 r1 m1 o1 fr1 e1 => kSet_run h r1 m1 o1 fr1 e1)
def mYes : M Bool := mr true
theorem ts_nil : PTs X [] (tT C mYes) := by
  refine ⟨fun pins s σ H Q I ⟨w, z, eH, hr, hm, h⟩ => ?_⟩
  subst eH
  cases hm
  exact pts_nil.run pins s σ _ Q I (h w rfl hr (Mod.refl hr))
theorem ts_one {c : Expr} {t : M Bool} (h : PT X c (tT C t)) : PTs X [c] (tT C t) := pts_one h
end
end TT

set_option Elab.async false
set_option linter.all false
set_option maxRecDepth 100000
namespace TT
open PySem PySem.Spec PyProof.Rows L2
section
variable {X : Cx} {C : Cn} {K : Fg} {σ : St} {w w1 w2 : Wd}
/-! ### reading things -/
theorem ow_int {i : Int} {v : V} {f : Fp} {R H : Hp} (h : Ow K R H (.int i) v f) : v = .int i := by
  have := (Ow.rp rfl h).1; unfold Rp at this; exact this
theorem ow_str {x : Str} {v : V} {f : Fp} {R H : Hp} (h : Ow K R H (.str x) v f) : v = .str x := by
  have := (Ow.rp rfl h).1; unfold Rp at this; exact this
theorem ow_bl {b : Bool} {v : V} {f : Fp} {R H : Hp} (h : Ow K R H (.bl b) v f) : v = .bl b := by
  have := (Ow.rp rfl h).1; unfold Rp at this; exact this
theorem ow_non {v : V} {f : Fp} {R H : Hp} (h : Ow K R H .non v f) : v = .non := by
  have := (Ow.rp rfl h).1; unfold Rp at this; exact this
/-- a scalar's end -/
theorem fin0 {c : D} {v : V} {Q : VK} (s : Same w.R w.H) (k : ∀ v f w', Ex w w' → Ow K w'.R w'.H c v f → (∀ a, f a → w.H a = none) → Q v w'.H) (h : Rp K w.R c v) : Q v w.H :=
  k v (fun _ => False) w (Ex.refl s) h.ow fun _ z => z.elim
/-- a list that may be seen whole: its items, all frozen -/
def lstOf : D → Option (List D)
  | .lst ds => some ds
  | .mls ds => if ds.all imm then some ds else none
  | _ => none
theorem ow_lst {d : D} {ds : List D} {v : V} {f : Fp} {R H : Hp} (s : Same R H) (h : Ow K R H d v f) (e : lstOf d = some ds) : ∃ a vs, v = .ref a ∧ H a = some (.lst vs) ∧ RpL K R ds vs := by
  cases d <;> first | (cases e; done) | skip
  · rename_i xs
    cases e
    have := (Ow.rp rfl h).1
    unfold Rp at this
    obtain ⟨a, vs, e, ha, q⟩ := this
    exact ⟨a, vs, e, s _ _ ha, q⟩
  · rename_i xs
    unfold lstOf at e
    simp only at e
    split at e
    · rename_i hi
      cases e
      unfold Ow at h
      obtain ⟨a, vs, g, e, ha, _, q, _⟩ := h
      exact ⟨a, vs, e, ha, (q.rpL hi).1⟩
    · cases e
/-- a row of frozen items: a list or a tuple -/
def seqOf : D → Option (List D)
  | .lst ds => some ds
  | .sq ds => some ds
  | .tup ds => some ds
  | .mls ds => if ds.all imm then some ds else none
  | _ => none
theorem ow_seq {d : D} {ds : List D} {v : V} {f : Fp} {R H : Hp} (s : Same R H) (h : Ow K R H d v f) (e : seqOf d = some ds) : ∃ a vs, v = .ref a ∧ ((SqL K H a vs ∧ ∀ xs, d ≠ .tup xs) ∨ (SqT K H a vs ∧ d = .tup ds)) ∧ RpL K R ds vs := by
  cases d <;> first | (cases e; done) | skip
  · rename_i xs
    cases e
    have := (Ow.rp rfl h).1
    unfold Rp at this
    obtain ⟨a, vs, e, ha, q⟩ := this
    exact ⟨a, vs, e, .inr ⟨sqT_mono s ha, rfl⟩, q⟩
  · rename_i xs
    cases e
    have := (Ow.rp rfl h).1
    unfold Rp at this
    obtain ⟨a, vs, e, ha, q⟩ := this
    exact ⟨a, vs, e, .inl ⟨SqL.of (s _ _ ha), fun _ z => by cases z⟩, q⟩
  · rename_i xs
    cases e
    have := (Ow.rp rfl h).1
    unfold Rp at this
    obtain ⟨a, vs, e, ha, q⟩ := this
    exact ⟨a, vs, e, .inl ⟨sqL_mono s ha, fun _ z => by cases z⟩, q⟩
  · rename_i xs
    unfold seqOf at e
    simp only at e
    split at e
    · rename_i hi
      cases e
      unfold Ow at h
      obtain ⟨a, vs, g, e, ha, _, q, _⟩ := h
      exact ⟨a, vs, e, .inl ⟨SqL.of ha, fun _ z => by cases z⟩, (q.rpL hi).1⟩
    · cases e
theorem new_lst {ds : List D} {vs : List V} {Q : VK} (s : Same w.R w.H) (k : ∀ v f w', Ex w w' → Ow K w'.R w'.H (.mls ds) v f → (∀ a, f a → w.H a = none) → Q v w'.H) (r : RpL K w.R ds vs) {p : Addr} (hp : w.H p = none) : Q (.ref p) (upd w.H p (.lst vs)) := by
  have x := ex_new (o := .lst vs) s hp
  have hR : w.R p = none := by
    cases q : w.R p with
    | none => rfl
    | some u => rw [s p u q] at hp; cases hp
  refine k (.ref p) (fun a => a = p) { w with H := upd w.H p (.lst vs) } x ?_ fun a ha => by rw [ha]; exact hp
  unfold Ow
  exact ⟨p, vs, fun _ => False, rfl, upd_same, hR, r.owL, fun z => z, fun b => ⟨fun z => .inl z, fun z => z.elim (fun z => z) fun z => z.elim⟩⟩
theorem new_tp {ds : List D} {vs : List V} {Q : VK} (s : Same w.R w.H) (k : ∀ v f w', Ex w w' → Ow K w'.R w'.H (.tup ds) v f → (∀ a, f a → w.H a = none) → Q v w'.H) (r : RpL K w.R ds vs) {p : Addr} (hp : w.H p = none) : Q (.ref p) (upd w.H p (.tup vs)) := by
  have x := ex_frz (o := .tup vs) s hp
  exact k (.ref p) (fun _ => False) _ x (Rp.ow (by unfold Rp; exact ⟨p, vs, rfl, SqT.of upd_same, r.mono x.rr⟩)) fun _ z => z.elim
theorem rpL_app : ∀ {R : Hp} {ds es : List D} {vs us : List V}, RpL K R ds vs → RpL K R es us → RpL K R (ds ++ es) (vs ++ us)
  | R, [], es, vs, us, h, h' => by unfold RpL at h; subst h; exact h'
  | R, d :: ds, es, vs, us, h, h' => by
    unfold RpL at h
    obtain ⟨v, vs', e, h1, h2⟩ := h
    subst e
    exact ⟨v, vs' ++ us, rfl, h1, rpL_app h2 h'⟩

/-! ### arithmetic -/
def gAdd (x y : D) : Option D := match x, y with
  | .int i, .int j => some (.int (i + j))
  | .str a, .str b => if a.length + b.length ≤ sizeLine then some (.str (a ++ b)) else none
  | .tup xs, .tup ys => if xs.length + ys.length ≤ sizeLine then some (.tup (xs ++ ys)) else none
  | x, y => match lstOf x, lstOf y with
    | some xs, some ys => if xs.length + ys.length ≤ sizeLine then some (.mls (xs ++ ys)) else none
    | _, _ => none
def rAddI : R2 := rI0 fun i j => .int (i + j)
def rAddS : R2 := fun x y H Q => ∃ i j, x = .str i ∧ y = .str j ∧ i.length + j.length ≤ sizeLine ∧ Q (.str (i ++ j)) H
def rAddA (K : Fg) : R2 := fun x y H Q => rAddI x y H Q ∨ rAddS x y H Q ∨ rCat x y H Q ∨ rCatA K x y H Q
theorem op_addA : OpR X (binaryOp .Add) (rAddA X.K) := op_add.or (op_add_str.or (op_cat.or op_catA))
theorem s_addA : Op2S K (rAddA K) gAdd := by
  intro x y d e c w Q fx fy s hx hy eg k
  have lists : ∀ xs ys, lstOf d = some xs → lstOf e = some ys → xs.length + ys.length ≤ sizeLine → c = .mls (xs ++ ys) → rAddA K x y w.H Q := fun xs ys e1 e2 hz ec => by
    subst ec
    obtain ⟨a, vs, rfl, ha, q1⟩ := ow_lst s hx e1
    obtain ⟨b, us, rfl, hb, q2⟩ := ow_lst s hy e2
    exact .inr (.inr (.inl ⟨a, b, vs, us, rfl, rfl, ha, hb, by rw [q1.len, q2.len]; exact hz, fun p hp => new_lst s k (rpL_app q1 q2) hp⟩))
  unfold gAdd at eg
  split at eg
  · cases eg
    have := ow_int hx; subst this
    have := ow_int hy; subst this
    exact .inl ⟨_, _, rfl, rfl, fin0 s k (by unfold Rp; rfl)⟩
  · split at eg
    · rename_i hz
      cases eg
      have := ow_str hx; subst this
      have := ow_str hy; subst this
      exact .inr (.inl ⟨_, _, rfl, rfl, hz, fin0 s k (by unfold Rp; rfl)⟩)
    · cases eg
  · split at eg
    · rename_i xs ys hz
      cases eg
      have h1 := (Ow.rp rfl hx).1; unfold Rp at h1
      obtain ⟨a, vs, rfl, ha, q1⟩ := h1
      have h2 := (Ow.rp rfl hy).1; unfold Rp at h2
      obtain ⟨b, us, rfl, hb, q2⟩ := h2
      refine .inr (.inr (.inr ⟨a, b, vs, us, rfl, rfl, sqT_mono s ha, sqT_mono s hb, by rw [q1.len, q2.len]; exact hz, fun e => ?_, fun _ e => ?_, fun _ _ p hp => new_tp s k (rpL_app q1 q2) hp⟩))
      · subst e
        have e3 : xs = [] := by have := q1.len; exact List.eq_nil_of_length_eq_zero this.symm
        subst e3
        exact fin0 s k (by unfold Rp; exact ⟨b, us, rfl, hb, q2⟩)
      · subst e
        have e3 : ys = [] := by have := q2.len; exact List.eq_nil_of_length_eq_zero this.symm
        subst e3
        exact fin0 s k (by rw [List.append_nil]; unfold Rp; exact ⟨a, vs, rfl, ha, q1⟩)
    · cases eg
  · split at eg
    · rename_i xs ys e1 e2
      split at eg
      · rename_i hz
        cases eg
        exact lists xs ys e1 e2 hz rfl
      · cases eg
    · cases eg
def gI2 (p : Int → Int → Bool) (f : Int → Int → D) : D → D → Option D
  | .int i, .int j => if p i j then some (f i j) else none
  | _, _ => none
theorem s_rI {Cd : Int → Int → Prop} {g : Int → Int → V} {p : Int → Int → Bool} {f : Int → Int → D} (hp : ∀ i j, p i j = true → Cd i j) (hf : ∀ i j R, Rp K R (f i j) (g i j)) : Op2S K (rI Cd g) (gI2 p f) := by
  intro x y d e c w Q fx fy s hx hy eg k
  unfold gI2 at eg
  split at eg
  · rename_i i j
    split at eg
    · rename_i hpij
      cases eg
      have := ow_int hx; subst this
      have := ow_int hy; subst this
      exact ⟨i, j, rfl, rfl, hp i j hpij, fin0 s k (hf i j w.R)⟩
    · cases eg
  · cases eg
theorem s_rI0 {g : Int → Int → V} {f : Int → Int → D} (hf : ∀ i j R, Rp K R (f i j) (g i j)) : Op2S K (rI0 g) (gI2 (fun _ _ => true) f) := by
  intro x y d e c w Q fx fy s hx hy eg k
  unfold gI2 at eg
  split at eg
  · rename_i i j
    rw [if_pos rfl] at eg
    cases eg
    have := ow_int hx; subst this
    have := ow_int hy; subst this
    exact ⟨i, j, rfl, rfl, fin0 s k (hf i j w.R)⟩
  · cases eg
def gSub : D → D → Option D := gI2 (fun _ _ => true) fun i j => .int (i - j)
theorem s_sub : Op2S K (rI0 fun i j => .int (i - j)) gSub := s_rI0 fun i j R => by unfold Rp; rfl
def smallI (i : Int) : Bool := decide (-(2 ^ 64) < i) && decide (i < 2 ^ 64)
def gMul : D → D → Option D := gI2 (fun i j => smallI i || smallI j) fun i j => .int (i * j)
theorem s_mul : Op2S K (rI CMul fun i j => .int (i * j)) gMul := s_rI (fun i j h => by
  unfold smallI at h
  simp only [Bool.or_eq_true, Bool.and_eq_true, decide_eq_true_eq] at h
  exact h) fun i j R => by unfold Rp; rfl
def gFdiv : D → D → Option D := gI2 (fun _ j => decide (j ≠ 0) && decide (j.natAbs < 1073741824)) fun i j => .int (i.fdiv j)
theorem s_fdiv : Op2S K (rI CDivN fun i j => .int (i.fdiv j)) gFdiv := s_rI (fun i j h => by
  simp only [Bool.and_eq_true, decide_eq_true_eq] at h
  exact h) fun i j R => by unfold Rp; rfl
def gMod : D → D → Option D := gI2 (fun _ j => decide (j ≠ 0)) fun i j => .int (i.fmod j)
theorem s_mod : Op2S K (rI (fun _ j => j ≠ 0) fun i j => .int (i.fmod j)) gMod := s_rI (fun i j h => of_decide_eq_true h) fun i j R => by unfold Rp; rfl
def gPow : D → D → Option D := gI2 (fun i j => decide (0 ≤ j) && decide (j ≤ 1000000) && decide (i.natAbs < 2 ^ 64)) fun i j => .int (i ^ j.toNat)
theorem s_pow : Op2S K (rI CPow fun i j => .int (i ^ j.toNat)) gPow := s_rI (fun i j h => by
  simp only [Bool.and_eq_true, decide_eq_true_eq] at h
  exact ⟨h.1.1, h.1.2, h.2⟩) fun i j R => by unfold Rp; rfl
def gLt : D → D → Option D := gI2 (fun _ _ => true) fun i j => .bl (decide (i < j))
def gLe : D → D → Option D := gI2 (fun _ _ => true) fun i j => .bl (decide (i ≤ j))
def gGt : D → D → Option D := gI2 (fun _ _ => true) fun i j => .bl (decide (j < i))
def gGe : D → D → Option D := gI2 (fun _ _ => true) fun i j => .bl (decide (j ≤ i))
theorem s_lt : Op2S K (rI0 fun i j => .bl (decide (i < j))) gLt := s_rI0 fun i j R => by unfold Rp; rfl
theorem s_le : Op2S K (rI0 fun i j => .bl (decide (i ≤ j))) gLe := s_rI0 fun i j R => by unfold Rp; rfl
theorem s_gt : Op2S K (rI0 fun i j => .bl (decide (j < i))) gGt := s_rI0 fun i j R => by unfold Rp; rfl
theorem s_ge : Op2S K (rI0 fun i j => .bl (decide (j ≤ i))) gGe := s_rI0 fun i j R => by unfold Rp; rfl

/-! ### == of data -/
mutual
def pdt : D → Option PyData
  | .non => some .none
  | .bl b => some (.bool b)
  | .int i => some (.int i)
  | .str x => some (.str x)
  | .tup ds => (pdtL ds).map .tuple
  | .lst ds => (pdtL ds).map .list
  | .sq ds => (pdtL ds).map .list
  | .mls ds => (pdtL ds).map .list
  | .dct _ _ => none
  | .mdc _ _ => none
def pdtL : List D → Option (List PyData)
  | [] => some []
  | d :: ds => match pdt d, pdtL ds with
    | some p, some ps => some (p :: ps)
    | _, _ => none
end
mutual
theorem dp_of : ∀ {R H : Hp} {d : D} {v : V} {f : Fp} {p : PyData}, Same R H → Ow K R H d v f → pdt d = some p → Dp K H v p
  | R, H, .non, v, f, p, s, h, e => by unfold pdt at e; cases e; rw [ow_non h]; exact .non
  | R, H, .bl b, v, f, p, s, h, e => by unfold pdt at e; cases e; rw [ow_bl h]; exact .bl b
  | R, H, .int i, v, f, p, s, h, e => by unfold pdt at e; cases e; rw [ow_int h]; exact .int i
  | R, H, .str x, v, f, p, s, h, e => by unfold pdt at e; cases e; rw [ow_str h]; exact .str x
  | R, H, .tup ds, v, f, p, s, h, e => by
    unfold pdt at e
    cases e1 : pdtL ds with
    | none => rw [e1] at e; cases e
    | some ps =>
      rw [e1] at e
      cases e
      have h := (Ow.rp rfl h).1
      unfold Rp at h
      obtain ⟨a, vs, rfl, ha, q⟩ := h
      exact .tup (sqT_mono s ha) (dpL_of s q.owL e1)
  | R, H, .lst ds, v, f, p, s, h, e => by
    unfold pdt at e
    cases e1 : pdtL ds with
    | none => rw [e1] at e; cases e
    | some ps =>
      rw [e1] at e
      cases e
      have h := (Ow.rp rfl h).1
      unfold Rp at h
      obtain ⟨a, vs, rfl, ha, q⟩ := h
      exact .lst (SqL.of (s _ _ ha)) (dpL_of s q.owL e1)
  | R, H, .sq ds, v, f, p, s, h, e => by
    unfold pdt at e
    cases e1 : pdtL ds with
    | none => rw [e1] at e; cases e
    | some ps =>
      rw [e1] at e
      cases e
      have h := (Ow.rp rfl h).1
      unfold Rp at h
      obtain ⟨a, vs, rfl, ha, q⟩ := h
      exact .lst (sqL_mono s ha) (dpL_of s q.owL e1)
  | R, H, .mls ds, v, f, p, s, h, e => by
    unfold pdt at e
    cases e1 : pdtL ds with
    | none => rw [e1] at e; cases e
    | some ps =>
      rw [e1] at e
      cases e
      unfold Ow at h
      obtain ⟨a, vs, g, rfl, ha, _, q, _⟩ := h
      exact .lst (SqL.of ha) (dpL_of s q e1)
  | R, H, .dct _ _, v, f, p, s, h, e => by unfold pdt at e; cases e
  | R, H, .mdc _ _, v, f, p, s, h, e => by unfold pdt at e; cases e
theorem dpL_of : ∀ {R H : Hp} {ds : List D} {vs : List V} {f : Fp} {ps : List PyData}, Same R H → OwL K R H ds vs f → pdtL ds = some ps → DpAll K H vs ps
  | R, H, [], vs, f, ps, s, h, e => by
    unfold pdtL at e
    cases e
    unfold OwL at h
    rw [h.1]
    exact .nil
  | R, H, d :: ds, vs, f, ps, s, h, e => by
    unfold pdtL at e
    cases e1 : pdt d with
    | none => rw [e1] at e; cases e
    | some p =>
      cases e2 : pdtL ds with
      | none => rw [e1, e2] at e; cases e
      | some ps' =>
        rw [e1, e2] at e
        cases e
        unfold OwL at h
        obtain ⟨v, vs', f1, f2, rfl, h1, h2, _, _⟩ := h
        exact .cons (dp_of s h1 e1) (dpL_of s h2 e2)
end
def gEqB (x y : D) : Option Bool := match pdt x, pdt y with
  | some p, some q => if SeqAt.shaped p && SeqAt.shaped q then some (PyData.eqv p q) else none
  | _, _ => none
def gEq (x y : D) : Option D := (gEqB x y).map .bl
def gNe (x y : D) : Option D := (gEqB x y).map fun b => .bl (!b)
theorem gEqB_get {x y : D} {b : Bool} (h : gEqB x y = some b) : ∃ p q, pdt x = some p ∧ pdt y = some q ∧ SeqAt.shaped p = true ∧ SeqAt.shaped q = true ∧ b = PyData.eqv p q := by
  unfold gEqB at h
  split at h
  · rename_i p q e1 e2
    split at h
    · rename_i hs
      rw [Bool.and_eq_true] at hs
      cases h
      exact ⟨p, q, e1, e2, hs.1, hs.2, rfl⟩
    · cases h
  · cases h
theorem s_eq : Op2S K (rEqD K) gEq := by
  intro x y d e c w Q fx fy s hx hy eg k
  unfold gEq at eg
  cases eb : gEqB d e with
  | none => rw [eb] at eg; cases eg
  | some b =>
    rw [eb] at eg
    cases eg
    obtain ⟨p, q, e1, e2, h1, h2, e3⟩ := gEqB_get eb
    exact ⟨p, q, dp_of s hx e1, dp_of s hy e2, h1, h2, fin0 s k (by unfold Rp; rw [e3])⟩
theorem s_ne : Op2S K (rNeD K) gNe := by
  intro x y d e c w Q fx fy s hx hy eg k
  unfold gNe at eg
  cases eb : gEqB d e with
  | none => rw [eb] at eg; cases eg
  | some b =>
    rw [eb] at eg
    cases eg
    obtain ⟨p, q, e1, e2, h1, h2, e3⟩ := gEqB_get eb
    exact ⟨p, q, dp_of s hx e1, dp_of s hy e2, h1, h2, fin0 s k (by unfold Rp; rw [e3])⟩
end
end TT

set_option Elab.async false
set_option linter.all false
set_option maxRecDepth 100000
namespace TT
open PySem PySem.Spec PyProof.Rows L2
section
variable {X : Cx} {C : Cn} {K : Fg} {σ : St} {w w1 w2 : Wd}
/-! ### ==, != of scalars and of data -/
def scEq (x y : D) : Option Bool := match x, y with
  | .int i, .int j => some (decide (i = j))
  | .str a, .str b => some (decide (a = b))
  | .bl a, .bl b => some (decide (a = b))
  | .non, .non => some true
  | .non, .int _ => some false
  | .int _, .non => some false
  | .non, .bl _ => some false
  | .bl _, .non => some false
  | .non, .str _ => some false
  | .str _, .non => some false
  | .int _, .str _ => some false
  | .str _, .int _ => some false
  | .bl _, .str _ => some false
  | .str _, .bl _ => some false
  | _, _ => none
def eqB (x y : D) : Option Bool := match scEq x y with
  | some b => some b
  | none => gEqB x y
def gEqA (x y : D) : Option D := (eqB x y).map .bl
def gNeA (x y : D) : Option D := (eqB x y).map fun b => .bl (!b)
theorem dec_of {a b : V} {p : Prop} [Decidable p] (h : a = b ↔ p) : decide (a = b) = decide p := by
  by_cases e : p
  · rw [decide_eq_true e, decide_eq_true (h.mpr e)]
  · rw [decide_eq_false e, decide_eq_false fun z => e (h.mp z)]
theorem scEq_run {x y : V} {d e : D} {b : Bool} {fx fy : Fp} {R H : Hp} (hx : Ow K R H d x fx) (hy : Ow K R H e y fy) (h : scEq d e = some b) : scal x y = true ∧ decide (x = y) = b := by
  unfold scEq at h
  split at h <;> first | (cases h; done) | skip
  · rw [ow_int hx, ow_int hy]; cases h; exact ⟨rfl, dec_of ⟨fun z => V.int.inj z, fun z => by rw [z]⟩⟩
  · rw [ow_str hx, ow_str hy]; cases h; exact ⟨rfl, dec_of ⟨fun z => V.str.inj z, fun z => by rw [z]⟩⟩
  · rw [ow_bl hx, ow_bl hy]; cases h; exact ⟨rfl, dec_of ⟨fun z => V.bl.inj z, fun z => by rw [z]⟩⟩
  · rw [ow_non hx, ow_non hy]; cases h; exact ⟨rfl, rfl⟩
  · rw [ow_non hx, ow_int hy]; cases h; exact ⟨rfl, rfl⟩
  · rw [ow_int hx, ow_non hy]; cases h; exact ⟨rfl, rfl⟩
  · rw [ow_non hx, ow_bl hy]; cases h; exact ⟨rfl, rfl⟩
  · rw [ow_bl hx, ow_non hy]; cases h; exact ⟨rfl, rfl⟩
  · rw [ow_non hx, ow_str hy]; cases h; exact ⟨rfl, rfl⟩
  · rw [ow_str hx, ow_non hy]; cases h; exact ⟨rfl, rfl⟩
  · rw [ow_int hx, ow_str hy]; cases h; exact ⟨rfl, rfl⟩
  · rw [ow_str hx, ow_int hy]; cases h; exact ⟨rfl, rfl⟩
  · rw [ow_bl hx, ow_str hy]; cases h; exact ⟨rfl, rfl⟩
  · rw [ow_str hx, ow_bl hy]; cases h; exact ⟨rfl, rfl⟩
def rEqA (K : Fg) : R2 := fun x y H Q => rEq x y H Q ∨ rEqD K x y H Q
def rNeA (K : Fg) : R2 := fun x y H Q => rNe x y H Q ∨ rNeD K x y H Q
theorem op_eqA (hu : X.A.units + 64 < cLine) : OpR X (compareOp .Eq) (rEqA X.K) := op_eq.or (op_eqD hu)
theorem op_neA (hu : X.A.units + 64 < cLine) : OpR X (compareOp .NotEq) (rNeA X.K) := op_ne.or (op_neD hu)
theorem s_eqA : Op2S K (rEqA K) gEqA := by
  intro x y d e c w Q fx fy s hx hy eg k
  unfold gEqA eqB at eg
  cases e1 : scEq d e with
  | some b =>
    rw [e1] at eg
    cases eg
    obtain ⟨h1, h2⟩ := scEq_run hx hy e1
    exact .inl ⟨h1, by rw [h2]; exact fin0 s k (by unfold Rp; rfl)⟩
  | none =>
    rw [e1] at eg
    exact .inr (s_eq x y d e c w Q fx fy s hx hy eg k)
theorem s_neA : Op2S K (rNeA K) gNeA := by
  intro x y d e c w Q fx fy s hx hy eg k
  unfold gNeA eqB at eg
  cases e1 : scEq d e with
  | some b =>
    rw [e1] at eg
    cases eg
    obtain ⟨h1, h2⟩ := scEq_run hx hy e1
    exact .inl ⟨h1, by rw [h2]; exact fin0 s k (by unfold Rp; rfl)⟩
  | none =>
    rw [e1] at eg
    exact .inr (s_ne x y d e c w Q fx fy s hx hy eg k)

/-! ### in -/
def flatD : D → Bool
  | .non => true
  | .bl _ => true
  | .int _ => true
  | .str _ => true
  | _ => false
/-- == of flat things -/
def eqF : D → D → Bool
  | .non, .non => true
  | .bl a, .bl b => a == b
  | .bl a, .int b => (if a then 1 else 0) == b
  | .int a, .bl b => a == (if b then 1 else 0)
  | .int a, .int b => a == b
  | .str a, .str b => a == b
  | _, _ => false
def inF (x : D) (ds : List D) : Bool := ds.any fun y => eqF y x
theorem rp_flat {R : Hp} {d : D} {v : V} (h : Rp K R d v) (hf : flatD d = true) : flatV v = true := by
  cases d <;> first | (cases hf; done) | (unfold Rp at h; subst h; rfl)
theorem eqF_V {R : Hp} {d e : D} {v u : V} (h : Rp K R d v) (h' : Rp K R e u) (hf : flatD d = true) (hf' : flatD e = true) : eqV v u = eqF d e := by
  cases d <;> first | (cases hf; done) | (cases e <;> first | (cases hf'; done) | (unfold Rp at h h'; subst h h'; rfl))
theorem rpL_flat : ∀ {R : Hp} {ds : List D} {vs : List V}, RpL K R ds vs → ds.all flatD = true → vs.all flatV = true
  | R, [], vs, h, _ => by unfold RpL at h; subst h; rfl
  | R, d :: ds, vs, h, hf => by
    unfold RpL at h
    obtain ⟨v, vs', rfl, h1, h2⟩ := h
    rw [List.all_cons, Bool.and_eq_true] at hf
    rw [List.all_cons, rp_flat h1 hf.1, rpL_flat h2 hf.2]; rfl
theorem inF_V : ∀ {R : Hp} {ds : List D} {vs : List V} {d : D} {v : V}, RpL K R ds vs → Rp K R d v → ds.all flatD = true → flatD d = true → inV v vs = inF d ds
  | R, [], vs, d, v, h, _, _, _ => by unfold RpL at h; subst h; rfl
  | R, d0 :: ds, vs, d, v, h, hd, hf, hfd => by
    unfold RpL at h
    obtain ⟨v0, vs', rfl, h1, h2⟩ := h
    rw [List.all_cons, Bool.and_eq_true] at hf
    unfold inV inF
    rw [List.any_cons, List.any_cons, eqF_V h1 hd hf.1 hfd]
    exact congrArg _ (inF_V h2 hd hf.2 hfd)
def inB (x y : D) : Option Bool := match x, y with
  | .str a, .str z => (match a.cps.toList with
    | [c] => some (decide (c ∈ z.cps.toList))
    | _ => none)
  | x, y => match seqOf y with
    | some ds => if flatD x && ds.all flatD then some (inF x ds) else none
    | none => none
def gIn (x y : D) : Option D := (inB x y).map .bl
def gNotIn (x y : D) : Option D := (inB x y).map fun b => .bl (!b)
def rInA (K : Fg) : R2 := fun x y H Q => (∃ (c : Nat) (z : Str), x = .str ⟨#[c]⟩ ∧ y = .str z ∧ Q (.bl (decide (c ∈ z.cps.toList))) H) ∨ rIn K false x y H Q
def rNotInA (K : Fg) : R2 := fun x y H Q => (∃ (c : Nat) (z : Str), x = .str ⟨#[c]⟩ ∧ y = .str z ∧ Q (.bl (!decide (c ∈ z.cps.toList))) H) ∨ rIn K true x y H Q
theorem op_inA : OpR X (compareOp .In) (rInA X.K) := op_in_sign.or op_in_seq
theorem op_notInA : OpR X (compareOp .NotIn) (rNotInA X.K) := op_notIn_sign.or op_notIn_seq
theorem str_one {a : Str} {c : Nat} (h : a.cps.toList = [c]) : a = ⟨#[c]⟩ := by
  obtain ⟨cps⟩ := a
  simp only at h
  have : cps = #[c] := by
    apply Array.ext'
    simpa using h
  rw [this]
theorem inB_run {x y : V} {d e : D} {b : Bool} {fx fy : Fp} {R H : Hp} {P : V → V → Prop} (s : Same R H) (hx : Ow K R H d x fx) (hy : Ow K R H e y fy) (h : inB d e = some b)
    (h1 : ∀ (c : Nat) (z : Str), x = .str ⟨#[c]⟩ → y = .str z → b = decide (c ∈ z.cps.toList) → P x y) (h2 : ∀ p xs, y = .ref p → (SqL K H p xs ∨ SqT K H p xs) → flatV x = true → xs.all flatV = true → b = inV x xs → P x y) : P x y := by
  unfold inB at h
  split at h
  · rename_i a z
    split at h
    · rename_i c hc
      cases h
      have := ow_str hx; subst this
      have := ow_str hy; subst this
      rw [str_one hc] at h1 h2 ⊢
      exact h1 c z rfl rfl rfl
    · cases h
  · split at h
    · rename_i ds hs
      split at h
      · rename_i hf
        cases h
        rw [Bool.and_eq_true] at hf
        obtain ⟨a, vs, rfl, hq, q⟩ := ow_seq s hy hs
        have hi : imm d = true := by cases d <;> first | rfl | (cases hf.1)
        have rx := (hx.rp hi).1
        refine h2 a vs rfl (hq.imp (fun z => z.1) fun z => z.1) (rp_flat rx hf.1) (rpL_flat q hf.2) (inF_V q rx hf.2 hf.1).symm
      · cases h
    · cases h
theorem s_inA : Op2S K (rInA K) gIn := by
  intro x y d e c w Q fx fy s hx hy eg k
  unfold gIn at eg
  cases eb : inB d e with
  | none => rw [eb] at eg; cases eg
  | some b =>
    rw [eb] at eg
    cases eg
    have q : Q (.bl b) w.H := fin0 s k (by unfold Rp; rfl)
    exact inB_run (P := fun x y => rInA K x y w.H Q) s hx hy eb (fun c z e1 e2 e3 => .inl ⟨c, z, e1, e2, by rw [← e3]; exact q⟩) fun p xs e1 e2 e3 e4 e5 => .inr ⟨p, xs, e1, e2, e3, e4, by rw [if_neg Bool.false_ne_true, ← e5]; exact q⟩
theorem s_notInA : Op2S K (rNotInA K) gNotIn := by
  intro x y d e c w Q fx fy s hx hy eg k
  unfold gNotIn at eg
  cases eb : inB d e with
  | none => rw [eb] at eg; cases eg
  | some b =>
    rw [eb] at eg
    cases eg
    have q : Q (.bl (!b)) w.H := fin0 s k (by unfold Rp; rfl)
    exact inB_run (P := fun x y => rNotInA K x y w.H Q) s hx hy eb (fun c z e1 e2 e3 => .inl ⟨c, z, e1, e2, by rw [← e3]; exact q⟩) fun p xs e1 e2 e3 e4 e5 => .inr ⟨p, xs, e1, e2, e3, e4, by rw [if_pos rfl, ← e5]; exact q⟩

/-! ### subscripts -/
def gIx (x y : D) : Option D := match x, y with
  | .str z, .int i => if z.length ≤ sizeLine then (atI z.cps.toList i).map fun c => .str ⟨#[c]⟩ else none
  | x, .int i => (seqOf x).bind fun ds => atI ds i
  | _, _ => none
theorem rpL_at : ∀ {R : Hp} {ds : List D} {vs : List V} {j : Nat} {d : D}, RpL K R ds vs → ds[j]? = some d → ∃ v, vs[j]? = some v ∧ Rp K R d v
  | R, [], vs, j, d, h, e => by simp at e
  | R, d0 :: ds, vs, j, d, h, e => by
    unfold RpL at h
    obtain ⟨v0, vs', rfl, h1, h2⟩ := h
    cases j with
    | zero => have : d0 = d := by simpa using e
              subst this; exact ⟨v0, rfl, h1⟩
    | succ j => obtain ⟨v, q1, q2⟩ := rpL_at h2 (show ds[j]? = some d by simpa using e); exact ⟨v, by simpa using q1, q2⟩
theorem atI_rp {R : Hp} {ds : List D} {vs : List V} {i : Int} {d : D} (r : RpL K R ds vs) (h : atI ds i = some d) : ∃ v, atI vs i = some v ∧ Rp K R d v := by
  unfold atI at h ⊢
  rw [r.len]
  cases e : ixN ds.length i with
  | none => rw [e] at h; cases h
  | some j =>
    rw [e] at h
    exact rpL_at r h
theorem s_ix : Op2S K (rIx K) gIx := by
  intro x y d e c w Q fx fy s hx hy eg k
  unfold gIx at eg
  split at eg
  · rename_i z i
    split at eg
    · rename_i hz
      have := ow_str hx; subst this
      have := ow_int hy; subst this
      cases ea : atI z.cps.toList i with
      | none => rw [ea] at eg; cases eg
      | some c =>
        rw [ea] at eg
        cases eg
        exact .inr (.inr ⟨z, i, c, rfl, rfl, hz, ea, fin0 s k (by unfold Rp; rfl)⟩)
    · cases eg
  · rename_i i _
    have := ow_int hy; subst this
    cases es : seqOf d with
    | none => rw [es] at eg; cases eg
    | some ds =>
      rw [es] at eg
      have eg : atI ds i = some c := eg
      obtain ⟨a, vs, rfl, hq, q⟩ := ow_seq s hx es
      obtain ⟨v, h1, h2⟩ := atI_rp q eg
      rcases hq with ⟨hq, _⟩ | ⟨hq, _⟩
      · exact .inl ⟨a, vs, i, v, rfl, rfl, hq, h1, fin0 s k h2⟩
      · exact .inr (.inl ⟨a, vs, i, v, rfl, rfl, hq, h1, fin0 s k h2⟩)
  · cases eg
/-- x[lo:hi] -/
def cutD (xs : List D) (lo hi : Option Int) : List D := (xs.drop (HT.sIx xs.length 0 lo)).take (HT.sIx xs.length xs.length hi - HT.sIx xs.length 0 lo)
def gSl (x : D) (lo hi : Option Int) : Option D := match x with
  | .str z => if z.length ≤ sizeLine then some (.str (cutS z lo hi)) else none
  | .tup ds => some (.tup (cutD ds lo hi))
  | x => (seqOf x).map fun ds => .mls (cutD ds lo hi)
def rSlA3 (K : Fg) : V → Option Int → Option Int → Hp → VK → Prop := fun x lo hi H Q => rSlS x lo hi H Q ∨ rSlA K x lo hi H Q ∨ rSlL K x lo hi H Q
theorem sl_all : SlR X (rSlA3 X.K) := sl_str.or (sl_tupA.or sl_list)
theorem rpL_drop : ∀ {R : Hp} {ds : List D} {vs : List V} (n : Nat), RpL K R ds vs → RpL K R (ds.drop n) (vs.drop n)
  | R, ds, vs, 0, h => h
  | R, [], vs, n + 1, h => by unfold RpL at h; subst h; simp; unfold RpL; rfl
  | R, d :: ds, vs, n + 1, h => by
    unfold RpL at h
    obtain ⟨v, vs', rfl, h1, h2⟩ := h
    exact rpL_drop n h2
theorem rpL_take : ∀ {R : Hp} {ds : List D} {vs : List V} (n : Nat), RpL K R ds vs → RpL K R (ds.take n) (vs.take n)
  | R, ds, vs, 0, h => by simp; unfold RpL; rfl
  | R, [], vs, n + 1, h => by unfold RpL at h; subst h; simp; unfold RpL; rfl
  | R, d :: ds, vs, n + 1, h => by
    unfold RpL at h
    obtain ⟨v, vs', rfl, h1, h2⟩ := h
    rw [List.take_succ_cons, List.take_succ_cons]
    exact ⟨v, _, rfl, h1, rpL_take n h2⟩
theorem rpL_cut {R : Hp} {ds : List D} {vs : List V} (lo hi : Option Int) (h : RpL K R ds vs) : RpL K R (cutD ds lo hi) (cutV vs lo hi) := by
  unfold cutD cutV
  rw [h.len]
  exact rpL_take _ (rpL_drop _ h)
theorem s_sl : OpPS K (rSlA3 K) gSl := by
  intro x lo hi d c w Q fx s hx eg k
  unfold gSl at eg
  split at eg
  · rename_i z
    split at eg
    · rename_i hz
      cases eg
      have := ow_str hx; subst this
      exact .inl ⟨z, rfl, hz, fin0 s k (by unfold Rp; rfl)⟩
    · cases eg
  · rename_i ds
    cases eg
    have h1 := (Ow.rp rfl hx).1; unfold Rp at h1
    obtain ⟨a, vs, rfl, ha, q⟩ := h1
    refine .inr (.inl ⟨a, vs, rfl, sqT_mono s ha, fun hw => ?_, fun _ p hp => new_tp s k (rpL_cut lo hi q) hp⟩)
    have hl := q.len
    have e : cutD ds lo hi = ds := by
      unfold cutD
      rw [← hl, hw.1, hw.2, Nat.sub_zero, List.drop_zero, hl, List.take_length]
    rw [e] at k
    exact fin0 s k (by unfold Rp; exact ⟨a, vs, rfl, ha, q⟩)
  · rename_i hns hnt
    cases es : seqOf d with
    | none => rw [es] at eg; cases eg
    | some ds =>
      rw [es] at eg
      cases eg
      obtain ⟨a, vs, rfl, hq, q⟩ := ow_seq s hx es
      rcases hq with ⟨hq, _⟩ | ⟨_, e⟩
      · exact .inr (.inr ⟨a, vs, rfl, hq, fun p hp => new_lst s k (rpL_cut lo hi q) hp⟩)
      · exact (hnt _ e).elim

/-! ### calls of built-ins -/
def gLen : List D → Option D
  | [.str z] => if z.length ≤ sizeLine then some (.int z.length) else none
  | [.mls ds] => some (.int ds.length)
  | [d] => (seqOf d).map fun ds => .int ds.length
  | _ => none
theorem vwL1 {d : D} {vs : List V} (h : VwL K w [d] vs) : ∃ v f, vs = [v] ∧ Ow K w.R w.H d v f := by
  unfold VwL VwL at h
  obtain ⟨v, vs', f, rfl, h1, rfl⟩ := h
  exact ⟨v, f, rfl, h1⟩
theorem vwL2 {d e : D} {vs : List V} (h : VwL K w [d, e] vs) : ∃ v u f g, vs = [v, u] ∧ Ow K w.R w.H d v f ∧ Ow K w.R w.H e u g := by
  unfold VwL VwL VwL at h
  obtain ⟨v, vs', f, rfl, h1, u, us, g, rfl, h2, rfl⟩ := h
  exact ⟨v, u, f, g, rfl, h1, h2⟩
theorem s_len : OpNS K (fun xs H Q => ∃ x n, xs = [x] ∧ LenV K x H n ∧ Q (.int n) H) gLen := by
  intro vs ds c w Q s hv eg k
  unfold gLen at eg
  split at eg
  · rename_i z
    split at eg
    · rename_i hz
      cases eg
      obtain ⟨v, f, rfl, o⟩ := vwL1 hv
      have := ow_str o; subst this
      exact ⟨_, z.length, rfl, ⟨hz, rfl⟩, fin0 s k (by unfold Rp; rfl)⟩
    · cases eg
  · rename_i xs
    cases eg
    obtain ⟨v, f, rfl, o⟩ := vwL1 hv
    unfold Ow at o
    obtain ⟨a, us, g, rfl, ha, _, q, _⟩ := o
    exact ⟨_, xs.length, rfl, .inl ⟨us, SqL.of ha, q.len.symm⟩, fin0 s k (by unfold Rp; rfl)⟩
  · rename_i d _ _
    obtain ⟨v, f, rfl, o⟩ := vwL1 hv
    cases es : seqOf d with
    | none => rw [es] at eg; cases eg
    | some xs =>
      rw [es] at eg
      cases eg
      obtain ⟨a, us, rfl, hq, q⟩ := ow_seq s o es
      rcases hq with ⟨hq, _⟩ | ⟨hq, _⟩
      · exact ⟨_, xs.length, rfl, .inl ⟨us, hq, q.len.symm⟩, fin0 s k (by unfold Rp; rfl)⟩
      · exact ⟨_, xs.length, rfl, .inr ⟨us, hq, q.len.symm⟩, fin0 s k (by unfold Rp; rfl)⟩
  · cases eg
def gMax2 : List D → Option D
  | [.int i, .int j] => some (.int (if j > i then j else i))
  | _ => none
def gMin2 : List D → Option D
  | [.int i, .int j] => some (.int (if j < i then j else i))
  | _ => none
theorem s_max2 : OpNS K (fun xs H Q => ∃ i j, xs = [.int i, .int j] ∧ Q (.int (if j > i then j else i)) H) gMax2 := by
  intro vs ds c w Q s hv eg k
  unfold gMax2 at eg
  split at eg
  · cases eg
    obtain ⟨v, u, f, g, rfl, o1, o2⟩ := vwL2 hv
    have := ow_int o1; subst this
    have := ow_int o2; subst this
    exact ⟨_, _, rfl, fin0 s k (by unfold Rp; rfl)⟩
  · cases eg
theorem s_min2 : OpNS K (fun xs H Q => ∃ i j, xs = [.int i, .int j] ∧ Q (.int (if j < i then j else i)) H) gMin2 := by
  intro vs ds c w Q s hv eg k
  unfold gMin2 at eg
  split at eg
  · cases eg
    obtain ⟨v, u, f, g, rfl, o1, o2⟩ := vwL2 hv
    have := ow_int o1; subst this
    have := ow_int o2; subst this
    exact ⟨_, _, rfl, fin0 s k (by unfold Rp; rfl)⟩
  · cases eg
/-- int(x) -/
def gInt : List D → Option D
  | [.int i] => some (.int i)
  | [.bl b] => some (.int (if b then 1 else 0))
  | [.str a] => (PySem.intText? a).bind fun n => if a.length ≤ 640 then some (.int n) else none
  | _ => none
def rInt3 : List V → Hp → VK → Prop := fun xs H Q => ((∃ i, xs = [.int i] ∧ Q (.int i) H) ∨ ∃ k, xs = [.bl k] ∧ Q (.int (if k then 1 else 0)) H) ∨ ∃ a n, xs = [.str a] ∧ PySem.intText? a = some n ∧ a.length ≤ 640 ∧ Q (.int n) H
theorem cr_int3 : CallR X (.type "int") rInt3 := call_int1.or call_int_str
theorem s_int : OpNS K rInt3 gInt := by
  intro vs ds c w Q s hv eg k
  unfold gInt at eg
  split at eg
  · cases eg
    obtain ⟨v, f, rfl, o⟩ := vwL1 hv
    have := ow_int o; subst this
    exact .inl (.inl ⟨_, rfl, fin0 s k (by unfold Rp; rfl)⟩)
  · cases eg
    obtain ⟨v, f, rfl, o⟩ := vwL1 hv
    have := ow_bl o; subst this
    exact .inl (.inr ⟨_, rfl, fin0 s k (by unfold Rp; rfl)⟩)
  · rename_i a
    obtain ⟨v, f, rfl, o⟩ := vwL1 hv
    have := ow_str o; subst this
    cases ei : PySem.intText? a with
    | none => rw [ei] at eg; cases eg
    | some n =>
      rw [ei] at eg
      simp only [Option.bind_some] at eg
      split at eg
      · rename_i hl
        cases eg
        exact .inr ⟨a, n, rfl, ei, hl, fin0 s k (by unfold Rp; rfl)⟩
      · cases eg
  · cases eg
/-- all(xs), any(xs) of a list of bools -/
def boolsOf : List D → Option (List Bool)
  | [] => some []
  | .bl b :: ds => (boolsOf ds).map fun bs => b :: bs
  | _ :: _ => none
theorem bools_rp : ∀ {R : Hp} {ds : List D} {vs : List V} {bs : List Bool}, RpL K R ds vs → boolsOf ds = some bs → vs = bs.map V.bl
  | R, [], vs, bs, h, e => by unfold boolsOf at e; cases e; unfold RpL at h; exact h
  | R, d :: ds, vs, bs, h, e => by
    unfold RpL at h
    obtain ⟨v, vs', rfl, h1, h2⟩ := h
    cases d <;> first | (unfold boolsOf at e; cases e; done) | skip
    rename_i b
    unfold boolsOf at e
    cases eb : boolsOf ds with
    | none => rw [eb] at e; cases e
    | some bs' =>
      rw [eb] at e
      cases e
      unfold Rp at h1
      subst h1
      rw [bools_rp h2 eb]; rfl
def lstLike : D → Option (List D)
  | .tup _ => none
  | d => seqOf d
def gAll : List D → Option D
  | [d] => (lstLike d).bind fun ds => (boolsOf ds).map fun (bs : List Bool) => D.bl (bs.all id)
  | _ => none
def gAny : List D → Option D
  | [d] => (lstLike d).bind fun ds => (boolsOf ds).map fun (bs : List Bool) => D.bl (bs.any id)
  | _ => none
theorem lst_bools {d : D} {v : V} {f : Fp} {ds : List D} {bs : List Bool} {R H : Hp} (s : Same R H) (o : Ow K R H d v f) (e : lstLike d = some ds) (eb : boolsOf ds = some bs) : ∃ a, v = .ref a ∧ SqL K H a (bs.map V.bl) := by
  have nt : ∀ xs, d ≠ .tup xs := fun xs z => by subst z; cases e
  have es : seqOf d = some ds := by
    cases d <;> first | exact e | (cases e)
  obtain ⟨a, us, rfl, hq, q⟩ := ow_seq s o es
  rcases hq with ⟨hq, _⟩ | ⟨_, e2⟩
  · exact ⟨a, rfl, by rw [← bools_rp q eb]; exact hq⟩
  · exact (nt _ e2).elim
theorem s_all : OpNS K (rAll K) gAll := by
  intro vs ds c w Q s hv eg k
  unfold gAll at eg
  split at eg
  · rename_i d
    obtain ⟨v, f, rfl, o⟩ := vwL1 hv
    generalize hm : lstLike d = r at eg
    cases r with
    | none => cases eg
    | some xs =>
      simp only [Option.bind_some] at eg
      cases eb : boolsOf xs with
      | none => rw [eb] at eg; cases eg
      | some bs =>
        rw [eb] at eg
        cases eg
        obtain ⟨a, rfl, hq⟩ := lst_bools s o hm eb
        exact ⟨a, bs, rfl, hq, fin0 s k (by unfold Rp; rfl)⟩
  · cases eg
/-- list(x), tuple(x) -/
def gList : List D → Option D
  | [d] => (seqOf d).map .mls
  | _ => none
theorem s_list : OpNS K (fun xs H Q => ∃ p ys, xs = [.ref p] ∧ (SqL K H p ys ∨ SqT K H p ys) ∧ ∀ l, H l = none → Q (.ref l) (upd H l (.lst ys))) gList := by
  intro vs ds c w Q s hv eg k
  unfold gList at eg
  split at eg
  · rename_i d
    obtain ⟨v, f, rfl, o⟩ := vwL1 hv
    cases es : seqOf d with
    | none => rw [es] at eg; cases eg
    | some xs =>
      rw [es] at eg
      cases eg
      obtain ⟨a, us, rfl, hq, q⟩ := ow_seq s o es
      exact ⟨a, us, rfl, hq.imp (fun z => z.1) fun z => z.1, fun l hl => new_lst s k q hl⟩
  · cases eg
def gTuple : List D → Option D
  | [d] => (seqOf d).map .tup
  | _ => none
theorem s_tuple : OpNS K (fun xs H Q => ∃ p ys, xs = [.ref p] ∧ ((SqL K H p ys ∧ ∀ l, H l = none → Q (.ref l) (upd H l (.tup ys))) ∨ (SqT K H p ys ∧ Q (.ref p) H))) gTuple := by
  intro vs ds c w Q s hv eg k
  unfold gTuple at eg
  split at eg
  · rename_i d
    obtain ⟨v, f, rfl, o⟩ := vwL1 hv
    cases es : seqOf d with
    | none => rw [es] at eg; cases eg
    | some xs =>
      rw [es] at eg
      cases eg
      obtain ⟨a, us, rfl, hq, q⟩ := ow_seq s o es
      rcases hq with ⟨hq, _⟩ | ⟨hq, e⟩
      · exact ⟨a, us, rfl, .inl ⟨hq, fun l hl => new_tp s k q hl⟩⟩
      · subst e
        exact ⟨a, us, rfl, .inr ⟨hq, fin0 s k (o.rp rfl).1⟩⟩
  · cases eg
end
end TT

set_option Elab.async false
set_option linter.all false
set_option maxRecDepth 100000
namespace TT
open PySem PySem.Spec PyProof.Rows L2
section
variable {X : Cx} {C : Cn} {K : Fg} {σ : St} {w w0 w1 w2 : Wd}
/-! ### methods of texts -/
def gUpper : D → Option D
  | .str y => if y.length ≤ 5592405 then some (.str (Txt.upper y)) else none
  | _ => none
theorem m_upper {o : Expr} {apos pos : Pos} {oa : M Opd} (ho : PE X o (tO C oa)) (hbase : attributeBase o "upper" X.env (eval o X.env) = eval o X.env := by rfl) (hline : (apos.endLine == pos.line) = true := by rfl) :
    PE X (.Call (.Attribute o "upper" apos) [] [] pos) (tO C (mb oa fun p => opN (fun | [d] => gUpper d | _ => none) [p])) :=
  m_strM0 PySem.F.slot_str_upper PySem.F.type_str_upper mt_upper (fun y c w Q s eg k => by
    unfold gUpper at eg
    simp only at eg
    split at eg
    · rename_i hy
      cases eg
      exact ⟨y, rfl, rfl, hy, fin0 s k (by unfold Rp; rfl)⟩
    · cases eg) (fun d h => by
    cases d <;> first | exact ⟨_, rfl⟩ | exact (h rfl).elim) ho hbase hline
def gFind (y : Str) : D → Option D
  | .str z => some (.int (Txt.find y z))
  | _ => none
theorem m_find {o e : Expr} {apos pos : Pos} {oa ob : M Opd} (ho : PE X o (tO C oa)) (he : PE X e (tO C ob)) (hsx : starEach [e] X.env = [(false, eval e X.env)] := by rfl) (hbase : attributeBase o "find" X.env (eval o X.env) = eval o X.env := by rfl) (hline : (apos.endLine == pos.line) = true := by rfl) :
    PE X (.Call (.Attribute o "find" apos) [e] [] pos) (tO C (mb oa fun p => mb (isS p) fun y => mb ob fun q => op2 (fun _ d => gFind y d) q q)) :=
  m_strM1 PySem.F.slot_str_find PySem.F.type_str_find mt_find (fun y x d c w Q fx s hx eg k => by
    unfold gFind at eg
    split at eg
    · cases eg
      have := ow_str hx; subst this
      exact ⟨y, _, rfl, rfl, fin0 s k (by unfold Rp; rfl)⟩
    · cases eg) ho he hsx hbase hline
def gPart (y : Str) : D → Option D
  | .str z => if z.length ≠ 0 ∧ y.length ≤ sizeLine then some (.tup [.str (Txt.partition y z).1, .str (Txt.partition y z).2.1, .str (Txt.partition y z).2.2]) else none
  | _ => none
theorem m_partition {o e : Expr} {apos pos : Pos} {oa ob : M Opd} (ho : PE X o (tO C oa)) (he : PE X e (tO C ob)) (hsx : starEach [e] X.env = [(false, eval e X.env)] := by rfl) (hbase : attributeBase o "partition" X.env (eval o X.env) = eval o X.env := by rfl) (hline : (apos.endLine == pos.line) = true := by rfl) :
    PE X (.Call (.Attribute o "partition" apos) [e] [] pos) (tO C (mb oa fun p => mb (isS p) fun y => mb ob fun q => op2 (fun _ d => gPart y d) q q)) :=
  m_strM1 PySem.F.slot_str_partition PySem.F.type_str_partition mt_partition (fun y x d c w Q fx s hx eg k => by
    unfold gPart at eg
    split at eg
    · split at eg
      · rename_i z hz
        cases eg
        have := ow_str hx; subst this
        refine ⟨y, z, rfl, rfl, by simpa using hz.1, hz.2, fun p hp => new_tp s k ?_ hp⟩
        exact ⟨_, _, rfl, by unfold Rp; rfl, _, _, rfl, by unfold Rp; rfl, _, _, rfl, by unfold Rp; rfl, rfl⟩
      · cases eg
    · cases eg) ho he hsx hbase hline
/-- a row of texts -/
def strsOf : List D → Option (List Str)
  | [] => some []
  | .str b :: ds => (strsOf ds).map fun bs => b :: bs
  | _ :: _ => none
theorem strs_rp : ∀ {R : Hp} {ds : List D} {vs : List V} {bs : List Str}, RpL K R ds vs → strsOf ds = some bs → vs = bs.map V.str
  | R, [], vs, bs, h, e => by unfold strsOf at e; cases e; unfold RpL at h; exact h
  | R, d :: ds, vs, bs, h, e => by
    unfold RpL at h
    obtain ⟨v, vs', rfl, h1, h2⟩ := h
    cases d <;> first | (unfold strsOf at e; cases e; done) | skip
    rename_i b
    unfold strsOf at e
    cases eb : strsOf ds with
    | none => rw [eb] at e; cases e
    | some bs' =>
      rw [eb] at e
      cases e
      unfold Rp at h1
      subst h1
      rw [strs_rp h2 eb]; rfl
def gJoin (y : Str) (d : D) : Option D := (seqOf d).bind fun ds => (strsOf ds).bind fun ys => if (ys.map (·.length)).sum + ys.length * y.length ≤ 16777216 then some (.str (Txt.join y ys)) else none
theorem m_join {o e : Expr} {apos pos : Pos} {oa ob : M Opd} (hK : C.K = X.K) (ho : PE X o (tO C oa)) (he : PE X e (tO C ob)) (hsx : starEach [e] X.env = [(false, eval e X.env)] := by rfl) (hbase : attributeBase o "join" X.env (eval o X.env) = eval o X.env := by rfl) (hline : (apos.endLine == pos.line) = true := by rfl) :
    PE X (.Call (.Attribute o "join" apos) [e] [] pos) (tO C (mb oa fun p => mb (isS p) fun y => mb ob fun q => op2 (fun _ d => gJoin y d) q q)) :=
  m_strM1 PySem.F.slot_str_join PySem.F.type_str_join mt_join (fun y x d c w Q fx s hx eg k => by
    unfold gJoin at eg
    cases es : seqOf d with
    | none => rw [es] at eg; cases eg
    | some ds =>
      rw [es] at eg
      simp only [Option.bind_some] at eg
      cases et : strsOf ds with
      | none => rw [et] at eg; cases eg
      | some ys =>
        rw [et] at eg
        simp only [Option.bind_some] at eg
        split at eg
        · rename_i hz
          cases eg
          obtain ⟨a, vs, rfl, hq, q⟩ := ow_seq s hx es
          rw [hK] at hq
          rw [strs_rp q et] at hq
          exact ⟨y, a, ys, rfl, rfl, hq.imp (fun z => z.1) fun z => z.1, hz, fin0 s k (by unfold Rp; rfl)⟩
        · cases eg) ho he hsx hbase hline
def gIndexS (y : Str) : D → Option D
  | .str z => (Txt.index0 y z).map fun k => .int (k : Nat)
  | _ => none
theorem mt_indexF (hc : X.calm = true) : MtS X "str.index" (fun _ x xs H Q => ∃ (a b : Str) (k : Nat), x = .str a ∧ xs = [.str b] ∧ Txt.index0 a b = some k ∧ Q (.int (k : Nat)) H) := by
  intro pins s σ H x xs v us Q I rx rs h
  obtain ⟨a, b, k, e1, e2, e3, q⟩ := h
  exact mt_indexX hc takes0 pins s σ H x xs v us Q I rx rs ⟨a, b, e1, e2, fun j e => by rw [e3] at e; cases e; exact q, fun e => by rw [e3] at e; cases e⟩
theorem m_indexS {o e : Expr} {apos pos : Pos} {oa ob : M Opd} (ho : PE X o (tO C oa)) (he : PE X e (tO C ob)) (hc : X.calm = true := by rfl) (hbase : attributeBase o "index" X.env (eval o X.env) = eval o X.env := by rfl)
    (hfew : ((backTo pos (starEach [e] X.env)).all (fun x => !x.1) && (backToKw pos (keywordEach [] X.env)).all (fun x => x.1.isSome) && decide ([e].length + ([] : List Keyword).length + (if ([] : List Keyword).isEmpty then 0 else 1) < 30)) = true := by rfl)
    (hline : (apos.endLine == pos.line) = true := by rfl) (hs : starEach [e] X.env = (false, eval e X.env) :: starEach [] X.env := by rfl) (hplain : (backTo pos (starEach [] X.env)).any (·.1) = false := by rfl) :
    PE X (.Call (.Attribute o "index" apos) [e] [] pos) (tO C (mb oa fun p => mb (isS p) fun y => mb ob fun q => op2 (fun _ d => gIndexS y d) q q)) := by
  refine PE.weak (pe_bmS PySem.F.plainAttrs_str PySem.F.slot_str_index PySem.F.type_str_index (mt_indexF hc) ho (a_cons he a_nil hs) hbase hfew hline hs hplain) fun σ H Q ⟨w, z, eH, hr, hm, h⟩ => ?_
  subst eH
  refine tO_step hr hm (fun c ρ' e => by subst e; exact h) fun p v f w1 r1 m1 o1 fr1 e1 => ?_
  obtain ⟨y, hv, e1⟩ := isS_bind r1 o1 e1
  subst hv
  refine ⟨rfl, ?_⟩
  have e1' : mb (mCons ob (mr [])) (fun ps => match ps with | [q] => op2 (fun _ d => gIndexS y d) q q | _ => fun _ => none) w1.ρ = some z := by
    unfold mb at e1
    unfold mCons mb mr
    cases eo : ob w1.ρ with
    | none => rw [eo] at e1; cases e1
    | some q =>
      rw [eo] at e1
      cases q with
      | ex c ρ => exact e1
      | ok q ρ => exact e1
  refine tOL_step r1 e1' (fun c ρ' e => by subst e; exact AftX.step h m1) fun ps vs f2 w2 r2 m2 o2 fr2 e2 => ?_
  match ps, e2 with
  | [q], e2 =>
    unfold OpsOk OpsOk at o2
    obtain ⟨u, us, g1, g2, rfl, oq, ⟨rfl, _⟩, _⟩ := o2
    simp only at e2
    unfold op2 at e2
    cases eq : rs w2.ρ q with
    | none => rw [eq] at e2; cases e2
    | some d =>
      rw [eq] at e2
      simp only at e2
      cases eg : gIndexS y d with
      | none => rw [eg] at e2; cases e2
      | some c =>
        rw [eg] at e2
        cases e2
        obtain ⟨k2, q2⟩ := oq.see r2 eq
        unfold gIndexS at eg
        split at eg
        · rename_i b
          cases ei : Txt.index0 y b with
          | none => rw [ei] at eg; cases eg
          | some k =>
            rw [ei] at eg
            cases eg
            have := ow_str q2; subst this
            exact ⟨y, b, k, rfl, rfl, ei, opd_val h r2 (m1.trans m2) rfl (by unfold Rp; rfl)⟩
        · cases eg
  | [], e2 => cases e2
  | _ :: _ :: _, e2 => cases e2

/-! ### lists that are written -/
def SV.as : SV → D → SV
  | .par _, d => .par d
  | _, d => .loc d
def mlsAt (ρ : List SV) (i : Nat) : Option (List D) := match ρ[i]? with
  | some (.loc (.mls ds)) => some ds
  | some (.par (.mls ds)) => some ds
  | _ => none
def setMls (ρ : List SV) (i : Nat) (ds : List D) : List SV := match ρ[i]? with
  | some (.par _) => ρ.set i (.par (.mls ds))
  | _ => ρ.set i (.loc (.mls ds))
theorem mlsAt_slot {ρ : List SV} {i : Nat} {ds : List D} (h : mlsAt ρ i = some ds) : slot ρ i = some (.mls ds) ∧ ∃ s, ρ[i]? = some s ∧ s.isPar = (match s with | .par _ => true | _ => false) ∧ ∀ ds', ∃ s', setMls ρ i ds' = ρ.set i s' ∧ s'.d? = some (.mls ds') ∧ s'.isPar = s.isPar := by
  unfold mlsAt at h
  split at h
  · rename_i hi; cases h
    exact ⟨by unfold slot; rw [hi]; rfl, _, hi, rfl, fun ds' => ⟨.loc (.mls ds'), by unfold setMls; rw [hi], rfl, rfl⟩⟩
  · rename_i hi; cases h
    exact ⟨by unfold slot; rw [hi]; rfl, _, hi, rfl, fun ds' => ⟨.par (.mls ds'), by unfold setMls; rw [hi], rfl, rfl⟩⟩
  · cases h
/-- a list in a slot: what it holds, and how it is written -/
theorem list_upd {i : Nat} {ds : List D} (r : Rel K σ w) (m : Mod σ w0 σ w) (h : mlsAt w.ρ i = some ds) :
    ∃ (a : Addr) (vs : List V) (g F2 : Fp), σ[i]? = some (some (.ref a)) ∧ w.H a = some (.lst vs) ∧ OwL K w.R w.H ds vs g ∧ ¬ g a ∧ (∀ b, g b → ¬ F2 b) ∧ ¬ F2 a ∧ (∀ b, w.F b ↔ b = a ∨ g b ∨ F2 b) ∧
      ∀ (ds' : List D) (vs' : List V) (g' : Fp), OwL K w.R w.H ds' vs' g' → ¬ g' a → (∀ b, g' b → ¬ F2 b) → (∀ b, g' b → w0.H b = none ∨ w0.F b) → ∃ w', w'.ρ = setMls w.ρ i ds' ∧ w'.H = upd w.H a (.lst vs') ∧ w'.R = w.R ∧ Rel K σ w' ∧ Mod σ w0 σ w' ∧ (∀ b, w'.F b ↔ b = a ∨ g' b ∨ F2 b) := by
  obtain ⟨hs, s, hi, hp, hset⟩ := mlsAt_slot h
  obtain ⟨v, f1, F2, g1, g2, g3, g4, g5⟩ := r.ow.get hs
  unfold Ow at g2
  obtain ⟨a, vs, g, rfl, ha, hR, q, ng, hf⟩ := g2
  have naF : ¬ F2 a := g3 a ((hf a).mpr (.inl rfl))
  refine ⟨a, vs, g, F2, g1, ha, q, ng, fun b hb => g3 b ((hf b).mpr (.inr hb)), naF, fun b => ?_, fun ds' vs' g' q' ng' dj' fr' => ?_⟩
  · rw [g4, hf]
    constructor
    · rintro ((z | z) | z)
      · exact .inl z
      · exact .inr (.inl z)
      · exact .inr (.inr z)
    · rintro (z | z | z)
      · exact .inl (.inl z)
      · exact .inl (.inr z)
      · exact .inr z
  · obtain ⟨s', e1, e2, e3⟩ := hset ds'
    have aw : w0.F a ∨ w0.H a = none := m.own a ((g4 a).mpr (.inl ((hf a).mpr (.inl rfl))))
    have at' := q'.at
    have new : Ow K w.R (upd w.H a (.lst vs')) (.mls ds') (.ref a) fun b => b = a ∨ g' b := by
      unfold Ow
      exact ⟨a, vs', g', rfl, upd_same, hR, q'.keep (Same.refl _) (fun b o hb e => by rw [upd_ne fun z => by subst z; exact ng' hb]; exact e) (fun b hb => (at' b hb).2), ng', fun b => Iff.rfl⟩
    have row := g5 w.R (upd w.H a (.lst vs')) s' (.mls ds') (.ref a) (fun b => b = a ∨ g' b) e2 (Same.refl _) (fun b o hb e => by rw [upd_ne fun z => by subst z; exact naF hb]; exact e)
      (fun b hb => (r.fr b ((g4 b).mpr (.inr hb))).2) new fun b hb z => hb.elim (fun y => by subst y; exact naF z) fun y => dj' b y z
    rw [σ_set g1] at row
    refine ⟨⟨w.ρ.set i s', w.R, upd w.H a (.lst vs'), fun b => (b = a ∨ g' b) ∨ F2 b⟩, e1.symm, rfl, rfl, ⟨fun b o e => ?_, row⟩, ⟨m.rr, fun b o e n => ?_, fun b hb => ?_, m.new, fun j s0 hj hjp => ?_, ?_⟩, fun b => or_assoc⟩
    · show upd w.H a _ b = some o
      rw [upd_ne fun z => by subst z; rw [hR] at e; cases e]
      exact r.sub b o e
    · show upd w.H a _ b = some o
      rw [upd_ne fun z => by subst z; exact aw.elim n fun y => by rw [e] at y; cases y]
      exact m.keep b o e n
    · rcases hb with (z | z) | z
      · subst z; exact aw
      · exact (fr' b z).symm
      · exact m.own b ((g4 b).mpr (.inr z))
    · obtain ⟨e4, s4, h4, p4⟩ := m.fx j s0 hj hjp
      refine ⟨e4, ?_⟩
      by_cases hji : i = j
      · subst hji
        rw [hi] at h4; cases h4
        exact ⟨s', by show (w.ρ.set i s')[i]? = _; rw [List.getElem?_set_self (List.getElem?_eq_some_iff.mp hi).1], by rw [e3]; exact p4⟩
      · exact ⟨s4, by show (w.ρ.set i s')[j]? = _; rw [List.getElem?_set_ne hji]; exact h4, p4⟩
    · exact List.length_set.trans m.len
theorem list_ty {i : Nat} {ds : List D} {v : V} (r : Rel K σ w) (h : mlsAt w.ρ i = some ds) (hv : σ[i]? = some (some v)) : tyV K "list" v w.H := by
  obtain ⟨a, vs, g, F2, g1, ha, _⟩ := list_upd r (Mod.refl r) h
  rw [hv] at g1
  have e : v = .ref a := by simpa using g1
  subst e
  exact .inl ⟨rfl, vs, SqL.of ha⟩
theorem OwL.snoc : ∀ {R H : Hp} {ds : List D} {vs : List V} {f : Fp} {d : D} {v : V} {g : Fp}, OwL K R H ds vs f → Ow K R H d v g → (∀ b, f b → ¬ g b) → OwL K R H (ds ++ [d]) (vs ++ [v]) fun b => f b ∨ g b
  | R, H, [], vs, f, d, v, g, h, h', dj => by
    unfold OwL at h
    obtain ⟨rfl, n⟩ := h
    show OwL K R H [d] [v] _
    unfold OwL OwL
    exact ⟨v, [], g, fun _ => False, rfl, h', ⟨rfl, fun _ z => z⟩, fun _ _ z => z, fun b => ⟨fun z => z.elim (fun y => (n b y).elim) .inl, fun z => z.elim .inr fun y => y.elim⟩⟩
  | R, H, d0 :: ds, vs, f, d, v, g, h, h', dj => by
    unfold OwL at h
    obtain ⟨v0, vs', f1, f2, rfl, h1, h2, dj0, hf⟩ := h
    have q := OwL.snoc h2 h' fun b hb => dj b ((hf b).mpr (.inr hb))
    show OwL K R H (d0 :: (ds ++ [d])) (v0 :: (vs' ++ [v])) _
    unfold OwL
    refine ⟨v0, _, f1, fun b => f2 b ∨ g b, rfl, h1, q, fun b hb z => z.elim (dj0 b hb) (dj b ((hf b).mpr (.inl hb))), fun b => ?_⟩
    show f b ∨ g b ↔ f1 b ∨ f2 b ∨ g b
    rw [hf]
    exact or_assoc
theorem owL_app : ∀ {R H : Hp} {ds es : List D} {vs us : List V} {f : Fp}, OwL K R H ds vs f → RpL K R es us → OwL K R H (ds ++ es) (vs ++ us) f
  | R, H, [], es, vs, us, f, h, h' => by
    unfold OwL at h
    obtain ⟨rfl, n⟩ := h
    have q := h'.owL (H := H)
    have e : (fun _ => False) = f := funext fun b => propext ⟨fun z => z.elim, fun z => (n b z).elim⟩
    rw [← e]
    exact q
  | R, H, d0 :: ds, es, vs, us, f, h, h' => by
    unfold OwL at h
    obtain ⟨v0, vs', f1, f2, rfl, h1, h2, dj0, hf⟩ := h
    show OwL K R H (d0 :: (ds ++ es)) (v0 :: (vs' ++ us)) _
    unfold OwL
    exact ⟨v0, _, f1, f2, rfl, h1, owL_app h2 h', dj0, hf⟩
/-- xs.append(e), xs.extend(e): xs a name -/
def kAppend (i : Nat) (p : Opd) : M Opd := fun ρ => match mTake p ρ with
  | some (.ok d ρ') => (match mlsAt ρ' i with
    | some ds => if ds.length < sizeLine then some (.ok (.val .non) (setMls ρ' i (ds ++ [d]))) else none
    | none => none)
  | _ => none
def mAppend (i : Nat) (oa : M Opd) : M Opd := fun ρ => match mlsAt ρ i with
  | some _ => mb oa (kAppend i) ρ
  | none => none
def only (k : Opd → M Opd) : List Opd → M Opd
  | [q] => k q
  | _ => fun _ => none
theorem one_arg {oa : M Opd} {k : Opd → M Opd} {ρ : List SV} {z : Res Opd} (e : mb oa k ρ = some z) : mb (mCons oa (mr [])) (only k) ρ = some z := by
  unfold mb at e
  unfold mCons mb mr
  cases eo : oa ρ with
  | none => rw [eo] at e; cases e
  | some q =>
    rw [eo] at e
    cases q with
    | ex c ρ => exact e
    | ok q ρ => exact e
/-- the one operand of a row -/
theorem opsOk1 {ps : List Opd} {vs : List V} {f : Fp} {k : Opd → M Opd} {z : Res Opd} (o : OpsOk K σ w ps vs f) (e : only k ps w.ρ = some z) : ∃ q v g, ps = [q] ∧ vs = [v] ∧ OpOk K σ w q v g ∧ (∀ b, g b → f b) ∧ k q w.ρ = some z := by
  match ps, e with
  | [q], e =>
    unfold OpsOk OpsOk at o
    obtain ⟨u, us, g1, g2, rfl, oq, ⟨rfl, _⟩, _, hf⟩ := o
    exact ⟨q, u, g1, rfl, rfl, oq, fun b hb => (hf b).mpr (.inl hb), e⟩
  | [], e => cases e
  | _ :: _ :: _, e => cases e
theorem m_append {i : Nat} {x : Str} {e : Expr} {p1 apos cpos : Pos} {oa : M Opd} (hK : C.K = X.K) (he : PE X e (tO C oa)) (hN : X.N[i]? = some x := by rfl) (hv : Vis X.env.scope x := by first | exact Or.inl rfl | exact Or.inr (Or.inl rfl) | exact Or.inr (Or.inr rfl))
    (hd : (x == ("__debug__" : Str)) = false := by decide) (hcd : (x == ("__classdict__" : Str)) = false := by decide) (hbase : attributeBase (.Name x p1) "append" X.env (eval (.Name x p1) X.env) = eval (.Name x p1) X.env := by rfl)
    (hfew : ((backTo cpos (starEach [e] X.env)).all (fun x => !x.1) && (backToKw cpos (keywordEach [] X.env)).all (fun x => x.1.isSome) && decide ([e].length + ([] : List Keyword).length + (if ([] : List Keyword).isEmpty then 0 else 1) < 30)) = true := by rfl)
    (hline : (apos.endLine == cpos.line) = true := by rfl) (hs : starEach [e] X.env = (false, eval e X.env) :: starEach [] X.env := by rfl) (hplain : (backTo cpos (starEach [] X.env)).any (·.1) = false := by rfl) :
    PE X (.Call (.Attribute (.Name x p1) "append" apos) [e] [] cpos) (tO C (mAppend i oa)) := by
  refine PE.weak (pe_bm PySem.F.plainAttrs_list PySem.F.slot_list_append PySem.F.type_list_append mt_append (pe_var hN hv hd hcd) (a_cons he a_nil hs) hbase hfew hline hs hplain) fun σ H Q ⟨w, z, eH, hr, hm, h⟩ => ?_
  subst eH
  unfold mAppend at hm
  cases e0 : mlsAt w.ρ i with
  | none => rw [e0] at hm; cases hm
  | some ds0 =>
    rw [e0] at hm
    obtain ⟨a0, vs0, g0, F0, hσ, _⟩ := list_upd hr (Mod.refl hr) e0
    refine ⟨.ref a0, hσ, by rw [← hK]; exact list_ty hr e0 hσ, ?_⟩
    refine tOL_step hr (one_arg hm) (fun c ρ' e => by subst e; exact h) fun ps vs f w1 r1 m1 o1 fr1 e1 => ?_
    obtain ⟨q, v, g, rfl, rfl, oq, hg, e1⟩ := opsOk1 o1 e1
    unfold kAppend at e1
    cases e2 : mTake q w1.ρ with
    | none => rw [e2] at e1; cases e1
    | some y =>
      cases y with
      | ex c ρ1 => exact (mTake_noex e2).elim
      | ok d ρ1 =>
        rw [e2] at e1
        simp only at e1
        obtain ⟨w2, hρ, hH, r2, m2, o2, n2⟩ := mTake_run oq r1 e2
        subst hρ
        cases e3 : mlsAt w2.ρ i with
        | none => rw [e3] at e1; cases e1
        | some ds =>
          rw [e3] at e1
          simp only at e1
          split at e1
          · rename_i hz
            cases e1
            obtain ⟨a, us, gL, F2, hσ2, ha, qL, ngL, djL, naF, hF, back⟩ := list_upd r2 (m1.trans m2) e3
            rw [hσ] at hσ2
            have ea : a0 = a := by simpa using hσ2
            subst ea
            have gF : ∀ b, g b → ¬ w2.F b := n2
            have ng : ¬ g a0 := fun z => gF a0 z ((hF a0).mpr (.inl rfl))
            obtain ⟨w3, k1, k2, k3, k4, k5, k6⟩ := back (ds ++ [d]) (us ++ [v]) (fun b => gL b ∨ g b) (qL.snoc o2 fun b hb z => gF b z ((hF b).mpr (.inr (.inl hb)))) (fun z => z.elim ngL ng)
              (fun b hb z => hb.elim (fun y => djL b y z) fun y => gF b y ((hF b).mpr (.inr (.inr z)))) fun b hb => hb.elim (fun y => ((m1.trans m2).own b ((hF b).mpr (.inr (.inl y)))).symm) fun y => fr1 b (hg b y)
            refine ⟨a0, us, v, rfl, rfl, by rw [← hH]; exact ha, by rw [qL.len]; exact hz, ?_⟩
            rw [← hH, ← k2]
            exact opd_val h k4 k5 k1 (by unfold Rp; rfl)
          · cases e1
def kExtend (i : Nat) (p : Opd) : M Opd := fun ρ => match rs ρ p, mlsAt ρ i with
  | some d, some ds => (match lstOf d with
    | some es => if ds.length + es.length ≤ sizeLine then some (.ok (.val .non) (setMls ρ i (ds ++ es))) else none
    | none => none)
  | _, _ => none
def mExtend (i : Nat) (oa : M Opd) : M Opd := fun ρ => match mlsAt ρ i with
  | some _ => mb oa (kExtend i) ρ
  | none => none
theorem m_extend {i : Nat} {x : Str} {e : Expr} {p1 apos cpos : Pos} {oa : M Opd} (hK : C.K = X.K) (he : PE X e (tO C oa)) (hN : X.N[i]? = some x := by rfl) (hv : Vis X.env.scope x := by first | exact Or.inl rfl | exact Or.inr (Or.inl rfl) | exact Or.inr (Or.inr rfl))
    (hd : (x == ("__debug__" : Str)) = false := by decide) (hcd : (x == ("__classdict__" : Str)) = false := by decide) (hbase : attributeBase (.Name x p1) "extend" X.env (eval (.Name x p1) X.env) = eval (.Name x p1) X.env := by rfl)
    (hfew : ((backTo cpos (starEach [e] X.env)).all (fun x => !x.1) && (backToKw cpos (keywordEach [] X.env)).all (fun x => x.1.isSome) && decide ([e].length + ([] : List Keyword).length + (if ([] : List Keyword).isEmpty then 0 else 1) < 30)) = true := by rfl)
    (hline : (apos.endLine == cpos.line) = true := by rfl) (hs : starEach [e] X.env = (false, eval e X.env) :: starEach [] X.env := by rfl) (hplain : (backTo cpos (starEach [] X.env)).any (·.1) = false := by rfl) :
    PE X (.Call (.Attribute (.Name x p1) "extend" apos) [e] [] cpos) (tO C (mExtend i oa)) := by
  refine PE.weak (pe_bm PySem.F.plainAttrs_list PySem.F.slot_list_extend PySem.F.type_list_extend mt_extend (pe_var hN hv hd hcd) (a_cons he a_nil hs) hbase hfew hline hs hplain) fun σ H Q ⟨w, z, eH, hr, hm, h⟩ => ?_
  subst eH
  unfold mExtend at hm
  cases e0 : mlsAt w.ρ i with
  | none => rw [e0] at hm; cases hm
  | some ds0 =>
    rw [e0] at hm
    obtain ⟨a0, vs0, g0, F0, hσ, _⟩ := list_upd hr (Mod.refl hr) e0
    refine ⟨.ref a0, hσ, by rw [← hK]; exact list_ty hr e0 hσ, ?_⟩
    refine tOL_step hr (one_arg hm) (fun c ρ' e => by subst e; exact h) fun ps vs f w1 r1 m1 o1 fr1 e1 => ?_
    obtain ⟨q, v, g, rfl, rfl, oq, hg, e1⟩ := opsOk1 o1 e1
    unfold kExtend at e1
    split at e1
    · rename_i d ds ed e3
      split at e1
      · rename_i es el
        split at e1
        · rename_i hz
          cases e1
          obtain ⟨f', ov⟩ := oq.see r1 ed
          obtain ⟨b, us', rfl, hb, qv⟩ := ow_lst r1.sub ov el
          obtain ⟨a, us, gL, F2, hσ2, ha, qL, ngL, djL, naF, hF, back⟩ := list_upd r1 m1 e3
          rw [hσ] at hσ2
          have ea : a0 = a := by simpa using hσ2
          subst ea
          obtain ⟨w3, k1, k2, k3, k4, k5, k6⟩ := back (ds ++ es) (us ++ us') gL (owL_app qL qv) ngL djL fun b hb => (m1.own b ((hF b).mpr (.inr (.inl hb)))).symm
          refine ⟨a0, b, us, us', rfl, rfl, ha, hb, by rw [qL.len, qv.len]; exact hz, ?_⟩
          rw [← k2]
          exact opd_val h k4 k5 k1 (by unfold Rp; rfl)
        · cases e1
      · cases e1
    · cases e1
/-- xs[k] = e: xs a name -/
def kPut (i : Nat) (d : D) (q : Opd) (ρ : List SV) : Option (List SV) := match rs ρ q, mlsAt ρ i with
  | some (.int k), some ds => (ixN ds.length k).bind fun j => if (ds[j]?.map imm).getD false then some (setMls ρ i (ds.set j d)) else none
  | _, _ => none
end
end TT

set_option Elab.async false
set_option linter.all false
set_option maxRecDepth 100000
namespace TT
open PySem PySem.Spec PyProof.Rows L2
/-! ### the law's own call: the frames around it are known whole -/
section
variable {P : Program} {w : World} {K : Fg} {mg : Str → Option Value} {base : Heap}
/-- a def's run, at one place -/
theorem run_at {CX : CXT} {k : Nat} {f : Addr} {name qual : Str} {params : Arguments} {body : List Stmt} {scope : Scope} {dV kV doc pm cdv ct oc : Value} {an od : Option Addr} {osl : Array (Option Value)} {N ps : List Str}
    {A : Around} {outer : List Env} {s : Shared} {H : Hp} {args : Args} {us : List Value} {vs : List V} {Q : VK} {E : XK}
    (lk : K.lookup f = some ⟨oc, od, .func (PySem.W.fnOf name qual params body scope dV kV doc pm an cdv ct), osl⟩) (hcd : PySem.W.codeIn K cdv qual = true) (S : FnScope N ps scope) (hr : Room (k + 1) A) (e0 : Env0 P w K mg base A outer s H)
    (hb : BindsTo s (PySem.W.fnOf name qual params body scope dV kV doc pm an cdv ct) args (ps.zip us)) (r : Vals vs us) (hl : vs.length = ps.length)
    (go : ∃ t, PSs (cxOf CX P w K mg base N qual scope f cdv A outer s H E) body t ∧ t { nx := fun _ H' => Q .non H', rt := Q } (start N vs) H) :
    codeAny (model P w) A (.call (.ref f) args) (CR CX outer P w H s Q E) s := by
  have inK : K.In s.heap := e0.mod.kin.keeps fun b o e => (e0.bs b o e).1
  have free : s.heap.NoLimit := e0.mod.nolimit.keeps fun b o e => (e0.bs b o e).1
  refine codeAny_call_function hr.depth (inK _ _ lk) rfl S.co S.gen rfl (PySem.W.codeRec_of inK hcd) (hb _ _ _ _ ?_)
  refine wpAny_newFunctionEnv_cells S.kind (fun y hy => ?_) fun env he s1 x => ?_
  · obtain ⟨n, v⟩ := y
    exact (S.par n (List.of_mem_zip hy).1).imp (fun z => z) fun z => ⟨z, PySem.W.cellsFrom_some _ _ _ (.inl z)⟩
  · subst he
    obtain ⟨t, ht, hq⟩ := go
    have I := inv_start (E := E) (CX := CX) S hr.hd e0 hl r x
    refine ⟨free.keeps x.toInCall.keep, codeAny_func (wpAny_mono (ht.run [] s1 (start N vs) H _ I hq) (fun fl s' hs => ?_) fun e s' hs => hs)⟩
    match fl, hs with
    | .ret u, ⟨v, σ', H', J, rv, q⟩ => exact ⟨v, H', J.os, J.bare, J.base, J.hok, rv, q⟩
    | .next, ⟨σ', H', J, q⟩ => exact ⟨V.non, H', J.os, J.bare, J.base, J.hok, rfl, q⟩
    | .brk, ⟨_, _, _, q⟩ => exact q.elim
    | .cont, ⟨_, _, _, q⟩ => exact q.elim
end

/-- the law's call, from what its def does there -/
theorem law_at {P : Program} {w : World} {K : Fg} {mg mb : Str → Option Value} {fa a : Addr} {s₁ : Shared} {vs : List Value} {ns : List Int} (inK : K.In s₁.heap) (hns : s₁.heap.Ns mainGlobals mg) (hblt : s₁.heap.Ns builtinsNs mb) (same : ∀ x : Str, x ≠ "__name__" → mb x = bootBuiltins x)
    (free : s₁.heap.NoLimit) (nogen : s₁.gens = #[]) (hobj : s₁.heap.get? a = some { cls := .type "list", data := .seq vs.toArray }) (hi : IntsAre vs ns) (hl : ns.length ≤ sizeLine)
    (F : ∀ (H : Hp) (base : Heap), SqL K H a (ns.map V.int) → K.In base → base.Ns mainGlobals mg → Env0 P w K mg base callerA [] s₁ H → codeAny (model P w) callerA (.call (.ref fa) ⟨[.ref a], []⟩) (CR CX0 [] P w H s₁ (fun v _ => v = .bl true) E0) s₁) :
    codeAny (model P w) callerA (.call (.ref fa) ⟨[.ref a], []⟩) (fun r s' => r = .ok (.ret (.bool true)) ∧ OldK s₁.heap s'.heap ∧ s'.os = s₁.os ∧ AllBare s'.gens) s₁ := by
  have row := vals_ints hi
  have hlen := hi.length
  have go : ∀ H : Hp, Only H → SqL K H a (ns.map V.int) → HOk P w H s₁.heap → (∀ b u, H b = some u → b = a ∧ K.lookup a = none) → codeAny (model P w) callerA (.call (.ref fa) ⟨[.ref a], []⟩) (fun r s' => r = .ok (.ret (.bool true)) ∧ OldK s₁.heap s'.heap ∧ s'.os = s₁.os ∧ AllBare s'.gens) s₁ := by
    intro H only seq hok alone
    have notA : ∀ {b : Addr} {o : Obj} {es : Array DictEntry} {ep : Nat}, s₁.heap.get? b = some o → o.data = .dict es ep → H b = none := fun {b o es ep} e d => by
      cases q : H b with
      | none => rfl
      | some u =>
        obtain ⟨rfl, _⟩ := alone b u q
        rw [hobj] at e; cases e
        exact nomatch d
    have ns' : ∀ {b : Addr} {m : Str → Option Value}, s₁.heap.Ns b m → (hidT s₁.heap H).Ns b m := fun {b m} ⟨o, es, ep, e, d, r⟩ => ⟨o, es, ep, hidT_get e (notA e d), d, r⟩
    have inB : K.In (hidT s₁.heap H) := fun b o e => hidT_get (inK b o e) (by
      cases q : H b with
      | none => rfl
      | some u =>
        obtain ⟨rfl, n⟩ := alone b u q
        rw [n] at e; cases e)
    obtain ⟨mc, l1, l2⟩ := free
    have md : L2.Mod K mg (hidT s₁.heap H) := ⟨inB, ns' hns, ⟨mb, ns' hblt, same⟩, ⟨mc, ns' l1, l2⟩⟩
    have nil : ∀ b, b ∉ frs [] := fun b z => by cases z
    have e0 : Env0 P w K mg (hidT s₁.heap H) callerA [] s₁ H := ⟨rfl, md, fun b o e => of_hidT e, Nat.le_of_eq (hidT_size _ _), trivial, fun b hb => (nil b hb).elim, hok, .of_eq nogen⟩
    refine codeAny_mono (F H (hidT s₁.heap H) seq inB (ns' hns) e0) fun r s' h => ?_
    match r, h with
    | .ok (.ret u), ⟨v, H', os, bare, un, hok', rv, q⟩ =>
      have q : v = .bl true := q
      subst q
      cases (show u = Value.bool true from rv)
      refine ⟨rfl, OldK.of_keep fun b o e => ?_, os, bare⟩
      rcases only b with z | ⟨ob, xs, z⟩
      · exact un.keep b o e z (nil b) fun y => by cases y
      · obtain ⟨e1, _⟩ := hok b _ z
        obtain ⟨e2, _⟩ := hok' b _ (un.frzs b ob _ z)
        rw [e1] at e; cases e
        exact e2
  cases look : K.lookup a with
  | some o =>
    have e := inK a o look
    rw [hobj] at e
    cases e
    exact go (fun _ => none) (fun _ => .inl rfl) (.inr ⟨_, vs.toArray, _, look, rfl, rfl, rfl, by rw [List.size_toArray, hlen]; exact hl, by simpa using row⟩) (fun b u z => nomatch z) fun b u z => nomatch z
  | none =>
    have at1 : ∀ b u, (if b = a then some (HO.frz { cls := .type "list", data := .seq vs.toArray } (.lst (ns.map V.int))) else none) = some u → b = a ∧ u = .frz { cls := .type "list", data := .seq vs.toArray } (.lst (ns.map V.int)) := fun b u z => by
      by_cases hb : b = a
      · rw [if_pos hb] at z; exact ⟨hb, (Option.some.inj z).symm⟩
      · rw [if_neg hb] at z; cases z
    refine go (fun b => if b = a then some (.frz { cls := .type "list", data := .seq vs.toArray } (.lst (ns.map V.int))) else none) (fun b => ?_) (.inl (.inr ⟨_, if_pos rfl⟩)) (fun b u z => ?_) fun b u z => ⟨(at1 b u z).1, look⟩
    · by_cases hb : b = a
      · exact .inr ⟨_, _, if_pos hb⟩
      · exact .inl (if_neg hb)
    · obtain ⟨rfl, rfl⟩ := at1 b u z
      exact ⟨hobj, by rw [List.length_map]; exact hl, vs, _, row, hobj⟩
/-- the law's def by its mirror: m is the mirror of its body; it gives True -/
theorem law_def {P : Program} {w : World} {K : Fg} {mg mb : Str → Option Value} {xc : Str → Value} {fa a : Addr} {fd : FuncData} {x qual : Str} {y : Str} {st : Stmt} {N : List Str} {k : Nat} {s : SM} {ns : List Int} {s₁ : Shared} {H : Hp} {base : Heap} (F : Fun K x qual st fa fd) (S : FnScope N [y] (defScope st)) (hr : Room (k + 1) callerA)
    (hb : ∀ (s : Shared) (u : Value), BindsTo s fd ⟨[u], []⟩ [(y, u)]) (seq : SqL K H a (ns.map V.int)) (e0 : Env0 P w K mg base callerA [] s₁ H)
    (body : ∀ (cdv : Value) (s0 : Shared) (H : Hp) (E : XK), PSs (cxOf CX0 P w K mg base N qual (defScope st) fa cdv callerA [] s0 H E).nox (defBody st) (tS ⟨K, xc, W0⟩ s))
    (mirror : ∃ ρ', s (.loc (.sq (ns.map D.int)) :: List.replicate (N.length - 1) .un) = some (.rt (.bl true) ρ')) : codeAny (model P w) callerA (.call (.ref fa) ⟨[.ref a], []⟩) (CR CX0 [] P w H s₁ (fun v _ => v = .bl true) E0) s₁ := by
  obtain ⟨oc, od, kV, doc, pm, an, cdv, ct, osl, rfl, lk, hcd⟩ := F.ex
  obtain ⟨ρ', hm⟩ := mirror
  refine run_at (us := [.ref a]) (vs := [.ref a]) (N := N) (k := k) lk hcd S hr e0 (hb s₁ (.ref a)) (.cons rfl .nil) rfl ⟨_, (body cdv s₁ H E0).nox, ?_⟩
  let R : Hp := fun b => if b = a then H b else none
  have sub : Same R H := fun b o e => by
    have e : (if b = a then H b else none) = some o := e
    by_cases hb : b = a
    · rw [if_pos hb] at e; exact e
    · rw [if_neg hb] at e; cases e
  have rs : ∀ ns : List Int, RpL K R (ns.map D.int) (ns.map V.int) := fun ns => by
    induction ns with
    | nil => unfold RpL; rfl
    | cons n r ih => exact ⟨_, _, rfl, by unfold Rp; rfl, ih⟩
  have rp : Rp K R (.sq (ns.map D.int)) (.ref a) := by
    unfold Rp
    refine ⟨a, _, rfl, ?_, rs ns⟩
    rcases seq with (h | ⟨o, h⟩) | h
    · exact .inl (.inl (by show (if a = a then H a else none) = _; rw [if_pos rfl]; exact h))
    · exact .inl (.inr ⟨o, by show (if a = a then H a else none) = _; rw [if_pos rfl]; exact h⟩)
    · exact .inr h
  refine ⟨⟨.loc (.sq (ns.map D.int)) :: List.replicate (N.length - 1) .un, R, H, fun _ => False⟩, _, rfl, ⟨sub, ?_⟩, hm, ?_⟩
  · show OwS K R H (.loc (.sq (ns.map D.int)) :: List.replicate (N.length - 1) .un) (some (.ref a) :: List.replicate (N.length - 1) none) _
    unfold OwS
    refine ⟨.ref a, _, fun _ => False, fun _ => False, rfl, rp.ow, ?_, fun _ z _ => z, fun b => ⟨fun z => z.elim, fun z => z.elim (fun z => z) fun z => z⟩⟩
    have un : ∀ n, OwS K R H (List.replicate n SV.un) (List.replicate n none) fun _ => False := fun n => by
      induction n with
      | zero => unfold OwS; exact ⟨rfl, fun _ z => z⟩
      | succ n ih => rw [List.replicate_succ, List.replicate_succ]; unfold OwS; exact ⟨none, _, rfl, ih⟩
    exact un _
  · intro v f σ' w' e1 r1 m1 o1 fr1
    exact ow_bl o1.1
/-- the whole: the claim from the law's def -/
theorem walk_law {l : PySem.W.OpenLaw} {n : Nat} {q : Program} {loose : List Str} {XP : (Str → Option Value) → Heap → Prop} {YP : World → Heap → Prop} {d : DefRec} (hn : l.most = some n) (hn2 : n ≤ sizeLine) (hdf : d.params.defaults = [])
    (F : ∀ (w : World) (mg : Str → Option Value) (fa : Addr) (h : Heap), YP w h → h.Ns mainGlobals mg → mg d.name = some (.ref fa) → ∃ K : Fg, K.In h ∧
      ∀ (s₁ : Shared) (a : Addr) (ns : List Int) (H : Hp) (base : Heap), ns.length ≤ n → (∀ z ∈ ns, Builtin.Int.intBits z ≤ 1048576) → SqL K H a (ns.map V.int) → K.In base → base.Ns mainGlobals mg → Env0 l.prog w K mg base callerA [] s₁ H →
        codeAny (model l.prog w) callerA (.call (.ref fa) ⟨[.ref a], []⟩) (CR CX0 [] l.prog w H s₁ (fun v _ => v = .bl true) E0) s₁) : PySem.W.WalkO q loose XP YP l.row.toRowW d [] (fun f vs => PySem.call f vs) := by
  refine Att.attach_callB hn hdf fun w s₀ s₁ mg mb fa o pm cd doc a vs ns G Y ho hd hcd hmg hobj hints hlen hbits hg => ?_
  obtain ⟨K, inK, go⟩ := F w mg fa _ Y G.T.g hmg
  exact law_at inK G.T.g G.T.b G.T.builtins G.T.nolimit hg hobj hints (Nat.le_trans hlen hn2) fun H base hS hK hns e0 => go s₁ a ns H base hlen hbits hS hK hns e0
/-! ### repr -/
def gRepr : List D → Option D
  | [d] => (pdt d).bind fun p => if p.showable && !p.hasDict && decide (p.depth ≤ 60) && decide (p.shown.length ≤ sizeLine) then some (.str p.shown) else none
  | _ => none
section
variable {X : Cx} {K : Fg}
def rRepr (K : Fg) : List V → Hp → VK → Prop := fun xs H Q => ∃ x p, xs = [x] ∧ Dp K H x p ∧ p.showable = true ∧ p.hasDict = false ∧ p.depth ≤ 60 ∧ p.shown.length ≤ sizeLine ∧ Q (.str p.shown) H
theorem cr_repr (hg : X.A.guards = some []) (hu : X.A.units + 64 < cLine) : CallR X (.builtin "repr") (rRepr X.K) := by
  intro pins s σ H xs us Q I r h
  obtain ⟨x, p, rfl, hd, h1, h2, h3, h4, q⟩ := h
  obtain ⟨u, rfl, rx⟩ := vals1 r
  obtain ⟨as, rd⟩ := Dp.reads I p x u hd rx
  cases hd with
  | non => cases rx; exact PySem.P.repr_of_none ⟨.str _, H, I.tok _, ⟨_, rfl⟩, by simpa [PyData.shown] using q⟩
  | bl b => cases rx; exact PySem.P.repr_of_bool ⟨.str _, H, I.tok _, ⟨_, rfl⟩, by simpa [PyData.shown] using q⟩
  | int i => obtain ⟨t, rfl⟩ := rx; exact PySem.P.repr_of_int (by simpa [PyData.showable] using h1) ⟨.str _, H, I.tok _, ⟨_, rfl⟩, by simpa [PyData.shown] using q⟩
  | str x => obtain ⟨t, rfl⟩ := rx; exact PySem.P.repr_of_str ⟨.str _, H, I.tok _, ⟨_, rfl⟩, by simpa [PyData.shown] using q⟩ (by simpa [PyData.shown] using h4)
  | lst hs ha =>
    cases (show u = Value.ref _ from rx)
    exact repr_of_reads' rd h1 (PyData.noDict_hsm h2) hg (by omega) (fun _ _ e => e) (fun h' u tk hk => ⟨.str _, H, I.kept (t' := tk) hk, ⟨_, rfl⟩, q⟩) h4
  | tup hs ha =>
    cases (show u = Value.ref _ from rx)
    exact repr_of_reads' rd h1 (PyData.noDict_hsm h2) hg (by omega) (fun _ _ e => e) (fun h' u tk hk => ⟨.str _, H, I.kept (t' := tk) hk, ⟨_, rfl⟩, q⟩) h4
theorem s_repr : OpNS K (rRepr K) gRepr := by
  intro vs ds c w Q s hv eg k
  unfold gRepr at eg
  split at eg
  · rename_i d
    obtain ⟨v, f, rfl, o⟩ := vwL1 hv
    cases ep : pdt d with
    | none => rw [ep] at eg; cases eg
    | some p =>
      rw [ep] at eg
      simp only [Option.bind_some] at eg
      split at eg
      · rename_i hc
        cases eg
        simp only [Bool.and_eq_true, Bool.not_eq_true', decide_eq_true_eq] at hc
        exact ⟨v, p, rfl, dp_of s o ep, hc.1.1.1, hc.1.1.2, hc.1.2, hc.2, fin0 s k (by unfold Rp; rfl)⟩
      · cases eg
  · cases eg
end
end TT

set_option Elab.async false
set_option linter.all false
set_option maxRecDepth 100000
namespace TT
open PySem PySem.Spec PyProof.Rows L2
section
variable {X : Cx} {C : Cn} {K : Fg} {σ : St} {w w0 w1 w2 : Wd}
/-! ### xs[k] = e, xs a name -/
theorem OwL.set : ∀ {R H : Hp} {ds : List D} {vs : List V} {f g : Fp} {d : D} {v : V} (j : Nat), OwL K R H ds vs f → Ow K R H d v g → (∀ b, g b → ¬ f b) → ∃ h : Fp, OwL K R H (ds.set j d) (vs.set j v) h ∧ ∀ b, h b → f b ∨ g b
  | R, H, [], vs, f, g, d, v, j, h, h', dj => by
    have h0 := h
    unfold OwL at h0
    obtain ⟨rfl, _⟩ := h0
    exact ⟨f, h, fun b hb => .inl hb⟩
  | R, H, d0 :: ds, vs, f, g, d, v, 0, h, h', dj => by
    unfold OwL at h
    obtain ⟨v0, vs', f1, f2, rfl, h1, h2, dj0, hf⟩ := h
    refine ⟨fun b => g b ∨ f2 b, ?_, fun b hb => hb.elim .inr fun z => .inl ((hf b).mpr (.inr z))⟩
    show OwL K R H (d :: ds) (v :: vs') _
    unfold OwL
    exact ⟨v, vs', g, f2, rfl, h', h2, fun b hb z => dj b hb ((hf b).mpr (.inr z)), fun b => Iff.rfl⟩
  | R, H, d0 :: ds, vs, f, g, d, v, j + 1, h, h', dj => by
    unfold OwL at h
    obtain ⟨v0, vs', f1, f2, rfl, h1, h2, dj0, hf⟩ := h
    obtain ⟨h3, q, n⟩ := OwL.set j h2 h' fun b hb z => dj b hb ((hf b).mpr (.inr z))
    refine ⟨fun b => f1 b ∨ h3 b, ?_, fun b hb => hb.elim (fun z => .inl ((hf b).mpr (.inl z))) fun z => (n b z).imp (fun y => (hf b).mpr (.inr y)) fun y => y⟩
    show OwL K R H (d0 :: ds.set j d) (v0 :: vs'.set j v) _
    unfold OwL
    exact ⟨v0, _, f1, h3, rfl, h1, q, fun b hb z => (n b z).elim (dj0 b hb) fun y => dj b y ((hf b).mpr (.inl hb)), fun b => Iff.rfl⟩
def kPut2 (i : Nat) (p q : Opd) : M Opd := fun ρ => match rs ρ q, mTake p ρ with
  | some (.int k), some (.ok d ρ') => (match mlsAt ρ' i with
    | some ds => (ixN ds.length k).bind fun j => some (.ok (.val .non) (setMls ρ' i (ds.set j d)))
    | none => none)
  | _, _ => none
def mPut (i : Nat) (oa ok : M Opd) : M Opd := mb oa fun p ρ => match mlsAt ρ i with
  | some _ => mb ok (fun q => kPut2 i p q) ρ
  | none => none
theorem s_put {i : Nat} {x : Str} {e k : Expr} {p1 spos pos : Pos} {oa ok : M Opd} (he : PE X e (tO C oa)) (hk : PE X k (tO C ok)) (hN : X.N[i]? = some x := by rfl) (hv : Vis X.env.scope x := by first | exact Or.inl rfl | exact Or.inr (Or.inl rfl) | exact Or.inr (Or.inr rfl))
    (hd : (x == ("__debug__" : Str)) = false := by decide) (hcd : (x == ("__classdict__" : Str)) = false := by decide)
    (ha : ∀ v, assign (.Subscript (.Name x p1) k spos) X.env v = (do
      let ov ← holding [v] (eval (.Name x p1) X.env)
      let iv ← holding [v, ov] (eval k X.env)
      standAt spos
      holding [v, ov, iv] (setItem ov iv v)
      release [v, ov, iv] []) := by intro _; rfl)
    (hs : swapsWithSole [.Subscript (.Name x p1) k spos] e pos.line X.env = pure false := by rfl) (hw : swappedStores [.Subscript (.Name x p1) k spos] e X.env = pure none := by rfl)
    (h1 : (assignEach [.Subscript (.Name x p1) k spos] X.env).map (·.2) = [assign (.Subscript (.Name x p1) k spos) X.env] := by rfl) :
    PS X (.Assign [.Subscript (.Name x p1) k spos] e pos) (tS C (sExpr (mPut i oa ok))) := by
  refine PS.weak (ps_asg he (pg_sub (pe_var hN hv hd hcd) hk set_list ha) hs hw h1) fun E σ H ⟨w, o, eH, hr, hm, h⟩ => ?_
  subst eH
  unfold sExpr sOf mPut mb at hm
  cases e0 : oa w.ρ with
  | none => rw [e0] at hm; cases hm
  | some z0 =>
    refine ⟨w, z0, rfl, hr, e0, ?_⟩
    rw [e0] at hm
    cases z0 with
    | ex c ρ1 => cases hm; exact fun cls dd w' e r m x => h cls dd σ w' e r m x
    | ok p ρ1 =>
      intro v f w1 hρ1 r1 m1 o1 fr1
      subst hρ1
      simp only at hm
      cases e1 : mlsAt w1.ρ i with
      | none => rw [e1] at hm; cases hm
      | some ds0 =>
        rw [e1] at hm
        simp only at hm
        obtain ⟨a0, vs0, g0, F0, hσ, _⟩ := list_upd r1 (Mod.refl r1) e1
        refine ⟨.ref a0, hσ, ?_⟩
        cases e2 : ok w1.ρ with
        | none => rw [e2] at hm; cases hm
        | some z2 =>
          refine ⟨w1, z2, rfl, r1, e2, ?_⟩
          rw [e2] at hm
          cases z2 with
          | ex c ρ2 => cases hm; exact fun cls dd w' e r m x => h cls dd σ w' e r (m1.trans m) x
          | ok q ρ2 =>
            intro u f2 w2 hρ2 r2 m2 o2 fr2
            subst hρ2
            simp only at hm
            have op := o1.step m2
            unfold kPut2 at hm
            cases e3 : rs w2.ρ q with
            | none => simp only [e3] at hm; cases hm
            | some dq =>
              cases e4 : mTake p w2.ρ with
              | none => simp only [e3, e4] at hm; cases hm
              | some y =>
                cases y with
                | ex c ρ4 => exact (mTake_noex e4).elim
                | ok d ρ4 =>
                  cases dq with
                  | int kk =>
                    simp only [e3, e4] at hm
                    obtain ⟨w3, hρ3, hH3, r3, m3, o3, n3⟩ := mTake_run op r2 e4
                    subst hρ3
                    cases e5 : mlsAt w3.ρ i with
                    | none => rw [e5] at hm; cases hm
                    | some ds =>
                      rw [e5] at hm
                      simp only at hm
                      cases e6 : ixN ds.length kk with
                      | none => rw [e6] at hm; cases hm
                      | some j =>
                        rw [e6] at hm
                        simp only [Option.bind_some] at hm
                        cases hm
                        obtain ⟨_, ovq⟩ := o2.see r2 e3
                        have evq := ow_int ovq
                        subst evq
                        obtain ⟨a, us, gL, F2, hσ2, haL, qL, ngL, djL, naF, hF, back⟩ := list_upd r3 ((m1.trans m2).trans m3) e5
                        rw [hσ] at hσ2
                        have ea : a0 = a := by simpa using hσ2
                        subst ea
                        have gF : ∀ b, f b → ¬ w3.F b := n3
                        obtain ⟨g', q', n'⟩ := OwL.set j qL o3 fun b hb z => gF b hb ((hF b).mpr (.inr (.inl z)))
                        obtain ⟨w4, k1, k2, k3, k4, k5, k6⟩ := back (ds.set j d) (us.set j v) g' q' (fun z => (n' _ z).elim ngL fun y => gF _ y ((hF _).mpr (.inl rfl)))
                          (fun b hb z => (n' b hb).elim (fun y => djL b y z) fun y => gF b y ((hF b).mpr (.inr (.inr z)))) fun b hb => (n' b hb).elim (fun y => (((m1.trans m2).trans m3).own b ((hF b).mpr (.inr (.inl y)))).symm) fun y => fr1 b y
                        refine ⟨a0, us, kk, j, rfl, rfl, by rw [← hH3]; exact haL, by rw [qL.len]; exact e6, ?_⟩
                        rw [← hH3, ← k2]
                        exact h σ w4 k1 k4 k5
                  | _ => simp only [e3, e4] at hm; cases hm
/-! ### list(text) -/
theorem vals_signs : ∀ (cs : List Nat) (as : List Value), as.length = cs.length → (∀ (j : Nat) (v : Value), as[j]? = some v → ∃ c u, cs[j]? = some c ∧ v = .str ⟨#[c]⟩ u) → Vals (cs.map fun c => V.str ⟨#[c]⟩) as
  | [], [], _, _ => .nil
  | [], a :: as, h, _ => by cases h
  | c :: cs, [], h, _ => by cases h
  | c :: cs, a :: as, h, k => by
    obtain ⟨c', u, e1, e2⟩ := k 0 a rfl
    have e1 : c = c' := by simpa using e1
    subst e1; subst e2
    exact .cons ⟨u, rfl⟩ (vals_signs cs as (by simpa using h) fun j v e => by simpa using k (j + 1) v (by simpa using e))
theorem call_list_signs (hc : X.calm = true) : CallR X (.type "list") (fun xs H Q => ∃ y, xs = [.str y] ∧ y.length ≤ sizeLine ∧ ∀ l, H l = none → Q (.ref l) (upd H l (.lst (y.cps.toList.map fun c => V.str ⟨#[c]⟩)))) := by
  intro pins s σ H xs us Q I r h
  obtain ⟨y, rfl, hz, q⟩ := h
  obtain ⟨u, rfl, rx⟩ := vals1 r
  obtain ⟨t, rfl⟩ := rx
  refine call_list_str (I.ok.hd hc) y t (fun h' tk acc' c' hk hS' hacc => ?_) hz
  have hv : Vals (y.cps.toList.map fun c => V.str ⟨#[c]⟩) acc'.toList := vals_signs _ _ (by simpa using hacc.1) fun j v e => by
    obtain ⟨c, u, e1, e2⟩ := hacc.2 j v (by simpa using e)
    exact ⟨c, u, by simpa using e1, e2⟩
  exact ⟨.ref s.heap.objs.size, _, I.laid (t' := tk) hk (Nat.le_refl _) (show ObjOk X.prog X.w _ h' _ (.lst (y.cps.toList.map fun c => V.str ⟨#[c]⟩)) from ⟨by simpa [Str.length] using hz, acc'.toList, c', hv, by simpa using hS'⟩), rfl, q _ (I.hok.fresh (Nat.le_refl _))⟩
def gListA : List D → Option D
  | [.str y] => if y.length ≤ sizeLine then some (.mls (chars y)) else none
  | ds => gList ds
def rListA (K : Fg) : List V → Hp → VK → Prop := fun xs H Q => (∃ y, xs = [.str y] ∧ y.length ≤ sizeLine ∧ ∀ l, H l = none → Q (.ref l) (upd H l (.lst (y.cps.toList.map fun c => V.str ⟨#[c]⟩)))) ∨
  ∃ p ys, xs = [.ref p] ∧ (SqL K H p ys ∨ SqT K H p ys) ∧ ∀ l, H l = none → Q (.ref l) (upd H l (.lst ys))
theorem cr_listA (hc : X.calm = true := by rfl) : CallR X (.type "list") (rListA X.K) := (call_list_signs hc).or call_list_of
theorem rp_chars {R : Hp} (y : Str) : RpL K R (chars y) (y.cps.toList.map fun c => V.str ⟨#[c]⟩) := by
  unfold chars
  induction y.cps.toList with
  | nil => unfold RpL; rfl
  | cons c cs ih => exact ⟨_, _, rfl, by unfold Rp; rfl, ih⟩
theorem s_listA : OpNS K (rListA K) gListA := by
  intro vs ds c w Q s hv eg k
  unfold gListA at eg
  split at eg
  · rename_i y
    split at eg
    · rename_i hz
      cases eg
      obtain ⟨v, f, rfl, o⟩ := vwL1 hv
      have := ow_str o; subst this
      exact .inl ⟨y, rfl, hz, fun l hl => new_lst s k (rp_chars y) hl⟩
    · cases eg
  · exact .inr (s_list vs _ c w Q s hv eg k)
/-! ### a, b = e1, e2 (each stored by itself) -/
def setSs : List Nat → List D → List SV → Option (List SV)
  | [], [], ρ => some ρ
  | i :: is, d :: ds, ρ => (setSlot i d ρ).bind (setSs is ds)
  | _, _, _ => none
def setσ : List Nat → List V → St → St
  | i :: is, v :: vs, σ => setσ is vs (σ.set i (some v))
  | _, _, σ => σ
theorem setSlot_run2 {σ0 : St} {i : Nat} {d : D} {v : V} {f : Fp} {ρ' : List SV} (r : Rel K σ w1) (m : Mod σ0 w σ w1) (o : Ow K w1.R w1.H d v f) (n : ∀ a, f a → ¬ w1.F a) (fr : Fresh w f) (e : setSlot i d w1.ρ = some ρ') :
    ∃ w', w'.ρ = ρ' ∧ w'.H = w1.H ∧ w'.R = w1.R ∧ Rel K (σ.set i (some v)) w' ∧ Mod σ0 w (σ.set i (some v)) w' ∧ (∀ a, w'.F a → f a ∨ w1.F a) := by
  have main : ∀ s, w1.ρ[i]? = some s → s.isPar = false → ρ' = w1.ρ.set i (.loc d) → ∃ w', w'.ρ = ρ' ∧ w'.H = w1.H ∧ w'.R = w1.R ∧ Rel K (σ.set i (some v)) w' ∧ Mod σ0 w (σ.set i (some v)) w' ∧ (∀ a, w'.F a → f a ∨ w1.F a) := fun s hi hp e => by
    have hlt := (List.getElem?_eq_some_iff.mp hi).1
    obtain ⟨f2, c1, c2⟩ := r.ow.put hlt
    have c3 := c2 w1.R w1.H (.loc d) d v f rfl (Same.refl _) (fun a ob _ ea => ea) (fun a ha => (r.fr a (c1 a ha)).2) o fun a ha z => n a ha (c1 a z)
    refine ⟨⟨w1.ρ.set i (.loc d), w1.R, w1.H, fun b => f b ∨ f2 b⟩, e.symm, rfl, rfl, ⟨r.sub, c3⟩, ⟨m.rr, m.keep, fun a ha => ?_, m.new, fun j s' hj hp' => ?_, List.length_set.trans m.len⟩, fun a ha => ha.imp (fun z => z) (c1 a)⟩
    · rcases ha with z | z
      · exact (fr a z).symm
      · exact m.own a (c1 a z)
    · obtain ⟨e2, s2, h2, p2⟩ := m.fx j s' hj hp'
      have hji : i ≠ j := fun z => by
        subst z
        rw [hi] at h2; cases h2
        rw [hp] at p2; cases p2
      exact ⟨by rw [List.getElem?_set_ne hji]; exact e2, s2, by rw [List.getElem?_set_ne hji]; exact h2, p2⟩
  unfold setSlot at e
  split at e
  · rename_i hi; cases e; exact main _ hi rfl rfl
  · rename_i d0 hi; cases e; exact main _ hi rfl rfl
  · rename_i hi; cases e; exact main _ hi rfl rfl
  · cases e
theorem setSs_run {σ0 : St} : ∀ {is : List Nat} {ds : List D} {vs : List V} {f : Fp} {σ : St} {w1 : Wd} {ρ' : List SV}, Rel K σ w1 → Mod σ0 w σ w1 → OwL K w1.R w1.H ds vs f → (∀ a, f a → ¬ w1.F a) → Fresh w f → setSs is ds w1.ρ = some ρ' →
    ∃ w', w'.ρ = ρ' ∧ w'.H = w1.H ∧ Rel K (setσ is vs σ) w' ∧ Mod σ0 w (setσ is vs σ) w'
  | [], [], vs, f, σ, w1, ρ', r, m, o, n, fr, e => by
    cases e
    unfold OwL at o
    exact ⟨w1, rfl, rfl, by rw [o.1]; exact r, by rw [o.1]; exact m⟩
  | [], d :: ds, _, _, _, _, _, _, _, _, _, _, e => by cases e
  | i :: is, [], _, _, _, _, _, _, _, _, _, _, e => by cases e
  | i :: is, d :: ds, vs, f, σ, w1, ρ', r, m, o, n, fr, e => by
    unfold OwL at o
    obtain ⟨v, vs', f1, f2, rfl, h1, h2, dj, hf⟩ := o
    unfold setSs at e
    cases e1 : setSlot i d w1.ρ with
    | none => rw [e1] at e; cases e
    | some ρ1 =>
      rw [e1] at e
      obtain ⟨w2, hρ, hH, hR, r2, m2, hF⟩ := setSlot_run2 r m h1 (fun a ha => n a ((hf a).mpr (.inl ha))) (fun a ha => fr a ((hf a).mpr (.inl ha))) e1
      subst hρ
      rw [← hH, ← hR] at h2
      obtain ⟨w3, a1, a2, a3, a4⟩ := setSs_run (is := is) r2 m2 h2 (fun a ha z => (hF a z).elim (fun y => dj a y ha) (n a ((hf a).mpr (.inr ha)))) (fun a ha => fr a ((hf a).mpr (.inr ha))) e
      exact ⟨w3, a1, a2.trans hH, a3, a4⟩
def sPar (is : List Nat) (os : M (List Opd)) : SM := fun ρ => match os ρ with
  | some (.ok ps ρ1) => (match mTakeL ps ρ1 with
    | some (.ok ds ρ2) => (setSs is ds ρ2).map .nx
    | _ => none)
  | some (.ex c ρ1) => some (.ex c ρ1)
  | none => none
theorem sPar_run {is : List Nat} {os : M (List Opd)} {E : Ends} {H : Hp} (h : tS C (sPar is os) E σ H) : tOL C os σ H fun vs H1 => vs.length = is.length ∧ E.nx (setσ is vs σ) H1 := by
  obtain ⟨w, o, eH, hr, hm, h⟩ := h
  subst eH
  unfold sPar at hm
  cases e : os w.ρ with
  | none => rw [e] at hm; cases hm
  | some q =>
    refine ⟨w, q, rfl, hr, e, ?_⟩
    rw [e] at hm
    cases q with
    | ex c ρ1 => cases hm; exact fun cls dd w' e r m x => h cls dd σ w' e r m x
    | ok ps ρ1 =>
      intro vs f w1 e1 r1 m1 o1 f1
      subst e1
      simp only at hm
      cases e2 : mTakeL ps w1.ρ with
      | none => rw [e2] at hm; cases hm
      | some q2 =>
        cases q2 with
        | ex c ρ2 => exact (mTakeL_noex e2).elim
        | ok ds ρ2 =>
          rw [e2] at hm
          simp only at hm
          cases e3 : setSs is ds ρ2 with
          | none => rw [e3] at hm; cases hm
          | some ρ3 =>
            rw [e3] at hm
            cases hm
            obtain ⟨w2, hρ, hH, r2, m2, o2, n2⟩ := mTakeL_run o1 r1 e2
            subst hρ
            obtain ⟨w3, a1, a2, a3, a4⟩ := setSs_run r2 (m1.trans m2) o2 n2 f1 e3
            refine ⟨?_, ?_⟩
            · rw [o2.len]
              clear e2 o1 o2 h
              have : ∀ (is : List Nat) (ds : List D) (ρ ρ' : List SV), setSs is ds ρ = some ρ' → ds.length = is.length := by
                intro is
                induction is with
                | nil => intro ds ρ ρ' e; cases ds with | nil => rfl | cons d ds => cases e
                | cons i is ih =>
                  intro ds ρ ρ' e
                  cases ds with
                  | nil => cases e
                  | cons d ds =>
                    unfold setSs at e
                    cases e1 : setSlot i d ρ with
                    | none => rw [e1] at e; cases e
                    | some ρ1 => rw [e1] at e; rw [List.length_cons, List.length_cons, ih ds ρ1 ρ' e]
              exact this _ _ _ _ e3
            · rw [← hH, ← a2]
              exact h _ w3 a1 a3 a4
theorem s_par2 {i j : Nat} {x y : Str} {a b : Expr} {oa ob : M Opd} {px py pt pos : Pos} {kt k2 pt2} (ha : PE X a (tO C oa)) (hb : PE X b (tO C ob)) (hN : X.N.Nodup) (hij : i ≠ j) 
    (hw : swappedStores [.Tuple [.Name x px, .Name y py] kt pt] (.Tuple [a, b] k2 pt2) X.env = pure (some [x, y]))
    (hi : X.N[i]? = some x := by rfl) (hj : X.N[j]? = some y := by rfl)
    (hx : X.env.scope.names.lookup x = some .local := by rfl) (hy : X.env.scope.names.lookup y = some .local := by rfl) (hc : X.calm = true := by rfl)
    (hst : starEach [a, b] X.env = (false, eval a X.env) :: starEach [b] X.env := by rfl) (hst2 : starEach [b] X.env = (false, eval b X.env) :: starEach [] X.env := by rfl)
    (hs : swapsWithSole [.Tuple [.Name x px, .Name y py] kt pt] (.Tuple [a, b] k2 pt2) pos.line X.env = pure false := by rfl) :
    PS X (.Assign [.Tuple [.Name x px, .Name y py] kt pt] (.Tuple [a, b] k2 pt2) pos) (tS C (sPar [i, j] (mCons oa (mCons ob (mr []))))) := by
  refine PS.weak (ps_par hc hN hi hj hij hx hy (a_cons ha (a_cons hb a_nil hst2) hst) hw hs) fun E σ H h => ?_
  obtain ⟨w, z, e1, e2, e3, h2⟩ := sPar_run h
  refine ⟨w, z, e1, e2, e3, ?_⟩
  cases z with
  | ex c ρ => exact h2
  | ok ps ρ =>
    intro vs f w' a1 a2 a3 a4 a5
    obtain ⟨hl, hq⟩ := h2 vs f w' a1 a2 a3 a4 a5
    match vs, hl with
    | [v, u], _ => exact ⟨v, u, rfl, hq⟩
theorem s_par3 {i j l : Nat} {x y z : Str} {a b c : Expr} {oa ob oc : M Opd} {px py pz pt pos : Pos} {kt k2 pt2} (ha : PE X a (tO C oa)) (hb : PE X b (tO C ob)) (hc3 : PE X c (tO C oc)) (hN : X.N.Nodup) (hij : i ≠ j) (hil : i ≠ l) (hjl : j ≠ l)
    (hw : swappedStores [.Tuple [.Name x px, .Name y py, .Name z pz] kt pt] (.Tuple [a, b, c] k2 pt2) X.env = pure (some [x, y, z]))
    (hi : X.N[i]? = some x := by rfl) (hj : X.N[j]? = some y := by rfl) (hl : X.N[l]? = some z := by rfl)
    (hx : X.env.scope.names.lookup x = some .local := by rfl) (hy : X.env.scope.names.lookup y = some .local := by rfl) (hz : X.env.scope.names.lookup z = some .local := by rfl) (hc : X.calm = true := by rfl)
    (hst : starEach [a, b, c] X.env = (false, eval a X.env) :: starEach [b, c] X.env := by rfl) (hst2 : starEach [b, c] X.env = (false, eval b X.env) :: starEach [c] X.env := by rfl) (hst3 : starEach [c] X.env = (false, eval c X.env) :: starEach [] X.env := by rfl)
    (hs : swapsWithSole [.Tuple [.Name x px, .Name y py, .Name z pz] kt pt] (.Tuple [a, b, c] k2 pt2) pos.line X.env = pure false := by rfl) :
    PS X (.Assign [.Tuple [.Name x px, .Name y py, .Name z pz] kt pt] (.Tuple [a, b, c] k2 pt2) pos) (tS C (sPar [i, j, l] (mCons oa (mCons ob (mCons oc (mr [])))))) := by
  refine PS.weak (ps_par3 hc hN hi hj hl hij hil hjl hx hy hz (a_cons ha (a_cons hb (a_cons hc3 a_nil hst3) hst2) hst) hw hs) fun E σ H h => ?_
  obtain ⟨w, z, e1, e2, e3, h2⟩ := sPar_run h
  refine ⟨w, z, e1, e2, e3, ?_⟩
  cases z with
  | ex c ρ => exact h2
  | ok ps ρ =>
    intro vs f w' a1 a2 a3 a4 a5
    obtain ⟨hl, hq⟩ := h2 vs f w' a1 a2 a3 a4 a5
    match vs, hl with
    | [v, u, t], _ => exact ⟨v, u, t, rfl, hq⟩
end
end TT

set_option Elab.async false
set_option linter.all false
set_option maxRecDepth 100000
namespace TT
open PySem PySem.Spec PyProof.Rows L2
/-! ### defs by names -/
def xc0 : Str → Value := fun _ => .none
/-- a def of the top, as the head's facts tell it -/
def DefF (K : Fg) (mg : Str → Option Value) (x : Str) (st : Stmt) (ps : List Str) : Prop := ∃ f fd, Fun K x x st f fd ∧ PySem.W.keepIn K (.ref f) = true ∧ Binds K fd ps [] ∧ mg x = some (.ref f)
/-- a def that keeps its mirror's promise -/
def Cal (P : Program) (w : World) (K : Fg) (mg : Str → Option Value) (base : Heap) (xc : Str → Value) (k : Nat) (ps : List Str) (md : List Bool) (m : M Opd) (x : Str) : Prop :=
  ∃ f fd, FnOk P w K mg base CX0 k f fd ps (spM K xc md m) ∧ PySem.W.keepIn K (.ref f) = true ∧ Binds K fd ps [] ∧ mg x = some (.ref f)
theorem m_callC {X : Cx} {xc : Str → Value} {W : WX} {md : List Bool} {m : M Opd} {k : Nat} {ps : List Str} {x : Str} {e : Expr} {es : List Expr} {p pos : Pos} {os : M (List Opd)} (F : Cal X.prog X.w X.K X.mg X.base xc k ps md m x) (hr : Room k X.A)
    (ha : PA X (e :: es) (tOL ⟨X.K, xc, W⟩ os)) (hg : Gl X x := by rfl) (hdb : (x == ("__debug__" : Str)) = false := by decide) (he : starEach (e :: es) X.env = (false, eval e X.env) :: starEach es X.env := by rfl)
    (hpl : (backTo pos (starEach es X.env)).any (·.1) = false := by rfl) : PE X (.Call (.Name x p) (e :: es) [] pos) (tO ⟨X.K, xc, W⟩ (mCall false md m os)) := by
  obtain ⟨f, fd, h1, h2, h3, h4⟩ := F
  exact m_call h1 hr h4 h2 h3 ha hg hdb he hpl
theorem cal_ok {P : Program} {w : World} {K : Fg} {mg : Str → Option Value} {base : Heap} {xc : Str → Value} {x : Str} {st : Stmt} {N ps : List Str} {k : Nat} {s : SM} (F : DefF K mg x st ps) (S : FnScope N ps (defScope st)) (md : List Bool) (hmd : md.length = ps.length)
    (hbody : ∀ (f : Addr) (cdv : Value) (A : Around) (outer : List Env) (s0 : Shared) (H : Hp) (E : XK), Room k (A.deeper (envOfC x (defScope st) s0.heap.objs.size f cdv)) →
      PSs (cxOf CX0 P w K mg base N x (defScope st) f cdv A outer s0 H E).nox (defBody st) (tS ⟨K, xc, W0⟩ s)) : Cal P w K mg base xc (k + 1) ps md (mDef false md N.length s) x := by
  obtain ⟨f, fd, h1, h2, h3, h4⟩ := F
  exact ⟨f, fd, def_ok h1 S md hmd (hbody f), h2, h3, h4⟩
theorem blk_of {N : List Str} {sc scope : Scope} {own : List (Str × Nat)} (h1 : scope.kind = .function) (h2 : ∀ y ∈ scope.names, scope.names.lookup y.1 = some y.2) (h3 : ∀ p ∈ own, N[p.2]? = some p.1) (h4 : ∀ y ∈ scope.names, y.2 = .free → sc.names.lookup y.1 = some .cell ∨ sc.names.lookup y.1 = some .free)
    (h5 : ∀ y ∈ scope.names, y.2 = .local ∨ y.2 = .cell → y.1 ∈ own.map (·.1) ∨ y.1 ∉ N) : BlkOk N sc scope own := ⟨h1, h2, h3, h4, h5⟩
/-! ### constants of the top -/
theorem m_gstr {X : Cx} {C : Cn} {x y : Str} {pos : Pos} (h : ∃ t, X.mg x = some (.str y t)) (hg : Gl X x := by rfl) (hdb : (x == ("__debug__" : Str)) = false := by decide) : PE X (.Name x pos) (tO C (mr (.val (.str y)))) := by
  obtain ⟨t, e⟩ := h
  exact m_glob (v := .str y) (fun R => by unfold Rp; rfl) hg e ⟨t, rfl⟩ hdb
theorem m_gint {X : Cx} {C : Cn} {x : Str} {i : Int} {pos : Pos} (h : ∃ t, X.mg x = some (.int i t)) (hg : Gl X x := by rfl) (hdb : (x == ("__debug__" : Str)) = false := by decide) : PE X (.Name x pos) (tO C (mr (.val (.int i)))) := by
  obtain ⟨t, e⟩ := h
  exact m_glob (v := .int i) (fun R => by unfold Rp; rfl) hg e ⟨t, rfl⟩ hdb
def dvD : He.Dv → D
  | .non => .non
  | .bl b => .bl b
  | .int i => .int i
  | .str x => .str x
  | _ => .non
def dvOk : He.Dv → Bool
  | .non => true
  | .bl _ => true
  | .int _ => true
  | .str _ => true
  | _ => false
theorem dv_rp {K : Fg} {R : Hp} : ∀ {ds : List He.Dv}, ds.all dvOk = true → RpL K R (ds.map dvD) (ds.map (He.Dv.v K))
  | [], _ => by unfold RpL; rfl
  | d :: ds, h => by
    rw [List.all_cons, Bool.and_eq_true] at h
    refine ⟨_, _, rfl, ?_, dv_rp h.2⟩
    cases d <;> first | (unfold dvOk at h; cases h.1; done) | (unfold dvD Rp; rfl)
/-- a tuple of the top -/
def GTup (K : Fg) (mg : Str → Option Value) (x : Str) (ds : List He.Dv) : Prop := ∃ a, mg x = some (.ref a) ∧ ∀ H, SqT K H a (ds.map (He.Dv.v K))
theorem m_gtup {X : Cx} {C : Cn} {x : Str} {ds : List He.Dv} {pos : Pos} (hK : C.K = X.K) (h : GTup X.K X.mg x ds) (hd : ds.all dvOk = true := by rfl) (hg : Gl X x := by rfl) (hdb : (x == ("__debug__" : Str)) = false := by decide) : PE X (.Name x pos) (tO C (mr (.val (.tup (ds.map dvD))))) := by
  obtain ⟨a, e, q⟩ := h
  refine m_glob (v := .ref a) (fun R => ?_) hg e rfl hdb
  unfold Rp
  exact ⟨a, _, rfl, by rw [hK]; exact q R, dv_rp hd⟩
/-! ### the head's facts -/
theorem Fun.ofD {K : Fg} {x : Str} {st : Stmt} {f : Addr} {fd : FuncData} (F : FunD K x x (defArgs st) (defBody st) (defScope st) [] [] f fd) : Fun K x x st f fd := by
  obtain ⟨oc, od, dV, kV, doc, pm, an, cdv, ct, osl, e, lk, hcd, hD, hK⟩ := F.ex
  rcases hD with ⟨_, rfl⟩ | ⟨n, _⟩
  · exact ⟨⟨oc, od, kV, doc, pm, an, cdv, ct, osl, e, lk, hcd⟩, F.kp⟩
  · exact absurd rfl n
def dD (x : Str) (st : Stmt) : He.DefD := ⟨(x, none), x, x, defArgs st, defBody st, defScope st, [], []⟩
/-- the def's parameters are just given -/
def BindsAll (st : Stmt) (x : Str) (ps : List Str) : Prop := ∀ (kV doc pm : Value) (an : Option Addr) (cdv ct : Value) (us : List Value), us.length = ps.length → bindArgs (PySem.W.fnOf x x (defArgs st) (defBody st) (defScope st) .none kV doc pm an cdv ct) ⟨us, []⟩ = pure (ps.zip us)
theorem defF_of {fa : List He.Fa} {fn : List He.DefD} {K : Fg} {h : Heap} {mg : Str → Option Value} {x : Str} {st : Stmt} {ps : List Str} (X : K.In h) (G : h.Ns mainGlobals mg) (c : He.SaysD fa fn K) (i j : Nat) (hb : BindsAll st x ps) (hi : fn[i]? = some (dD x st)) (hj : fa[j]? = some (.glo x)) : DefF K mg x st ps := by
  obtain ⟨fd, F⟩ := c.def_ i hi
  exact ⟨_, fd, Fun.ofD F, F.kp, F.bindsN hb, He.glo_ok X G (c.fact j hj)⟩
theorem gtup_of {fa : List He.Fa} {fn : List He.DefD} {K : Fg} {h : Heap} {mg : Str → Option Value} {x : Str} {ds : List He.Dv} (X : K.In h) (G : h.Ns mainGlobals mg) (c : He.SaysD fa fn K) (j : Nat) (hj : fa[j]? = some (.glo x)) (ht : He.tupB K x ds = true) : GTup K mg x ds :=
  ⟨_, He.glo_ok X G (c.fact j hj), fun H => He.tupB_ok ht H⟩
/-- the law's own def by its mirror -/
theorem law_def2 {P : Program} {w : World} {K : Fg} {mg mb : Str → Option Value} {fa a : Addr} {x : Str} {y : Str} {st : Stmt} {N : List Str} {k : Nat} {s : SM} {ns : List Int} {s₁ : Shared} {H : Hp} {base : Heap} (F : DefF K mg x st [y]) (hmg : mg x = some (.ref fa)) (S : FnScope N [y] (defScope st)) (hr : Room (k + 1) callerA)
    (hb : BindsAll st x [y]) (seq : SqL K H a (ns.map V.int)) (e0 : Env0 P w K mg base callerA [] s₁ H)
    (body : ∀ (cdv : Value) (s0 : Shared) (H : Hp) (E : XK), PSs (cxOf CX0 P w K mg base N x (defScope st) fa cdv callerA [] s0 H E).nox (defBody st) (tS ⟨K, xc0, W0⟩ s))
    (mirror : ∃ ρ', s (.loc (.sq (ns.map D.int)) :: List.replicate (N.length - 1) .un) = some (.rt (.bl true) ρ')) : codeAny (model P w) callerA (.call (.ref fa) ⟨[.ref a], []⟩) (CR CX0 [] P w H s₁ (fun v _ => v = .bl true) E0) s₁ := by
  obtain ⟨f, fd, h1, h2, h3, h4⟩ := F
  rw [hmg] at h4
  cases h4
  refine law_def (mb := mb) h1 S hr (fun s u => ?_) seq e0 body mirror
  obtain ⟨oc, od, kV, doc, pm, an, cdv, ct, osl, rfl, lk, hcd⟩ := h1.ex
  exact .of_eq (hb kV doc pm an cdv ct [u] rfl)
end TT

set_option Elab.async false
set_option linter.all false
set_option maxRecDepth 100000
namespace TT
open PySem PySem.Spec PyProof.Rows L2
/-! ### loops of mirrors -/
theorem forL_inv {t : D → List SV → Option (List SV)} {b : SM} (I : List D → List SV → Prop) (h : ∀ d ds ρ, I (d :: ds) ρ → ∃ ρ1 ρ2, t d ρ = some ρ1 ∧ (b ρ1 = some (.nx ρ2) ∨ b ρ1 = some (.ct ρ2)) ∧ I ds ρ2) : ∀ ds ρ, I ds ρ → ∃ ρ', forL t b ds ρ = some (.nx ρ') ∧ I [] ρ' := by
  intro ds
  induction ds with
  | nil => intro ρ i; exact ⟨ρ, rfl, i⟩
  | cons d ds ih =>
    intro ρ i
    obtain ⟨ρ1, ρ2, e1, e2, i2⟩ := h d ds ρ i
    obtain ⟨ρ', e3, i3⟩ := ih ρ2 i2
    refine ⟨ρ', ?_, i3⟩
    unfold forL
    rw [e1]
    rcases e2 with e2 | e2 <;> (simp only [e2]; exact e3)
theorem lcL_inv {t : D → List SV → Option (List SV)} {c : M Bool} {e : M D} {vs : List Nat} (I : List SV → Prop) (G g : D → Prop)
    (h : ∀ d ρ, G d → I ρ → ∃ ρ1 b ρ2, t d ρ = some ρ1 ∧ c ρ1 = some (.ok b ρ2) ∧ (b = false → okWipe vs ρ2 = true ∧ I (wipeS ρ2 vs)) ∧ (b = true → ∃ y ρ3, e ρ2 = some (.ok y ρ3) ∧ okWipe vs ρ3 = true ∧ I (wipeS ρ3 vs) ∧ g (fz y))) :
    ∀ ds acc ρ, (∀ d ∈ ds, G d) → (∀ d ∈ acc, g d) → acc.length + ds.length ≤ sizeLine → I ρ → ∃ acc' ρ', lcL t c e vs ds acc ρ = some (.ok acc' ρ') ∧ I ρ' ∧ (∀ d ∈ acc', g d) ∧ acc'.length ≤ acc.length + ds.length := by
  intro ds
  induction ds with
  | nil => intro acc ρ _ ha _ i; exact ⟨acc, ρ, rfl, i, ha, Nat.le_add_right _ _⟩
  | cons d ds ih =>
    intro acc ρ hd ha hz i
    rw [List.length_cons] at hz
    obtain ⟨ρ1, b, ρ2, e1, e2, h1, h2⟩ := h d ρ (hd d List.mem_cons_self) i
    unfold lcL
    simp only [e1, e2]
    cases b with
    | false =>
      obtain ⟨k1, k2⟩ := h1 rfl
      obtain ⟨acc', ρ', q1, q2, q3, q4⟩ := ih acc _ (fun x hx => hd x (List.mem_cons_of_mem _ hx)) ha (by omega) k2
      exact ⟨acc', ρ', by simp only [k1, if_true]; exact q1, q2, q3, by rw [List.length_cons]; omega⟩
    | true =>
      obtain ⟨y, ρ3, k0, k1, k2, k3⟩ := h2 rfl
      have hl : (acc ++ [fz y]).length = acc.length + 1 := by simp
      obtain ⟨acc', ρ', q1, q2, q3, q4⟩ := ih (acc ++ [fz y]) _ (fun x hx => hd x (List.mem_cons_of_mem _ hx)) (fun x hx => by
        rcases List.mem_append.mp hx with z | z
        · exact ha x z
        · rw [List.mem_singleton.mp z]; exact k3) (by omega) k2
      have hs : decide (acc.length < sizeLine) = true := decide_eq_true (by omega)
      exact ⟨acc', ρ', by simp only [k0, k1, hs, Bool.and_self, if_true]; exact q1, q2, q3, by rw [List.length_cons]; omega⟩
/-- a block whose things are reckoned by themselves -/
theorem lcL_pure {t : D → List SV → Option (List SV)} {c : M Bool} {e : M D} {vs : List Nat} {ρ : List SV} (p : D → Bool) (g : D → D) :
    ∀ ds acc, (∀ d ∈ ds, ∃ ρ1 ρ2, t d ρ = some ρ1 ∧ c ρ1 = some (.ok (p d) ρ2) ∧ (p d = false → okWipe vs ρ2 = true ∧ wipeS ρ2 vs = ρ) ∧ (p d = true → ∃ ρ3 y, e ρ2 = some (.ok y ρ3) ∧ fz y = g d ∧ okWipe vs ρ3 = true ∧ wipeS ρ3 vs = ρ)) →
      acc.length + ds.length ≤ sizeLine → lcL t c e vs ds acc ρ = some (.ok (acc ++ (ds.filter p).map g) ρ) := by
  intro ds
  induction ds with
  | nil => intro acc _ _; simp [lcL]
  | cons d ds ih =>
    intro acc hd hz
    rw [List.length_cons] at hz
    obtain ⟨ρ1, ρ2, e1, e2, h1, h2⟩ := hd d List.mem_cons_self
    unfold lcL
    simp only [e1, e2]
    cases hp : p d with
    | false =>
      obtain ⟨k1, k2⟩ := h1 hp
      simp only [k1, k2, if_true]
      rw [ih acc (fun x hx => hd x (List.mem_cons_of_mem _ hx)) (by omega), List.filter_cons_of_neg (by rw [hp]; exact Bool.false_ne_true)]
    | true =>
      obtain ⟨ρ3, y, k0, k1, k2, k3⟩ := h2 hp
      have hs : decide (acc.length < sizeLine) = true := decide_eq_true (by omega)
      simp only [k0, k1, k2, k3, hs, Bool.and_self, if_true]
      rw [ih (acc ++ [g d]) (fun x hx => hd x (List.mem_cons_of_mem _ hx)) (by simp; omega), List.filter_cons_of_pos hp, List.map_cons]
      simp
end TT

set_option Elab.async false
set_option linter.all false
set_option maxRecDepth 100000
namespace K02
open PySem PySem.Spec PyProof.Rows L2 TT
def q_MARKS : List He.Dv := [.str "+", .str "-", .str "*", .str "/", .str "=", .str "<", .str ">", .str "(", .str ")", .str "[", .str "]", .str ",", .str ";", .str "?"]
/-- _law_box: 0 _law_script, 1 _law_k, 2 _law_cell, 3 _law_seed -/
def b__law_box : SM :=
 sSeq (sSet 2 (mOp2 gAdd (mOp2 gMul (mr (.val (.int 8087))) (mName 1)) (mr (.val (.int 31)))))
 (sSeq (sIf (mb (mOp2 gLt (mName 1) (mOpN gLen (mCons (mName 0) (mr [])))) isB)
  (sSet 2 (mOpN gMax2 (mCons (mOp2 gIx (mName 0) (mName 1)) (mCons (mOp2 gSub (mr (.val (.int 0))) (mOp2 gIx (mName 0) (mName 1))) (mr [])))))
  (sIf (mb (mOp2 gGt (mOpN gLen (mCons (mName 0) (mr []))) (mr (.val (.int 0)))) isB)
   (sSet 2 (mOp2 gAdd (mName 2) (mOp2 gMul (mOp2 gMod (mOp2 gIx (mName 0) (mOp2 gMod (mName 1) (mOpN gLen (mCons (mName 0) (mr []))))) (mr (.val (.int 2147483629)))) (mr (.val (.int 71167))))))
   (sNext)))
 (sSeq (sSet 3 (mOp2 gAdd (mOp2 gMod (mOp2 gAdd (mOp2 gAdd (mOp2 gMul (mOp2 gMod (mName 2) (mr (.val (.int 2147483629)))) (mr (.val (.int 48271)))) (mOp2 gMul (mr (.val (.int 39841))) (mName 1))) (mr (.val (.int 11)))) (mr (.val (.int 2147483629)))) (mr (.val (.int 1)))))
 (sRet (mLst (mCons (mOp2 gIx (mLst (mCons (mr (.val (.int 0))) (mCons (mName 2) (mr [])))) (mOpN gInt (mCons (mOp2 gGe (mName 2) (mOp2 gPow (mr (.val (.int 10))) (mr (.val (.int 18))))) (mr [])))) (mCons (mName 3) (mCons (mr (.val (.int 0))) (mr []))))))))
def f__law_box : M Opd := mDef false [false, false] 4 b__law_box
/-- _law_take: 0 _law_box_here, 1 _law_many, 2 _law_digit, 3 _law_one -/
def b__law_take : SM :=
 sSeq (sIf (mb (mOp2 gGt (mOp2 gIx (mName 0) (mr (.val (.int 0)))) (mr (.val (.int 0)))) isB)
  (sSeq (sSet 2 (mOp2 gMod (mOp2 gIx (mName 0) (mr (.val (.int 0)))) (mName 1)))
  (sSeq (sExpr (mPut 0 (mOp2 gFdiv (mOp2 gIx (mName 0) (mr (.val (.int 0)))) (mName 1)) (mr (.val (.int 0)))))
  (sRet (mName 2))))
  (sNext))
 (sSeq (sExpr (mPut 0 (mOp2 gAdd (mOp2 gIx (mName 0) (mr (.val (.int 2)))) (mr (.val (.int 1)))) (mr (.val (.int 2)))))
 (sSeq (sSet 3 (mOp2 gMod (mOp2 gMul (mOp2 gAdd (mOp2 gIx (mName 0) (mr (.val (.int 1)))) (mOp2 gMul (mr (.val (.int 104717))) (mOp2 gIx (mName 0) (mr (.val (.int 2)))))) (mr (.val (.int 69621)))) (mr (.val (.int 2147483647)))))
 (sSeq (sExpr (mPut 0 (mOp2 gAdd (mOp2 gMod (mOp2 gAdd (mOp2 gMul (mName 3) (mr (.val (.int 48271)))) (mr (.val (.int 30097)))) (mr (.val (.int 2147483629)))) (mr (.val (.int 1)))) (mr (.val (.int 1)))))
 (sRet (mOp2 gMod (mOp2 gFdiv (mOp2 gAdd (mOp2 gMul (mName 3) (mr (.val (.int 2147483647)))) (mOp2 gIx (mName 0) (mr (.val (.int 1))))) (mr (.val (.int 8167)))) (mName 1))))))
def f__law_take : M Opd := mDef false [true, false] 4 b__law_take
def e0__law_word : M Opd :=
 mOp2 gIx (mName 1) (mCall false [true, false] f__law_take (mCons (mName 0) (mCons (mOpN gLen (mCons (mName 1) (mr []))) (mr []))))
def c1__law_word : M Opd :=
 mLc (mb (mCons (mCall false [true, false] f__law_take (mCons (mName 0) (mCons (mOp2 gAdd (mName 2) (mr (.val (.int 1)))) (mr [])))) (mr [])) kRange1) (setSlot 3) (mYes) (e0__law_word) [3]
/-- _law_word: 0 _law_box_here, 1 _law_signs, 2 _law_most, 3 _law_k -/
def b__law_word : SM :=
 sRet (mb (mr (.val (.str ""))) fun p => mb (isS p) fun y => mb (c1__law_word) fun q => op2 (fun _ d => gJoin y d) q q)
def f__law_word : M Opd := mDef false [true, false, false] 4 b__law_word
def o0__law_texts : SM :=
 sSeq (sPar [6, 7] (mCons (mCall false [true, false, false] f__law_word (mCons (mName 0) (mCons (mName 1) (mCons (mr (.val (.int 7))) (mr []))))) (mCons (mCall false [true, false, false] f__law_word (mCons (mName 0) (mCons (mName 1) (mCons (mr (.val (.int 7))) (mr []))))) (mr []))))
  (sSeq (sExpr (mExtend 4 (mLst (mCons (mName 6) (mCons (mb (mName 6) fun p => opN (fun | [d] => gUpper d | _ => none) [p]) (mCons (mOp2 gAdd (mOp2 gAdd (mName 6) (mr (.val (.str ".")))) (mName 7)) (mCons (mOp2 gAdd (mName 6) (mb (mName 7) fun p => opN (fun | [d] => gUpper d | _ => none) [p])) (mCons (mOp2 gAdd (mOp2 gAdd (mOp2 gAdd (mOp2 gAdd (mName 6) (mr (.val (.str ".")))) (mName 7)) (mr (.val (.str ".")))) (mName 6)) (mr [])))))))))
  (sExpr (mExtend 4 (mLst (mCons (mCall false [true, false, false] f__law_word (mCons (mName 0) (mCons (mName 3) (mCons (mr (.val (.int 2))) (mr []))))) (mCons (mCall false [true, false, false] f__law_word (mCons (mName 0) (mCons (mName 2) (mCons (mr (.val (.int 5))) (mr []))))) (mCons (mCall false [true, false, false] f__law_word (mCons (mName 0) (mCons (mOp2 gAdd (mName 1) (mName 2)) (mCons (mr (.val (.int 4))) (mr []))))) (mr []))))))))
def l1__law_texts : SM :=
 sFor (mb (mCons (mr (.val (.int 3))) (mr [])) kRange1) (setSlot 5) (o0__law_texts)
/-- _law_texts: 0 _law_box_here, 1 _law_small, 2 _law_figures, 3 _law_marks, 4 _law_found, 5 _law_turn, 6 _law_one, 7 _law_other -/
def b__law_texts : SM :=
 sSeq (sAsg (mTup (mCons (mr (.val (.str "abcdefghijklmnopqrstuvwxyz"))) (mCons (mr (.val (.str "0123456789"))) (mr [])))) (gTupD 2 (gsCons (setSlot 1) (gsCons (setSlot 2) (gsNil)))))
 (sSeq (sSet 3 (mr (.val (.str "+-*/=<>()[],;?"))))
 (sSeq (sSet 4 (mLst (mCons (mr (.val (.str ""))) (mCons (mr (.val (.str " "))) (mCons (mr (.val (.str "."))) (mCons (mr (.val (.str "0"))) (mCons (mr (.val (.str "00"))) (mCons (mr (.val (.str "999"))) (mCons (mr (.val (.str "1000"))) (mCons (mr (.val (.str "a.b"))) (mCons (mr (.val (.str "ground"))) (mCons (mr (.val (.str "GROUND"))) (mCons (mr (.val (.str "a."))) (mCons (mr (.val (.str ".a"))) (mCons (mr (.val (.str "a.b.c"))) (mr []))))))))))))))))
 (sSeq (sExpr (mExtend 4 (mOpN gListA (mCons (mName 3) (mr [])))))
 (sSeq (l1__law_texts)
 (sRet (mName 4))))))
def f__law_texts : M Opd := mDef false [true] 8 b__law_texts
/-- _law_otherwise: 0 _law_box_here, 1 _law_text, 2 _law_signs, 3 _law_at, 4 _law_way, 5 _law_sign -/
def b__law_otherwise : SM :=
 sSeq (sPar [3, 4] (mCons (mCall false [true, false] f__law_take (mCons (mName 0) (mCons (mOp2 gAdd (mOpN gLen (mCons (mName 1) (mr []))) (mr (.val (.int 1)))) (mr [])))) (mCons (mCall false [true, false] f__law_take (mCons (mName 0) (mCons (mr (.val (.int 3))) (mr [])))) (mr []))))
 (sSeq (sSet 5 (mOp2 gIx (mName 2) (mCall false [true, false] f__law_take (mCons (mName 0) (mCons (mOpN gLen (mCons (mName 2) (mr []))) (mr []))))))
 (sSeq (sIf (mb (mOp2 gEqA (mName 4) (mr (.val (.int 0)))) isB)
  (sRet (mOp2 gAdd (mOp2 gAdd (mSl gSl (mName 1) (mr none) (mb (mName 3) isI)) (mName 5)) (mSl gSl (mName 1) (mb (mName 3) isI) (mr none))))
  (sNext))
 (sSeq (sIf (mb (mOp2 gEqA (mName 4) (mr (.val (.int 1)))) isB)
  (sRet (mOp2 gAdd (mSl gSl (mName 1) (mr none) (mb (mName 3) isI)) (mSl gSl (mName 1) (mb (mOp2 gAdd (mName 3) (mr (.val (.int 1)))) isI) (mr none))))
  (sNext))
 (sRet (mOp2 gAdd (mOp2 gAdd (mSl gSl (mName 1) (mr none) (mb (mName 3) isI)) (mName 5)) (mSl gSl (mName 1) (mb (mOp2 gAdd (mName 3) (mr (.val (.int 1)))) isI) (mr none)))))))
def f__law_otherwise : M Opd := mDef false [true, false, false] 6 b__law_otherwise
def e0_is_made_of : M Opd :=
 mOp2 gIn (mName 3) (mName 1)
def c1_is_made_of : M Opd :=
 mLc (mRow (mName 0)) (setSlot 3) (mYes) (e0_is_made_of) [3]
/-- is_made_of: 0 text, 1 signs, 2 longest, 3 sign -/
def b_is_made_of : SM :=
 sRet (mAndV (mChain gLe gLe (mr (.val (.int 1))) (mOpN gLen (mCons (mName 0) (mr []))) (mName 2)) (mOpN gAll (mCons (c1_is_made_of) (mr []))))
def f_is_made_of : M Opd := mDef false [false, false, false] 4 b_is_made_of
/-- is_name: 0 text -/
def b_is_name : SM :=
 sRet (mCall false [false, false, false] f_is_made_of (mCons (mName 0) (mCons (mr (.val (.str "abcdefghijklmnopqrstuvwxyz"))) (mCons (mr (.val (.int 6))) (mr [])))))
def f_is_name : M Opd := mDef false [false] 1 b_is_name
/-- is_sign: 0 text -/
def b_is_sign : SM :=
 sRet (mOrV (mOp2 gIn (mName 0) (mr (.val (.tup (q_MARKS.map dvD))))) (mCall false [false, false, false] f_is_made_of (mCons (mName 0) (mCons (mr (.val (.str "ABCDEFGHIJKLMNOPQRSTUVWXYZ"))) (mCons (mr (.val (.int 6))) (mr []))))))
def f_is_sign : M Opd := mDef false [false] 1 b_is_sign
/-- is_call: 0 text, 1 part, 2 point, 3 function -/
def b_is_call : SM :=
 sSeq (sAsg (mb (mName 0) fun p => mb (isS p) fun y => mb (mr (.val (.str "."))) fun q => op2 (fun _ d => gPart y d) q q) (gTupD 3 (gsCons (setSlot 1) (gsCons (setSlot 2) (gsCons (setSlot 3) (gsNil))))))
 (sRet (mAndV (mCall false [false] f_is_name (mCons (mName 1) (mr []))) (mCall false [false] f_is_name (mCons (mName 3) (mr [])))))
def f_is_call : M Opd := mDef false [false] 4 b_is_call
/-- number_of: 0 text -/
def b_number_of : SM :=
 sSeq (sIf (mOr (mNot (mb (mCall false [false, false, false] f_is_made_of (mCons (mName 0) (mCons (mr (.val (.str "0123456789"))) (mCons (mr (.val (.int 3))) (mr []))))) tru)) (mAnd (mb (mOp2 gGt (mOpN gLen (mCons (mName 0) (mr []))) (mr (.val (.int 1)))) isB) (mb (mOp2 gEqA (mOp2 gIx (mName 0) (mr (.val (.int 0)))) (mr (.val (.str "0")))) isB)))
  (sRet (mr (.val .non)))
  (sNext))
 (sRet (mOpN gInt (mCons (mName 0) (mr []))))
def f_number_of : M Opd := mDef false [false] 1 b_number_of
def e0__law_is_word : M Opd :=
 mName 2
def q1__law_is_word : M Bool :=
 mb (mOp2 gNotIn (mName 2) (mName 1)) isB
def c2__law_is_word : M Opd :=
 mLc (mRow (mName 0)) (setSlot 2) (q1__law_is_word) (e0__law_is_word) [2]
/-- _law_is_word: 0 _law_text, 1 _law_signs, 2 _law_sign -/
def b__law_is_word : SM :=
 sRet (mAndV (mChain gLt gLt (mr (.val (.int 0))) (mOpN gLen (mCons (mName 0) (mr []))) (mr (.val (.int 7)))) (mOp2 gEqA (c2__law_is_word) (mLst (mr []))))
def f__law_is_word : M Opd := mDef false [false, false] 3 b__law_is_word
def e0__law_due : M Opd :=
 mName 8
def q1__law_due : M Bool :=
 mb (mOp2 gNotIn (mName 8) (mName 2)) isB
def c2__law_due : M Opd :=
 mLc (mRow (mName 0)) (setSlot 8) (q1__law_due) (e0__law_due) [8]
def o3__law_due : SM :=
 sSet 7 (mOp2 gAdd (mOp2 gMul (mr (.val (.int 10))) (mName 7)) (mb (mName 2) fun p => mb (isS p) fun y => mb (mName 8) fun q => op2 (fun _ d => gIndexS y d) q q))
def l4__law_due : SM :=
 sFor (mRow (mName 0)) (setSlot 8) (o3__law_due)
/-- _law_due: 0 _law_text, 1 _law_small, 2 _law_figures, 3 _law_marks, 4 _law_sign_due, 5 _law_at, 6 _law_call_due, 7 _law_number, 8 _law_sign -/
def b__law_due : SM :=
 sSeq (sAsg (mTup (mCons (mr (.val (.str "abcdefghijklmnopqrstuvwxyz"))) (mCons (mr (.val (.str "0123456789"))) (mr [])))) (gTupD 2 (gsCons (setSlot 1) (gsCons (setSlot 2) (gsNil)))))
 (sSeq (sSet 3 (mLst (mCons (mr (.val (.str "+"))) (mCons (mr (.val (.str "-"))) (mCons (mr (.val (.str "*"))) (mCons (mr (.val (.str "/"))) (mCons (mr (.val (.str "="))) (mCons (mr (.val (.str "<"))) (mCons (mr (.val (.str ">"))) (mCons (mr (.val (.str "("))) (mCons (mr (.val (.str ")"))) (mCons (mr (.val (.str "["))) (mCons (mr (.val (.str "]"))) (mCons (mr (.val (.str ","))) (mCons (mr (.val (.str ";"))) (mCons (mr (.val (.str "?"))) (mr [])))))))))))))))))
 (sSeq (sSet 4 (mOrV (mCall false [false, false] f__law_is_word (mCons (mName 0) (mCons (mb (mName 1) fun p => opN (fun | [d] => gUpper d | _ => none) [p]) (mr [])))) (mOp2 gIn (mName 0) (mName 3))))
 (sSeq (sSet 5 (mb (mName 0) fun p => mb (isS p) fun y => mb (mr (.val (.str "."))) fun q => op2 (fun _ d => gFind y d) q q))
 (sSeq (sSet 6 (mAndV (mOp2 gGt (mName 5) (mr (.val (.int 0)))) (mAndV (mCall false [false, false] f__law_is_word (mCons (mSl gSl (mName 0) (mr none) (mb (mName 5) isI)) (mCons (mName 1) (mr [])))) (mCall false [false, false] f__law_is_word (mCons (mSl gSl (mName 0) (mb (mOp2 gAdd (mName 5) (mr (.val (.int 1)))) isI) (mr none)) (mCons (mName 1) (mr [])))))))
 (sSeq (sSet 7 (mr (.val .non)))
 (sSeq (sIf (mAnd (mb (mChain gLt gLt (mr (.val (.int 0))) (mOpN gLen (mCons (mName 0) (mr []))) (mr (.val (.int 4)))) isB) (mAnd (mb (mOp2 gEqA (c2__law_due) (mLst (mr []))) isB) (mOr (mb (mOp2 gNeA (mOp2 gIx (mName 0) (mr (.val (.int 0)))) (mr (.val (.str "0")))) isB) (mb (mOp2 gEqA (mName 0) (mr (.val (.str "0")))) isB))))
  (sSeq (sSet 7 (mr (.val (.int 0))))
  (l4__law_due))
  (sNext))
 (sRet (mTup (mCons (mCall false [false, false] f__law_is_word (mCons (mName 0) (mCons (mName 1) (mr [])))) (mCons (mName 4) (mCons (mName 6) (mCons (mName 7) (mr [])))))))))))))
def f__law_due : M Opd := mDef false [false] 9 b__law_due
def e0_law : M Opd :=
 mCall false [true, false, false] f__law_otherwise (mCons (mName 3) (mCons (mName 5) (mCons (mName 1) (mr []))))
def c1_law : M Opd :=
 mLc (mRow (mName 4)) (setSlot 5) (mYes) (e0_law) [5]
def o2_law : SM :=
 sSeq (sSet 6 (mTup (mCons (mCall false [false] f_is_name (mCons (mName 5) (mr []))) (mCons (mCall false [false] f_is_sign (mCons (mName 5) (mr []))) (mCons (mCall false [false] f_is_call (mCons (mName 5) (mr []))) (mCons (mCall false [false] f_number_of (mCons (mName 5) (mr []))) (mr [])))))))
   (sIf (mb (mOp2 gNeA (mOpN gRepr (mCons (mName 6) (mr []))) (mOpN gRepr (mCons (mCall false [false] f__law_due (mCons (mName 5) (mr []))) (mr [])))) isB)
    (sRet (mr (.val (.bl false))))
    (sNext))
def l3_law : SM :=
 sFor (mRow (mOp2 gAdd (mName 4) (mSl gSl (mName 4) (mr none) (mb (mr (.val (.int 3))) isI)))) (setSlot 5) (o2_law)
def o4_law : SM :=
 sSeq (sSet 3 (mCall false [false, false] f__law_box (mCons (mName 0) (mCons (mName 2) (mr [])))))
  (sSeq (sSet 4 (mCall false [true] f__law_texts (mCons (mName 3) (mr []))))
  (sSeq (sSet 4 (mOp2 gAdd (mName 4) (c1_law)))
  (l3_law)))
def l5_law : SM :=
 sFor (mb (mCons (mOpN gMax2 (mCons (mr (.val (.int 1))) (mCons (mOpN gMin2 (mCons (mOpN gLen (mCons (mName 0) (mr []))) (mCons (mr (.val (.int 2))) (mr [])))) (mr [])))) (mr [])) kRange1) (setSlot 2) (o4_law)
/-- law: 0 _law_script, 1 _law_any_signs, 2 _law_k, 3 _law_box_here, 4 _law_texts_here, 5 _law_text, 6 _law_found -/
def b_law : SM :=
 sSeq (sSet 1 (mr (.val (.str " !\"#$&'()*+,-./0123456789:;<=>?@ABCXYZ[\\]^_`abcxyz{|}~\n"))))
 (sSeq (l5_law)
 (sRet (mr (.val (.bl true)))))
end K02

set_option Elab.async false
set_option linter.all false
set_option maxRecDepth 100000
set_option maxHeartbeats 0
namespace K02
open PySem PySem.Spec PyProof.Rows L2 TT
def top (i : Nat) : Stmt := PySem.Challenge.pw_tonguetower_k02_words.main.body.getD i (.Pass ⟨0, 0, 0, 0⟩)
abbrev s__law_box : Stmt := top 13
abbrev N__law_box : List Str := ["_law_script", "_law_k", "_law_cell", "_law_seed"]
theorem sc__law_box : FnScope N__law_box ["_law_script", "_law_k"] (defScope s__law_box) := ⟨rfl, rfl, rfl, by decide +kernel, rfl, by decide +kernel, by decide +kernel⟩
abbrev s__law_take : Stmt := top 14
abbrev N__law_take : List Str := ["_law_box_here", "_law_many", "_law_digit", "_law_one"]
theorem sc__law_take : FnScope N__law_take ["_law_box_here", "_law_many"] (defScope s__law_take) := ⟨rfl, rfl, rfl, by decide +kernel, rfl, by decide +kernel, by decide +kernel⟩
abbrev s__law_word : Stmt := top 15
abbrev N__law_word : List Str := ["_law_box_here", "_law_signs", "_law_most", "_law_k"]
theorem sc__law_word : FnScope N__law_word ["_law_box_here", "_law_signs", "_law_most"] (defScope s__law_word) := ⟨rfl, rfl, rfl, by decide +kernel, rfl, by decide +kernel, by decide +kernel⟩
abbrev s__law_texts : Stmt := top 19
abbrev N__law_texts : List Str := ["_law_box_here", "_law_small", "_law_figures", "_law_marks", "_law_found", "_law_turn", "_law_one", "_law_other"]
theorem sc__law_texts : FnScope N__law_texts ["_law_box_here"] (defScope s__law_texts) := ⟨rfl, rfl, rfl, by decide +kernel, rfl, by decide +kernel, by decide +kernel⟩
abbrev s__law_otherwise : Stmt := top 16
abbrev N__law_otherwise : List Str := ["_law_box_here", "_law_text", "_law_signs", "_law_at", "_law_way", "_law_sign"]
theorem sc__law_otherwise : FnScope N__law_otherwise ["_law_box_here", "_law_text", "_law_signs"] (defScope s__law_otherwise) := ⟨rfl, rfl, rfl, by decide +kernel, rfl, by decide +kernel, by decide +kernel⟩
abbrev s_is_made_of : Stmt := top 7
abbrev N_is_made_of : List Str := ["text", "signs", "longest", "sign"]
theorem sc_is_made_of : FnScope N_is_made_of ["text", "signs", "longest"] (defScope s_is_made_of) := ⟨rfl, rfl, rfl, by decide +kernel, rfl, by decide +kernel, by decide +kernel⟩
abbrev s_is_name : Stmt := top 8
abbrev N_is_name : List Str := ["text"]
theorem sc_is_name : FnScope N_is_name ["text"] (defScope s_is_name) := ⟨rfl, rfl, rfl, by decide +kernel, rfl, by decide +kernel, by decide +kernel⟩
abbrev s_is_sign : Stmt := top 9
abbrev N_is_sign : List Str := ["text"]
theorem sc_is_sign : FnScope N_is_sign ["text"] (defScope s_is_sign) := ⟨rfl, rfl, rfl, by decide +kernel, rfl, by decide +kernel, by decide +kernel⟩
abbrev s_is_call : Stmt := top 10
abbrev N_is_call : List Str := ["text", "part", "point", "function"]
theorem sc_is_call : FnScope N_is_call ["text"] (defScope s_is_call) := ⟨rfl, rfl, rfl, by decide +kernel, rfl, by decide +kernel, by decide +kernel⟩
abbrev s_number_of : Stmt := top 11
abbrev N_number_of : List Str := ["text"]
theorem sc_number_of : FnScope N_number_of ["text"] (defScope s_number_of) := ⟨rfl, rfl, rfl, by decide +kernel, rfl, by decide +kernel, by decide +kernel⟩
abbrev s__law_is_word : Stmt := top 17
abbrev N__law_is_word : List Str := ["_law_text", "_law_signs", "_law_sign"]
theorem sc__law_is_word : FnScope N__law_is_word ["_law_text", "_law_signs"] (defScope s__law_is_word) := ⟨rfl, rfl, rfl, by decide +kernel, rfl, by decide +kernel, by decide +kernel⟩
abbrev s__law_due : Stmt := top 18
abbrev N__law_due : List Str := ["_law_text", "_law_small", "_law_figures", "_law_marks", "_law_sign_due", "_law_at", "_law_call_due", "_law_number", "_law_sign"]
theorem sc__law_due : FnScope N__law_due ["_law_text"] (defScope s__law_due) := ⟨rfl, rfl, rfl, by decide +kernel, rfl, by decide +kernel, by decide +kernel⟩
abbrev s_law : Stmt := top 20
abbrev N_law : List Str := ["_law_script", "_law_any_signs", "_law_k", "_law_box_here", "_law_texts_here", "_law_text", "_law_found"]
theorem sc_law : FnScope N_law ["_law_script"] (defScope s_law) := ⟨rfl, rfl, rfl, by decide +kernel, rfl, by decide +kernel, by decide +kernel⟩
structure Fc (K : Fg) (mg : Str → Option Value) : Prop where
  d__law_box : DefF K mg "_law_box" s__law_box ["_law_script", "_law_k"]
  d__law_take : DefF K mg "_law_take" s__law_take ["_law_box_here", "_law_many"]
  d__law_word : DefF K mg "_law_word" s__law_word ["_law_box_here", "_law_signs", "_law_most"]
  d__law_texts : DefF K mg "_law_texts" s__law_texts ["_law_box_here"]
  d__law_otherwise : DefF K mg "_law_otherwise" s__law_otherwise ["_law_box_here", "_law_text", "_law_signs"]
  d_is_made_of : DefF K mg "is_made_of" s_is_made_of ["text", "signs", "longest"]
  d_is_name : DefF K mg "is_name" s_is_name ["text"]
  d_is_sign : DefF K mg "is_sign" s_is_sign ["text"]
  d_is_call : DefF K mg "is_call" s_is_call ["text"]
  d_number_of : DefF K mg "number_of" s_number_of ["text"]
  d__law_is_word : DefF K mg "_law_is_word" s__law_is_word ["_law_text", "_law_signs"]
  d__law_due : DefF K mg "_law_due" s__law_due ["_law_text"]
  d_law : DefF K mg "law" s_law ["_law_script"]
  n_all : mg "all" = none
  n_int : mg "int" = none
  n_len : mg "len" = none
  n_list : mg "list" = none
  n_max : mg "max" = none
  n_min : mg "min" = none
  n_range : mg "range" = none
  n_repr : mg "repr" = none
  c_CAPITALS : ∃ t, mg "CAPITALS" = some (.str "ABCDEFGHIJKLMNOPQRSTUVWXYZ" t)
  c_FIGURES : ∃ t, mg "FIGURES" = some (.str "0123456789" t)
  c_LETTERS : ∃ t, mg "LETTERS" = some (.str "abcdefghijklmnopqrstuvwxyz" t)
  c_LONGEST : ∃ t, mg "LONGEST" = some (.int 6 t)
  c_MARKS : GTup K mg "MARKS" q_MARKS
  c_MOST_FIGURES : ∃ t, mg "MOST_FIGURES" = some (.int 3 t)
section
variable {P : Program} {w : World} {K : Fg} {mg : Str → Option Value} {base : Heap}
theorem ok__law_box (Z : Fc K mg) : Cal P w K mg base xc0 1 ["_law_script", "_law_k"] [false, false] f__law_box "_law_box" :=
 cal_ok (N := N__law_box) (s := b__law_box) Z.d__law_box sc__law_box [false, false] rfl fun f cdv A outer s0 H E hr =>
 s_cons (s_set (i := 2) (m_bin op_addA s_addA (m_bin op_mul s_mul (m_int) (m_name 1)) (m_int)) sc__law_box.nd)
 (s_cons (s_if (t_cmp op_lt s_lt (m_name 1) (m_callB call_len s_len rfl Z.n_len (by decide +kernel) (a_cons (m_name 0) (a_nil))))
  (s_one (s_set (i := 2) (m_callB (call_max2 rfl) s_max2 rfl Z.n_max (by decide +kernel) (a_cons (m_ix ix_seq s_ix (m_name 0) (m_name 1)) (a_cons (m_bin op_sub s_sub (m_int) (m_ix ix_seq s_ix (m_name 0) (m_name 1))) (a_nil)))) sc__law_box.nd))
  (s_one (s_if (t_cmp op_gt s_gt (m_callB call_len s_len rfl Z.n_len (by decide +kernel) (a_cons (m_name 0) (a_nil))) (m_int))
   (s_one (s_set (i := 2) (m_bin op_addA s_addA (m_name 2) (m_bin op_mul s_mul (m_bin op_modN s_mod (m_ix ix_seq s_ix (m_name 0) (m_bin op_modN s_mod (m_name 1) (m_callB call_len s_len rfl Z.n_len (by decide +kernel) (a_cons (m_name 0) (a_nil))))) (m_int)) (m_int))) sc__law_box.nd))
   (s_nil))))
 (s_cons (s_set (i := 3) (m_bin op_addA s_addA (m_bin op_modN s_mod (m_bin op_addA s_addA (m_bin op_addA s_addA (m_bin op_mul s_mul (m_bin op_modN s_mod (m_name 2) (m_int)) (m_int)) (m_bin op_mul s_mul (m_int) (m_name 1))) (m_int)) (m_int)) (m_int)) sc__law_box.nd)
 (s_one (s_ret (m_lst (a_cons (m_ix ix_seq s_ix (m_lst (a_cons (m_int) (a_cons (m_name 2) (a_nil)))) (m_callTy cr_int3 s_int rfl Z.n_int (by decide +kernel) (a_cons (m_cmp op_ge s_ge (m_name 2) (m_bin op_pow s_pow (m_int) (m_int))) (a_nil)))) (a_cons (m_name 3) (a_cons (m_int) (a_nil)))))))))
theorem ok__law_take (Z : Fc K mg) : Cal P w K mg base xc0 1 ["_law_box_here", "_law_many"] [true, false] f__law_take "_law_take" :=
 cal_ok (N := N__law_take) (s := b__law_take) Z.d__law_take sc__law_take [true, false] rfl fun f cdv A outer s0 H E hr =>
 s_cons (s_if (t_cmp op_gt s_gt (m_ix ix_seq s_ix (m_name 0) (m_int)) (m_int))
  (s_cons (s_set (i := 2) (m_bin op_modN s_mod (m_ix ix_seq s_ix (m_name 0) (m_int)) (m_name 1)) sc__law_take.nd)
  (s_cons (s_put (i := 0) (m_bin op_fdivN s_fdiv (m_ix ix_seq s_ix (m_name 0) (m_int)) (m_name 1)) (m_int))
  (s_one (s_ret (m_name 2)))))
  (s_nil))
 (s_cons (s_put (i := 0) (m_bin op_addA s_addA (m_ix ix_seq s_ix (m_name 0) (m_int)) (m_int)) (m_int))
 (s_cons (s_set (i := 3) (m_bin op_modN s_mod (m_bin op_mul s_mul (m_bin op_addA s_addA (m_ix ix_seq s_ix (m_name 0) (m_int)) (m_bin op_mul s_mul (m_int) (m_ix ix_seq s_ix (m_name 0) (m_int)))) (m_int)) (m_int)) sc__law_take.nd)
 (s_cons (s_put (i := 0) (m_bin op_addA s_addA (m_bin op_modN s_mod (m_bin op_addA s_addA (m_bin op_mul s_mul (m_name 3) (m_int)) (m_int)) (m_int)) (m_int)) (m_int))
 (s_one (s_ret (m_bin op_modN s_mod (m_bin op_fdivN s_fdiv (m_bin op_addA s_addA (m_bin op_mul s_mul (m_name 3) (m_int)) (m_ix ix_seq s_ix (m_name 0) (m_int))) (m_int)) (m_name 1)))))))
theorem ok__law_word (Z : Fc K mg) : Cal P w K mg base xc0 2 ["_law_box_here", "_law_signs", "_law_most"] [true, false, false] f__law_word "_law_word" :=
 cal_ok (N := N__law_word) (s := b__law_word) Z.d__law_word sc__law_word [true, false, false] rfl fun f cdv A outer s0 H E hr =>
 s_one (s_ret (m_join rfl (m_str) (m_lc (own := [("_law_k", 3)]) (is := [3]) sc__law_word.nd (blk_of (N := N__law_word) (sc := defScope s__law_word) rfl (by decide +kernel) (by decide +kernel) (by decide +kernel) (by decide +kernel)) (by decide) (i_range1 (a_cons (m_callC (ok__law_take Z) (hr.mono (by decide)) (a_cons (m_name 0) (a_cons (m_bin op_addA s_addA (m_name 2) (m_int)) (a_nil)))) (a_nil)) Z.n_range) (fun _ _ _ _ _ => g_name (i := 3) sc__law_word.nd) (fun _ _ _ _ _ => ts_nil) (fun _ _ _ _ _ => m_ix ix_seq s_ix (m_name 1) (m_callC (ok__law_take Z) (hr.mono (by decide)) (a_cons (m_name 0) (a_cons (m_callB call_len s_len rfl Z.n_len (by decide +kernel) (a_cons (m_name 1) (a_nil))) (a_nil))))))))
theorem ok__law_texts (Z : Fc K mg) : Cal P w K mg base xc0 3 ["_law_box_here"] [true] f__law_texts "_law_texts" :=
 cal_ok (N := N__law_texts) (s := b__law_texts) Z.d__law_texts sc__law_texts [true] rfl fun f cdv A outer s0 H E hr =>
 s_cons (s_asg (m_tup (a_cons (m_str) (a_cons (m_str) (a_nil)))) (g_tup rfl (gs_cons (g_name (i := 1) sc__law_texts.nd) (gs_cons (g_name (i := 2) sc__law_texts.nd) (gs_nil)))))
 (s_cons (s_set (i := 3) (m_str) sc__law_texts.nd)
 (s_cons (s_set (i := 4) (m_lst (a_cons (m_str) (a_cons (m_str) (a_cons (m_str) (a_cons (m_str) (a_cons (m_str) (a_cons (m_str) (a_cons (m_str) (a_cons (m_str) (a_cons (m_str) (a_cons (m_str) (a_cons (m_str) (a_cons (m_str) (a_cons (m_str) (a_nil))))))))))))))) sc__law_texts.nd)
 (s_cons (s_expr (m_extend (i := 4) rfl (m_callTy (cr_listA rfl) s_listA rfl Z.n_list (by decide +kernel) (a_cons (m_name 3) (a_nil)))))
 (s_cons (s_for (i_range1 (a_cons (m_int) (a_nil)) Z.n_range) (g_name (i := 5) sc__law_texts.nd)
  (s_cons (s_par2 (i := 6) (j := 7) (m_callC (ok__law_word Z) (hr.mono (by decide)) (a_cons (m_name 0) (a_cons (m_name 1) (a_cons (m_int) (a_nil))))) (m_callC (ok__law_word Z) (hr.mono (by decide)) (a_cons (m_name 0) (a_cons (m_name 1) (a_cons (m_int) (a_nil))))) sc__law_texts.nd (by decide) rfl)
  (s_cons (s_expr (m_extend (i := 4) rfl (m_lst (a_cons (m_name 6) (a_cons (m_upper (m_name 6)) (a_cons (m_bin op_addA s_addA (m_bin op_addA s_addA (m_name 6) (m_str)) (m_name 7)) (a_cons (m_bin op_addA s_addA (m_name 6) (m_upper (m_name 7))) (a_cons (m_bin op_addA s_addA (m_bin op_addA s_addA (m_bin op_addA s_addA (m_bin op_addA s_addA (m_name 6) (m_str)) (m_name 7)) (m_str)) (m_name 6)) (a_nil)))))))))
  (s_one (s_expr (m_extend (i := 4) rfl (m_lst (a_cons (m_callC (ok__law_word Z) (hr.mono (by decide)) (a_cons (m_name 0) (a_cons (m_name 3) (a_cons (m_int) (a_nil))))) (a_cons (m_callC (ok__law_word Z) (hr.mono (by decide)) (a_cons (m_name 0) (a_cons (m_name 2) (a_cons (m_int) (a_nil))))) (a_cons (m_callC (ok__law_word Z) (hr.mono (by decide)) (a_cons (m_name 0) (a_cons (m_bin op_addA s_addA (m_name 1) (m_name 2)) (a_cons (m_int) (a_nil))))) (a_nil)))))))))))
 (s_one (s_ret (m_name 4)))))))
theorem ok__law_otherwise (Z : Fc K mg) : Cal P w K mg base xc0 2 ["_law_box_here", "_law_text", "_law_signs"] [true, false, false] f__law_otherwise "_law_otherwise" :=
 cal_ok (N := N__law_otherwise) (s := b__law_otherwise) Z.d__law_otherwise sc__law_otherwise [true, false, false] rfl fun f cdv A outer s0 H E hr =>
 s_cons (s_par2 (i := 3) (j := 4) (m_callC (ok__law_take Z) (hr.mono (by decide)) (a_cons (m_name 0) (a_cons (m_bin op_addA s_addA (m_callB call_len s_len rfl Z.n_len (by decide +kernel) (a_cons (m_name 1) (a_nil))) (m_int)) (a_nil)))) (m_callC (ok__law_take Z) (hr.mono (by decide)) (a_cons (m_name 0) (a_cons (m_int) (a_nil)))) sc__law_otherwise.nd (by decide) rfl)
 (s_cons (s_set (i := 5) (m_ix ix_seq s_ix (m_name 2) (m_callC (ok__law_take Z) (hr.mono (by decide)) (a_cons (m_name 0) (a_cons (m_callB call_len s_len rfl Z.n_len (by decide +kernel) (a_cons (m_name 2) (a_nil))) (a_nil))))) sc__law_otherwise.nd)
 (s_cons (s_if (t_cmp (op_eqA hr.units) s_eqA (m_name 4) (m_int))
  (s_one (s_ret (m_bin op_addA s_addA (m_bin op_addA s_addA (m_slice sl_all s_sl (m_name 1) (po_n) (po_s (m_name 3))) (m_name 5)) (m_slice sl_all s_sl (m_name 1) (po_s (m_name 3)) (po_n)))))
  (s_nil))
 (s_cons (s_if (t_cmp (op_eqA hr.units) s_eqA (m_name 4) (m_int))
  (s_one (s_ret (m_bin op_addA s_addA (m_slice sl_all s_sl (m_name 1) (po_n) (po_s (m_name 3))) (m_slice sl_all s_sl (m_name 1) (po_s (m_bin op_addA s_addA (m_name 3) (m_int))) (po_n)))))
  (s_nil))
 (s_one (s_ret (m_bin op_addA s_addA (m_bin op_addA s_addA (m_slice sl_all s_sl (m_name 1) (po_n) (po_s (m_name 3))) (m_name 5)) (m_slice sl_all s_sl (m_name 1) (po_s (m_bin op_addA s_addA (m_name 3) (m_int))) (po_n))))))))
theorem ok_is_made_of (Z : Fc K mg) : Cal P w K mg base xc0 1 ["text", "signs", "longest"] [false, false, false] f_is_made_of "is_made_of" :=
 cal_ok (N := N_is_made_of) (s := b_is_made_of) Z.d_is_made_of sc_is_made_of [false, false, false] rfl fun f cdv A outer s0 H E hr =>
 s_one (s_ret (m_and (m_chain op_le op_le s_le s_le (m_int) (m_callB call_len s_len rfl Z.n_len (by decide +kernel) (a_cons (m_name 0) (a_nil))) (m_name 2)) (m_one (m_callB (cr_all rfl) s_all rfl Z.n_all (by decide +kernel) (a_cons (m_lc (own := [("sign", 3)]) (is := [3]) sc_is_made_of.nd (blk_of (N := N_is_made_of) (sc := defScope s_is_made_of) rfl (by decide +kernel) (by decide +kernel) (by decide +kernel) (by decide +kernel)) (by decide) (i_row rfl (m_name 0)) (fun _ _ _ _ _ => g_name (i := 3) sc_is_made_of.nd) (fun _ _ _ _ _ => ts_nil) (fun _ _ _ _ _ => m_cmp op_inA s_inA (m_name 3) (m_name 1))) (a_nil))))))
theorem ok_is_name (Z : Fc K mg) : Cal P w K mg base xc0 2 ["text"] [false] f_is_name "is_name" :=
 cal_ok (N := N_is_name) (s := b_is_name) Z.d_is_name sc_is_name [false] rfl fun f cdv A outer s0 H E hr =>
 s_one (s_ret (m_callC (ok_is_made_of Z) (hr.mono (by decide)) (a_cons (m_name 0) (a_cons (m_gstr Z.c_LETTERS) (a_cons (m_gint Z.c_LONGEST) (a_nil))))))
theorem ok_is_sign (Z : Fc K mg) : Cal P w K mg base xc0 2 ["text"] [false] f_is_sign "is_sign" :=
 cal_ok (N := N_is_sign) (s := b_is_sign) Z.d_is_sign sc_is_sign [false] rfl fun f cdv A outer s0 H E hr =>
 s_one (s_ret (m_or (m_cmp op_inA s_inA (m_name 0) (m_gtup rfl Z.c_MARKS)) (m_one (m_callC (ok_is_made_of Z) (hr.mono (by decide)) (a_cons (m_name 0) (a_cons (m_gstr Z.c_CAPITALS) (a_cons (m_gint Z.c_LONGEST) (a_nil))))))))
theorem ok_is_call (Z : Fc K mg) : Cal P w K mg base xc0 3 ["text"] [false] f_is_call "is_call" :=
 cal_ok (N := N_is_call) (s := b_is_call) Z.d_is_call sc_is_call [false] rfl fun f cdv A outer s0 H E hr =>
 s_cons (s_asg (m_partition (m_name 0) (m_str)) (g_tup rfl (gs_cons (g_name (i := 1) sc_is_call.nd) (gs_cons (g_name (i := 2) sc_is_call.nd) (gs_cons (g_name (i := 3) sc_is_call.nd) (gs_nil))))))
 (s_one (s_ret (m_and (m_callC (ok_is_name Z) (hr.mono (by decide)) (a_cons (m_name 1) (a_nil))) (m_one (m_callC (ok_is_name Z) (hr.mono (by decide)) (a_cons (m_name 3) (a_nil)))))))
theorem ok_number_of (Z : Fc K mg) : Cal P w K mg base xc0 2 ["text"] [false] f_number_of "number_of" :=
 cal_ok (N := N_number_of) (s := b_number_of) Z.d_number_of sc_number_of [false] rfl fun f cdv A outer s0 H E hr =>
 s_cons (s_if (PW.pt (t_or (t_not (t_tru rfl (m_callC (ok_is_made_of Z) (hr.mono (by decide)) (a_cons (m_name 0) (a_cons (m_gstr Z.c_FIGURES) (a_cons (m_gint Z.c_MOST_FIGURES) (a_nil))))))) (t_or1 (PW.pt (t_and (t_cmp op_gt s_gt (m_callB call_len s_len rfl Z.n_len (by decide +kernel) (a_cons (m_name 0) (a_nil))) (m_int)) (t_and1 (t_cmp (op_eqA hr.units) s_eqA (m_ix ix_seq s_ix (m_name 0) (m_int)) (m_str))))))))
  (s_one (s_ret (m_non)))
  (s_nil))
 (s_one (s_ret (m_callTy cr_int3 s_int rfl Z.n_int (by decide +kernel) (a_cons (m_name 0) (a_nil)))))
theorem ok__law_is_word (Z : Fc K mg) : Cal P w K mg base xc0 1 ["_law_text", "_law_signs"] [false, false] f__law_is_word "_law_is_word" :=
 cal_ok (N := N__law_is_word) (s := b__law_is_word) Z.d__law_is_word sc__law_is_word [false, false] rfl fun f cdv A outer s0 H E hr =>
 s_one (s_ret (m_and (m_chain op_lt op_lt s_lt s_lt (m_int) (m_callB call_len s_len rfl Z.n_len (by decide +kernel) (a_cons (m_name 0) (a_nil))) (m_int)) (m_one (m_cmp (op_eqA hr.units) s_eqA (m_lc (own := [("_law_sign", 2)]) (is := [2]) sc__law_is_word.nd (blk_of (N := N__law_is_word) (sc := defScope s__law_is_word) rfl (by decide +kernel) (by decide +kernel) (by decide +kernel) (by decide +kernel)) (by decide) (i_row rfl (m_name 0)) (fun _ _ _ _ _ => g_name (i := 2) sc__law_is_word.nd) (fun _ _ _ _ _ => ts_one (t_cmp op_notInA s_notInA (m_name 2) (m_name 1))) (fun _ _ _ _ _ => m_name 2)) (m_lst (a_nil))))))
theorem ok__law_due (Z : Fc K mg) : Cal P w K mg base xc0 2 ["_law_text"] [false] f__law_due "_law_due" :=
 cal_ok (N := N__law_due) (s := b__law_due) Z.d__law_due sc__law_due [false] rfl fun f cdv A outer s0 H E hr =>
 s_cons (s_asg (m_tup (a_cons (m_str) (a_cons (m_str) (a_nil)))) (g_tup rfl (gs_cons (g_name (i := 1) sc__law_due.nd) (gs_cons (g_name (i := 2) sc__law_due.nd) (gs_nil)))))
 (s_cons (s_set (i := 3) (m_lst (a_cons (m_str) (a_cons (m_str) (a_cons (m_str) (a_cons (m_str) (a_cons (m_str) (a_cons (m_str) (a_cons (m_str) (a_cons (m_str) (a_cons (m_str) (a_cons (m_str) (a_cons (m_str) (a_cons (m_str) (a_cons (m_str) (a_cons (m_str) (a_nil)))))))))))))))) sc__law_due.nd)
 (s_cons (s_set (i := 4) (m_or (m_callC (ok__law_is_word Z) (hr.mono (by decide)) (a_cons (m_name 0) (a_cons (m_upper (m_name 1)) (a_nil)))) (m_one (m_cmp op_inA s_inA (m_name 0) (m_name 3)))) sc__law_due.nd)
 (s_cons (s_set (i := 5) (m_find (m_name 0) (m_str)) sc__law_due.nd)
 (s_cons (s_set (i := 6) (m_and (m_cmp op_gt s_gt (m_name 5) (m_int)) (m_and (m_callC (ok__law_is_word Z) (hr.mono (by decide)) (a_cons (m_slice sl_all s_sl (m_name 0) (po_n) (po_s (m_name 5))) (a_cons (m_name 1) (a_nil)))) (m_one (m_callC (ok__law_is_word Z) (hr.mono (by decide)) (a_cons (m_slice sl_all s_sl (m_name 0) (po_s (m_bin op_addA s_addA (m_name 5) (m_int))) (po_n)) (a_cons (m_name 1) (a_nil))))))) sc__law_due.nd)
 (s_cons (s_set (i := 7) (m_non) sc__law_due.nd)
 (s_cons (s_if (PW.pt (t_and (t_chain op_lt op_lt s_lt s_lt (m_int) (m_callB call_len s_len rfl Z.n_len (by decide +kernel) (a_cons (m_name 0) (a_nil))) (m_int)) (t_and (t_cmp (op_eqA hr.units) s_eqA (m_lc (own := [("_law_sign", 8)]) (is := [8]) sc__law_due.nd (blk_of (N := N__law_due) (sc := defScope s__law_due) rfl (by decide +kernel) (by decide +kernel) (by decide +kernel) (by decide +kernel)) (by decide) (i_row rfl (m_name 0)) (fun _ _ _ _ _ => g_name (i := 8) sc__law_due.nd) (fun _ _ _ _ _ => ts_one (t_cmp op_notInA s_notInA (m_name 8) (m_name 2))) (fun _ _ _ _ _ => m_name 8)) (m_lst (a_nil))) (t_and1 (PW.pt (t_or (t_cmp (op_neA hr.units) s_neA (m_ix ix_seq s_ix (m_name 0) (m_int)) (m_str)) (t_or1 (t_cmp (op_eqA hr.units) s_eqA (m_name 0) (m_str)))))))))
  (s_cons (s_set (i := 7) (m_int) sc__law_due.nd)
  (s_one (s_for (i_row rfl (m_name 0)) (g_name (i := 8) sc__law_due.nd)
   (s_one (s_set (i := 7) (m_bin op_addA s_addA (m_bin op_mul s_mul (m_int) (m_name 7)) (m_indexS (m_name 2) (m_name 8))) sc__law_due.nd)))))
  (s_nil))
 (s_one (s_ret (m_tup (a_cons (m_callC (ok__law_is_word Z) (hr.mono (by decide)) (a_cons (m_name 0) (a_cons (m_name 1) (a_nil)))) (a_cons (m_name 4) (a_cons (m_name 6) (a_cons (m_name 7) (a_nil))))))))))))))
theorem ok_law (Z : Fc K mg) {f : Addr} {cdv : Value} {s0 : Shared} {H : Hp} {E : XK} (hr : Room 3 (callerA.deeper (envOfC "law" (defScope s_law) s0.heap.objs.size f cdv))) :
  PSs (cxOf CX0 P w K mg base N_law "law" (defScope s_law) f cdv callerA [] s0 H E).nox (defBody s_law) (tS ⟨K, xc0, W0⟩ b_law) :=
 s_cons (s_set (i := 1) (m_str) sc_law.nd)
 (s_cons (s_for (i_range1 (a_cons (m_callB (call_max2 rfl) s_max2 rfl Z.n_max (by decide +kernel) (a_cons (m_int) (a_cons (m_callB (call_min2 rfl) s_min2 rfl Z.n_min (by decide +kernel) (a_cons (m_callB call_len s_len rfl Z.n_len (by decide +kernel) (a_cons (m_name 0) (a_nil))) (a_cons (m_int) (a_nil)))) (a_nil)))) (a_nil)) Z.n_range) (g_name (i := 2) sc_law.nd)
  (s_cons (s_set (i := 3) (m_callC (ok__law_box Z) (hr.mono (by decide)) (a_cons (m_name 0) (a_cons (m_name 2) (a_nil)))) sc_law.nd)
  (s_cons (s_set (i := 4) (m_callC (ok__law_texts Z) (hr.mono (by decide)) (a_cons (m_name 3) (a_nil))) sc_law.nd)
  (s_cons (s_set (i := 4) (m_bin op_addA s_addA (m_name 4) (m_lc (own := [("_law_text", 5)]) (is := [5]) sc_law.nd (blk_of (N := N_law) (sc := defScope s_law) rfl (by decide +kernel) (by decide +kernel) (by decide +kernel) (by decide +kernel)) (by decide) (i_row rfl (m_name 4)) (fun _ _ _ _ _ => g_name (i := 5) sc_law.nd) (fun _ _ _ _ _ => ts_nil) (fun _ _ _ _ _ => m_callC (ok__law_otherwise Z) (hr.mono (by decide)) (a_cons (m_name 3) (a_cons (m_name 5) (a_cons (m_name 1) (a_nil))))))) sc_law.nd)
  (s_one (s_for (i_row rfl (m_bin op_addA s_addA (m_name 4) (m_slice sl_all s_sl (m_name 4) (po_n) (po_s (m_int))))) (g_name (i := 5) sc_law.nd)
   (s_cons (s_set (i := 6) (m_tup (a_cons (m_callC (ok_is_name Z) (hr.mono (by decide)) (a_cons (m_name 5) (a_nil))) (a_cons (m_callC (ok_is_sign Z) (hr.mono (by decide)) (a_cons (m_name 5) (a_nil))) (a_cons (m_callC (ok_is_call Z) (hr.mono (by decide)) (a_cons (m_name 5) (a_nil))) (a_cons (m_callC (ok_number_of Z) (hr.mono (by decide)) (a_cons (m_name 5) (a_nil))) (a_nil)))))) sc_law.nd)
   (s_one (s_if (t_cmp (op_neA hr.units) s_neA (m_callB (cr_repr rfl hr.units) s_repr rfl Z.n_repr (by decide +kernel) (a_cons (m_name 6) (a_nil))) (m_callB (cr_repr rfl hr.units) s_repr rfl Z.n_repr (by decide +kernel) (a_cons (m_callC (ok__law_due Z) (hr.mono (by decide)) (a_cons (m_name 5) (a_nil))) (a_nil))))
    (s_one (s_ret (m_bl)))
    (s_nil))))))))))
 (s_one (s_ret (m_bl))))
end
end K02

set_option Elab.async false
set_option linter.all false
set_option maxRecDepth 100000
set_option maxHeartbeats 4000000
namespace K02
open PySem PySem.Spec PyProof.Rows L2 TT SX
abbrev Bx (a b c : Int) : D := .mls [.int a, .int b, .int c]
def one_ (b c : Int) : Int := ((b + 104717 * (c + 1)) * 69621).fmod 2147483647
def nxt_ (o : Int) : Int := (o * 48271 + 30097).fmod 2147483629 + 1
theorem take_ok (a b c n : Int) (hn : 0 < n) (hn2 : n < 2^30) : ∃ a' b' c' r : Int, f__law_take [.par (Bx a b c), .loc (.int n)] = some (.ok (.val (.int r)) [.par (Bx a' b' c'), .un]) ∧ 0 ≤ r ∧ r < n := by
  have h1 : n ≠ 0 := by omega
  have h2 : n.natAbs < 1073741824 := by omega
  by_cases ha : 0 < a
  · refine ⟨a.fdiv n, b, c, a.fmod n, ?_, Int.fmod_nonneg_of_pos _ hn, Int.fmod_lt_of_pos _ hn⟩
    simp [f__law_take, b__law_take, TT.mDef, TT.mCall, TT.mEnd, TT.mPass, TT.mPass1, TT.mBack, TT.mBack1, TT.mkSs, TT.mkS, TT.sSeq, TT.sIf, TT.sSet, TT.sRet, TT.sOf, TT.sExpr, TT.sNext, TT.sFor, TT.sAsg, TT.sPar, TT.setSs, TT.mTakeL, TT.mOp2, TT.mOpN, TT.mCons, TT.mb, TT.mr, TT.mo, TT.mName, TT.slot, TT.SV.d?, TT.op2, TT.opN, TT.rs, TT.rsL, TT.gIx, TT.gAdd, TT.gSub, TT.gMul, TT.gFdiv, TT.gMod, TT.gPow, TT.gLt, TT.gLe, TT.gGt, TT.gGe, TT.gI2, TT.gLen, TT.gMax2, TT.gMin2, TT.gInt, TT.gListA, TT.gAll, TT.isB, TT.isS, TT.isI, TT.seqOf, TT.lstOf, TT.lstLike, TT.kSet, TT.mTake, TT.fz, TT.fzL, TT.setSlot, TT.kRet, TT.mPut, TT.kPut2, TT.mlsAt, TT.setMls, TT.keepP, TT.keep1, TT.imm, TT.mLst, TT.mTup, TT.mLc, TT.okWipe, TT.wipeS, TT.SV.isPar, TT.kRange1, TT.mRow, TT.kRow, TT.rowOf, TT.mChain, TT.mAndV, TT.mOrV, TT.mNotV, TT.mAnd, TT.mOr, TT.mNot, TT.mIf, TT.tru, TT.truD, TT.mSl, TT.opP, TT.gSl, TT.mAppend, TT.kAppend, TT.mExtend, TT.kExtend, TT.only, TT.gTupD, TT.gsCons, TT.gsNil, TT.gEqA, TT.gNeA, TT.eqB, TT.scEq, TT.gIn, TT.gNotIn, TT.inB, TT.smallI, atI, ixN, ha, h1, h2]
  · refine ⟨a, nxt_ (one_ b c), c + 1, ((one_ b c * 2147483647 + nxt_ (one_ b c)).fdiv 8167).fmod n, ?_, Int.fmod_nonneg_of_pos _ hn, Int.fmod_lt_of_pos _ hn⟩
    simp [f__law_take, b__law_take, TT.mDef, TT.mCall, TT.mEnd, TT.mPass, TT.mPass1, TT.mBack, TT.mBack1, TT.mkSs, TT.mkS, TT.sSeq, TT.sIf, TT.sSet, TT.sRet, TT.sOf, TT.sExpr, TT.sNext, TT.sFor, TT.sAsg, TT.sPar, TT.setSs, TT.mTakeL, TT.mOp2, TT.mOpN, TT.mCons, TT.mb, TT.mr, TT.mo, TT.mName, TT.slot, TT.SV.d?, TT.op2, TT.opN, TT.rs, TT.rsL, TT.gIx, TT.gAdd, TT.gSub, TT.gMul, TT.gFdiv, TT.gMod, TT.gPow, TT.gLt, TT.gLe, TT.gGt, TT.gGe, TT.gI2, TT.gLen, TT.gMax2, TT.gMin2, TT.gInt, TT.gListA, TT.gAll, TT.isB, TT.isS, TT.isI, TT.seqOf, TT.lstOf, TT.lstLike, TT.kSet, TT.mTake, TT.fz, TT.fzL, TT.setSlot, TT.kRet, TT.mPut, TT.kPut2, TT.mlsAt, TT.setMls, TT.keepP, TT.keep1, TT.imm, TT.mLst, TT.mTup, TT.mLc, TT.okWipe, TT.wipeS, TT.SV.isPar, TT.kRange1, TT.mRow, TT.kRow, TT.rowOf, TT.mChain, TT.mAndV, TT.mOrV, TT.mNotV, TT.mAnd, TT.mOr, TT.mNot, TT.mIf, TT.tru, TT.truD, TT.mSl, TT.opP, TT.gSl, TT.mAppend, TT.kAppend, TT.mExtend, TT.kExtend, TT.only, TT.gTupD, TT.gsCons, TT.gsNil, TT.gEqA, TT.gNeA, TT.eqB, TT.scEq, TT.gIn, TT.gNotIn, TT.inB, TT.smallI, atI, ixN, ha, h1, h2, one_, nxt_]
def ok8 (l : List Nat) : Prop := ∀ c ∈ l, c < 128
abbrev tx (l : List Nat) : D := .str (S l)
theorem at_nat {α : Type} {l : List α} {r : Int} (h0 : 0 ≤ r) (h : r < (l.length : Int)) : ∃ c, atI l r = some c ∧ c ∈ l := by
  have e : ixN l.length r = some r.toNat := by unfold ixN; rw [if_pos h0, if_pos h]
  have h2 : r.toNat < l.length := by omega
  refine ⟨l[r.toNat], ?_, List.getElem_mem _⟩
  unfold atI
  rw [e, Option.bind_some, List.getElem?_eq_getElem h2]
theorem strs_ok (P : Nat → Prop) : ∀ ds : List D, (∀ d ∈ ds, ∃ c, P c ∧ d = tx [c]) → ∃ l : List Nat, strsOf ds = some (l.map fun c => S [c]) ∧ l.length = ds.length ∧ ∀ c ∈ l, P c
  | [], _ => ⟨[], rfl, rfl, fun _ h => by cases h⟩
  | d :: ds, h => by
    obtain ⟨c, hc, rfl⟩ := h d List.mem_cons_self
    obtain ⟨l, e, hl, hp⟩ := strs_ok P ds fun x hx => h x (List.mem_cons_of_mem _ hx)
    refine ⟨c :: l, ?_, by simp [hl], fun x hx => ?_⟩
    · unfold strsOf; rw [e]; rfl
    · rcases List.mem_cons.mp hx with z | z
      · rw [z]; exact hc
      · exact hp x z
theorem joinL0 : ∀ l : List Nat, TL.joinL [] (l.map fun c => [c]) = l
  | [] => rfl
  | [c] => rfl
  | c :: c2 :: l => by
    show [c] ++ [] ++ TL.joinL [] (((c2 :: l).map fun c => [c])) = _
    rw [joinL0]; rfl
theorem join0 (l : List Nat) : Txt.join (Str.ofString "") (l.map fun c => S [c]) = S l := by
  have e0 : Str.ofString "" = S [] := rfl
  have e1 : (l.map fun c => S [c]) = (l.map fun c => [c]).map S := by rw [List.map_map]; rfl
  rw [e0, e1, join_S, joinL0]
theorem sum1 : ∀ l : List Nat, ((l.map fun c => S [c]).map (·.length)).sum = l.length
  | [] => rfl
  | c :: l => by rw [List.map_cons, List.map_cons, List.sum_cons, sum1, S_len]; simp; omega
theorem word_ok (a b c m : Int) (ls : List Nat) (hl : ls ≠ []) (hl2 : ls.length ≤ 1000) (hm : 0 ≤ m) (hm2 : m ≤ 1000) : ∃ a' b' c' l, f__law_word [.par (Bx a b c), .loc (tx ls), .loc (.int m)] = some (.ok (.val (tx l)) [.par (Bx a' b' c'), .un, .un]) ∧ (l.length : Int) ≤ m ∧ ∀ c ∈ l, c ∈ ls := by
  have hpos : 0 < ls.length := List.length_pos_iff.mpr hl
  obtain ⟨a1, b1, c1, k, e1, k0, k1⟩ := take_ok a b c (m + 1) (by omega) (by omega)
  have hk : (rangeD 0 k.toNat).length = k.toNat := rangeD_len _ _
  obtain ⟨acc, ρ', q1, ⟨a2, b2, c2, q2⟩, q3, q4⟩ := lcL_inv (t := setSlot 3) (c := mYes) (e := mb e0__law_word mTake) (vs := [3])
    (fun ρ => ∃ a b c, ρ = [.par (Bx a b c), .loc (tx ls), .loc (.int m), .un]) (fun _ => True) (fun d => ∃ c, c ∈ ls ∧ d = tx [c]) (fun d ρ _ ⟨a, b, c, e⟩ => by
      subst e
      obtain ⟨a', b', c', r, e2, r0, r1⟩ := take_ok a b c ls.length (by omega) (by omega)
      obtain ⟨x, e3, hx⟩ := at_nat r0 r1
      refine ⟨[.par (Bx a b c), .loc (tx ls), .loc (.int m), .loc d], true, _, rfl, rfl, (fun z => by cases z), fun _ => ⟨tx [x], [.par (Bx a' b' c'), .loc (tx ls), .loc (.int m), .loc d], ?_, rfl, ⟨a', b', c', rfl⟩, x, hx, rfl⟩⟩
      have hz : ls.length ≤ sizeLine := Nat.le_trans hl2 (show 1000 ≤ sizeLine by decide)
      simp [e0__law_word, TT.mDef, TT.mCall, TT.mEnd, TT.mPass, TT.mPass1, TT.mBack, TT.mBack1, TT.mkSs, TT.mkS, TT.sSeq, TT.sIf, TT.sSet, TT.sRet, TT.sOf, TT.sExpr, TT.sNext, TT.sFor, TT.sAsg, TT.sPar, TT.setSs, TT.mTakeL, TT.mOp2, TT.mOpN, TT.mCons, TT.mb, TT.mr, TT.mo, TT.mName, TT.slot, TT.SV.d?, TT.op2, TT.opN, TT.rs, TT.rsL, TT.gIx, TT.gAdd, TT.gSub, TT.gMul, TT.gFdiv, TT.gMod, TT.gPow, TT.gLt, TT.gLe, TT.gGt, TT.gGe, TT.gI2, TT.gLen, TT.gMax2, TT.gMin2, TT.gInt, TT.gListA, TT.gAll, TT.isB, TT.isS, TT.isI, TT.seqOf, TT.lstOf, TT.lstLike, TT.kSet, TT.mTake, TT.fz, TT.fzL, TT.setSlot, TT.kRet, TT.mPut, TT.kPut2, TT.mlsAt, TT.setMls, TT.keepP, TT.keep1, TT.imm, TT.mLst, TT.mTup, TT.mLc, TT.okWipe, TT.wipeS, TT.SV.isPar, TT.kRange1, TT.mRow, TT.kRow, TT.rowOf, TT.mChain, TT.mAndV, TT.mOrV, TT.mNotV, TT.mAnd, TT.mOr, TT.mNot, TT.mIf, TT.tru, TT.truD, TT.mSl, TT.opP, TT.gSl, TT.mAppend, TT.kAppend, TT.mExtend, TT.kExtend, TT.only, TT.gTupD, TT.gsCons, TT.gsNil, TT.gEqA, TT.gNeA, TT.eqB, TT.scEq, TT.gIn, TT.gNotIn, TT.inB, TT.smallI, e2, hz, S_len, e3]) (rangeD 0 k.toNat) [] [.par (Bx a1 b1 c1), .loc (tx ls), .loc (.int m), .un] (fun _ _ => trivial) (fun _ h => by cases h) (by rw [hk, List.length_nil, Nat.zero_add]; exact Nat.le_trans (show k.toNat ≤ 1001 by omega) (show 1001 ≤ sizeLine by decide)) ⟨a1, b1, c1, rfl⟩
  subst q2
  obtain ⟨l, e5, hl5, hp⟩ := strs_ok (· ∈ ls) acc q3
  have q5 : (l.length : Int) ≤ m := by rw [List.length_nil, Nat.zero_add, hk] at q4; omega
  have hj : gJoin (Str.ofString "") (.mls acc) = some (tx l) := by
    unfold gJoin
    have hi : (acc.all TT.imm) = true := List.all_eq_true.mpr fun x hx => by obtain ⟨c, _, rfl⟩ := q3 x hx; rfl
    have hs : ((l.map fun c => S [c]).map (·.length)).sum + (l.map fun c => S [c]).length * (Str.ofString "").length ≤ 16777216 := by
      have e2 : (Str.ofString "").length = 0 := rfl
      rw [sum1, e2]; omega
    simp only [seqOf, hi, if_true, Option.bind_some, e5, hs, join0]
  have hkk : (-4611686018427387904 : Int) ≤ k ∧ k < 4611686018427387904 := by constructor <;> omega
  have ec : c1__law_word [.par (Bx a b c), .loc (tx ls), .loc (.int m), .un] = some (.ok (.val (.mls acc)) [.par (Bx a2 b2 c2), .loc (tx ls), .loc (.int m), .un]) := by
    simp [c1__law_word, TT.mDef, TT.mCall, TT.mEnd, TT.mPass, TT.mPass1, TT.mBack, TT.mBack1, TT.mkSs, TT.mkS, TT.sSeq, TT.sIf, TT.sSet, TT.sRet, TT.sOf, TT.sExpr, TT.sNext, TT.sFor, TT.sAsg, TT.sPar, TT.setSs, TT.mTakeL, TT.mOp2, TT.mOpN, TT.mCons, TT.mb, TT.mr, TT.mo, TT.mName, TT.slot, TT.SV.d?, TT.op2, TT.opN, TT.rs, TT.rsL, TT.gIx, TT.gAdd, TT.gSub, TT.gMul, TT.gFdiv, TT.gMod, TT.gPow, TT.gLt, TT.gLe, TT.gGt, TT.gGe, TT.gI2, TT.gLen, TT.gMax2, TT.gMin2, TT.gInt, TT.gListA, TT.gAll, TT.isB, TT.isS, TT.isI, TT.seqOf, TT.lstOf, TT.lstLike, TT.kSet, TT.mTake, TT.fz, TT.fzL, TT.setSlot, TT.kRet, TT.mPut, TT.kPut2, TT.mlsAt, TT.setMls, TT.keepP, TT.keep1, TT.imm, TT.mLst, TT.mTup, TT.mLc, TT.okWipe, TT.wipeS, TT.SV.isPar, TT.kRange1, TT.mRow, TT.kRow, TT.rowOf, TT.mChain, TT.mAndV, TT.mOrV, TT.mNotV, TT.mAnd, TT.mOr, TT.mNot, TT.mIf, TT.tru, TT.truD, TT.mSl, TT.opP, TT.gSl, TT.mAppend, TT.kAppend, TT.mExtend, TT.kExtend, TT.only, TT.gTupD, TT.gsCons, TT.gsNil, TT.gEqA, TT.gNeA, TT.eqB, TT.scEq, TT.gIn, TT.gNotIn, TT.inB, TT.smallI, e1, hkk.1, hkk.2]
    rw [q1]
  refine ⟨a2, b2, c2, l, ?_, q5, hp⟩
  simp [f__law_word, b__law_word, TT.mDef, TT.mCall, TT.mEnd, TT.mPass, TT.mPass1, TT.mBack, TT.mBack1, TT.mkSs, TT.mkS, TT.sSeq, TT.sIf, TT.sSet, TT.sRet, TT.sOf, TT.sExpr, TT.sNext, TT.sFor, TT.sAsg, TT.sPar, TT.setSs, TT.mTakeL, TT.mOp2, TT.mOpN, TT.mCons, TT.mb, TT.mr, TT.mo, TT.mName, TT.slot, TT.SV.d?, TT.op2, TT.opN, TT.rs, TT.rsL, TT.gIx, TT.gAdd, TT.gSub, TT.gMul, TT.gFdiv, TT.gMod, TT.gPow, TT.gLt, TT.gLe, TT.gGt, TT.gGe, TT.gI2, TT.gLen, TT.gMax2, TT.gMin2, TT.gInt, TT.gListA, TT.gAll, TT.isB, TT.isS, TT.isI, TT.seqOf, TT.lstOf, TT.lstLike, TT.kSet, TT.mTake, TT.fz, TT.fzL, TT.setSlot, TT.kRet, TT.mPut, TT.kPut2, TT.mlsAt, TT.setMls, TT.keepP, TT.keep1, TT.imm, TT.mLst, TT.mTup, TT.mLc, TT.okWipe, TT.wipeS, TT.SV.isPar, TT.kRange1, TT.mRow, TT.kRow, TT.rowOf, TT.mChain, TT.mAndV, TT.mOrV, TT.mNotV, TT.mAnd, TT.mOr, TT.mNot, TT.mIf, TT.tru, TT.truD, TT.mSl, TT.opP, TT.gSl, TT.mAppend, TT.kAppend, TT.mExtend, TT.kExtend, TT.only, TT.gTupD, TT.gsCons, TT.gsNil, TT.gEqA, TT.gNeA, TT.eqB, TT.scEq, TT.gIn, TT.gNotIn, TT.inB, TT.smallI, ec, hj]
theorem cut_ok (l : List Nat) (lo hi : Option Int) : ∃ l', cutS (S l) lo hi = S l' ∧ l'.length ≤ l.length ∧ ∀ c ∈ l', c ∈ l :=
  ⟨_, rfl, Nat.le_trans (List.length_take_le' ..) (by show ((S l).cps.toList.drop _).length ≤ _; rw [List.length_drop]; exact Nat.sub_le _ _), fun c h => List.mem_of_mem_drop (List.mem_of_mem_take h)⟩
theorem gAdd_tx {a b : List Nat} (h : a.length + b.length ≤ 1000000) : TT.gAdd (.str (S a)) (.str (S b)) = some (.str (S (a ++ b))) := by
  unfold TT.gAdd
  simp only [S_len, S_cat]
  rw [if_pos (Nat.le_trans h (by decide))]
theorem gSl_tx {a : List Nat} (h : a.length ≤ 1000000) (lo hi : Option Int) : TT.gSl (.str (S a)) lo hi = some (.str (cutS (S a) lo hi)) := by
  unfold TT.gSl
  simp only [S_len]
  rw [if_pos (Nat.le_trans h (by decide))]
theorem otherwise_ok (a b c : Int) (l ls : List Nat) (hl : l.length ≤ 1000) (h8 : ok8 l) (hs : ls ≠ []) (hs2 : ls.length ≤ 1000) (hs8 : ok8 ls) : ∃ a' b' c' l', f__law_otherwise [.par (Bx a b c), .loc (tx l), .loc (tx ls)] = some (.ok (.val (tx l')) [.par (Bx a' b' c'), .un, .un]) ∧ l'.length ≤ 2 * l.length + 1 ∧ ok8 l' := by
  have hpos : 0 < ls.length := List.length_pos_iff.mpr hs
  obtain ⟨a1, b1, c1, r1, e1, p1, p2⟩ := take_ok a b c (l.length + 1) (by omega) (by omega)
  obtain ⟨a2, b2, c2, r2, e2, p3, p4⟩ := take_ok a1 b1 c1 3 (by omega) (by omega)
  obtain ⟨a3, b3, c3, r3, e3, p5, p6⟩ := take_ok a2 b2 c2 ls.length (by omega) (by omega)
  obtain ⟨x, ex, hx⟩ := at_nat p5 p6
  have hz : l.length ≤ sizeLine := Nat.le_trans hl (show 1000 ≤ sizeLine by decide)
  have hz2 : ls.length ≤ sizeLine := Nat.le_trans hs2 (show 1000 ≤ sizeLine by decide)
  obtain ⟨k1, f1, g1, m1⟩ := cut_ok l none (some r1)
  obtain ⟨k2, f2, g2, m2⟩ := cut_ok l (some r1) none
  obtain ⟨k3, f3, g3, m3⟩ := cut_ok l (some (r1 + 1)) none
  have x8 := hs8 x hx
  have hz3 : l.length ≤ 1000000 := by omega
  have A1 : TT.gAdd (tx k1) (tx [x]) = some (tx (k1 ++ [x])) := gAdd_tx (by simp; omega)
  have A2 : TT.gAdd (tx (k1 ++ [x])) (tx k2) = some (tx ((k1 ++ [x]) ++ k2)) := gAdd_tx (by simp; omega)
  have A3 : TT.gAdd (tx k1) (tx k3) = some (tx (k1 ++ k3)) := gAdd_tx (by omega)
  have A4 : TT.gAdd (tx (k1 ++ [x])) (tx k3) = some (tx ((k1 ++ [x]) ++ k3)) := gAdd_tx (by simp; omega)
  have m8 : ∀ {k : List Nat}, (∀ c ∈ k, c ∈ l) → ok8 k := fun h c hc => h8 c (h c hc)
  have ap : ∀ {u v : List Nat}, ok8 u → ok8 v → ok8 (u ++ v) := fun h h' c hc => (List.mem_append.mp hc).elim (h c) (h' c)
  have o8 : ok8 [x] := fun c hc => by rw [List.mem_singleton.mp hc]; exact x8
  by_cases h0 : r2 = 0
  · refine ⟨a3, b3, c3, (k1 ++ [x]) ++ k2, ?_, by simp; omega, ap (ap (m8 m1) o8) (m8 m2)⟩
    simp [f__law_otherwise, b__law_otherwise, TT.mDef, TT.mCall, TT.mEnd, TT.mPass, TT.mPass1, TT.mBack, TT.mBack1, TT.mkSs, TT.mkS, TT.sSeq, TT.sIf, TT.sSet, TT.sRet, TT.sOf, TT.sExpr, TT.sNext, TT.sFor, TT.sAsg, TT.sPar, TT.setSs, TT.mTakeL, TT.mOp2, TT.mOpN, TT.mCons, TT.mb, TT.mr, TT.mo, TT.mName, TT.slot, TT.SV.d?, TT.op2, TT.opN, TT.rs, TT.rsL, TT.gIx, TT.gAdd, TT.gSub, TT.gMul, TT.gFdiv, TT.gMod, TT.gPow, TT.gLt, TT.gLe, TT.gGt, TT.gGe, TT.gI2, TT.gLen, TT.gMax2, TT.gMin2, TT.gInt, TT.gListA, TT.gAll, TT.isB, TT.isS, TT.isI, TT.seqOf, TT.lstOf, TT.lstLike, TT.kSet, TT.mTake, TT.fz, TT.fzL, TT.setSlot, TT.kRet, TT.mPut, TT.kPut2, TT.mlsAt, TT.setMls, TT.keepP, TT.keep1, TT.imm, TT.mLst, TT.mTup, TT.mLc, TT.okWipe, TT.wipeS, TT.SV.isPar, TT.kRange1, TT.mRow, TT.kRow, TT.rowOf, TT.mChain, TT.mAndV, TT.mOrV, TT.mNotV, TT.mAnd, TT.mOr, TT.mNot, TT.mIf, TT.tru, TT.truD, TT.mSl, TT.opP, TT.gSl, TT.mAppend, TT.kAppend, TT.mExtend, TT.kExtend, TT.only, TT.gTupD, TT.gsCons, TT.gsNil, TT.gEqA, TT.gNeA, TT.eqB, TT.scEq, TT.gIn, TT.gNotIn, TT.inB, TT.smallI, e1, e2, e3, hz, hz2, S_len, ex, h0, -TT.gAdd, f1, f2, A1, A2]
  · by_cases h1 : r2 = 1
    · refine ⟨a3, b3, c3, k1 ++ k3, ?_, by simp; omega, ap (m8 m1) (m8 m3)⟩
      simp [f__law_otherwise, b__law_otherwise, TT.mDef, TT.mCall, TT.mEnd, TT.mPass, TT.mPass1, TT.mBack, TT.mBack1, TT.mkSs, TT.mkS, TT.sSeq, TT.sIf, TT.sSet, TT.sRet, TT.sOf, TT.sExpr, TT.sNext, TT.sFor, TT.sAsg, TT.sPar, TT.setSs, TT.mTakeL, TT.mOp2, TT.mOpN, TT.mCons, TT.mb, TT.mr, TT.mo, TT.mName, TT.slot, TT.SV.d?, TT.op2, TT.opN, TT.rs, TT.rsL, TT.gIx, TT.gAdd, TT.gSub, TT.gMul, TT.gFdiv, TT.gMod, TT.gPow, TT.gLt, TT.gLe, TT.gGt, TT.gGe, TT.gI2, TT.gLen, TT.gMax2, TT.gMin2, TT.gInt, TT.gListA, TT.gAll, TT.isB, TT.isS, TT.isI, TT.seqOf, TT.lstOf, TT.lstLike, TT.kSet, TT.mTake, TT.fz, TT.fzL, TT.setSlot, TT.kRet, TT.mPut, TT.kPut2, TT.mlsAt, TT.setMls, TT.keepP, TT.keep1, TT.imm, TT.mLst, TT.mTup, TT.mLc, TT.okWipe, TT.wipeS, TT.SV.isPar, TT.kRange1, TT.mRow, TT.kRow, TT.rowOf, TT.mChain, TT.mAndV, TT.mOrV, TT.mNotV, TT.mAnd, TT.mOr, TT.mNot, TT.mIf, TT.tru, TT.truD, TT.mSl, TT.opP, TT.gSl, TT.mAppend, TT.kAppend, TT.mExtend, TT.kExtend, TT.only, TT.gTupD, TT.gsCons, TT.gsNil, TT.gEqA, TT.gNeA, TT.eqB, TT.scEq, TT.gIn, TT.gNotIn, TT.inB, TT.smallI, e1, e2, e3, hz, hz2, S_len, ex, h1, -TT.gAdd, f1, f3, A3]
    · refine ⟨a3, b3, c3, (k1 ++ [x]) ++ k3, ?_, by simp; omega, ap (ap (m8 m1) o8) (m8 m3)⟩
      simp [f__law_otherwise, b__law_otherwise, TT.mDef, TT.mCall, TT.mEnd, TT.mPass, TT.mPass1, TT.mBack, TT.mBack1, TT.mkSs, TT.mkS, TT.sSeq, TT.sIf, TT.sSet, TT.sRet, TT.sOf, TT.sExpr, TT.sNext, TT.sFor, TT.sAsg, TT.sPar, TT.setSs, TT.mTakeL, TT.mOp2, TT.mOpN, TT.mCons, TT.mb, TT.mr, TT.mo, TT.mName, TT.slot, TT.SV.d?, TT.op2, TT.opN, TT.rs, TT.rsL, TT.gIx, TT.gAdd, TT.gSub, TT.gMul, TT.gFdiv, TT.gMod, TT.gPow, TT.gLt, TT.gLe, TT.gGt, TT.gGe, TT.gI2, TT.gLen, TT.gMax2, TT.gMin2, TT.gInt, TT.gListA, TT.gAll, TT.isB, TT.isS, TT.isI, TT.seqOf, TT.lstOf, TT.lstLike, TT.kSet, TT.mTake, TT.fz, TT.fzL, TT.setSlot, TT.kRet, TT.mPut, TT.kPut2, TT.mlsAt, TT.setMls, TT.keepP, TT.keep1, TT.imm, TT.mLst, TT.mTup, TT.mLc, TT.okWipe, TT.wipeS, TT.SV.isPar, TT.kRange1, TT.mRow, TT.kRow, TT.rowOf, TT.mChain, TT.mAndV, TT.mOrV, TT.mNotV, TT.mAnd, TT.mOr, TT.mNot, TT.mIf, TT.tru, TT.truD, TT.mSl, TT.opP, TT.gSl, TT.mAppend, TT.kAppend, TT.mExtend, TT.kExtend, TT.only, TT.gTupD, TT.gsCons, TT.gsNil, TT.gEqA, TT.gNeA, TT.eqB, TT.scEq, TT.gIn, TT.gNotIn, TT.inB, TT.smallI, e1, e2, e3, hz, hz2, S_len, ex, h0, h1, -TT.gAdd, f1, f3, A1, A4]
/-! ### the package -/
theorem bools_map {α : Type} (f : α → Bool) : ∀ l : List α, boolsOf (l.map fun a => D.bl (f a)) = some (l.map f)
  | [] => rfl
  | a :: l => by rw [List.map_cons]; unfold boolsOf; rw [bools_map f l]; rfl
theorem imm_map {α : Type} (f : α → D) (h : ∀ a, imm (f a) = true) (l : List α) : (l.map f).all imm = true := List.all_eq_true.mpr fun x hx => by obtain ⟨a, _, rfl⟩ := List.mem_map.mp hx; exact h a
def hc (s : Str) (c : Nat) : Bool := decide (c ∈ s.cps.toList)
def L (x : Str) : List Nat := x.cps.toList
theorem L_len (x : Str) : (L x).length = x.length := by simp [L, Str.length]
def made (x s : Str) (m : Int) : Bool := (decide (1 ≤ (x.length : Int)) && decide ((x.length : Int) ≤ m)) && (L x).all (hc s)
theorem chars_len (x : Str) : (chars x).length = x.length := by unfold chars; simp [Str.length]
def hd (d : D) : Nat := match d with | .str a => a.cps.toList.headD 0 | _ => 0
theorem made_c (x s : Str) (m : Int) (hx : x.length ≤ sizeLine) : c1_is_made_of [.loc (.str x), .loc (.str s), .loc (.int m), .un] = some (.ok (.val (.mls ((L x).map fun c => .bl (hc s c)))) [.loc (.str x), .loc (.str s), .loc (.int m), .un]) := by
  have q := lcL_pure (t := setSlot 3) (c := mYes) (e := mb e0_is_made_of mTake) (vs := [3]) (ρ := [.loc (.str x), .loc (.str s), .loc (.int m), .un]) (fun _ => true) (fun d => .bl (hc s (hd d))) (chars x) [] (fun d hd => by
    obtain ⟨c, _, rfl⟩ := List.mem_map.mp hd
    exact ⟨_, _, rfl, rfl, (fun z => by cases z), fun _ => ⟨_, _, rfl, rfl, rfl, rfl⟩⟩) (by rw [List.length_nil, Nat.zero_add, chars_len]; exact hx)
  have e : [] ++ List.map (fun d => D.bl (hc s (hd d))) (List.filter (fun _ => true) (chars x)) = (L x).map fun c => .bl (hc s c) := by
    rw [List.nil_append, List.filter_eq_self.mpr (fun _ _ => rfl)]
    unfold chars
    rw [List.map_map]; rfl
  rw [e] at q
  simp [c1_is_made_of, TT.mDef, TT.mCall, TT.mEnd, TT.mPass, TT.mPass1, TT.mBack, TT.mBack1, TT.mkSs, TT.mkS, TT.sSeq, TT.sIf, TT.sSet, TT.sRet, TT.sOf, TT.sExpr, TT.sNext, TT.sFor, TT.sAsg, TT.sPar, TT.setSs, TT.mTakeL, TT.mOp2, TT.mOpN, TT.mCons, TT.mb, TT.mr, TT.mo, TT.mName, TT.slot, TT.SV.d?, TT.op2, TT.opN, TT.rs, TT.rsL, TT.gIx, TT.gAdd, TT.gSub, TT.gMul, TT.gFdiv, TT.gMod, TT.gPow, TT.gLt, TT.gLe, TT.gGt, TT.gGe, TT.gI2, TT.gLen, TT.gMax2, TT.gMin2, TT.gInt, TT.gListA, TT.gAll, TT.isB, TT.isS, TT.isI, TT.seqOf, TT.lstOf, TT.lstLike, TT.kSet, TT.mTake, TT.fz, TT.fzL, TT.setSlot, TT.kRet, TT.mPut, TT.kPut2, TT.mlsAt, TT.setMls, TT.keepP, TT.keep1, TT.imm, TT.mLst, TT.mTup, TT.mLc, TT.okWipe, TT.wipeS, TT.SV.isPar, TT.kRange1, TT.mRow, TT.kRow, TT.rowOf, TT.mChain, TT.mAndV, TT.mOrV, TT.mNotV, TT.mAnd, TT.mOr, TT.mNot, TT.mIf, TT.tru, TT.truD, TT.mSl, TT.opP, TT.gSl, TT.mAppend, TT.kAppend, TT.mExtend, TT.kExtend, TT.only, TT.gTupD, TT.gsCons, TT.gsNil, TT.gEqA, TT.gNeA, TT.eqB, TT.scEq, TT.gIn, TT.gNotIn, TT.inB, TT.smallI]
  rw [q]
theorem made_ok (x s : Str) (m : Int) (hx : x.length ≤ sizeLine) : f_is_made_of [.loc (.str x), .loc (.str s), .loc (.int m)] = some (.ok (.val (.bl (made x s m))) [.un, .un, .un]) := by
  have ec := made_c x s m hx
  have ea : gAll [.mls ((L x).map fun c => D.bl (hc s c))] = some (.bl ((L x).all (hc s))) := by
    unfold gAll lstLike seqOf
    simp only [imm_map (fun c => D.bl (hc s c)) (fun _ => rfl) (L x), if_true, Option.bind_some, bools_map]
    rw [Option.map_some, List.all_map]; rfl
  by_cases h1 : 1 ≤ (x.length : Int)
  · by_cases h2 : (x.length : Int) ≤ m
    · simp [f_is_made_of, b_is_made_of, TT.mDef, TT.mCall, TT.mEnd, TT.mPass, TT.mPass1, TT.mBack, TT.mBack1, TT.mkSs, TT.mkS, TT.sSeq, TT.sIf, TT.sSet, TT.sRet, TT.sOf, TT.sExpr, TT.sNext, TT.sFor, TT.sAsg, TT.sPar, TT.setSs, TT.mTakeL, TT.mOp2, TT.mOpN, TT.mCons, TT.mb, TT.mr, TT.mo, TT.mName, TT.slot, TT.SV.d?, TT.op2, TT.opN, TT.rs, TT.rsL, TT.gIx, TT.gAdd, TT.gSub, TT.gMul, TT.gFdiv, TT.gMod, TT.gPow, TT.gLt, TT.gLe, TT.gGt, TT.gGe, TT.gI2, TT.gLen, TT.gMax2, TT.gMin2, TT.gInt, TT.gListA, TT.gAll, TT.isB, TT.isS, TT.isI, TT.seqOf, TT.lstOf, TT.lstLike, TT.kSet, TT.mTake, TT.fz, TT.fzL, TT.setSlot, TT.kRet, TT.mPut, TT.kPut2, TT.mlsAt, TT.setMls, TT.keepP, TT.keep1, TT.imm, TT.mLst, TT.mTup, TT.mLc, TT.okWipe, TT.wipeS, TT.SV.isPar, TT.kRange1, TT.mRow, TT.kRow, TT.rowOf, TT.mChain, TT.mAndV, TT.mOrV, TT.mNotV, TT.mAnd, TT.mOr, TT.mNot, TT.mIf, TT.tru, TT.truD, TT.mSl, TT.opP, TT.gSl, TT.mAppend, TT.kAppend, TT.mExtend, TT.kExtend, TT.only, TT.gTupD, TT.gsCons, TT.gsNil, TT.gEqA, TT.gNeA, TT.eqB, TT.scEq, TT.gIn, TT.gNotIn, TT.inB, TT.smallI, ec, ea, -TT.gAll, hx, h1, h2, made]
    · simp [f_is_made_of, b_is_made_of, TT.mDef, TT.mCall, TT.mEnd, TT.mPass, TT.mPass1, TT.mBack, TT.mBack1, TT.mkSs, TT.mkS, TT.sSeq, TT.sIf, TT.sSet, TT.sRet, TT.sOf, TT.sExpr, TT.sNext, TT.sFor, TT.sAsg, TT.sPar, TT.setSs, TT.mTakeL, TT.mOp2, TT.mOpN, TT.mCons, TT.mb, TT.mr, TT.mo, TT.mName, TT.slot, TT.SV.d?, TT.op2, TT.opN, TT.rs, TT.rsL, TT.gIx, TT.gAdd, TT.gSub, TT.gMul, TT.gFdiv, TT.gMod, TT.gPow, TT.gLt, TT.gLe, TT.gGt, TT.gGe, TT.gI2, TT.gLen, TT.gMax2, TT.gMin2, TT.gInt, TT.gListA, TT.gAll, TT.isB, TT.isS, TT.isI, TT.seqOf, TT.lstOf, TT.lstLike, TT.kSet, TT.mTake, TT.fz, TT.fzL, TT.setSlot, TT.kRet, TT.mPut, TT.kPut2, TT.mlsAt, TT.setMls, TT.keepP, TT.keep1, TT.imm, TT.mLst, TT.mTup, TT.mLc, TT.okWipe, TT.wipeS, TT.SV.isPar, TT.kRange1, TT.mRow, TT.kRow, TT.rowOf, TT.mChain, TT.mAndV, TT.mOrV, TT.mNotV, TT.mAnd, TT.mOr, TT.mNot, TT.mIf, TT.tru, TT.truD, TT.mSl, TT.opP, TT.gSl, TT.mAppend, TT.kAppend, TT.mExtend, TT.kExtend, TT.only, TT.gTupD, TT.gsCons, TT.gsNil, TT.gEqA, TT.gNeA, TT.eqB, TT.scEq, TT.gIn, TT.gNotIn, TT.inB, TT.smallI, hx, h1, h2, made]
  · simp [f_is_made_of, b_is_made_of, TT.mDef, TT.mCall, TT.mEnd, TT.mPass, TT.mPass1, TT.mBack, TT.mBack1, TT.mkSs, TT.mkS, TT.sSeq, TT.sIf, TT.sSet, TT.sRet, TT.sOf, TT.sExpr, TT.sNext, TT.sFor, TT.sAsg, TT.sPar, TT.setSs, TT.mTakeL, TT.mOp2, TT.mOpN, TT.mCons, TT.mb, TT.mr, TT.mo, TT.mName, TT.slot, TT.SV.d?, TT.op2, TT.opN, TT.rs, TT.rsL, TT.gIx, TT.gAdd, TT.gSub, TT.gMul, TT.gFdiv, TT.gMod, TT.gPow, TT.gLt, TT.gLe, TT.gGt, TT.gGe, TT.gI2, TT.gLen, TT.gMax2, TT.gMin2, TT.gInt, TT.gListA, TT.gAll, TT.isB, TT.isS, TT.isI, TT.seqOf, TT.lstOf, TT.lstLike, TT.kSet, TT.mTake, TT.fz, TT.fzL, TT.setSlot, TT.kRet, TT.mPut, TT.kPut2, TT.mlsAt, TT.setMls, TT.keepP, TT.keep1, TT.imm, TT.mLst, TT.mTup, TT.mLc, TT.okWipe, TT.wipeS, TT.SV.isPar, TT.kRange1, TT.mRow, TT.kRow, TT.rowOf, TT.mChain, TT.mAndV, TT.mOrV, TT.mNotV, TT.mAnd, TT.mOr, TT.mNot, TT.mIf, TT.tru, TT.truD, TT.mSl, TT.opP, TT.gSl, TT.mAppend, TT.kAppend, TT.mExtend, TT.kExtend, TT.only, TT.gTupD, TT.gsCons, TT.gsNil, TT.gEqA, TT.gNeA, TT.eqB, TT.scEq, TT.gIn, TT.gNotIn, TT.inB, TT.smallI, hx, h1, made]
abbrev LET : Str := "abcdefghijklmnopqrstuvwxyz"
abbrev CAP : Str := "ABCDEFGHIJKLMNOPQRSTUVWXYZ"
abbrev FIG : Str := "0123456789"
theorem name_ok (x : Str) (hx : x.length ≤ sizeLine) : f_is_name [.loc (.str x)] = some (.ok (.val (.bl (made x LET 6))) [.un]) := by
  simp [f_is_name, b_is_name, TT.mDef, TT.mCall, TT.mEnd, TT.mPass, TT.mPass1, TT.mBack, TT.mBack1, TT.mkSs, TT.mkS, TT.sSeq, TT.sIf, TT.sSet, TT.sRet, TT.sOf, TT.sExpr, TT.sNext, TT.sFor, TT.sAsg, TT.sPar, TT.setSs, TT.mTakeL, TT.mOp2, TT.mOpN, TT.mCons, TT.mb, TT.mr, TT.mo, TT.mName, TT.slot, TT.SV.d?, TT.op2, TT.opN, TT.rs, TT.rsL, TT.gIx, TT.gAdd, TT.gSub, TT.gMul, TT.gFdiv, TT.gMod, TT.gPow, TT.gLt, TT.gLe, TT.gGt, TT.gGe, TT.gI2, TT.gLen, TT.gMax2, TT.gMin2, TT.gInt, TT.gListA, TT.gAll, TT.isB, TT.isS, TT.isI, TT.seqOf, TT.lstOf, TT.lstLike, TT.kSet, TT.mTake, TT.fz, TT.fzL, TT.setSlot, TT.kRet, TT.mPut, TT.kPut2, TT.mlsAt, TT.setMls, TT.keepP, TT.keep1, TT.imm, TT.mLst, TT.mTup, TT.mLc, TT.okWipe, TT.wipeS, TT.SV.isPar, TT.kRange1, TT.mRow, TT.kRow, TT.rowOf, TT.mChain, TT.mAndV, TT.mOrV, TT.mNotV, TT.mAnd, TT.mOr, TT.mNot, TT.mIf, TT.tru, TT.truD, TT.mSl, TT.opP, TT.gSl, TT.mAppend, TT.kAppend, TT.mExtend, TT.kExtend, TT.only, TT.gTupD, TT.gsCons, TT.gsNil, TT.gEqA, TT.gNeA, TT.eqB, TT.scEq, TT.gIn, TT.gNotIn, TT.inB, TT.smallI, made_ok _ _ _ hx]
def mk (x : Str) : Bool := inF (.str x) (q_MARKS.map dvD)
theorem in_marks (x : Str) : TT.gIn (.str x) (.tup (q_MARKS.map dvD)) = some (.bl (mk x)) := rfl
theorem sign_ok (x : Str) (hx : x.length ≤ sizeLine) : f_is_sign [.loc (.str x)] = some (.ok (.val (.bl (mk x || made x CAP 6))) [.un]) := by
  cases h : mk x <;> simp [f_is_sign, b_is_sign, TT.mDef, TT.mCall, TT.mEnd, TT.mPass, TT.mPass1, TT.mBack, TT.mBack1, TT.mkSs, TT.mkS, TT.sSeq, TT.sIf, TT.sSet, TT.sRet, TT.sOf, TT.sExpr, TT.sNext, TT.sFor, TT.sAsg, TT.sPar, TT.setSs, TT.mTakeL, TT.mOp2, TT.mOpN, TT.mCons, TT.mb, TT.mr, TT.mo, TT.mName, TT.slot, TT.SV.d?, TT.op2, TT.opN, TT.rs, TT.rsL, TT.gIx, TT.gAdd, TT.gSub, TT.gMul, TT.gFdiv, TT.gMod, TT.gPow, TT.gLt, TT.gLe, TT.gGt, TT.gGe, TT.gI2, TT.gLen, TT.gMax2, TT.gMin2, TT.gInt, TT.gListA, TT.gAll, TT.isB, TT.isS, TT.isI, TT.seqOf, TT.lstOf, TT.lstLike, TT.kSet, TT.mTake, TT.fz, TT.fzL, TT.setSlot, TT.kRet, TT.mPut, TT.kPut2, TT.mlsAt, TT.setMls, TT.keepP, TT.keep1, TT.imm, TT.mLst, TT.mTup, TT.mLc, TT.okWipe, TT.wipeS, TT.SV.isPar, TT.kRange1, TT.mRow, TT.kRow, TT.rowOf, TT.mChain, TT.mAndV, TT.mOrV, TT.mNotV, TT.mAnd, TT.mOr, TT.mNot, TT.mIf, TT.tru, TT.truD, TT.mSl, TT.opP, TT.gSl, TT.mAppend, TT.kAppend, TT.mExtend, TT.kExtend, TT.only, TT.gTupD, TT.gsCons, TT.gsNil, TT.gEqA, TT.gNeA, TT.eqB, TT.scEq, TT.gIn, TT.gNotIn, TT.inB, TT.smallI, -TT.gIn, in_marks, made_ok _ _ _ hx, h]
def P1 (x : Str) : Str := (Txt.partition x (Str.ofString ".")).1
def P3 (x : Str) : Str := (Txt.partition x (Str.ofString ".")).2.2
theorem sub_len (x : Str) (i j : Nat) : (Builtin.Str.strSub x i j).length ≤ x.length := by unfold Builtin.Str.strSub Str.length; simp; omega
theorem P1_len (x : Str) : (P1 x).length ≤ x.length := by
  unfold P1 Txt.partition
  split
  · exact sub_len _ _ _
  · exact Nat.le_refl _
theorem P3_len (x : Str) : (P3 x).length ≤ x.length := by
  unfold P3 Txt.partition
  split
  · exact sub_len _ _ _
  · exact Nat.zero_le _
theorem part_ok (x : Str) (hx : x.length ≤ sizeLine) : gPart x (.str (Str.ofString ".")) = some (.tup [.str (P1 x), .str (Txt.partition x (Str.ofString ".")).2.1, .str (P3 x)]) := by
  show (if (Str.ofString ".").length ≠ 0 ∧ x.length ≤ sizeLine then _ else _) = _
  rw [if_pos ⟨by decide, hx⟩]; rfl
theorem call_ok (x : Str) (hx : x.length ≤ sizeLine) : f_is_call [.loc (.str x)] = some (.ok (.val (.bl (made (P1 x) LET 6 && made (P3 x) LET 6))) [.un]) := by
  have e1 := name_ok (P1 x) (Nat.le_trans (P1_len x) hx)
  have e3 := name_ok (P3 x) (Nat.le_trans (P3_len x) hx)
  cases h : made (P1 x) LET 6 <;> rw [h] at e1 <;> simp [f_is_call, b_is_call, TT.mDef, TT.mCall, TT.mEnd, TT.mPass, TT.mPass1, TT.mBack, TT.mBack1, TT.mkSs, TT.mkS, TT.sSeq, TT.sIf, TT.sSet, TT.sRet, TT.sOf, TT.sExpr, TT.sNext, TT.sFor, TT.sAsg, TT.sPar, TT.setSs, TT.mTakeL, TT.mOp2, TT.mOpN, TT.mCons, TT.mb, TT.mr, TT.mo, TT.mName, TT.slot, TT.SV.d?, TT.op2, TT.opN, TT.rs, TT.rsL, TT.gIx, TT.gAdd, TT.gSub, TT.gMul, TT.gFdiv, TT.gMod, TT.gPow, TT.gLt, TT.gLe, TT.gGt, TT.gGe, TT.gI2, TT.gLen, TT.gMax2, TT.gMin2, TT.gInt, TT.gListA, TT.gAll, TT.isB, TT.isS, TT.isI, TT.seqOf, TT.lstOf, TT.lstLike, TT.kSet, TT.mTake, TT.fz, TT.fzL, TT.setSlot, TT.kRet, TT.mPut, TT.kPut2, TT.mlsAt, TT.setMls, TT.keepP, TT.keep1, TT.imm, TT.mLst, TT.mTup, TT.mLc, TT.okWipe, TT.wipeS, TT.SV.isPar, TT.kRange1, TT.mRow, TT.kRow, TT.rowOf, TT.mChain, TT.mAndV, TT.mOrV, TT.mNotV, TT.mAnd, TT.mOr, TT.mNot, TT.mIf, TT.tru, TT.truD, TT.mSl, TT.opP, TT.gSl, TT.mAppend, TT.kAppend, TT.mExtend, TT.kExtend, TT.only, TT.gTupD, TT.gsCons, TT.gsNil, TT.gEqA, TT.gNeA, TT.eqB, TT.scEq, TT.gIn, TT.gNotIn, TT.inB, TT.smallI, part_ok x hx, e1, e3]
theorem made_dig {x : Str} (h : made x FIG 3 = true) : 1 ≤ x.length ∧ x.length ≤ 3 ∧ ∀ c ∈ L x, 48 ≤ c ∧ c ≤ 57 := by
  unfold made at h
  simp only [Bool.and_eq_true, decide_eq_true_eq] at h
  refine ⟨by omega, by omega, fun c hc' => ?_⟩
  have q := List.all_eq_true.mp h.2 c hc'
  unfold hc at q
  have q := of_decide_eq_true q
  have e : FIG.cps.toList = [48, 49, 50, 51, 52, 53, 54, 55, 56, 57] := by decide +kernel
  rw [e] at q
  simp at q
  omega
def first (x : Str) : Nat := (L x).headD 0
def lead (x : Str) : Bool := decide ((⟨#[first x]⟩ : Str) = Str.ofString "0")
def numv (x : Str) : D := if made x FIG 3 && !(decide (1 < x.length) && lead x) then .int ((NumText.digitsVal (L x) : Nat) : Int) else .non
theorem int_ok {x : Str} (h : made x FIG 3 = true) : gInt [.str x] = some (.int ((NumText.digitsVal (L x) : Nat) : Int)) := by
  obtain ⟨h1, h2, h3⟩ := made_dig h
  have e := int_S (a := L x) (List.all_eq_true.mpr fun c hc' => by have := h3 c hc'; simp; omega) (fun z => by rw [← L_len, z] at h1; cases h1) (by rw [L_len]; omega)
  have e2 : S (L x) = x := S_tl x
  rw [e2] at e
  unfold gInt
  simp only [e, Option.bind_some]
  rw [if_pos (by omega)]
theorem first_ok {x : Str} (h : 1 ≤ x.length) : atI x.cps.toList 0 = some (first x) := by
  have hl := L_len x
  unfold first L at *
  cases e : x.cps.toList with
  | nil => rw [e] at hl; simp at hl; omega
  | cons c r => simp [atI, ixN]
theorem number_ok (x : Str) (hx : x.length ≤ sizeLine) : f_number_of [.loc (.str x)] = some (.ok (.val (numv x)) [.un]) := by
  have em := made_ok x FIG 3 hx
  cases hm : made x FIG 3 with
  | false => rw [hm] at em; simp [f_number_of, b_number_of, TT.mDef, TT.mCall, TT.mEnd, TT.mPass, TT.mPass1, TT.mBack, TT.mBack1, TT.mkSs, TT.mkS, TT.sSeq, TT.sIf, TT.sSet, TT.sRet, TT.sOf, TT.sExpr, TT.sNext, TT.sFor, TT.sAsg, TT.sPar, TT.setSs, TT.mTakeL, TT.mOp2, TT.mOpN, TT.mCons, TT.mb, TT.mr, TT.mo, TT.mName, TT.slot, TT.SV.d?, TT.op2, TT.opN, TT.rs, TT.rsL, TT.gIx, TT.gAdd, TT.gSub, TT.gMul, TT.gFdiv, TT.gMod, TT.gPow, TT.gLt, TT.gLe, TT.gGt, TT.gGe, TT.gI2, TT.gLen, TT.gMax2, TT.gMin2, TT.gInt, TT.gListA, TT.gAll, TT.isB, TT.isS, TT.isI, TT.seqOf, TT.lstOf, TT.lstLike, TT.kSet, TT.mTake, TT.fz, TT.fzL, TT.setSlot, TT.kRet, TT.mPut, TT.kPut2, TT.mlsAt, TT.setMls, TT.keepP, TT.keep1, TT.imm, TT.mLst, TT.mTup, TT.mLc, TT.okWipe, TT.wipeS, TT.SV.isPar, TT.kRange1, TT.mRow, TT.kRow, TT.rowOf, TT.mChain, TT.mAndV, TT.mOrV, TT.mNotV, TT.mAnd, TT.mOr, TT.mNot, TT.mIf, TT.tru, TT.truD, TT.mSl, TT.opP, TT.gSl, TT.mAppend, TT.kAppend, TT.mExtend, TT.kExtend, TT.only, TT.gTupD, TT.gsCons, TT.gsNil, TT.gEqA, TT.gNeA, TT.eqB, TT.scEq, TT.gIn, TT.gNotIn, TT.inB, TT.smallI, em, numv, hm]
  | true =>
    obtain ⟨h1, h2, h3⟩ := made_dig hm
    rw [hm] at em
    have ei := int_ok hm
    have ef := first_ok h1
    by_cases hl : 1 < x.length
    · have hli : (1 : Int) < (x.length : Int) := by omega
      cases hd : lead x with
      | false =>
        have hd2 := of_decide_eq_false hd
        simp [f_number_of, b_number_of, TT.mDef, TT.mCall, TT.mEnd, TT.mPass, TT.mPass1, TT.mBack, TT.mBack1, TT.mkSs, TT.mkS, TT.sSeq, TT.sIf, TT.sSet, TT.sRet, TT.sOf, TT.sExpr, TT.sNext, TT.sFor, TT.sAsg, TT.sPar, TT.setSs, TT.mTakeL, TT.mOp2, TT.mOpN, TT.mCons, TT.mb, TT.mr, TT.mo, TT.mName, TT.slot, TT.SV.d?, TT.op2, TT.opN, TT.rs, TT.rsL, TT.gIx, TT.gAdd, TT.gSub, TT.gMul, TT.gFdiv, TT.gMod, TT.gPow, TT.gLt, TT.gLe, TT.gGt, TT.gGe, TT.gI2, TT.gLen, TT.gMax2, TT.gMin2, TT.gInt, TT.gListA, TT.gAll, TT.isB, TT.isS, TT.isI, TT.seqOf, TT.lstOf, TT.lstLike, TT.kSet, TT.mTake, TT.fz, TT.fzL, TT.setSlot, TT.kRet, TT.mPut, TT.kPut2, TT.mlsAt, TT.setMls, TT.keepP, TT.keep1, TT.imm, TT.mLst, TT.mTup, TT.mLc, TT.okWipe, TT.wipeS, TT.SV.isPar, TT.kRange1, TT.mRow, TT.kRow, TT.rowOf, TT.mChain, TT.mAndV, TT.mOrV, TT.mNotV, TT.mAnd, TT.mOr, TT.mNot, TT.mIf, TT.tru, TT.truD, TT.mSl, TT.opP, TT.gSl, TT.mAppend, TT.kAppend, TT.mExtend, TT.kExtend, TT.only, TT.gTupD, TT.gsCons, TT.gsNil, TT.gEqA, TT.gNeA, TT.eqB, TT.scEq, TT.gIn, TT.gNotIn, TT.inB, TT.smallI, -TT.gInt, em, numv, hm, hx, hl, hli, ef, hd, hd2, ei]
      | true =>
        have hd2 := of_decide_eq_true hd
        simp [f_number_of, b_number_of, TT.mDef, TT.mCall, TT.mEnd, TT.mPass, TT.mPass1, TT.mBack, TT.mBack1, TT.mkSs, TT.mkS, TT.sSeq, TT.sIf, TT.sSet, TT.sRet, TT.sOf, TT.sExpr, TT.sNext, TT.sFor, TT.sAsg, TT.sPar, TT.setSs, TT.mTakeL, TT.mOp2, TT.mOpN, TT.mCons, TT.mb, TT.mr, TT.mo, TT.mName, TT.slot, TT.SV.d?, TT.op2, TT.opN, TT.rs, TT.rsL, TT.gIx, TT.gAdd, TT.gSub, TT.gMul, TT.gFdiv, TT.gMod, TT.gPow, TT.gLt, TT.gLe, TT.gGt, TT.gGe, TT.gI2, TT.gLen, TT.gMax2, TT.gMin2, TT.gInt, TT.gListA, TT.gAll, TT.isB, TT.isS, TT.isI, TT.seqOf, TT.lstOf, TT.lstLike, TT.kSet, TT.mTake, TT.fz, TT.fzL, TT.setSlot, TT.kRet, TT.mPut, TT.kPut2, TT.mlsAt, TT.setMls, TT.keepP, TT.keep1, TT.imm, TT.mLst, TT.mTup, TT.mLc, TT.okWipe, TT.wipeS, TT.SV.isPar, TT.kRange1, TT.mRow, TT.kRow, TT.rowOf, TT.mChain, TT.mAndV, TT.mOrV, TT.mNotV, TT.mAnd, TT.mOr, TT.mNot, TT.mIf, TT.tru, TT.truD, TT.mSl, TT.opP, TT.gSl, TT.mAppend, TT.kAppend, TT.mExtend, TT.kExtend, TT.only, TT.gTupD, TT.gsCons, TT.gsNil, TT.gEqA, TT.gNeA, TT.eqB, TT.scEq, TT.gIn, TT.gNotIn, TT.inB, TT.smallI, -TT.gInt, em, numv, hm, hx, hl, hli, ef, hd, hd2, ei]
    · have hli : ¬ (1 : Int) < (x.length : Int) := by omega
      simp [f_number_of, b_number_of, TT.mDef, TT.mCall, TT.mEnd, TT.mPass, TT.mPass1, TT.mBack, TT.mBack1, TT.mkSs, TT.mkS, TT.sSeq, TT.sIf, TT.sSet, TT.sRet, TT.sOf, TT.sExpr, TT.sNext, TT.sFor, TT.sAsg, TT.sPar, TT.setSs, TT.mTakeL, TT.mOp2, TT.mOpN, TT.mCons, TT.mb, TT.mr, TT.mo, TT.mName, TT.slot, TT.SV.d?, TT.op2, TT.opN, TT.rs, TT.rsL, TT.gIx, TT.gAdd, TT.gSub, TT.gMul, TT.gFdiv, TT.gMod, TT.gPow, TT.gLt, TT.gLe, TT.gGt, TT.gGe, TT.gI2, TT.gLen, TT.gMax2, TT.gMin2, TT.gInt, TT.gListA, TT.gAll, TT.isB, TT.isS, TT.isI, TT.seqOf, TT.lstOf, TT.lstLike, TT.kSet, TT.mTake, TT.fz, TT.fzL, TT.setSlot, TT.kRet, TT.mPut, TT.kPut2, TT.mlsAt, TT.setMls, TT.keepP, TT.keep1, TT.imm, TT.mLst, TT.mTup, TT.mLc, TT.okWipe, TT.wipeS, TT.SV.isPar, TT.kRange1, TT.mRow, TT.kRow, TT.rowOf, TT.mChain, TT.mAndV, TT.mOrV, TT.mNotV, TT.mAnd, TT.mOr, TT.mNot, TT.mIf, TT.tru, TT.truD, TT.mSl, TT.opP, TT.gSl, TT.mAppend, TT.kAppend, TT.mExtend, TT.kExtend, TT.only, TT.gTupD, TT.gsCons, TT.gsNil, TT.gEqA, TT.gNeA, TT.eqB, TT.scEq, TT.gIn, TT.gNotIn, TT.inB, TT.smallI, -TT.gInt, em, numv, hm, hx, hl, hli, ei]
theorem eq_nil (l : List Nat) (h : ∀ c ∈ l, c < 128) : TT.gEqA (.mls (l.map fun c => tx [c])) (.mls []) = some (.bl l.isEmpty) := by
  have e1 : ∀ l : List Nat, pdtL (l.map fun c => tx [c]) = some (l.map fun c => PyData.str (S [c])) := fun l => by
    induction l with
    | nil => rfl
    | cons c l ih => rw [List.map_cons]; unfold pdtL; rw [ih]; rfl
  have e2 : ∀ l : List Nat, (∀ c ∈ l, c < 128) → PyData.canLayAll0 (l.map fun c => PyData.str (S [c])) = true := fun l h => by
    induction l with
    | nil => rfl
    | cons c l ih =>
      rw [List.map_cons]
      unfold PyData.canLayAll0
      rw [ih fun x hx => h x (List.mem_cons_of_mem _ hx), Bool.and_true]
      have := h c List.mem_cons_self
      unfold PyData.canLay0 PyData.strOk
      simp; omega
  have e3 : ∀ l : List Nat, PyData.depthAll (l.map fun c => PyData.str (S [c])) = 0 := fun l => by
    induction l with
    | nil => rfl
    | cons c l ih => rw [List.map_cons]; unfold PyData.depthAll; rw [ih]; rfl
  have s1 : SeqAt.shaped (.list (l.map fun c => PyData.str (S [c]))) = true := by
    unfold SeqAt.shaped PyData.canLay0 PyData.depth
    rw [e2 l h, e3]; rfl
  have e4 : pdt (.mls (l.map fun c => tx [c])) = some (.list (l.map fun c => PyData.str (S [c]))) := by unfold pdt; rw [e1]; rfl
  have e5 : gEqB (.mls (l.map fun c => tx [c])) (.mls []) = some (PyData.eqv (.list (l.map fun c => PyData.str (S [c]))) (.list [])) := by
    unfold gEqB
    rw [e4]
    show (if SeqAt.shaped (.list (l.map fun c => PyData.str (S [c]))) && SeqAt.shaped (.list []) then _ else _) = _
    rw [s1]; rfl
  unfold TT.gEqA eqB scEq
  simp only [e5]
  cases l <;> rfl
def bad (x s : Str) : List Nat := (L x).filter fun c => !hc s c
def wd (x s : Str) : Bool := (decide (0 < (x.length : Int)) && decide ((x.length : Int) < 7)) && (bad x s).isEmpty
theorem bad_map (x s : Str) : ((chars x).filter fun d => !hc s (hd d)).map (fun d => d) = (bad x s).map fun c => tx [c] := by
  unfold chars bad
  rw [List.map_id', List.filter_map]; rfl
theorem word_c (x s : Str) (hx : x.length ≤ sizeLine) : c2__law_is_word [.loc (.str x), .loc (.str s), .un] = some (.ok (.val (.mls ((bad x s).map fun c => tx [c]))) [.loc (.str x), .loc (.str s), .un]) := by
  have q := lcL_pure (t := setSlot 2) (c := q1__law_is_word) (e := mb e0__law_is_word mTake) (vs := [2]) (ρ := [.loc (.str x), .loc (.str s), .un]) (fun d => !hc s (hd d)) (fun d => d) (chars x) [] (fun d hd => by
    obtain ⟨c, _, rfl⟩ := List.mem_map.mp hd
    exact ⟨_, _, rfl, rfl, fun _ => ⟨rfl, rfl⟩, fun _ => ⟨_, _, rfl, rfl, rfl, rfl⟩⟩) (by rw [List.length_nil, Nat.zero_add, chars_len]; exact hx)
  rw [List.nil_append, bad_map] at q
  simp [c2__law_is_word, TT.mDef, TT.mCall, TT.mEnd, TT.mPass, TT.mPass1, TT.mBack, TT.mBack1, TT.mkSs, TT.mkS, TT.sSeq, TT.sIf, TT.sSet, TT.sRet, TT.sOf, TT.sExpr, TT.sNext, TT.sFor, TT.sAsg, TT.sPar, TT.setSs, TT.mTakeL, TT.mOp2, TT.mOpN, TT.mCons, TT.mb, TT.mr, TT.mo, TT.mName, TT.slot, TT.SV.d?, TT.op2, TT.opN, TT.rs, TT.rsL, TT.gIx, TT.gAdd, TT.gSub, TT.gMul, TT.gFdiv, TT.gMod, TT.gPow, TT.gLt, TT.gLe, TT.gGt, TT.gGe, TT.gI2, TT.gLen, TT.gMax2, TT.gMin2, TT.gInt, TT.gListA, TT.gAll, TT.isB, TT.isS, TT.isI, TT.seqOf, TT.lstOf, TT.lstLike, TT.kSet, TT.mTake, TT.fz, TT.fzL, TT.setSlot, TT.kRet, TT.mPut, TT.kPut2, TT.mlsAt, TT.setMls, TT.keepP, TT.keep1, TT.imm, TT.mLst, TT.mTup, TT.mLc, TT.okWipe, TT.wipeS, TT.SV.isPar, TT.kRange1, TT.mRow, TT.kRow, TT.rowOf, TT.mChain, TT.mAndV, TT.mOrV, TT.mNotV, TT.mAnd, TT.mOr, TT.mNot, TT.mIf, TT.tru, TT.truD, TT.mSl, TT.opP, TT.gSl, TT.mAppend, TT.kAppend, TT.mExtend, TT.kExtend, TT.only, TT.gTupD, TT.gsCons, TT.gsNil, TT.gEqA, TT.gNeA, TT.eqB, TT.scEq, TT.gIn, TT.gNotIn, TT.inB, TT.smallI]
  rw [q]
theorem is_word_ok (x s : Str) (hx : x.length ≤ sizeLine) (h8 : ok8 (L x)) : f__law_is_word [.loc (.str x), .loc (.str s)] = some (.ok (.val (.bl (wd x s))) [.un, .un]) := by
  have ec := word_c x s hx
  have ee := eq_nil (bad x s) fun c hc' => h8 c (List.mem_filter.mp hc').1
  by_cases h1 : 0 < x.length
  · by_cases h2 : (x.length : Int) < 7
    · simp [f__law_is_word, b__law_is_word, TT.mDef, TT.mCall, TT.mEnd, TT.mPass, TT.mPass1, TT.mBack, TT.mBack1, TT.mkSs, TT.mkS, TT.sSeq, TT.sIf, TT.sSet, TT.sRet, TT.sOf, TT.sExpr, TT.sNext, TT.sFor, TT.sAsg, TT.sPar, TT.setSs, TT.mTakeL, TT.mOp2, TT.mOpN, TT.mCons, TT.mb, TT.mr, TT.mo, TT.mName, TT.slot, TT.SV.d?, TT.op2, TT.opN, TT.rs, TT.rsL, TT.gIx, TT.gAdd, TT.gSub, TT.gMul, TT.gFdiv, TT.gMod, TT.gPow, TT.gLt, TT.gLe, TT.gGt, TT.gGe, TT.gI2, TT.gLen, TT.gMax2, TT.gMin2, TT.gInt, TT.gListA, TT.gAll, TT.isB, TT.isS, TT.isI, TT.seqOf, TT.lstOf, TT.lstLike, TT.kSet, TT.mTake, TT.fz, TT.fzL, TT.setSlot, TT.kRet, TT.mPut, TT.kPut2, TT.mlsAt, TT.setMls, TT.keepP, TT.keep1, TT.imm, TT.mLst, TT.mTup, TT.mLc, TT.okWipe, TT.wipeS, TT.SV.isPar, TT.kRange1, TT.mRow, TT.kRow, TT.rowOf, TT.mChain, TT.mAndV, TT.mOrV, TT.mNotV, TT.mAnd, TT.mOr, TT.mNot, TT.mIf, TT.tru, TT.truD, TT.mSl, TT.opP, TT.gSl, TT.mAppend, TT.kAppend, TT.mExtend, TT.kExtend, TT.only, TT.gTupD, TT.gsCons, TT.gsNil, TT.gEqA, TT.gNeA, TT.eqB, TT.scEq, TT.gIn, TT.gNotIn, TT.inB, TT.smallI, -TT.gEqA, ec, ee, hx, h1, h2, wd]
    · simp [f__law_is_word, b__law_is_word, TT.mDef, TT.mCall, TT.mEnd, TT.mPass, TT.mPass1, TT.mBack, TT.mBack1, TT.mkSs, TT.mkS, TT.sSeq, TT.sIf, TT.sSet, TT.sRet, TT.sOf, TT.sExpr, TT.sNext, TT.sFor, TT.sAsg, TT.sPar, TT.setSs, TT.mTakeL, TT.mOp2, TT.mOpN, TT.mCons, TT.mb, TT.mr, TT.mo, TT.mName, TT.slot, TT.SV.d?, TT.op2, TT.opN, TT.rs, TT.rsL, TT.gIx, TT.gAdd, TT.gSub, TT.gMul, TT.gFdiv, TT.gMod, TT.gPow, TT.gLt, TT.gLe, TT.gGt, TT.gGe, TT.gI2, TT.gLen, TT.gMax2, TT.gMin2, TT.gInt, TT.gListA, TT.gAll, TT.isB, TT.isS, TT.isI, TT.seqOf, TT.lstOf, TT.lstLike, TT.kSet, TT.mTake, TT.fz, TT.fzL, TT.setSlot, TT.kRet, TT.mPut, TT.kPut2, TT.mlsAt, TT.setMls, TT.keepP, TT.keep1, TT.imm, TT.mLst, TT.mTup, TT.mLc, TT.okWipe, TT.wipeS, TT.SV.isPar, TT.kRange1, TT.mRow, TT.kRow, TT.rowOf, TT.mChain, TT.mAndV, TT.mOrV, TT.mNotV, TT.mAnd, TT.mOr, TT.mNot, TT.mIf, TT.tru, TT.truD, TT.mSl, TT.opP, TT.gSl, TT.mAppend, TT.kAppend, TT.mExtend, TT.kExtend, TT.only, TT.gTupD, TT.gsCons, TT.gsNil, TT.gEqA, TT.gNeA, TT.eqB, TT.scEq, TT.gIn, TT.gNotIn, TT.inB, TT.smallI, hx, h1, h2, wd]
  · simp [f__law_is_word, b__law_is_word, TT.mDef, TT.mCall, TT.mEnd, TT.mPass, TT.mPass1, TT.mBack, TT.mBack1, TT.mkSs, TT.mkS, TT.sSeq, TT.sIf, TT.sSet, TT.sRet, TT.sOf, TT.sExpr, TT.sNext, TT.sFor, TT.sAsg, TT.sPar, TT.setSs, TT.mTakeL, TT.mOp2, TT.mOpN, TT.mCons, TT.mb, TT.mr, TT.mo, TT.mName, TT.slot, TT.SV.d?, TT.op2, TT.opN, TT.rs, TT.rsL, TT.gIx, TT.gAdd, TT.gSub, TT.gMul, TT.gFdiv, TT.gMod, TT.gPow, TT.gLt, TT.gLe, TT.gGt, TT.gGe, TT.gI2, TT.gLen, TT.gMax2, TT.gMin2, TT.gInt, TT.gListA, TT.gAll, TT.isB, TT.isS, TT.isI, TT.seqOf, TT.lstOf, TT.lstLike, TT.kSet, TT.mTake, TT.fz, TT.fzL, TT.setSlot, TT.kRet, TT.mPut, TT.kPut2, TT.mlsAt, TT.setMls, TT.keepP, TT.keep1, TT.imm, TT.mLst, TT.mTup, TT.mLc, TT.okWipe, TT.wipeS, TT.SV.isPar, TT.kRange1, TT.mRow, TT.kRow, TT.rowOf, TT.mChain, TT.mAndV, TT.mOrV, TT.mNotV, TT.mAnd, TT.mOr, TT.mNot, TT.mIf, TT.tru, TT.truD, TT.mSl, TT.opP, TT.gSl, TT.mAppend, TT.kAppend, TT.mExtend, TT.kExtend, TT.only, TT.gTupD, TT.gsCons, TT.gsNil, TT.gEqA, TT.gNeA, TT.eqB, TT.scEq, TT.gIn, TT.gNotIn, TT.inB, TT.smallI, hx, h1, wd]
theorem wd_made (x s : Str) : wd x s = made x s 6 := by
  have e : (bad x s).isEmpty = (L x).all (hc s) := by
    unfold bad
    induction L x with
    | nil => rfl
    | cons c l ih =>
      rw [List.all_cons, List.filter_cons]
      cases h : hc s c with
      | false => rfl
      | true => rw [← ih]; rfl
  unfold wd made
  rw [e]
  have e1 : decide (0 < (x.length : Int)) = decide (1 ≤ (x.length : Int)) := decide_eq_decide.mpr (by omega)
  have e2 : decide ((x.length : Int) < 7) = decide ((x.length : Int) ≤ 6) := decide_eq_decide.mpr (by omega)
  rw [e1, e2]
def at_ (x : Str) : Int := Txt.find x (Str.ofString ".")
def cd (x : Str) : Bool := decide (0 < at_ x) && (wd (cutS x none (some (at_ x))) LET && wd (cutS x (some (at_ x + 1)) none) LET)
def fine (x : Str) : Bool := decide ((x.length : Int) < 4) && ((bad x FIG).isEmpty && (decide (0 < x.length) && (!lead x || decide (x = Str.ofString "0"))))
def numd (x : Str) : D := if fine x then .int ((NumText.digitsVal (L x) : Nat) : Int) else .non
theorem idx_ok : ∀ c : Nat, 48 ≤ c → c ≤ 57 → gIndexS FIG (.str ⟨#[c]⟩) = some (.int ((c - 48 : Nat) : Int)) := by
  have q : ∀ i : Fin 10, Txt.index0 FIG ⟨#[48 + i.val]⟩ = some i.val := by decide +kernel
  intro c h1 h2
  have := q ⟨c - 48, by omega⟩
  rw [show 48 + (c - 48) = c by omega] at this
  show (Txt.index0 FIG ⟨#[c]⟩).map _ = _
  rw [this]; rfl
theorem dig_snoc (p : List Nat) (c : Nat) : NumText.digitsVal (p ++ [c]) = NumText.digitsVal p * 10 + (c - 48) := by
  unfold NumText.digitsVal
  rw [List.foldl_append]; rfl
theorem loop_ok (x : Str) (p1 p3 p4 p5 p6 : SV) (hd : ∀ c ∈ L x, 48 ≤ c ∧ c ≤ 57) : ∃ s8, l4__law_due [.loc (.str x), p1, .loc (.str FIG), p3, p4, p5, p6, .loc (.int 0), .un] = some (.nx [.loc (.str x), p1, .loc (.str FIG), p3, p4, p5, p6, .loc (.int ((NumText.digitsVal (L x) : Nat) : Int)), s8]) := by
  obtain ⟨ρ', e, p, s8, hp, hs, e2⟩ := forL_inv (t := setSlot 8) (b := o3__law_due) (fun ds ρ => ∃ p s8, (s8 = .un ∨ ∃ d, s8 = .loc d) ∧ (∃ r, L x = p ++ r ∧ ds = r.map fun c => D.str ⟨#[c]⟩) ∧ ρ = [.loc (.str x), p1, .loc (.str FIG), p3, p4, p5, p6, .loc (.int ((NumText.digitsVal p : Nat) : Int)), s8]) (fun d ds ρ ⟨p, s8, h8, ⟨r, hr, he⟩, eρ⟩ => by
    cases r with
    | nil => cases he
    | cons c r =>
      rw [List.map_cons] at he
      injection he with he1 he2
      subst he1 eρ
      have hc := hd c (by rw [hr]; simp)
      have hi := idx_ok c hc.1 hc.2
      refine ⟨[.loc (.str x), p1, .loc (.str FIG), p3, p4, p5, p6, .loc (.int ((NumText.digitsVal p : Nat) : Int)), .loc (.str ⟨#[c]⟩)], [.loc (.str x), p1, .loc (.str FIG), p3, p4, p5, p6, .loc (.int ((NumText.digitsVal (p ++ [c]) : Nat) : Int)), .loc (.str ⟨#[c]⟩)], ?_, .inl ?_, p ++ [c], _, .inr ⟨_, rfl⟩, ⟨r, by rw [hr]; simp, he2⟩, rfl⟩
      · rcases h8 with h | ⟨d, h⟩ <;> subst h <;> rfl
      · rw [dig_snoc]
        simp [o3__law_due, TT.mDef, TT.mCall, TT.mEnd, TT.mPass, TT.mPass1, TT.mBack, TT.mBack1, TT.mkSs, TT.mkS, TT.sSeq, TT.sIf, TT.sSet, TT.sRet, TT.sOf, TT.sExpr, TT.sNext, TT.sFor, TT.sAsg, TT.sPar, TT.setSs, TT.mTakeL, TT.mOp2, TT.mOpN, TT.mCons, TT.mb, TT.mr, TT.mo, TT.mName, TT.slot, TT.SV.d?, TT.op2, TT.opN, TT.rs, TT.rsL, TT.gIx, TT.gAdd, TT.gSub, TT.gMul, TT.gFdiv, TT.gMod, TT.gPow, TT.gLt, TT.gLe, TT.gGt, TT.gGe, TT.gI2, TT.gLen, TT.gMax2, TT.gMin2, TT.gInt, TT.gListA, TT.gAll, TT.isB, TT.isS, TT.isI, TT.seqOf, TT.lstOf, TT.lstLike, TT.kSet, TT.mTake, TT.fz, TT.fzL, TT.setSlot, TT.kRet, TT.mPut, TT.kPut2, TT.mlsAt, TT.setMls, TT.keepP, TT.keep1, TT.imm, TT.mLst, TT.mTup, TT.mLc, TT.okWipe, TT.wipeS, TT.SV.isPar, TT.kRange1, TT.mRow, TT.kRow, TT.rowOf, TT.mChain, TT.mAndV, TT.mOrV, TT.mNotV, TT.mAnd, TT.mOr, TT.mNot, TT.mIf, TT.tru, TT.truD, TT.mSl, TT.opP, TT.gSl, TT.mAppend, TT.kAppend, TT.mExtend, TT.kExtend, TT.only, TT.gTupD, TT.gsCons, TT.gsNil, TT.gEqA, TT.gNeA, TT.eqB, TT.scEq, TT.gIn, TT.gNotIn, TT.inB, TT.smallI, hi]
        omega) (chars x) [.loc (.str x), p1, .loc (.str FIG), p3, p4, p5, p6, .loc (.int 0), .un] ⟨[], .un, .inl rfl, ⟨L x, rfl, rfl⟩, rfl⟩
  obtain ⟨r, hr, he⟩ := hs
  have hr0 : r = [] := by cases r with
    | nil => rfl
    | cons c r => cases he
  subst hr0
  rw [List.append_nil] at hr
  subst e2
  rw [← hr] at e
  exact ⟨s8, by simp [l4__law_due, TT.mDef, TT.mCall, TT.mEnd, TT.mPass, TT.mPass1, TT.mBack, TT.mBack1, TT.mkSs, TT.mkS, TT.sSeq, TT.sIf, TT.sSet, TT.sRet, TT.sOf, TT.sExpr, TT.sNext, TT.sFor, TT.sAsg, TT.sPar, TT.setSs, TT.mTakeL, TT.mOp2, TT.mOpN, TT.mCons, TT.mb, TT.mr, TT.mo, TT.mName, TT.slot, TT.SV.d?, TT.op2, TT.opN, TT.rs, TT.rsL, TT.gIx, TT.gAdd, TT.gSub, TT.gMul, TT.gFdiv, TT.gMod, TT.gPow, TT.gLt, TT.gLe, TT.gGt, TT.gGe, TT.gI2, TT.gLen, TT.gMax2, TT.gMin2, TT.gInt, TT.gListA, TT.gAll, TT.isB, TT.isS, TT.isI, TT.seqOf, TT.lstOf, TT.lstLike, TT.kSet, TT.mTake, TT.fz, TT.fzL, TT.setSlot, TT.kRet, TT.mPut, TT.kPut2, TT.mlsAt, TT.setMls, TT.keepP, TT.keep1, TT.imm, TT.mLst, TT.mTup, TT.mLc, TT.okWipe, TT.wipeS, TT.SV.isPar, TT.kRange1, TT.mRow, TT.kRow, TT.rowOf, TT.mChain, TT.mAndV, TT.mOrV, TT.mNotV, TT.mAnd, TT.mOr, TT.mNot, TT.mIf, TT.tru, TT.truD, TT.mSl, TT.opP, TT.gSl, TT.mAppend, TT.kAppend, TT.mExtend, TT.kExtend, TT.only, TT.gTupD, TT.gsCons, TT.gsNil, TT.gEqA, TT.gNeA, TT.eqB, TT.scEq, TT.gIn, TT.gNotIn, TT.inB, TT.smallI]; rw [e]⟩
theorem due_c (x : Str) (p1 p3 p4 p5 p6 p7 : SV) (hx : x.length ≤ sizeLine) : c2__law_due [.loc (.str x), p1, .loc (.str FIG), p3, p4, p5, p6, p7, .un] = some (.ok (.val (.mls ((bad x FIG).map fun c => tx [c]))) [.loc (.str x), p1, .loc (.str FIG), p3, p4, p5, p6, p7, .un]) := by
  have q := lcL_pure (t := setSlot 8) (c := q1__law_due) (e := mb e0__law_due mTake) (vs := [8]) (ρ := [.loc (.str x), p1, .loc (.str FIG), p3, p4, p5, p6, p7, .un]) (fun d => !hc FIG (hd d)) (fun d => d) (chars x) [] (fun d hd => by
    obtain ⟨c, _, rfl⟩ := List.mem_map.mp hd
    exact ⟨_, _, rfl, rfl, fun _ => ⟨rfl, rfl⟩, fun _ => ⟨_, _, rfl, rfl, rfl, rfl⟩⟩) (by rw [List.length_nil, Nat.zero_add, chars_len]; exact hx)
  rw [List.nil_append, bad_map] at q
  simp [c2__law_due, TT.mDef, TT.mCall, TT.mEnd, TT.mPass, TT.mPass1, TT.mBack, TT.mBack1, TT.mkSs, TT.mkS, TT.sSeq, TT.sIf, TT.sSet, TT.sRet, TT.sOf, TT.sExpr, TT.sNext, TT.sFor, TT.sAsg, TT.sPar, TT.setSs, TT.mTakeL, TT.mOp2, TT.mOpN, TT.mCons, TT.mb, TT.mr, TT.mo, TT.mName, TT.slot, TT.SV.d?, TT.op2, TT.opN, TT.rs, TT.rsL, TT.gIx, TT.gAdd, TT.gSub, TT.gMul, TT.gFdiv, TT.gMod, TT.gPow, TT.gLt, TT.gLe, TT.gGt, TT.gGe, TT.gI2, TT.gLen, TT.gMax2, TT.gMin2, TT.gInt, TT.gListA, TT.gAll, TT.isB, TT.isS, TT.isI, TT.seqOf, TT.lstOf, TT.lstLike, TT.kSet, TT.mTake, TT.fz, TT.fzL, TT.setSlot, TT.kRet, TT.mPut, TT.kPut2, TT.mlsAt, TT.setMls, TT.keepP, TT.keep1, TT.imm, TT.mLst, TT.mTup, TT.mLc, TT.okWipe, TT.wipeS, TT.SV.isPar, TT.kRange1, TT.mRow, TT.kRow, TT.rowOf, TT.mChain, TT.mAndV, TT.mOrV, TT.mNotV, TT.mAnd, TT.mOr, TT.mNot, TT.mIf, TT.tru, TT.truD, TT.mSl, TT.opP, TT.gSl, TT.mAppend, TT.kAppend, TT.mExtend, TT.kExtend, TT.only, TT.gTupD, TT.gsCons, TT.gsNil, TT.gEqA, TT.gNeA, TT.eqB, TT.scEq, TT.gIn, TT.gNotIn, TT.inB, TT.smallI]
  rw [q]
theorem up_ok : gUpper (.str LET) = some (.str CAP) := by
  have e : Txt.upper LET = CAP := by
    have e1 : LET = S (L LET) := (S_tl LET).symm
    rw [e1, upper_S (by decide +kernel)]
    decide +kernel
  show (if LET.length ≤ 5592405 then some (D.str (Txt.upper LET)) else none) = _
  rw [e]; rfl
theorem find_ok (x : Str) : gFind x (.str (Str.ofString ".")) = some (.int (at_ x)) := rfl
theorem cut8 (x : Str) (lo hi : Option Int) (h8 : ok8 (L x)) : ok8 (L (cutS x lo hi)) := fun c h => h8 c (List.mem_of_mem_drop (List.mem_of_mem_take h))
theorem cut_len (x : Str) (lo hi : Option Int) : (cutS x lo hi).length ≤ x.length := by
  have e := L_len (cutS x lo hi)
  have e2 := L_len x
  rw [← e, ← e2]
  exact Nat.le_trans (List.length_take_le' ..) (by show (x.cps.toList.drop _).length ≤ _; rw [List.length_drop]; exact Nat.sub_le _ _)
theorem bad_dig {x : Str} (h : (bad x FIG).isEmpty = true) : ∀ c ∈ L x, 48 ≤ c ∧ c ≤ 57 := by
  intro c hc'
  have e : bad x FIG = [] := List.isEmpty_iff.mp h
  unfold bad at e
  have q := List.filter_eq_nil_iff.mp e c hc'
  simp at q
  unfold hc at q
  have q := of_decide_eq_true q
  have e : FIG.cps.toList = [48, 49, 50, 51, 52, 53, 54, 55, 56, 57] := by decide +kernel
  rw [e] at q
  simp at q
  omega
theorem seq_go {a b : SM} {ρ ρ1 : List SV} {o : Option Out} (h : a ρ = some (.nx ρ1)) (h2 : b ρ1 = o) : sSeq a b ρ = o := by unfold sSeq; rw [h]; exact h2
theorem def_go {x : Bool} {md : List Bool} {N : Nat} {s : SM} {ρ : List SV} {d : D} (ρ' : List SV) (h : s (ρ ++ List.replicate (N - md.length) .un) = some (.rt d ρ')) : mDef x md N s ρ = some (.ok (.val d) (keepP md ρ')) := by unfold mDef; rw [h]
def mks : List D := q_MARKS.map dvD
theorem in_mks (x : Str) : TT.gIn (.str x) (.mls mks) = some (.bl (mk x)) := rfl
theorem due_ok (x : Str) (hx : x.length ≤ sizeLine) (h8 : ok8 (L x)) : f__law_due [.loc (.str x)] = some (.ok (.val (.tup [.bl (wd x LET), .bl (wd x CAP || mk x), .bl (cd x), numd x])) [.un]) := by
  have w1 := is_word_ok x LET hx h8
  have w2 := is_word_ok x CAP hx h8
  have w3 := is_word_ok (cutS x none (some (at_ x))) LET (Nat.le_trans (cut_len _ _ _) hx) (cut8 _ _ _ h8)
  have w4 := is_word_ok (cutS x (some (at_ x + 1)) none) LET (Nat.le_trans (cut_len _ _ _) hx) (cut8 _ _ _ h8)
  have hfd := find_ok x
  have hup := up_ok
  have him := in_mks x
  have eg : ∃ s8, (numd x = numd x) ∧ f__law_due [.loc (.str x)] = some (.ok (.val (.tup [.bl (wd x LET), .bl (wd x CAP || mk x), .bl (cd x), numd x])) (keepP [false] [.loc (.str x), .loc (.str LET), .loc (.str FIG), .loc (.mls mks), .loc (.bl (wd x CAP || mk x)), .loc (.int (at_ x)), .loc (.bl (cd x)), .loc (numd x), s8])) := by
    have hn : ∃ s8, (sIf (mAnd (mb (mChain gLt gLt (mr (.val (.int 0))) (mOpN gLen (mCons (mName 0) (mr []))) (mr (.val (.int 4)))) isB) (mAnd (mb (mOp2 gEqA (c2__law_due) (mLst (mr []))) isB) (mOr (mb (mOp2 gNeA (mOp2 gIx (mName 0) (mr (.val (.int 0)))) (mr (.val (.str "0")))) isB) (mb (mOp2 gEqA (mName 0) (mr (.val (.str "0")))) isB)))) (sSeq (sSet 7 (mr (.val (.int 0)))) (l4__law_due)) (sNext))
      [.loc (.str x), .loc (.str LET), .loc (.str FIG), .loc (.mls mks), .loc (.bl (wd x CAP || mk x)), .loc (.int (at_ x)), .loc (.bl (cd x)), .loc .non, .un] = some (.nx [.loc (.str x), .loc (.str LET), .loc (.str FIG), .loc (.mls mks), .loc (.bl (wd x CAP || mk x)), .loc (.int (at_ x)), .loc (.bl (cd x)), .loc (numd x), s8]) := by
      have ec := due_c x (.loc (.str LET)) (.loc (.mls mks)) (.loc (.bl (wd x CAP || mk x))) (.loc (.int (at_ x))) (.loc (.bl (cd x))) (.loc .non) hx
      have ee := eq_nil (bad x FIG) fun c hc' => h8 c (List.mem_filter.mp hc').1
      by_cases h1 : 0 < x.length
      · by_cases h2 : (x.length : Int) < 4
        · have ef := first_ok h1
          cases h3 : (bad x FIG).isEmpty with
          | false => exact ⟨.un, by simp [TT.mDef, TT.mCall, TT.mEnd, TT.mPass, TT.mPass1, TT.mBack, TT.mBack1, TT.mkSs, TT.mkS, TT.sSeq, TT.sIf, TT.sSet, TT.sRet, TT.sOf, TT.sExpr, TT.sNext, TT.sFor, TT.sAsg, TT.sPar, TT.setSs, TT.mTakeL, TT.mOp2, TT.mOpN, TT.mCons, TT.mb, TT.mr, TT.mo, TT.mName, TT.slot, TT.SV.d?, TT.op2, TT.opN, TT.rs, TT.rsL, TT.gIx, TT.gAdd, TT.gSub, TT.gMul, TT.gFdiv, TT.gMod, TT.gPow, TT.gLt, TT.gLe, TT.gGt, TT.gGe, TT.gI2, TT.gLen, TT.gMax2, TT.gMin2, TT.gInt, TT.gListA, TT.gAll, TT.isB, TT.isS, TT.isI, TT.seqOf, TT.lstOf, TT.lstLike, TT.kSet, TT.mTake, TT.fz, TT.fzL, TT.setSlot, TT.kRet, TT.mPut, TT.kPut2, TT.mlsAt, TT.setMls, TT.keepP, TT.keep1, TT.imm, TT.mLst, TT.mTup, TT.mLc, TT.okWipe, TT.wipeS, TT.SV.isPar, TT.kRange1, TT.mRow, TT.kRow, TT.rowOf, TT.mChain, TT.mAndV, TT.mOrV, TT.mNotV, TT.mAnd, TT.mOr, TT.mNot, TT.mIf, TT.tru, TT.truD, TT.mSl, TT.opP, TT.gSl, TT.mAppend, TT.kAppend, TT.mExtend, TT.kExtend, TT.only, TT.gTupD, TT.gsCons, TT.gsNil, TT.gEqA, TT.gNeA, TT.eqB, TT.scEq, TT.gIn, TT.gNotIn, TT.inB, TT.smallI, -TT.gEqA, ec, ee, hx, h1, h2, h3, numd, fine]⟩
          | true =>
            obtain ⟨s8, el⟩ := loop_ok x (.loc (.str LET)) (.loc (.mls mks)) (.loc (.bl (wd x CAP || mk x))) (.loc (.int (at_ x))) (.loc (.bl (cd x))) (bad_dig h3)
            cases h4 : lead x with
            | false => 
              have h5 := of_decide_eq_false h4
              have en : TT.gNeA (.str ⟨#[first x]⟩) (.str (Str.ofString "0")) = some (.bl true) := by simp [TT.mDef, TT.mCall, TT.mEnd, TT.mPass, TT.mPass1, TT.mBack, TT.mBack1, TT.mkSs, TT.mkS, TT.sSeq, TT.sIf, TT.sSet, TT.sRet, TT.sOf, TT.sExpr, TT.sNext, TT.sFor, TT.sAsg, TT.sPar, TT.setSs, TT.mTakeL, TT.mOp2, TT.mOpN, TT.mCons, TT.mb, TT.mr, TT.mo, TT.mName, TT.slot, TT.SV.d?, TT.op2, TT.opN, TT.rs, TT.rsL, TT.gIx, TT.gAdd, TT.gSub, TT.gMul, TT.gFdiv, TT.gMod, TT.gPow, TT.gLt, TT.gLe, TT.gGt, TT.gGe, TT.gI2, TT.gLen, TT.gMax2, TT.gMin2, TT.gInt, TT.gListA, TT.gAll, TT.isB, TT.isS, TT.isI, TT.seqOf, TT.lstOf, TT.lstLike, TT.kSet, TT.mTake, TT.fz, TT.fzL, TT.setSlot, TT.kRet, TT.mPut, TT.kPut2, TT.mlsAt, TT.setMls, TT.keepP, TT.keep1, TT.imm, TT.mLst, TT.mTup, TT.mLc, TT.okWipe, TT.wipeS, TT.SV.isPar, TT.kRange1, TT.mRow, TT.kRow, TT.rowOf, TT.mChain, TT.mAndV, TT.mOrV, TT.mNotV, TT.mAnd, TT.mOr, TT.mNot, TT.mIf, TT.tru, TT.truD, TT.mSl, TT.opP, TT.gSl, TT.mAppend, TT.kAppend, TT.mExtend, TT.kExtend, TT.only, TT.gTupD, TT.gsCons, TT.gsNil, TT.gEqA, TT.gNeA, TT.eqB, TT.scEq, TT.gIn, TT.gNotIn, TT.inB, TT.smallI, h5]
              exact ⟨s8, by simp [TT.mDef, TT.mCall, TT.mEnd, TT.mPass, TT.mPass1, TT.mBack, TT.mBack1, TT.mkSs, TT.mkS, TT.sSeq, TT.sIf, TT.sSet, TT.sRet, TT.sOf, TT.sExpr, TT.sNext, TT.sFor, TT.sAsg, TT.sPar, TT.setSs, TT.mTakeL, TT.mOp2, TT.mOpN, TT.mCons, TT.mb, TT.mr, TT.mo, TT.mName, TT.slot, TT.SV.d?, TT.op2, TT.opN, TT.rs, TT.rsL, TT.gIx, TT.gAdd, TT.gSub, TT.gMul, TT.gFdiv, TT.gMod, TT.gPow, TT.gLt, TT.gLe, TT.gGt, TT.gGe, TT.gI2, TT.gLen, TT.gMax2, TT.gMin2, TT.gInt, TT.gListA, TT.gAll, TT.isB, TT.isS, TT.isI, TT.seqOf, TT.lstOf, TT.lstLike, TT.kSet, TT.mTake, TT.fz, TT.fzL, TT.setSlot, TT.kRet, TT.mPut, TT.kPut2, TT.mlsAt, TT.setMls, TT.keepP, TT.keep1, TT.imm, TT.mLst, TT.mTup, TT.mLc, TT.okWipe, TT.wipeS, TT.SV.isPar, TT.kRange1, TT.mRow, TT.kRow, TT.rowOf, TT.mChain, TT.mAndV, TT.mOrV, TT.mNotV, TT.mAnd, TT.mOr, TT.mNot, TT.mIf, TT.tru, TT.truD, TT.mSl, TT.opP, TT.gSl, TT.mAppend, TT.kAppend, TT.mExtend, TT.kExtend, TT.only, TT.gTupD, TT.gsCons, TT.gsNil, TT.gEqA, TT.gNeA, TT.eqB, TT.scEq, TT.gIn, TT.gNotIn, TT.inB, TT.smallI, -TT.gEqA, -TT.gNeA, ec, ee, hx, h1, h2, h3, ef, en, el, numd, fine, h4]⟩
            | true =>
              have h5 := of_decide_eq_true h4
              have en : TT.gNeA (.str ⟨#[first x]⟩) (.str (Str.ofString "0")) = some (.bl false) := by simp [TT.mDef, TT.mCall, TT.mEnd, TT.mPass, TT.mPass1, TT.mBack, TT.mBack1, TT.mkSs, TT.mkS, TT.sSeq, TT.sIf, TT.sSet, TT.sRet, TT.sOf, TT.sExpr, TT.sNext, TT.sFor, TT.sAsg, TT.sPar, TT.setSs, TT.mTakeL, TT.mOp2, TT.mOpN, TT.mCons, TT.mb, TT.mr, TT.mo, TT.mName, TT.slot, TT.SV.d?, TT.op2, TT.opN, TT.rs, TT.rsL, TT.gIx, TT.gAdd, TT.gSub, TT.gMul, TT.gFdiv, TT.gMod, TT.gPow, TT.gLt, TT.gLe, TT.gGt, TT.gGe, TT.gI2, TT.gLen, TT.gMax2, TT.gMin2, TT.gInt, TT.gListA, TT.gAll, TT.isB, TT.isS, TT.isI, TT.seqOf, TT.lstOf, TT.lstLike, TT.kSet, TT.mTake, TT.fz, TT.fzL, TT.setSlot, TT.kRet, TT.mPut, TT.kPut2, TT.mlsAt, TT.setMls, TT.keepP, TT.keep1, TT.imm, TT.mLst, TT.mTup, TT.mLc, TT.okWipe, TT.wipeS, TT.SV.isPar, TT.kRange1, TT.mRow, TT.kRow, TT.rowOf, TT.mChain, TT.mAndV, TT.mOrV, TT.mNotV, TT.mAnd, TT.mOr, TT.mNot, TT.mIf, TT.tru, TT.truD, TT.mSl, TT.opP, TT.gSl, TT.mAppend, TT.kAppend, TT.mExtend, TT.kExtend, TT.only, TT.gTupD, TT.gsCons, TT.gsNil, TT.gEqA, TT.gNeA, TT.eqB, TT.scEq, TT.gIn, TT.gNotIn, TT.inB, TT.smallI, h5]
              by_cases h6 : x = Str.ofString "0"
              · have e6 : TT.gEqA (.str x) (.str (Str.ofString "0")) = some (.bl true) := by simp [TT.mDef, TT.mCall, TT.mEnd, TT.mPass, TT.mPass1, TT.mBack, TT.mBack1, TT.mkSs, TT.mkS, TT.sSeq, TT.sIf, TT.sSet, TT.sRet, TT.sOf, TT.sExpr, TT.sNext, TT.sFor, TT.sAsg, TT.sPar, TT.setSs, TT.mTakeL, TT.mOp2, TT.mOpN, TT.mCons, TT.mb, TT.mr, TT.mo, TT.mName, TT.slot, TT.SV.d?, TT.op2, TT.opN, TT.rs, TT.rsL, TT.gIx, TT.gAdd, TT.gSub, TT.gMul, TT.gFdiv, TT.gMod, TT.gPow, TT.gLt, TT.gLe, TT.gGt, TT.gGe, TT.gI2, TT.gLen, TT.gMax2, TT.gMin2, TT.gInt, TT.gListA, TT.gAll, TT.isB, TT.isS, TT.isI, TT.seqOf, TT.lstOf, TT.lstLike, TT.kSet, TT.mTake, TT.fz, TT.fzL, TT.setSlot, TT.kRet, TT.mPut, TT.kPut2, TT.mlsAt, TT.setMls, TT.keepP, TT.keep1, TT.imm, TT.mLst, TT.mTup, TT.mLc, TT.okWipe, TT.wipeS, TT.SV.isPar, TT.kRange1, TT.mRow, TT.kRow, TT.rowOf, TT.mChain, TT.mAndV, TT.mOrV, TT.mNotV, TT.mAnd, TT.mOr, TT.mNot, TT.mIf, TT.tru, TT.truD, TT.mSl, TT.opP, TT.gSl, TT.mAppend, TT.kAppend, TT.mExtend, TT.kExtend, TT.only, TT.gTupD, TT.gsCons, TT.gsNil, TT.gEqA, TT.gNeA, TT.eqB, TT.scEq, TT.gIn, TT.gNotIn, TT.inB, TT.smallI, h6]
                have d6 : decide (x = Str.ofString "0") = true := decide_eq_true h6
                exact ⟨s8, by simp [TT.mDef, TT.mCall, TT.mEnd, TT.mPass, TT.mPass1, TT.mBack, TT.mBack1, TT.mkSs, TT.mkS, TT.sSeq, TT.sIf, TT.sSet, TT.sRet, TT.sOf, TT.sExpr, TT.sNext, TT.sFor, TT.sAsg, TT.sPar, TT.setSs, TT.mTakeL, TT.mOp2, TT.mOpN, TT.mCons, TT.mb, TT.mr, TT.mo, TT.mName, TT.slot, TT.SV.d?, TT.op2, TT.opN, TT.rs, TT.rsL, TT.gIx, TT.gAdd, TT.gSub, TT.gMul, TT.gFdiv, TT.gMod, TT.gPow, TT.gLt, TT.gLe, TT.gGt, TT.gGe, TT.gI2, TT.gLen, TT.gMax2, TT.gMin2, TT.gInt, TT.gListA, TT.gAll, TT.isB, TT.isS, TT.isI, TT.seqOf, TT.lstOf, TT.lstLike, TT.kSet, TT.mTake, TT.fz, TT.fzL, TT.setSlot, TT.kRet, TT.mPut, TT.kPut2, TT.mlsAt, TT.setMls, TT.keepP, TT.keep1, TT.imm, TT.mLst, TT.mTup, TT.mLc, TT.okWipe, TT.wipeS, TT.SV.isPar, TT.kRange1, TT.mRow, TT.kRow, TT.rowOf, TT.mChain, TT.mAndV, TT.mOrV, TT.mNotV, TT.mAnd, TT.mOr, TT.mNot, TT.mIf, TT.tru, TT.truD, TT.mSl, TT.opP, TT.gSl, TT.mAppend, TT.kAppend, TT.mExtend, TT.kExtend, TT.only, TT.gTupD, TT.gsCons, TT.gsNil, TT.gEqA, TT.gNeA, TT.eqB, TT.scEq, TT.gIn, TT.gNotIn, TT.inB, TT.smallI, -TT.gEqA, -TT.gNeA, ec, ee, hx, h1, h2, h3, ef, en, e6, el, numd, fine, h4, d6]⟩
              · have e6 : TT.gEqA (.str x) (.str (Str.ofString "0")) = some (.bl false) := by simp [TT.mDef, TT.mCall, TT.mEnd, TT.mPass, TT.mPass1, TT.mBack, TT.mBack1, TT.mkSs, TT.mkS, TT.sSeq, TT.sIf, TT.sSet, TT.sRet, TT.sOf, TT.sExpr, TT.sNext, TT.sFor, TT.sAsg, TT.sPar, TT.setSs, TT.mTakeL, TT.mOp2, TT.mOpN, TT.mCons, TT.mb, TT.mr, TT.mo, TT.mName, TT.slot, TT.SV.d?, TT.op2, TT.opN, TT.rs, TT.rsL, TT.gIx, TT.gAdd, TT.gSub, TT.gMul, TT.gFdiv, TT.gMod, TT.gPow, TT.gLt, TT.gLe, TT.gGt, TT.gGe, TT.gI2, TT.gLen, TT.gMax2, TT.gMin2, TT.gInt, TT.gListA, TT.gAll, TT.isB, TT.isS, TT.isI, TT.seqOf, TT.lstOf, TT.lstLike, TT.kSet, TT.mTake, TT.fz, TT.fzL, TT.setSlot, TT.kRet, TT.mPut, TT.kPut2, TT.mlsAt, TT.setMls, TT.keepP, TT.keep1, TT.imm, TT.mLst, TT.mTup, TT.mLc, TT.okWipe, TT.wipeS, TT.SV.isPar, TT.kRange1, TT.mRow, TT.kRow, TT.rowOf, TT.mChain, TT.mAndV, TT.mOrV, TT.mNotV, TT.mAnd, TT.mOr, TT.mNot, TT.mIf, TT.tru, TT.truD, TT.mSl, TT.opP, TT.gSl, TT.mAppend, TT.kAppend, TT.mExtend, TT.kExtend, TT.only, TT.gTupD, TT.gsCons, TT.gsNil, TT.gEqA, TT.gNeA, TT.eqB, TT.scEq, TT.gIn, TT.gNotIn, TT.inB, TT.smallI, h6]
                have d6 : decide (x = Str.ofString "0") = false := decide_eq_false h6
                exact ⟨.un, by simp [TT.mDef, TT.mCall, TT.mEnd, TT.mPass, TT.mPass1, TT.mBack, TT.mBack1, TT.mkSs, TT.mkS, TT.sSeq, TT.sIf, TT.sSet, TT.sRet, TT.sOf, TT.sExpr, TT.sNext, TT.sFor, TT.sAsg, TT.sPar, TT.setSs, TT.mTakeL, TT.mOp2, TT.mOpN, TT.mCons, TT.mb, TT.mr, TT.mo, TT.mName, TT.slot, TT.SV.d?, TT.op2, TT.opN, TT.rs, TT.rsL, TT.gIx, TT.gAdd, TT.gSub, TT.gMul, TT.gFdiv, TT.gMod, TT.gPow, TT.gLt, TT.gLe, TT.gGt, TT.gGe, TT.gI2, TT.gLen, TT.gMax2, TT.gMin2, TT.gInt, TT.gListA, TT.gAll, TT.isB, TT.isS, TT.isI, TT.seqOf, TT.lstOf, TT.lstLike, TT.kSet, TT.mTake, TT.fz, TT.fzL, TT.setSlot, TT.kRet, TT.mPut, TT.kPut2, TT.mlsAt, TT.setMls, TT.keepP, TT.keep1, TT.imm, TT.mLst, TT.mTup, TT.mLc, TT.okWipe, TT.wipeS, TT.SV.isPar, TT.kRange1, TT.mRow, TT.kRow, TT.rowOf, TT.mChain, TT.mAndV, TT.mOrV, TT.mNotV, TT.mAnd, TT.mOr, TT.mNot, TT.mIf, TT.tru, TT.truD, TT.mSl, TT.opP, TT.gSl, TT.mAppend, TT.kAppend, TT.mExtend, TT.kExtend, TT.only, TT.gTupD, TT.gsCons, TT.gsNil, TT.gEqA, TT.gNeA, TT.eqB, TT.scEq, TT.gIn, TT.gNotIn, TT.inB, TT.smallI, -TT.gEqA, -TT.gNeA, ec, ee, hx, h1, h2, h3, ef, en, e6, numd, fine, h4, d6]⟩
        · exact ⟨.un, by simp [TT.mDef, TT.mCall, TT.mEnd, TT.mPass, TT.mPass1, TT.mBack, TT.mBack1, TT.mkSs, TT.mkS, TT.sSeq, TT.sIf, TT.sSet, TT.sRet, TT.sOf, TT.sExpr, TT.sNext, TT.sFor, TT.sAsg, TT.sPar, TT.setSs, TT.mTakeL, TT.mOp2, TT.mOpN, TT.mCons, TT.mb, TT.mr, TT.mo, TT.mName, TT.slot, TT.SV.d?, TT.op2, TT.opN, TT.rs, TT.rsL, TT.gIx, TT.gAdd, TT.gSub, TT.gMul, TT.gFdiv, TT.gMod, TT.gPow, TT.gLt, TT.gLe, TT.gGt, TT.gGe, TT.gI2, TT.gLen, TT.gMax2, TT.gMin2, TT.gInt, TT.gListA, TT.gAll, TT.isB, TT.isS, TT.isI, TT.seqOf, TT.lstOf, TT.lstLike, TT.kSet, TT.mTake, TT.fz, TT.fzL, TT.setSlot, TT.kRet, TT.mPut, TT.kPut2, TT.mlsAt, TT.setMls, TT.keepP, TT.keep1, TT.imm, TT.mLst, TT.mTup, TT.mLc, TT.okWipe, TT.wipeS, TT.SV.isPar, TT.kRange1, TT.mRow, TT.kRow, TT.rowOf, TT.mChain, TT.mAndV, TT.mOrV, TT.mNotV, TT.mAnd, TT.mOr, TT.mNot, TT.mIf, TT.tru, TT.truD, TT.mSl, TT.opP, TT.gSl, TT.mAppend, TT.kAppend, TT.mExtend, TT.kExtend, TT.only, TT.gTupD, TT.gsCons, TT.gsNil, TT.gEqA, TT.gNeA, TT.eqB, TT.scEq, TT.gIn, TT.gNotIn, TT.inB, TT.smallI, hx, h1, h2, numd, fine]⟩
      · exact ⟨.un, by simp [TT.mDef, TT.mCall, TT.mEnd, TT.mPass, TT.mPass1, TT.mBack, TT.mBack1, TT.mkSs, TT.mkS, TT.sSeq, TT.sIf, TT.sSet, TT.sRet, TT.sOf, TT.sExpr, TT.sNext, TT.sFor, TT.sAsg, TT.sPar, TT.setSs, TT.mTakeL, TT.mOp2, TT.mOpN, TT.mCons, TT.mb, TT.mr, TT.mo, TT.mName, TT.slot, TT.SV.d?, TT.op2, TT.opN, TT.rs, TT.rsL, TT.gIx, TT.gAdd, TT.gSub, TT.gMul, TT.gFdiv, TT.gMod, TT.gPow, TT.gLt, TT.gLe, TT.gGt, TT.gGe, TT.gI2, TT.gLen, TT.gMax2, TT.gMin2, TT.gInt, TT.gListA, TT.gAll, TT.isB, TT.isS, TT.isI, TT.seqOf, TT.lstOf, TT.lstLike, TT.kSet, TT.mTake, TT.fz, TT.fzL, TT.setSlot, TT.kRet, TT.mPut, TT.kPut2, TT.mlsAt, TT.setMls, TT.keepP, TT.keep1, TT.imm, TT.mLst, TT.mTup, TT.mLc, TT.okWipe, TT.wipeS, TT.SV.isPar, TT.kRange1, TT.mRow, TT.kRow, TT.rowOf, TT.mChain, TT.mAndV, TT.mOrV, TT.mNotV, TT.mAnd, TT.mOr, TT.mNot, TT.mIf, TT.tru, TT.truD, TT.mSl, TT.opP, TT.gSl, TT.mAppend, TT.kAppend, TT.mExtend, TT.kExtend, TT.only, TT.gTupD, TT.gsCons, TT.gsNil, TT.gEqA, TT.gNeA, TT.eqB, TT.scEq, TT.gIn, TT.gNotIn, TT.inB, TT.smallI, hx, h1, numd, fine]⟩
    obtain ⟨s8, hn⟩ := hn
    refine ⟨s8, rfl, def_go _ ?_⟩
    refine seq_go (ρ1 := [.loc (.str x), .loc (.str LET), .loc (.str FIG), .un, .un, .un, .un, .un, .un]) rfl ?_
    refine seq_go (ρ1 := [.loc (.str x), .loc (.str LET), .loc (.str FIG), .loc (.mls mks), .un, .un, .un, .un, .un]) rfl ?_
    refine seq_go (ρ1 := [.loc (.str x), .loc (.str LET), .loc (.str FIG), .loc (.mls mks), .loc (.bl (wd x CAP || mk x)), .un, .un, .un, .un]) ?_ ?_
    · cases h : wd x CAP <;> rw [h] at w2 <;> simp [TT.mDef, TT.mCall, TT.mEnd, TT.mPass, TT.mPass1, TT.mBack, TT.mBack1, TT.mkSs, TT.mkS, TT.sSeq, TT.sIf, TT.sSet, TT.sRet, TT.sOf, TT.sExpr, TT.sNext, TT.sFor, TT.sAsg, TT.sPar, TT.setSs, TT.mTakeL, TT.mOp2, TT.mOpN, TT.mCons, TT.mb, TT.mr, TT.mo, TT.mName, TT.slot, TT.SV.d?, TT.op2, TT.opN, TT.rs, TT.rsL, TT.gIx, TT.gAdd, TT.gSub, TT.gMul, TT.gFdiv, TT.gMod, TT.gPow, TT.gLt, TT.gLe, TT.gGt, TT.gGe, TT.gI2, TT.gLen, TT.gMax2, TT.gMin2, TT.gInt, TT.gListA, TT.gAll, TT.isB, TT.isS, TT.isI, TT.seqOf, TT.lstOf, TT.lstLike, TT.kSet, TT.mTake, TT.fz, TT.fzL, TT.setSlot, TT.kRet, TT.mPut, TT.kPut2, TT.mlsAt, TT.setMls, TT.keepP, TT.keep1, TT.imm, TT.mLst, TT.mTup, TT.mLc, TT.okWipe, TT.wipeS, TT.SV.isPar, TT.kRange1, TT.mRow, TT.kRow, TT.rowOf, TT.mChain, TT.mAndV, TT.mOrV, TT.mNotV, TT.mAnd, TT.mOr, TT.mNot, TT.mIf, TT.tru, TT.truD, TT.mSl, TT.opP, TT.gSl, TT.mAppend, TT.kAppend, TT.mExtend, TT.kExtend, TT.only, TT.gTupD, TT.gsCons, TT.gsNil, TT.gEqA, TT.gNeA, TT.eqB, TT.scEq, TT.gIn, TT.gNotIn, TT.inB, TT.smallI, -TT.gIn, w2, hup, him]
    refine seq_go (ρ1 := [.loc (.str x), .loc (.str LET), .loc (.str FIG), .loc (.mls mks), .loc (.bl (wd x CAP || mk x)), .loc (.int (at_ x)), .un, .un, .un]) ?_ ?_
    · simp [TT.mDef, TT.mCall, TT.mEnd, TT.mPass, TT.mPass1, TT.mBack, TT.mBack1, TT.mkSs, TT.mkS, TT.sSeq, TT.sIf, TT.sSet, TT.sRet, TT.sOf, TT.sExpr, TT.sNext, TT.sFor, TT.sAsg, TT.sPar, TT.setSs, TT.mTakeL, TT.mOp2, TT.mOpN, TT.mCons, TT.mb, TT.mr, TT.mo, TT.mName, TT.slot, TT.SV.d?, TT.op2, TT.opN, TT.rs, TT.rsL, TT.gIx, TT.gAdd, TT.gSub, TT.gMul, TT.gFdiv, TT.gMod, TT.gPow, TT.gLt, TT.gLe, TT.gGt, TT.gGe, TT.gI2, TT.gLen, TT.gMax2, TT.gMin2, TT.gInt, TT.gListA, TT.gAll, TT.isB, TT.isS, TT.isI, TT.seqOf, TT.lstOf, TT.lstLike, TT.kSet, TT.mTake, TT.fz, TT.fzL, TT.setSlot, TT.kRet, TT.mPut, TT.kPut2, TT.mlsAt, TT.setMls, TT.keepP, TT.keep1, TT.imm, TT.mLst, TT.mTup, TT.mLc, TT.okWipe, TT.wipeS, TT.SV.isPar, TT.kRange1, TT.mRow, TT.kRow, TT.rowOf, TT.mChain, TT.mAndV, TT.mOrV, TT.mNotV, TT.mAnd, TT.mOr, TT.mNot, TT.mIf, TT.tru, TT.truD, TT.mSl, TT.opP, TT.gSl, TT.mAppend, TT.kAppend, TT.mExtend, TT.kExtend, TT.only, TT.gTupD, TT.gsCons, TT.gsNil, TT.gEqA, TT.gNeA, TT.eqB, TT.scEq, TT.gIn, TT.gNotIn, TT.inB, TT.smallI, hfd]
    refine seq_go (ρ1 := [.loc (.str x), .loc (.str LET), .loc (.str FIG), .loc (.mls mks), .loc (.bl (wd x CAP || mk x)), .loc (.int (at_ x)), .loc (.bl (cd x)), .un, .un]) ?_ ?_
    · by_cases ha : 0 < at_ x
      · cases h : wd (cutS x none (some (at_ x))) LET <;> rw [h] at w3 <;> simp [TT.mDef, TT.mCall, TT.mEnd, TT.mPass, TT.mPass1, TT.mBack, TT.mBack1, TT.mkSs, TT.mkS, TT.sSeq, TT.sIf, TT.sSet, TT.sRet, TT.sOf, TT.sExpr, TT.sNext, TT.sFor, TT.sAsg, TT.sPar, TT.setSs, TT.mTakeL, TT.mOp2, TT.mOpN, TT.mCons, TT.mb, TT.mr, TT.mo, TT.mName, TT.slot, TT.SV.d?, TT.op2, TT.opN, TT.rs, TT.rsL, TT.gIx, TT.gAdd, TT.gSub, TT.gMul, TT.gFdiv, TT.gMod, TT.gPow, TT.gLt, TT.gLe, TT.gGt, TT.gGe, TT.gI2, TT.gLen, TT.gMax2, TT.gMin2, TT.gInt, TT.gListA, TT.gAll, TT.isB, TT.isS, TT.isI, TT.seqOf, TT.lstOf, TT.lstLike, TT.kSet, TT.mTake, TT.fz, TT.fzL, TT.setSlot, TT.kRet, TT.mPut, TT.kPut2, TT.mlsAt, TT.setMls, TT.keepP, TT.keep1, TT.imm, TT.mLst, TT.mTup, TT.mLc, TT.okWipe, TT.wipeS, TT.SV.isPar, TT.kRange1, TT.mRow, TT.kRow, TT.rowOf, TT.mChain, TT.mAndV, TT.mOrV, TT.mNotV, TT.mAnd, TT.mOr, TT.mNot, TT.mIf, TT.tru, TT.truD, TT.mSl, TT.opP, TT.gSl, TT.mAppend, TT.kAppend, TT.mExtend, TT.kExtend, TT.only, TT.gTupD, TT.gsCons, TT.gsNil, TT.gEqA, TT.gNeA, TT.eqB, TT.scEq, TT.gIn, TT.gNotIn, TT.inB, TT.smallI, cd, ha, h, w3, w4, hx]
      · simp [TT.mDef, TT.mCall, TT.mEnd, TT.mPass, TT.mPass1, TT.mBack, TT.mBack1, TT.mkSs, TT.mkS, TT.sSeq, TT.sIf, TT.sSet, TT.sRet, TT.sOf, TT.sExpr, TT.sNext, TT.sFor, TT.sAsg, TT.sPar, TT.setSs, TT.mTakeL, TT.mOp2, TT.mOpN, TT.mCons, TT.mb, TT.mr, TT.mo, TT.mName, TT.slot, TT.SV.d?, TT.op2, TT.opN, TT.rs, TT.rsL, TT.gIx, TT.gAdd, TT.gSub, TT.gMul, TT.gFdiv, TT.gMod, TT.gPow, TT.gLt, TT.gLe, TT.gGt, TT.gGe, TT.gI2, TT.gLen, TT.gMax2, TT.gMin2, TT.gInt, TT.gListA, TT.gAll, TT.isB, TT.isS, TT.isI, TT.seqOf, TT.lstOf, TT.lstLike, TT.kSet, TT.mTake, TT.fz, TT.fzL, TT.setSlot, TT.kRet, TT.mPut, TT.kPut2, TT.mlsAt, TT.setMls, TT.keepP, TT.keep1, TT.imm, TT.mLst, TT.mTup, TT.mLc, TT.okWipe, TT.wipeS, TT.SV.isPar, TT.kRange1, TT.mRow, TT.kRow, TT.rowOf, TT.mChain, TT.mAndV, TT.mOrV, TT.mNotV, TT.mAnd, TT.mOr, TT.mNot, TT.mIf, TT.tru, TT.truD, TT.mSl, TT.opP, TT.gSl, TT.mAppend, TT.kAppend, TT.mExtend, TT.kExtend, TT.only, TT.gTupD, TT.gsCons, TT.gsNil, TT.gEqA, TT.gNeA, TT.eqB, TT.scEq, TT.gIn, TT.gNotIn, TT.inB, TT.smallI, cd, ha]
    refine seq_go (ρ1 := [.loc (.str x), .loc (.str LET), .loc (.str FIG), .loc (.mls mks), .loc (.bl (wd x CAP || mk x)), .loc (.int (at_ x)), .loc (.bl (cd x)), .loc .non, .un]) rfl ?_
    refine seq_go hn ?_
    have hsz : 4 ≤ sizeLine := by decide
    have hnum : fz (numd x) = numd x := by unfold numd; split <;> rfl
    simp [TT.mDef, TT.mCall, TT.mEnd, TT.mPass, TT.mPass1, TT.mBack, TT.mBack1, TT.mkSs, TT.mkS, TT.sSeq, TT.sIf, TT.sSet, TT.sRet, TT.sOf, TT.sExpr, TT.sNext, TT.sFor, TT.sAsg, TT.sPar, TT.setSs, TT.mTakeL, TT.mOp2, TT.mOpN, TT.mCons, TT.mb, TT.mr, TT.mo, TT.mName, TT.slot, TT.SV.d?, TT.op2, TT.opN, TT.rs, TT.rsL, TT.gIx, TT.gAdd, TT.gSub, TT.gMul, TT.gFdiv, TT.gMod, TT.gPow, TT.gLt, TT.gLe, TT.gGt, TT.gGe, TT.gI2, TT.gLen, TT.gMax2, TT.gMin2, TT.gInt, TT.gListA, TT.gAll, TT.isB, TT.isS, TT.isI, TT.seqOf, TT.lstOf, TT.lstLike, TT.kSet, TT.mTake, TT.fz, TT.fzL, TT.setSlot, TT.kRet, TT.mPut, TT.kPut2, TT.mlsAt, TT.setMls, TT.keepP, TT.keep1, TT.imm, TT.mLst, TT.mTup, TT.mLc, TT.okWipe, TT.wipeS, TT.SV.isPar, TT.kRange1, TT.mRow, TT.kRow, TT.rowOf, TT.mChain, TT.mAndV, TT.mOrV, TT.mNotV, TT.mAnd, TT.mOr, TT.mNot, TT.mIf, TT.tru, TT.truD, TT.mSl, TT.opP, TT.gSl, TT.mAppend, TT.kAppend, TT.mExtend, TT.kExtend, TT.only, TT.gTupD, TT.gsCons, TT.gsNil, TT.gEqA, TT.gNeA, TT.eqB, TT.scEq, TT.gIn, TT.gNotIn, TT.inB, TT.smallI, w1, hsz, hnum, -TT.fz]
  obtain ⟨s8, _, e⟩ := eg
  rw [e]; rfl
theorem made0 (x s : Str) (m : Int) (h : x.length = 0) : made x s m = false := by unfold made; rw [h]; rfl
theorem sub_cut1 (x : Str) (i : Nat) : Builtin.Str.strSub x 0 i = cutS x none (some (i : Int)) := by
  refine TL.ext_tl ?_
  show (x.cps.extract 0 i).toList = ((x.cps.toList.drop (HT.sIx x.length 0 none)).take (HT.sIx x.length x.length (some (i : Int)) - HT.sIx x.length 0 none))
  rw [HT.sIx_nat, HT.sIx_none, Array.toList_extract]
  simp [List.extract, Str.length]
theorem sub_cut2 (x : Str) (i : Nat) : Builtin.Str.strSub x (i + 1) x.length = cutS x (some ((i : Int) + 1)) none := by
  refine TL.ext_tl ?_
  show (x.cps.extract (i + 1) x.length).toList = ((x.cps.toList.drop (HT.sIx x.length 0 (some ((i : Int) + 1)))).take (HT.sIx x.length x.length none - HT.sIx x.length 0 (some ((i : Int) + 1))))
  rw [show ((i : Int) + 1) = ((i + 1 : Nat) : Int) by omega, HT.sIx_nat, HT.sIx_none, Array.toList_extract]
  simp [List.extract, Str.length]
  by_cases h : i + 1 ≤ x.cps.size
  · rw [Nat.min_eq_left h]
  · have hl : x.cps.toList.length = x.cps.size := by simp
    rw [Nat.min_eq_right (by omega), List.drop_eq_nil_of_le (by omega), List.drop_eq_nil_of_le (by omega)]; simp
theorem call_same (x : Str) : (made (P1 x) LET 6 && made (P3 x) LET 6) = cd x := by
  unfold cd
  rw [wd_made, wd_made]
  unfold P1 P3 at_ Txt.partition Txt.find
  cases e : Builtin.Str.occurrences x (Str.ofString ".") 0 x.length 1 with
  | nil =>
    simp only
    rw [made0 Str.empty LET 6 rfl, Bool.and_false]; rfl
  | cons i r =>
    simp only
    have hl : (Str.ofString ".").length = 1 := by decide
    rw [hl, sub_cut1, sub_cut2]
    cases i with
    | zero =>
      rw [made0 _ _ _ (by have := cut_len x none (some 0); rw [← sub_cut1 x 0]; unfold Builtin.Str.strSub Str.length; simp)]; rfl
    | succ i => 
      have : decide (0 < ((i + 1 : Nat) : Int)) = true := decide_eq_true (by omega)
      rw [this, Bool.true_and]
theorem num_same (x : Str) : numv x = numd x := by
  have e : (made x FIG 3 && !(decide (1 < x.length) && lead x)) = fine x := by
    have e0 : (bad x FIG).isEmpty = (L x).all (hc FIG) := by
      unfold bad
      induction L x with
      | nil => rfl
      | cons c l ih =>
        rw [List.all_cons, List.filter_cons]
        cases h : hc FIG c with
        | false => rfl
        | true => rw [← ih]; rfl
    unfold made fine
    rw [e0]
    have e1 : decide (1 ≤ (x.length : Int)) = decide (0 < x.length) := decide_eq_decide.mpr (by omega)
    have e2 : decide ((x.length : Int) ≤ 3) = decide ((x.length : Int) < 4) := decide_eq_decide.mpr (by omega)
    rw [e1, e2]
    by_cases h0 : 0 < x.length
    · cases hl : lead x with
      | false => simp [h0]
      | true =>
        have h5 := of_decide_eq_true hl
        have e3 : decide (x = Str.ofString "0") = !decide (1 < x.length) := by
          by_cases h1 : 1 < x.length
          · rw [decide_eq_true h1]
            exact decide_eq_false fun z => by rw [z] at h1; exact absurd h1 (by decide)
          · rw [decide_eq_false h1]
            refine decide_eq_true ?_
            have hll := L_len x
            have hfx : first x = (L x).headD 0 := rfl
            have hx2 : S (L x) = x := S_tl x
            match hm : L x with
            | [] => rw [hm] at hll; simp at hll; omega
            | [c] => rw [hm] at hfx hx2; rw [← hx2, ← h5, hfx]; rfl
            | _ :: _ :: _ => rw [hm] at hll; simp at hll; omega
        rw [e3]
        simp [h0]
        cases (L x).all (hc FIG) <;> simp
    · simp [h0]
  unfold numv numd
  rw [e]
theorem app_len (a b : Str) : (a ++ b).length = a.length + b.length := by show (a.cps ++ b.cps).size = _; rw [Array.size_append]; rfl
theorem int_len : ∀ n : _root_.Fin 1000, (PyData.shown (.int ((n.val : Nat) : Int))).length ≤ 5 ∧ (PyData.int ((n.val : Nat) : Int)).showable = true := by decide +kernel
theorem bl_len (b : Bool) : (PyData.shown (.bool b)).length ≤ 5 := by cases b <;> decide
theorem repr_of (a b c : Bool) (p : PyData) (v : D) (hv : pdt v = some p) (h1 : (PyData.shown p).length ≤ 5) (h2 : p.showable = true) (h3 : p.hasDict = false) (h4 : p.depth = 0) : ∃ y, gRepr [.tup [.bl a, .bl b, .bl c, v]] = some (.str y) := by
  refine ⟨PyData.shown (.tuple [.bool a, .bool b, .bool c, p]), ?_⟩
  have e : pdt (.tup [.bl a, .bl b, .bl c, v]) = some (.tuple [.bool a, .bool b, .bool c, p]) := by
    simp [pdt, pdtL, hv]
  have d1 : (PyData.tuple [.bool a, .bool b, .bool c, p]).showable = true := by simp [PyData.showable, PyData.showableAll, h2]
  have d2 : (PyData.tuple [.bool a, .bool b, .bool c, p]).hasDict = false := by simp [PyData.hasDict, PyData.hasDictAll, h3]
  have d3 : (PyData.tuple [.bool a, .bool b, .bool c, p]).depth = 1 := by simp [PyData.depth, PyData.depthAll, h4]
  have d4 : (PyData.shown (.tuple [.bool a, .bool b, .bool c, p])).length ≤ 100 := by
    have l1 := bl_len a; have l2 := bl_len b; have l3 := bl_len c
    have z1 : (Str.ofString "(").length = 1 := by decide
    have z2 : (Str.ofString ")").length = 1 := by decide
    have z3 : (Str.ofString ", ").length = 2 := by decide
    simp only [PyData.shown, PyData.shownAll, tupleText, Str.join, app_len] at *
    simp [z1, z2, z3]
    omega
  have d5 : (PyData.shown (.tuple [.bool a, .bool b, .bool c, p])).length ≤ sizeLine := Nat.le_trans d4 (by decide)
  unfold gRepr
  simp only [e, Option.bind_some, d1, d2, d3]
  rw [if_pos (by simp [d5])]
theorem dig_lt : ∀ (l : List Nat), (∀ c ∈ l, 48 ≤ c ∧ c ≤ 57) → NumText.digitsVal l < 10 ^ l.length := by
  intro l
  have key : ∀ (r : List Nat) (p : Nat), r.reverse = r.reverse → ((∀ c ∈ r, 48 ≤ c ∧ c ≤ 57) → NumText.digitsVal r.reverse < 10 ^ r.length) := by
    intro r
    induction r with
    | nil => intro _ _ _; decide
    | cons c r ih =>
      intro p _ h
      have h1 := ih p rfl fun x hx => h x (List.mem_cons_of_mem _ hx)
      have h2 := h c List.mem_cons_self
      rw [List.reverse_cons, dig_snoc, List.length_cons, Nat.pow_succ]
      omega
  intro h
  have := key l.reverse 0 rfl fun c hc' => h c (List.mem_reverse.mp hc')
  simpa using this
theorem repr_ok (x : Str) (a b c : Bool) : ∃ y, gRepr [.tup [.bl a, .bl b, .bl c, numv x]] = some (.str y) := by
  unfold numv
  split
  · rename_i h
    rw [Bool.and_eq_true] at h
    obtain ⟨h1, h2, h3⟩ := made_dig h.1
    have q := dig_lt (L x) h3
    rw [L_len] at q
    have q2 : 10 ^ x.length ≤ 10 ^ 3 := Nat.pow_le_pow_right (by decide) h2
    have q3 := int_len ⟨NumText.digitsVal (L x), by omega⟩
    exact repr_of a b c (.int ((NumText.digitsVal (L x) : Nat) : Int)) _ rfl q3.1 q3.2 rfl rfl
  · exact repr_of a b c .none _ rfl (by decide) rfl rfl rfl
theorem ne_same (y : Str) : TT.gNeA (.str y) (.str y) = some (.bl false) := by simp [TT.mDef, TT.mCall, TT.mEnd, TT.mPass, TT.mPass1, TT.mBack, TT.mBack1, TT.mkSs, TT.mkS, TT.sSeq, TT.sIf, TT.sSet, TT.sRet, TT.sOf, TT.sExpr, TT.sNext, TT.sFor, TT.sAsg, TT.sPar, TT.setSs, TT.mTakeL, TT.mOp2, TT.mOpN, TT.mCons, TT.mb, TT.mr, TT.mo, TT.mName, TT.slot, TT.SV.d?, TT.op2, TT.opN, TT.rs, TT.rsL, TT.gIx, TT.gAdd, TT.gSub, TT.gMul, TT.gFdiv, TT.gMod, TT.gPow, TT.gLt, TT.gLe, TT.gGt, TT.gGe, TT.gI2, TT.gLen, TT.gMax2, TT.gMin2, TT.gInt, TT.gListA, TT.gAll, TT.isB, TT.isS, TT.isI, TT.seqOf, TT.lstOf, TT.lstLike, TT.kSet, TT.mTake, TT.fz, TT.fzL, TT.setSlot, TT.kRet, TT.mPut, TT.kPut2, TT.mlsAt, TT.setMls, TT.keepP, TT.keep1, TT.imm, TT.mLst, TT.mTup, TT.mLc, TT.okWipe, TT.wipeS, TT.SV.isPar, TT.kRange1, TT.mRow, TT.kRow, TT.rowOf, TT.mChain, TT.mAndV, TT.mOrV, TT.mNotV, TT.mAnd, TT.mOr, TT.mNot, TT.mIf, TT.tru, TT.truD, TT.mSl, TT.opP, TT.gSl, TT.mAppend, TT.kAppend, TT.mExtend, TT.kExtend, TT.only, TT.gTupD, TT.gsCons, TT.gsNil, TT.gEqA, TT.gNeA, TT.eqB, TT.scEq, TT.gIn, TT.gNotIn, TT.inB, TT.smallI]
theorem at_int {ns : List Int} {r : Int} (h0 : 0 ≤ r) (h : r < (ns.length : Int)) : ∃ n : Int, atI (ns.map D.int) r = some (.int n) := by
  obtain ⟨d, e, hd⟩ := at_nat (l := ns.map D.int) h0 (by simpa using h)
  obtain ⟨n, _, rfl⟩ := List.mem_map.mp hd
  exact ⟨n, e⟩
theorem box_ok (ns : List Int) (k : Int) (hk : 0 ≤ k) : ∃ a b c, f__law_box [.loc (.sq (ns.map D.int)), .loc (.int k)] = some (.ok (.val (Bx a b c)) [.un, .un]) := by
  have hs : ∃ cell : Int, (sIf (mb (mOp2 gLt (mName 1) (mOpN gLen (mCons (mName 0) (mr [])))) isB)
  (sSet 2 (mOpN gMax2 (mCons (mOp2 gIx (mName 0) (mName 1)) (mCons (mOp2 TT.gSub (mr (.val (.int 0))) (mOp2 gIx (mName 0) (mName 1))) (mr [])))))
  (sIf (mb (mOp2 gGt (mOpN gLen (mCons (mName 0) (mr []))) (mr (.val (.int 0)))) isB)
   (sSet 2 (mOp2 gAdd (mName 2) (mOp2 gMul (mOp2 gMod (mOp2 gIx (mName 0) (mOp2 gMod (mName 1) (mOpN gLen (mCons (mName 0) (mr []))))) (mr (.val (.int 2147483629)))) (mr (.val (.int 71167))))))
   (sNext))) [.loc (.sq (ns.map D.int)), .loc (.int k), .loc (.int (8087 * k + 31)), .un] = some (.nx [.loc (.sq (ns.map D.int)), .loc (.int k), .loc (.int cell), .un]) := by
    by_cases h1 : k < (ns.length : Int)
    · obtain ⟨n, e⟩ := at_int hk h1
      exact ⟨if 0 - n > n then 0 - n else n, by simp [TT.mDef, TT.mCall, TT.mEnd, TT.mPass, TT.mPass1, TT.mBack, TT.mBack1, TT.mkSs, TT.mkS, TT.sSeq, TT.sIf, TT.sSet, TT.sRet, TT.sOf, TT.sExpr, TT.sNext, TT.sFor, TT.sAsg, TT.sPar, TT.setSs, TT.mTakeL, TT.mOp2, TT.mOpN, TT.mCons, TT.mb, TT.mr, TT.mo, TT.mName, TT.slot, TT.SV.d?, TT.op2, TT.opN, TT.rs, TT.rsL, TT.gIx, TT.gAdd, TT.gSub, TT.gMul, TT.gFdiv, TT.gMod, TT.gPow, TT.gLt, TT.gLe, TT.gGt, TT.gGe, TT.gI2, TT.gLen, TT.gMax2, TT.gMin2, TT.gInt, TT.gListA, TT.gAll, TT.isB, TT.isS, TT.isI, TT.seqOf, TT.lstOf, TT.lstLike, TT.kSet, TT.mTake, TT.fz, TT.fzL, TT.setSlot, TT.kRet, TT.mPut, TT.kPut2, TT.mlsAt, TT.setMls, TT.keepP, TT.keep1, TT.imm, TT.mLst, TT.mTup, TT.mLc, TT.okWipe, TT.wipeS, TT.SV.isPar, TT.kRange1, TT.mRow, TT.kRow, TT.rowOf, TT.mChain, TT.mAndV, TT.mOrV, TT.mNotV, TT.mAnd, TT.mOr, TT.mNot, TT.mIf, TT.tru, TT.truD, TT.mSl, TT.opP, TT.gSl, TT.mAppend, TT.kAppend, TT.mExtend, TT.kExtend, TT.only, TT.gTupD, TT.gsCons, TT.gsNil, TT.gEqA, TT.gNeA, TT.eqB, TT.scEq, TT.gIn, TT.gNotIn, TT.inB, TT.smallI, h1, e]⟩
    · by_cases h2 : 0 < ns.length
      · obtain ⟨n, e⟩ := at_int (ns := ns) (r := k.fmod ns.length) (Int.fmod_nonneg_of_pos _ (by omega)) (Int.fmod_lt_of_pos _ (by omega))
        have h3 : (0 : Int) < (ns.length : Int) := by omega
        have h4 : ns ≠ [] := fun z => by rw [z] at h2; cases h2
        exact ⟨_, by simp [TT.mDef, TT.mCall, TT.mEnd, TT.mPass, TT.mPass1, TT.mBack, TT.mBack1, TT.mkSs, TT.mkS, TT.sSeq, TT.sIf, TT.sSet, TT.sRet, TT.sOf, TT.sExpr, TT.sNext, TT.sFor, TT.sAsg, TT.sPar, TT.setSs, TT.mTakeL, TT.mOp2, TT.mOpN, TT.mCons, TT.mb, TT.mr, TT.mo, TT.mName, TT.slot, TT.SV.d?, TT.op2, TT.opN, TT.rs, TT.rsL, TT.gIx, TT.gAdd, TT.gSub, TT.gMul, TT.gFdiv, TT.gMod, TT.gPow, TT.gLt, TT.gLe, TT.gGt, TT.gGe, TT.gI2, TT.gLen, TT.gMax2, TT.gMin2, TT.gInt, TT.gListA, TT.gAll, TT.isB, TT.isS, TT.isI, TT.seqOf, TT.lstOf, TT.lstLike, TT.kSet, TT.mTake, TT.fz, TT.fzL, TT.setSlot, TT.kRet, TT.mPut, TT.kPut2, TT.mlsAt, TT.setMls, TT.keepP, TT.keep1, TT.imm, TT.mLst, TT.mTup, TT.mLc, TT.okWipe, TT.wipeS, TT.SV.isPar, TT.kRange1, TT.mRow, TT.kRow, TT.rowOf, TT.mChain, TT.mAndV, TT.mOrV, TT.mNotV, TT.mAnd, TT.mOr, TT.mNot, TT.mIf, TT.tru, TT.truD, TT.mSl, TT.opP, TT.gSl, TT.mAppend, TT.kAppend, TT.mExtend, TT.kExtend, TT.only, TT.gTupD, TT.gsCons, TT.gsNil, TT.gEqA, TT.gNeA, TT.eqB, TT.scEq, TT.gIn, TT.gNotIn, TT.inB, TT.smallI, h1, h2, h3, h4, e]; rfl⟩
      · exact ⟨8087 * k + 31, by simp [TT.mDef, TT.mCall, TT.mEnd, TT.mPass, TT.mPass1, TT.mBack, TT.mBack1, TT.mkSs, TT.mkS, TT.sSeq, TT.sIf, TT.sSet, TT.sRet, TT.sOf, TT.sExpr, TT.sNext, TT.sFor, TT.sAsg, TT.sPar, TT.setSs, TT.mTakeL, TT.mOp2, TT.mOpN, TT.mCons, TT.mb, TT.mr, TT.mo, TT.mName, TT.slot, TT.SV.d?, TT.op2, TT.opN, TT.rs, TT.rsL, TT.gIx, TT.gAdd, TT.gSub, TT.gMul, TT.gFdiv, TT.gMod, TT.gPow, TT.gLt, TT.gLe, TT.gGt, TT.gGe, TT.gI2, TT.gLen, TT.gMax2, TT.gMin2, TT.gInt, TT.gListA, TT.gAll, TT.isB, TT.isS, TT.isI, TT.seqOf, TT.lstOf, TT.lstLike, TT.kSet, TT.mTake, TT.fz, TT.fzL, TT.setSlot, TT.kRet, TT.mPut, TT.kPut2, TT.mlsAt, TT.setMls, TT.keepP, TT.keep1, TT.imm, TT.mLst, TT.mTup, TT.mLc, TT.okWipe, TT.wipeS, TT.SV.isPar, TT.kRange1, TT.mRow, TT.kRow, TT.rowOf, TT.mChain, TT.mAndV, TT.mOrV, TT.mNotV, TT.mAnd, TT.mOr, TT.mNot, TT.mIf, TT.tru, TT.truD, TT.mSl, TT.opP, TT.gSl, TT.mAppend, TT.kAppend, TT.mExtend, TT.kExtend, TT.only, TT.gTupD, TT.gsCons, TT.gsNil, TT.gEqA, TT.gNeA, TT.eqB, TT.scEq, TT.gIn, TT.gNotIn, TT.inB, TT.smallI, h1, h2]⟩
  obtain ⟨cell, hs⟩ := hs
  refine ⟨if cell ≥ 10 ^ 18 then cell else 0, (((cell.fmod 2147483629) * 48271 + 39841 * k) + 11).fmod 2147483629 + 1, 0, ?_⟩
  have e := def_go (x := false) (md := [false, false]) (N := 4) (s := b__law_box) (ρ := [.loc (.sq (ns.map D.int)), .loc (.int k)]) (d := Bx (if cell ≥ 10 ^ 18 then cell else 0) ((((cell.fmod 2147483629) * 48271 + 39841 * k) + 11).fmod 2147483629 + 1) 0)
    [.loc (.sq (ns.map D.int)), .loc (.int k), .loc (.int cell), .loc (.int ((((cell.fmod 2147483629) * 48271 + 39841 * k) + 11).fmod 2147483629 + 1))] (by
      refine seq_go (ρ1 := [.loc (.sq (ns.map D.int)), .loc (.int k), .loc (.int (8087 * k + 31)), .un]) ?_ ?_
      · simp [TT.mDef, TT.mCall, TT.mEnd, TT.mPass, TT.mPass1, TT.mBack, TT.mBack1, TT.mkSs, TT.mkS, TT.sSeq, TT.sIf, TT.sSet, TT.sRet, TT.sOf, TT.sExpr, TT.sNext, TT.sFor, TT.sAsg, TT.sPar, TT.setSs, TT.mTakeL, TT.mOp2, TT.mOpN, TT.mCons, TT.mb, TT.mr, TT.mo, TT.mName, TT.slot, TT.SV.d?, TT.op2, TT.opN, TT.rs, TT.rsL, TT.gIx, TT.gAdd, TT.gSub, TT.gMul, TT.gFdiv, TT.gMod, TT.gPow, TT.gLt, TT.gLe, TT.gGt, TT.gGe, TT.gI2, TT.gLen, TT.gMax2, TT.gMin2, TT.gInt, TT.gListA, TT.gAll, TT.isB, TT.isS, TT.isI, TT.seqOf, TT.lstOf, TT.lstLike, TT.kSet, TT.mTake, TT.fz, TT.fzL, TT.setSlot, TT.kRet, TT.mPut, TT.kPut2, TT.mlsAt, TT.setMls, TT.keepP, TT.keep1, TT.imm, TT.mLst, TT.mTup, TT.mLc, TT.okWipe, TT.wipeS, TT.SV.isPar, TT.kRange1, TT.mRow, TT.kRow, TT.rowOf, TT.mChain, TT.mAndV, TT.mOrV, TT.mNotV, TT.mAnd, TT.mOr, TT.mNot, TT.mIf, TT.tru, TT.truD, TT.mSl, TT.opP, TT.gSl, TT.mAppend, TT.kAppend, TT.mExtend, TT.kExtend, TT.only, TT.gTupD, TT.gsCons, TT.gsNil, TT.gEqA, TT.gNeA, TT.eqB, TT.scEq, TT.gIn, TT.gNotIn, TT.inB, TT.smallI]
      refine seq_go hs ?_
      refine seq_go (ρ1 := [.loc (.sq (ns.map D.int)), .loc (.int k), .loc (.int cell), .loc (.int ((((cell.fmod 2147483629) * 48271 + 39841 * k) + 11).fmod 2147483629 + 1))]) ?_ ?_
      · simp [TT.mDef, TT.mCall, TT.mEnd, TT.mPass, TT.mPass1, TT.mBack, TT.mBack1, TT.mkSs, TT.mkS, TT.sSeq, TT.sIf, TT.sSet, TT.sRet, TT.sOf, TT.sExpr, TT.sNext, TT.sFor, TT.sAsg, TT.sPar, TT.setSs, TT.mTakeL, TT.mOp2, TT.mOpN, TT.mCons, TT.mb, TT.mr, TT.mo, TT.mName, TT.slot, TT.SV.d?, TT.op2, TT.opN, TT.rs, TT.rsL, TT.gIx, TT.gAdd, TT.gSub, TT.gMul, TT.gFdiv, TT.gMod, TT.gPow, TT.gLt, TT.gLe, TT.gGt, TT.gGe, TT.gI2, TT.gLen, TT.gMax2, TT.gMin2, TT.gInt, TT.gListA, TT.gAll, TT.isB, TT.isS, TT.isI, TT.seqOf, TT.lstOf, TT.lstLike, TT.kSet, TT.mTake, TT.fz, TT.fzL, TT.setSlot, TT.kRet, TT.mPut, TT.kPut2, TT.mlsAt, TT.setMls, TT.keepP, TT.keep1, TT.imm, TT.mLst, TT.mTup, TT.mLc, TT.okWipe, TT.wipeS, TT.SV.isPar, TT.kRange1, TT.mRow, TT.kRow, TT.rowOf, TT.mChain, TT.mAndV, TT.mOrV, TT.mNotV, TT.mAnd, TT.mOr, TT.mNot, TT.mIf, TT.tru, TT.truD, TT.mSl, TT.opP, TT.gSl, TT.mAppend, TT.kAppend, TT.mExtend, TT.kExtend, TT.only, TT.gTupD, TT.gsCons, TT.gsNil, TT.gEqA, TT.gNeA, TT.eqB, TT.scEq, TT.gIn, TT.gNotIn, TT.inB, TT.smallI]
      have z2 : 2 ≤ sizeLine := by decide
      have z3 : 3 ≤ sizeLine := by decide
      by_cases hc : 1000000000000000000 ≤ cell
      · simp [TT.mDef, TT.mCall, TT.mEnd, TT.mPass, TT.mPass1, TT.mBack, TT.mBack1, TT.mkSs, TT.mkS, TT.sSeq, TT.sIf, TT.sSet, TT.sRet, TT.sOf, TT.sExpr, TT.sNext, TT.sFor, TT.sAsg, TT.sPar, TT.setSs, TT.mTakeL, TT.mOp2, TT.mOpN, TT.mCons, TT.mb, TT.mr, TT.mo, TT.mName, TT.slot, TT.SV.d?, TT.op2, TT.opN, TT.rs, TT.rsL, TT.gIx, TT.gAdd, TT.gSub, TT.gMul, TT.gFdiv, TT.gMod, TT.gPow, TT.gLt, TT.gLe, TT.gGt, TT.gGe, TT.gI2, TT.gLen, TT.gMax2, TT.gMin2, TT.gInt, TT.gListA, TT.gAll, TT.isB, TT.isS, TT.isI, TT.seqOf, TT.lstOf, TT.lstLike, TT.kSet, TT.mTake, TT.fz, TT.fzL, TT.setSlot, TT.kRet, TT.mPut, TT.kPut2, TT.mlsAt, TT.setMls, TT.keepP, TT.keep1, TT.imm, TT.mLst, TT.mTup, TT.mLc, TT.okWipe, TT.wipeS, TT.SV.isPar, TT.kRange1, TT.mRow, TT.kRow, TT.rowOf, TT.mChain, TT.mAndV, TT.mOrV, TT.mNotV, TT.mAnd, TT.mOr, TT.mNot, TT.mIf, TT.tru, TT.truD, TT.mSl, TT.opP, TT.gSl, TT.mAppend, TT.kAppend, TT.mExtend, TT.kExtend, TT.only, TT.gTupD, TT.gsCons, TT.gsNil, TT.gEqA, TT.gNeA, TT.eqB, TT.scEq, TT.gIn, TT.gNotIn, TT.inB, TT.smallI, atI, ixN, hc, z2, z3]
      · simp [TT.mDef, TT.mCall, TT.mEnd, TT.mPass, TT.mPass1, TT.mBack, TT.mBack1, TT.mkSs, TT.mkS, TT.sSeq, TT.sIf, TT.sSet, TT.sRet, TT.sOf, TT.sExpr, TT.sNext, TT.sFor, TT.sAsg, TT.sPar, TT.setSs, TT.mTakeL, TT.mOp2, TT.mOpN, TT.mCons, TT.mb, TT.mr, TT.mo, TT.mName, TT.slot, TT.SV.d?, TT.op2, TT.opN, TT.rs, TT.rsL, TT.gIx, TT.gAdd, TT.gSub, TT.gMul, TT.gFdiv, TT.gMod, TT.gPow, TT.gLt, TT.gLe, TT.gGt, TT.gGe, TT.gI2, TT.gLen, TT.gMax2, TT.gMin2, TT.gInt, TT.gListA, TT.gAll, TT.isB, TT.isS, TT.isI, TT.seqOf, TT.lstOf, TT.lstLike, TT.kSet, TT.mTake, TT.fz, TT.fzL, TT.setSlot, TT.kRet, TT.mPut, TT.kPut2, TT.mlsAt, TT.setMls, TT.keepP, TT.keep1, TT.imm, TT.mLst, TT.mTup, TT.mLc, TT.okWipe, TT.wipeS, TT.SV.isPar, TT.kRange1, TT.mRow, TT.kRow, TT.rowOf, TT.mChain, TT.mAndV, TT.mOrV, TT.mNotV, TT.mAnd, TT.mOr, TT.mNot, TT.mIf, TT.tru, TT.truD, TT.mSl, TT.opP, TT.gSl, TT.mAppend, TT.kAppend, TT.mExtend, TT.kExtend, TT.only, TT.gTupD, TT.gsCons, TT.gsNil, TT.gEqA, TT.gNeA, TT.eqB, TT.scEq, TT.gIn, TT.gNotIn, TT.inB, TT.smallI, atI, ixN, hc, z2, z3])
  exact e
theorem word_ok2 (a b c m : Int) (s : Str) (h1 : 0 < s.length) (h2 : s.length ≤ 1000) (h8 : ok8 (L s)) (hm : 0 ≤ m) (hm2 : m ≤ 1000) : ∃ a' b' c' l, f__law_word [.par (Bx a b c), .loc (.str s), .loc (.int m)] = some (.ok (.val (tx l)) [.par (Bx a' b' c'), .un, .un]) ∧ (l.length : Int) ≤ m ∧ ok8 l := by
  have hl := L_len s
  have e : S (L s) = s := S_tl s
  obtain ⟨a', b', c', l, e1, e2, e3⟩ := word_ok a b c m (L s) (fun z => by rw [z] at hl; simp at hl; omega) (by omega) hm hm2
  rw [show tx (L s) = .str s from congrArg D.str e] at e1
  exact ⟨a', b', c', l, e1, e2, fun c hc' => h8 c (e3 c hc')⟩
def good (n : Nat) (d : D) : Prop := ∃ l, d = tx l ∧ l.length ≤ n ∧ ok8 l
def stt (s : SV) : Prop := s = .un ∨ ∃ d, s = .loc d
abbrev MRK : Str := "+-*/=<>()[],;?"
theorem ok_LET : ok8 (L LET) := by
  have : (L LET).all (fun c => decide (c < 128)) = true := by decide +kernel
  exact fun c h => of_decide_eq_true (List.all_eq_true.mp this c h)
theorem ok_FIG : ok8 (L FIG) := by
  have : (L FIG).all (fun c => decide (c < 128)) = true := by decide +kernel
  exact fun c h => of_decide_eq_true (List.all_eq_true.mp this c h)
theorem ok_MRK : ok8 (L MRK) := by
  have : (L MRK).all (fun c => decide (c < 128)) = true := by decide +kernel
  exact fun c h => of_decide_eq_true (List.all_eq_true.mp this c h)
theorem up_tx {l : List Nat} (h : ok8 l) (hl : l.length ≤ 1000) : ∃ l', gUpper (.str (S l)) = some (tx l') ∧ l'.length = l.length ∧ ok8 l' := by
  have e := upper_S (a := l) (List.all_eq_true.mpr fun c hc' => decide_eq_true (h c hc'))
  refine ⟨l.map PyProof.Rows.up1, ?_, List.length_map _, fun c hc' => ?_⟩
  · unfold gUpper
    simp only [S_len, e]
    rw [if_pos (by omega)]
  · obtain ⟨c0, h0, rfl⟩ := List.mem_map.mp hc'
    have := h c0 h0
    unfold PyProof.Rows.up1
    split <;> omega
theorem ap8 {u v : List Nat} (h : ok8 u) (h' : ok8 v) : ok8 (u ++ v) := fun c hc' => (List.mem_append.mp hc').elim (h c) (h' c)
abbrev P46 : List Nat := [46]
theorem dot_S : (Str.ofString ".") = S P46 := rfl
theorem add_tx {a b : List Nat} (h : a.length + b.length ≤ 1000000) (ha : ok8 a) (hb : ok8 b) : ∃ w, TT.gAdd (tx a) (tx b) = some (tx w) ∧ w.length = a.length + b.length ∧ ok8 w := ⟨a ++ b, gAdd_tx h, List.length_append, ap8 ha hb⟩
theorem turn_ok (a b c : Int) (xs : List D) (s5 s6 s7 : SV) (h6 : stt s6) (h7 : stt s7) (hx : ∀ d ∈ xs, good 30 d) (hl : xs.length ≤ 100) :
    ∃ a' b' c' ys s6' s7', o0__law_texts [.par (Bx a b c), .loc (.str LET), .loc (.str FIG), .loc (.str MRK), .loc (.mls xs), s5, s6, s7] = some (.nx [.par (Bx a' b' c'), .loc (.str LET), .loc (.str FIG), .loc (.str MRK), .loc (.mls (xs ++ ys)), s5, s6', s7']) ∧ stt s6' ∧ stt s7' ∧ ys.length = 8 ∧ ∀ d ∈ ys, good 30 d := by
  obtain ⟨a1, b1, c1, l1, e1, p1, q1⟩ := word_ok2 a b c 7 LET (by decide) (by decide) ok_LET (by decide) (by decide)
  obtain ⟨a2, b2, c2, l2, e2, p2, q2⟩ := word_ok2 a1 b1 c1 7 LET (by decide) (by decide) ok_LET (by decide) (by decide)
  obtain ⟨a3, b3, c3, l3, e3, p3, q3⟩ := word_ok2 a2 b2 c2 2 MRK (by decide) (by decide) ok_MRK (by decide) (by decide)
  obtain ⟨a4, b4, c4, l4, e4, p4, q4⟩ := word_ok2 a3 b3 c3 5 FIG (by decide) (by decide) ok_FIG (by decide) (by decide)
  have hLF : LET ++ FIG = Str.ofString "abcdefghijklmnopqrstuvwxyz0123456789" := by decide +kernel
  obtain ⟨a5, b5, c5, l5, e5, p5, q5⟩ := word_ok2 a4 b4 c4 4 (LET ++ FIG) (by decide) (by decide) (by
    have : (L (LET ++ FIG)).all (fun c => decide (c < 128)) = true := by decide +kernel
    exact fun c h => of_decide_eq_true (List.all_eq_true.mp this c h)) (by decide) (by decide)
  obtain ⟨u1, f1, g1, r1⟩ := up_tx q1 (by omega)
  obtain ⟨u2, f2, g2, r2⟩ := up_tx q2 (by omega)
  have o46 : ok8 P46 := by intro c hc'; rw [List.mem_singleton.mp hc']; decide
  have n46 : P46.length = 1 := rfl
  obtain ⟨w1, A1, B1, C1⟩ := add_tx (a := l1) (b := P46) (by omega) q1 o46
  obtain ⟨w2, A2, B2, C2⟩ := add_tx (a := w1) (b := l2) (by omega) C1 q2
  obtain ⟨w3, A3, B3, C3⟩ := add_tx (a := l1) (b := u2) (by omega) q1 r2
  obtain ⟨w4, A4, B4, C4⟩ := add_tx (a := w2) (b := P46) (by omega) C2 o46
  obtain ⟨w5, A5, B5, C5⟩ := add_tx (a := w4) (b := l1) (by omega) C4 q1
  have A6 : TT.gAdd (.str LET) (.str FIG) = some (.str (LET ++ FIG)) := rfl
  refine ⟨a5, b5, c5, [tx l1, tx u1, tx w2, tx w3, tx w5] ++ [tx l3, tx l4, tx l5], .loc (tx l1), .loc (tx l2), ?_, .inr ⟨_, rfl⟩, .inr ⟨_, rfl⟩, rfl, ?_⟩
  · refine seq_go (ρ1 := [.par (Bx a2 b2 c2), .loc (.str LET), .loc (.str FIG), .loc (.str MRK), .loc (.mls xs), s5, .loc (tx l1), .loc (tx l2)]) ?_ ?_
    · rcases h6 with h6 | ⟨d6, h6⟩ <;> rcases h7 with h7 | ⟨d7, h7⟩ <;> subst h6 h7 <;> simp [TT.mDef, TT.mCall, TT.mEnd, TT.mPass, TT.mPass1, TT.mBack, TT.mBack1, TT.mkSs, TT.mkS, TT.sSeq, TT.sIf, TT.sSet, TT.sRet, TT.sOf, TT.sExpr, TT.sNext, TT.sFor, TT.sAsg, TT.sPar, TT.setSs, TT.mTakeL, TT.mOp2, TT.mOpN, TT.mCons, TT.mb, TT.mr, TT.mo, TT.mName, TT.slot, TT.SV.d?, TT.op2, TT.opN, TT.rs, TT.rsL, TT.gIx, TT.gAdd, TT.gSub, TT.gMul, TT.gFdiv, TT.gMod, TT.gPow, TT.gLt, TT.gLe, TT.gGt, TT.gGe, TT.gI2, TT.gLen, TT.gMax2, TT.gMin2, TT.gInt, TT.gListA, TT.gAll, TT.isB, TT.isS, TT.isI, TT.seqOf, TT.lstOf, TT.lstLike, TT.kSet, TT.mTake, TT.fz, TT.fzL, TT.setSlot, TT.kRet, TT.mPut, TT.kPut2, TT.mlsAt, TT.setMls, TT.keepP, TT.keep1, TT.imm, TT.mLst, TT.mTup, TT.mLc, TT.okWipe, TT.wipeS, TT.SV.isPar, TT.kRange1, TT.mRow, TT.kRow, TT.rowOf, TT.mChain, TT.mAndV, TT.mOrV, TT.mNotV, TT.mAnd, TT.mOr, TT.mNot, TT.mIf, TT.tru, TT.truD, TT.mSl, TT.opP, TT.gSl, TT.mAppend, TT.kAppend, TT.mExtend, TT.kExtend, TT.only, TT.gTupD, TT.gsCons, TT.gsNil, TT.gEqA, TT.gNeA, TT.eqB, TT.scEq, TT.gIn, TT.gNotIn, TT.inB, TT.smallI, e1, e2]
    refine seq_go (ρ1 := [.par (Bx a2 b2 c2), .loc (.str LET), .loc (.str FIG), .loc (.str MRK), .loc (.mls (xs ++ [tx l1, tx u1, tx w2, tx w3, tx w5])), s5, .loc (tx l1), .loc (tx l2)]) ?_ ?_
    · have z5 : 5 ≤ sizeLine := by decide
      have y5 : xs.length + 5 ≤ sizeLine := Nat.le_trans (show _ ≤ 1000 by omega) (by decide)
      rw [dot_S]
      simp [TT.mDef, TT.mCall, TT.mEnd, TT.mPass, TT.mPass1, TT.mBack, TT.mBack1, TT.mkSs, TT.mkS, TT.sSeq, TT.sIf, TT.sSet, TT.sRet, TT.sOf, TT.sExpr, TT.sNext, TT.sFor, TT.sAsg, TT.sPar, TT.setSs, TT.mTakeL, TT.mOp2, TT.mOpN, TT.mCons, TT.mb, TT.mr, TT.mo, TT.mName, TT.slot, TT.SV.d?, TT.op2, TT.opN, TT.rs, TT.rsL, TT.gIx, TT.gAdd, TT.gSub, TT.gMul, TT.gFdiv, TT.gMod, TT.gPow, TT.gLt, TT.gLe, TT.gGt, TT.gGe, TT.gI2, TT.gLen, TT.gMax2, TT.gMin2, TT.gInt, TT.gListA, TT.gAll, TT.isB, TT.isS, TT.isI, TT.seqOf, TT.lstOf, TT.lstLike, TT.kSet, TT.mTake, TT.fz, TT.fzL, TT.setSlot, TT.kRet, TT.mPut, TT.kPut2, TT.mlsAt, TT.setMls, TT.keepP, TT.keep1, TT.imm, TT.mLst, TT.mTup, TT.mLc, TT.okWipe, TT.wipeS, TT.SV.isPar, TT.kRange1, TT.mRow, TT.kRow, TT.rowOf, TT.mChain, TT.mAndV, TT.mOrV, TT.mNotV, TT.mAnd, TT.mOr, TT.mNot, TT.mIf, TT.tru, TT.truD, TT.mSl, TT.opP, TT.gSl, TT.mAppend, TT.kAppend, TT.mExtend, TT.kExtend, TT.only, TT.gTupD, TT.gsCons, TT.gsNil, TT.gEqA, TT.gNeA, TT.eqB, TT.scEq, TT.gIn, TT.gNotIn, TT.inB, TT.smallI, -TT.gAdd, f1, f2, A1, A2, A3, A4, A5, z5, y5]
    · have z3 : 3 ≤ sizeLine := by decide
      have y3 : xs.length + 5 + 3 ≤ sizeLine := Nat.le_trans (show _ ≤ 1000 by omega) (by decide)
      simp [TT.mDef, TT.mCall, TT.mEnd, TT.mPass, TT.mPass1, TT.mBack, TT.mBack1, TT.mkSs, TT.mkS, TT.sSeq, TT.sIf, TT.sSet, TT.sRet, TT.sOf, TT.sExpr, TT.sNext, TT.sFor, TT.sAsg, TT.sPar, TT.setSs, TT.mTakeL, TT.mOp2, TT.mOpN, TT.mCons, TT.mb, TT.mr, TT.mo, TT.mName, TT.slot, TT.SV.d?, TT.op2, TT.opN, TT.rs, TT.rsL, TT.gIx, TT.gAdd, TT.gSub, TT.gMul, TT.gFdiv, TT.gMod, TT.gPow, TT.gLt, TT.gLe, TT.gGt, TT.gGe, TT.gI2, TT.gLen, TT.gMax2, TT.gMin2, TT.gInt, TT.gListA, TT.gAll, TT.isB, TT.isS, TT.isI, TT.seqOf, TT.lstOf, TT.lstLike, TT.kSet, TT.mTake, TT.fz, TT.fzL, TT.setSlot, TT.kRet, TT.mPut, TT.kPut2, TT.mlsAt, TT.setMls, TT.keepP, TT.keep1, TT.imm, TT.mLst, TT.mTup, TT.mLc, TT.okWipe, TT.wipeS, TT.SV.isPar, TT.kRange1, TT.mRow, TT.kRow, TT.rowOf, TT.mChain, TT.mAndV, TT.mOrV, TT.mNotV, TT.mAnd, TT.mOr, TT.mNot, TT.mIf, TT.tru, TT.truD, TT.mSl, TT.opP, TT.gSl, TT.mAppend, TT.kAppend, TT.mExtend, TT.kExtend, TT.only, TT.gTupD, TT.gsCons, TT.gsNil, TT.gEqA, TT.gNeA, TT.eqB, TT.scEq, TT.gIn, TT.gNotIn, TT.inB, TT.smallI, -TT.gAdd, A6, e3, e4, e5, z3, y3]
  · intro d hd'
    have w3 : l3.length ≤ 2 := by omega
    simp at hd'
    rcases hd' with h | h | h | h | h | h | h | h <;> subst h
    · exact ⟨_, rfl, by omega, q1⟩
    · exact ⟨_, rfl, by omega, r1⟩
    · exact ⟨_, rfl, by omega, C2⟩
    · exact ⟨_, rfl, by omega, C3⟩
    · exact ⟨_, rfl, by omega, C5⟩
    · exact ⟨_, rfl, by omega, q3⟩
    · exact ⟨_, rfl, by omega, q4⟩
    · exact ⟨_, rfl, by omega, q5⟩
def base0 : List D := [.str "", .str " ", .str ".", .str "0", .str "00", .str "999", .str "1000", .str "a.b", .str "ground", .str "GROUND", .str "a.", .str ".a", .str "a.b.c"]
def base1 : List D := base0 ++ chars MRK
theorem good_of (n : Nat) (d : D) (h : (match d with | .str x => decide (x.length ≤ n) && (L x).all (fun c => decide (c < 128)) | _ => false) = true) : good n d := by
  cases d with
  | str x =>
    simp only [Bool.and_eq_true, decide_eq_true_eq] at h
    exact ⟨L x, congrArg D.str (S_tl x).symm, by rw [L_len]; exact h.1, fun c hc' => of_decide_eq_true (List.all_eq_true.mp h.2 c hc')⟩
  | _ => cases h
theorem base_good : ∀ d ∈ base1, good 30 d := by
  have q : base1.all (fun d => match d with | .str x => decide (x.length ≤ 30) && (L x).all (fun c => decide (c < 128)) | _ => false) = true := by decide +kernel
  exact fun d hd' => good_of 30 d (List.all_eq_true.mp q d hd')
theorem texts_ok (a b c : Int) : ∃ a' b' c' ds, f__law_texts [.par (Bx a b c)] = some (.ok (.val (.mls ds)) [.par (Bx a' b' c')]) ∧ (∀ d ∈ ds, good 30 d) ∧ ds.length ≤ 100 := by
  have h0 : base1.length = 27 := by decide +kernel
  obtain ⟨ρ', e, a', b', c', xs, s5, s6, s7, _, _, _, g1, g2, e2⟩ := forL_inv (t := setSlot 5) (b := o0__law_texts) (fun ds ρ => ∃ a b c xs s5 s6 s7, stt s5 ∧ stt s6 ∧ stt s7 ∧ (∀ d ∈ xs, good 30 d) ∧ xs.length + 8 * ds.length ≤ 60 ∧ ρ = [.par (Bx a b c), .loc (.str LET), .loc (.str FIG), .loc (.str MRK), .loc (.mls xs), s5, s6, s7])
    (fun d ds ρ ⟨a, b, c, xs, s5, s6, s7, h5, h6, h7, hg, hl, e⟩ => by
      subst e
      rw [List.length_cons] at hl
      obtain ⟨a', b', c', ys, s6', s7', e1, k6, k7, hy, gy⟩ := turn_ok a b c xs (.loc d) s6 s7 h6 h7 hg (by omega)
      refine ⟨[.par (Bx a b c), .loc (.str LET), .loc (.str FIG), .loc (.str MRK), .loc (.mls xs), .loc d, s6, s7], _, ?_, .inl e1, a', b', c', xs ++ ys, .loc d, s6', s7', .inr ⟨d, rfl⟩, k6, k7, fun x hx => (List.mem_append.mp hx).elim (hg x) (gy x), by rw [List.length_append]; omega, rfl⟩
      rcases h5 with h | ⟨d5, h⟩ <;> subst h <;> rfl) (rangeD 0 3) [.par (Bx a b c), .loc (.str LET), .loc (.str FIG), .loc (.str MRK), .loc (.mls base1), .un, .un, .un]
    ⟨a, b, c, base1, .un, .un, .un, .inl rfl, .inl rfl, .inl rfl, base_good, by rw [h0, rangeD_len]; decide, rfl⟩
  subst e2
  refine ⟨a', b', c', xs, ?_, g1, by simp at g2; omega⟩
  have el : l1__law_texts [.par (Bx a b c), .loc (.str LET), .loc (.str FIG), .loc (.str MRK), .loc (.mls base1), .un, .un, .un] = some (.nx [.par (Bx a' b' c'), .loc (.str LET), .loc (.str FIG), .loc (.str MRK), .loc (.mls xs), s5, s6, s7]) := by
    simp [l1__law_texts, TT.mDef, TT.mCall, TT.mEnd, TT.mPass, TT.mPass1, TT.mBack, TT.mBack1, TT.mkSs, TT.mkS, TT.sSeq, TT.sIf, TT.sSet, TT.sRet, TT.sOf, TT.sExpr, TT.sNext, TT.sFor, TT.sAsg, TT.sPar, TT.setSs, TT.mTakeL, TT.mOp2, TT.mOpN, TT.mCons, TT.mb, TT.mr, TT.mo, TT.mName, TT.slot, TT.SV.d?, TT.op2, TT.opN, TT.rs, TT.rsL, TT.gIx, TT.gAdd, TT.gSub, TT.gMul, TT.gFdiv, TT.gMod, TT.gPow, TT.gLt, TT.gLe, TT.gGt, TT.gGe, TT.gI2, TT.gLen, TT.gMax2, TT.gMin2, TT.gInt, TT.gListA, TT.gAll, TT.isB, TT.isS, TT.isI, TT.seqOf, TT.lstOf, TT.lstLike, TT.kSet, TT.mTake, TT.fz, TT.fzL, TT.setSlot, TT.kRet, TT.mPut, TT.kPut2, TT.mlsAt, TT.setMls, TT.keepP, TT.keep1, TT.imm, TT.mLst, TT.mTup, TT.mLc, TT.okWipe, TT.wipeS, TT.SV.isPar, TT.kRange1, TT.mRow, TT.kRow, TT.rowOf, TT.mChain, TT.mAndV, TT.mOrV, TT.mNotV, TT.mAnd, TT.mOr, TT.mNot, TT.mIf, TT.tru, TT.truD, TT.mSl, TT.opP, TT.gSl, TT.mAppend, TT.kAppend, TT.mExtend, TT.kExtend, TT.only, TT.gTupD, TT.gsCons, TT.gsNil, TT.gEqA, TT.gNeA, TT.eqB, TT.scEq, TT.gIn, TT.gNotIn, TT.inB, TT.smallI]
    rw [e]
  refine def_go [.par (Bx a' b' c'), .loc (.str LET), .loc (.str FIG), .loc (.str MRK), .hol false, s5, s6, s7] ?_
  refine seq_go (ρ1 := [.par (Bx a b c), .loc (.str LET), .loc (.str FIG), .un, .un, .un, .un, .un]) rfl ?_
  refine seq_go (ρ1 := [.par (Bx a b c), .loc (.str LET), .loc (.str FIG), .loc (.str MRK), .un, .un, .un, .un]) rfl ?_
  refine seq_go (ρ1 := [.par (Bx a b c), .loc (.str LET), .loc (.str FIG), .loc (.str MRK), .loc (.mls base0), .un, .un, .un]) rfl ?_
  refine seq_go (ρ1 := [.par (Bx a b c), .loc (.str LET), .loc (.str FIG), .loc (.str MRK), .loc (.mls base1), .un, .un, .un]) rfl ?_
  exact seq_go el rfl
abbrev ANY : Str := " !\"#$&'()*+,-./0123456789:;<=>?@ABCXYZ[\\]^_`abcxyz{|}~\n"
theorem ok_ANY : ok8 (L ANY) := by
  have : (L ANY).all (fun c => decide (c < 128)) = true := by decide +kernel
  exact fun c h => of_decide_eq_true (List.all_eq_true.mp this c h)
theorem good_imm {n : Nat} {d : D} (h : good n d) : imm d = true ∧ fz d = d := by
  obtain ⟨l, rfl, _⟩ := h
  exact ⟨rfl, rfl⟩
theorem good_fzL {n : Nat} : ∀ {ds : List D}, (∀ d ∈ ds, good n d) → fzL ds = ds
  | [], _ => rfl
  | d :: ds, h => by
    unfold fzL
    rw [(good_imm (h d List.mem_cons_self)).2, good_fzL fun x hx => h x (List.mem_cons_of_mem _ hx)]
theorem good_all {n : Nat} {ds : List D} (h : ∀ d ∈ ds, good n d) : ds.all imm = true := List.all_eq_true.mpr fun d hd' => (good_imm (h d hd')).1
theorem check_ok (p0 s2 s3 s4 s6 : SV) (d : D) (h6 : stt s6) (hd' : good 61 d) : ∃ s6', o2_law [p0, .loc (.str ANY), s2, s3, s4, .loc d, s6] = some (.nx [p0, .loc (.str ANY), s2, s3, s4, .loc d, s6']) ∧ stt s6' := by
  obtain ⟨l, rfl, hl, h8⟩ := hd'
  have hx : (S l).length ≤ sizeLine := by rw [S_len]; exact Nat.le_trans hl (by decide)
  have e1 := name_ok (S l) hx
  have e2 := sign_ok (S l) hx
  have e3 := call_ok (S l) hx
  have e4 := number_ok (S l) hx
  have e5 := due_ok (S l) hx h8
  have hw : D.tup [.bl (wd (S l) LET), .bl (wd (S l) CAP || mk (S l)), .bl (cd (S l)), numd (S l)] = D.tup [.bl (made (S l) LET 6), .bl (mk (S l) || made (S l) CAP 6), .bl (made (P1 (S l)) LET 6 && made (P3 (S l)) LET 6), numv (S l)] := by
    rw [wd_made, wd_made, ← call_same, ← num_same, Bool.or_comm]
  rw [hw] at e5
  obtain ⟨y, ey⟩ := repr_ok (S l) (made (S l) LET 6) (mk (S l) || made (S l) CAP 6) (made (P1 (S l)) LET 6 && made (P3 (S l)) LET 6)
  have en := ne_same y
  have hfz : fz (numv (S l)) = numv (S l) := by unfold numv; split <;> rfl
  have z4 : 4 ≤ sizeLine := by decide
  generalize made (S l) LET 6 = r1 at *
  generalize (mk (S l) || made (S l) CAP 6) = r2 at *
  generalize (made (P1 (S l)) LET 6 && made (P3 (S l)) LET 6) = r3 at *
  generalize numv (S l) = r4 at *
  refine ⟨.loc (.tup [.bl r1, .bl r2, .bl r3, r4]), ?_, .inr ⟨_, rfl⟩⟩
  refine seq_go (ρ1 := [p0, .loc (.str ANY), s2, s3, s4, .loc (tx l), .loc (.tup [.bl r1, .bl r2, .bl r3, r4])]) ?_ ?_
  · rcases h6 with h | ⟨d6, h⟩ <;> subst h <;> simp [TT.mDef, TT.mCall, TT.mEnd, TT.mPass, TT.mPass1, TT.mBack, TT.mBack1, TT.mkSs, TT.mkS, TT.sSeq, TT.sIf, TT.sSet, TT.sRet, TT.sOf, TT.sExpr, TT.sNext, TT.sFor, TT.sAsg, TT.sPar, TT.setSs, TT.mTakeL, TT.mOp2, TT.mOpN, TT.mCons, TT.mb, TT.mr, TT.mo, TT.mName, TT.slot, TT.SV.d?, TT.op2, TT.opN, TT.rs, TT.rsL, TT.gIx, TT.gAdd, TT.gSub, TT.gMul, TT.gFdiv, TT.gMod, TT.gPow, TT.gLt, TT.gLe, TT.gGt, TT.gGe, TT.gI2, TT.gLen, TT.gMax2, TT.gMin2, TT.gInt, TT.gListA, TT.gAll, TT.isB, TT.isS, TT.isI, TT.seqOf, TT.lstOf, TT.lstLike, TT.kSet, TT.mTake, TT.fz, TT.fzL, TT.setSlot, TT.kRet, TT.mPut, TT.kPut2, TT.mlsAt, TT.setMls, TT.keepP, TT.keep1, TT.imm, TT.mLst, TT.mTup, TT.mLc, TT.okWipe, TT.wipeS, TT.SV.isPar, TT.kRange1, TT.mRow, TT.kRow, TT.rowOf, TT.mChain, TT.mAndV, TT.mOrV, TT.mNotV, TT.mAnd, TT.mOr, TT.mNot, TT.mIf, TT.tru, TT.truD, TT.mSl, TT.opP, TT.gSl, TT.mAppend, TT.kAppend, TT.mExtend, TT.kExtend, TT.only, TT.gTupD, TT.gsCons, TT.gsNil, TT.gEqA, TT.gNeA, TT.eqB, TT.scEq, TT.gIn, TT.gNotIn, TT.inB, TT.smallI, -TT.fz, TT.fz.eq_3, TT.fz.eq_4, e1, e2, e3, e4, hfz, z4]
  · simp [TT.mDef, TT.mCall, TT.mEnd, TT.mPass, TT.mPass1, TT.mBack, TT.mBack1, TT.mkSs, TT.mkS, TT.sSeq, TT.sIf, TT.sSet, TT.sRet, TT.sOf, TT.sExpr, TT.sNext, TT.sFor, TT.sAsg, TT.sPar, TT.setSs, TT.mTakeL, TT.mOp2, TT.mOpN, TT.mCons, TT.mb, TT.mr, TT.mo, TT.mName, TT.slot, TT.SV.d?, TT.op2, TT.opN, TT.rs, TT.rsL, TT.gIx, TT.gAdd, TT.gSub, TT.gMul, TT.gFdiv, TT.gMod, TT.gPow, TT.gLt, TT.gLe, TT.gGt, TT.gGe, TT.gI2, TT.gLen, TT.gMax2, TT.gMin2, TT.gInt, TT.gListA, TT.gAll, TT.isB, TT.isS, TT.isI, TT.seqOf, TT.lstOf, TT.lstLike, TT.kSet, TT.mTake, TT.fz, TT.fzL, TT.setSlot, TT.kRet, TT.mPut, TT.kPut2, TT.mlsAt, TT.setMls, TT.keepP, TT.keep1, TT.imm, TT.mLst, TT.mTup, TT.mLc, TT.okWipe, TT.wipeS, TT.SV.isPar, TT.kRange1, TT.mRow, TT.kRow, TT.rowOf, TT.mChain, TT.mAndV, TT.mOrV, TT.mNotV, TT.mAnd, TT.mOr, TT.mNot, TT.mIf, TT.tru, TT.truD, TT.mSl, TT.opP, TT.gSl, TT.mAppend, TT.kAppend, TT.mExtend, TT.kExtend, TT.only, TT.gTupD, TT.gsCons, TT.gsNil, TT.gEqA, TT.gNeA, TT.eqB, TT.scEq, TT.gIn, TT.gNotIn, TT.inB, TT.smallI, -TT.gNeA, e5, ey, en]
theorem gAdd_mls {n : Nat} {xs ys : List D} (h1 : ∀ d ∈ xs, good n d) (h2 : ∀ d ∈ ys, good n d) (hz : xs.length + ys.length ≤ 10000) : TT.gAdd (.mls xs) (.mls ys) = some (.mls (xs ++ ys)) ∧ TT.gAdd (.lst xs) (.mls ys) = some (.mls (xs ++ ys)) := by
  have z : xs.length + ys.length ≤ sizeLine := Nat.le_trans hz (by decide)
  have a1 := good_all h1
  have a2 := good_all h2
  constructor
  · unfold TT.gAdd lstOf
    simp only [a1, a2, if_true, if_pos z]
  · unfold TT.gAdd lstOf
    simp only [a2, if_true, if_pos z]
theorem good_mono {m n : Nat} {d : D} (h : m ≤ n) (g : good m d) : good n d := by
  obtain ⟨l, e, h1, h2⟩ := g
  exact ⟨l, e, by omega, h2⟩
theorem cutD_mem {xs : List D} {lo hi : Option Int} {d : D} (h : d ∈ cutD xs lo hi) : d ∈ xs := List.mem_of_mem_drop (List.mem_of_mem_take h)
theorem cutD_len (xs : List D) (lo hi : Option Int) : (cutD xs lo hi).length ≤ xs.length := Nat.le_trans (List.length_take_le' ..) (by rw [List.length_drop]; exact Nat.sub_le _ _)
theorem others_ok (p0 s2 s6 : SV) (s5 : SV) (h5 : stt s5) (a b c : Int) (xs : List D) (hg : ∀ d ∈ xs, good 30 d) (hl : xs.length ≤ 100) : ∃ a' b' c' ys, c1_law [p0, .loc (.str ANY), s2, .loc (Bx a b c), .loc (.mls xs), s5, s6] = some (.ok (.val (.mls ys)) [p0, .loc (.str ANY), s2, .loc (Bx a' b' c'), .loc (.lst xs), .un, s6]) ∧ (∀ d ∈ ys, good 61 d) ∧ ys.length ≤ 100 := by
  have e9 : ANY = S (L ANY) := (S_tl ANY).symm
  obtain ⟨acc, ρ', q1, ⟨a2, b2, c2, q2⟩, q3, q4⟩ := lcL_inv (t := setSlot 5) (c := mYes) (e := mb e0_law mTake) (vs := [5])
    (fun ρ => ∃ a b c, ρ = [p0, .loc (.str ANY), s2, .loc (Bx a b c), .loc (.lst xs), .un, s6]) (good 30) (good 61) (fun d ρ ⟨l, ed, hl, h8⟩ ⟨a, b, c, e⟩ => by
      subst e ed
      obtain ⟨a', b', c', l', e1, hl', h8'⟩ := otherwise_ok a b c l (L ANY) (by omega) h8 (by decide +kernel) (by decide +kernel) ok_ANY
      rw [show tx (L ANY) = .str ANY from congrArg D.str e9.symm] at e1
      refine ⟨[p0, .loc (.str ANY), s2, .loc (Bx a b c), .loc (.lst xs), .loc (tx l), s6], true, _, rfl, rfl, (fun z => by cases z), fun _ => ⟨tx l', [p0, .loc (.str ANY), s2, .loc (Bx a' b' c'), .loc (.lst xs), .loc (tx l), s6], ?_, rfl, ⟨a', b', c', rfl⟩, l', rfl, by omega, h8'⟩⟩
      simp [e0_law, TT.mDef, TT.mCall, TT.mEnd, TT.mPass, TT.mPass1, TT.mBack, TT.mBack1, TT.mkSs, TT.mkS, TT.sSeq, TT.sIf, TT.sSet, TT.sRet, TT.sOf, TT.sExpr, TT.sNext, TT.sFor, TT.sAsg, TT.sPar, TT.setSs, TT.mTakeL, TT.mOp2, TT.mOpN, TT.mCons, TT.mb, TT.mr, TT.mo, TT.mName, TT.slot, TT.SV.d?, TT.op2, TT.opN, TT.rs, TT.rsL, TT.gIx, TT.gAdd, TT.gSub, TT.gMul, TT.gFdiv, TT.gMod, TT.gPow, TT.gLt, TT.gLe, TT.gGt, TT.gGe, TT.gI2, TT.gLen, TT.gMax2, TT.gMin2, TT.gInt, TT.gListA, TT.gAll, TT.isB, TT.isS, TT.isI, TT.seqOf, TT.lstOf, TT.lstLike, TT.kSet, TT.mTake, TT.fz, TT.fzL, TT.setSlot, TT.kRet, TT.mPut, TT.kPut2, TT.mlsAt, TT.setMls, TT.keepP, TT.keep1, TT.imm, TT.mLst, TT.mTup, TT.mLc, TT.okWipe, TT.wipeS, TT.SV.isPar, TT.kRange1, TT.mRow, TT.kRow, TT.rowOf, TT.mChain, TT.mAndV, TT.mOrV, TT.mNotV, TT.mAnd, TT.mOr, TT.mNot, TT.mIf, TT.tru, TT.truD, TT.mSl, TT.opP, TT.gSl, TT.mAppend, TT.kAppend, TT.mExtend, TT.kExtend, TT.only, TT.gTupD, TT.gsCons, TT.gsNil, TT.gEqA, TT.gNeA, TT.eqB, TT.scEq, TT.gIn, TT.gNotIn, TT.inB, TT.smallI, e1]) xs [] [p0, .loc (.str ANY), s2, .loc (Bx a b c), .loc (.lst xs), .un, s6] hg (fun _ h => by cases h) (by rw [List.length_nil, Nat.zero_add]; exact Nat.le_trans hl (by decide)) ⟨a, b, c, rfl⟩
  subst q2
  refine ⟨a2, b2, c2, acc, ?_, q3, by simp at q4; omega⟩
  have hf := good_fzL hg
  rcases h5 with h | ⟨d5, h⟩ <;> subst h <;> simp [c1_law, TT.mDef, TT.mCall, TT.mEnd, TT.mPass, TT.mPass1, TT.mBack, TT.mBack1, TT.mkSs, TT.mkS, TT.sSeq, TT.sIf, TT.sSet, TT.sRet, TT.sOf, TT.sExpr, TT.sNext, TT.sFor, TT.sAsg, TT.sPar, TT.setSs, TT.mTakeL, TT.mOp2, TT.mOpN, TT.mCons, TT.mb, TT.mr, TT.mo, TT.mName, TT.slot, TT.SV.d?, TT.op2, TT.opN, TT.rs, TT.rsL, TT.gIx, TT.gAdd, TT.gSub, TT.gMul, TT.gFdiv, TT.gMod, TT.gPow, TT.gLt, TT.gLe, TT.gGt, TT.gGe, TT.gI2, TT.gLen, TT.gMax2, TT.gMin2, TT.gInt, TT.gListA, TT.gAll, TT.isB, TT.isS, TT.isI, TT.seqOf, TT.lstOf, TT.lstLike, TT.kSet, TT.mTake, TT.fz, TT.fzL, TT.setSlot, TT.kRet, TT.mPut, TT.kPut2, TT.mlsAt, TT.setMls, TT.keepP, TT.keep1, TT.imm, TT.mLst, TT.mTup, TT.mLc, TT.okWipe, TT.wipeS, TT.SV.isPar, TT.kRange1, TT.mRow, TT.kRow, TT.rowOf, TT.mChain, TT.mAndV, TT.mOrV, TT.mNotV, TT.mAnd, TT.mOr, TT.mNot, TT.mIf, TT.tru, TT.truD, TT.mSl, TT.opP, TT.gSl, TT.mAppend, TT.kAppend, TT.mExtend, TT.kExtend, TT.only, TT.gTupD, TT.gsCons, TT.gsNil, TT.gEqA, TT.gNeA, TT.eqB, TT.scEq, TT.gIn, TT.gNotIn, TT.inB, TT.smallI, -TT.fzL, hf] <;> rw [q1]
theorem inner_ok (p0 s2 s3 s5 s6 : SV) (h5 : stt s5) (h6 : stt s6) (xs : List D) (hg : ∀ d ∈ xs, good 61 d) (hl : xs.length ≤ 300) : ∃ s5' s6', l3_law [p0, .loc (.str ANY), s2, s3, .loc (.mls xs), s5, s6] = some (.nx [p0, .loc (.str ANY), s2, s3, .loc (.mls xs), s5', s6']) ∧ stt s5' ∧ stt s6' := by
  have hall := good_all hg
  have hcl := cutD_len xs none (some 3)
  have ha := (gAdd_mls (ys := cutD xs none (some 3)) hg (fun d hd' => hg d (cutD_mem hd')) (by omega)).1
  have hg2 : ∀ d ∈ xs ++ cutD xs none (some 3), good 61 d := fun d hd' => (List.mem_append.mp hd').elim (hg d) fun h => hg d (cutD_mem h)
  have hs : TT.gSl (.mls xs) none (some 3) = some (.mls (cutD xs none (some 3))) := by unfold TT.gSl seqOf; simp only [hall, if_true, Option.map_some]
  obtain ⟨ρ', e, _, s5', s6', k5, k6, e2⟩ := forL_inv (t := setSlot 5) (b := o2_law) (fun ds ρ => (∀ d ∈ ds, good 61 d) ∧ ∃ s5 s6, stt s5 ∧ stt s6 ∧ ρ = [p0, .loc (.str ANY), s2, s3, .loc (.mls xs), s5, s6]) (fun d ds ρ ⟨hd', s5, s6, h5, h6, e⟩ => by
    subst e
    obtain ⟨s6', e1, k6⟩ := check_ok p0 s2 s3 (.loc (.mls xs)) s6 d h6 (hd' d List.mem_cons_self)
    refine ⟨[p0, .loc (.str ANY), s2, s3, .loc (.mls xs), .loc d, s6], _, ?_, .inl e1, fun x hx => hd' x (List.mem_cons_of_mem _ hx), .loc d, s6', .inr ⟨_, rfl⟩, k6, rfl⟩
    rcases h5 with h | ⟨d5, h⟩ <;> subst h <;> rfl) (xs ++ cutD xs none (some 3)) [p0, .loc (.str ANY), s2, s3, .loc (.mls xs), s5, s6] ⟨hg2, s5, s6, h5, h6, rfl⟩
  subst e2
  refine ⟨s5', s6', ?_, k5, k6⟩
  have hf := good_fzL hg2
  simp [l3_law, TT.mDef, TT.mCall, TT.mEnd, TT.mPass, TT.mPass1, TT.mBack, TT.mBack1, TT.mkSs, TT.mkS, TT.sSeq, TT.sIf, TT.sSet, TT.sRet, TT.sOf, TT.sExpr, TT.sNext, TT.sFor, TT.sAsg, TT.sPar, TT.setSs, TT.mTakeL, TT.mOp2, TT.mOpN, TT.mCons, TT.mb, TT.mr, TT.mo, TT.mName, TT.slot, TT.SV.d?, TT.op2, TT.opN, TT.rs, TT.rsL, TT.gIx, TT.gAdd, TT.gSub, TT.gMul, TT.gFdiv, TT.gMod, TT.gPow, TT.gLt, TT.gLe, TT.gGt, TT.gGe, TT.gI2, TT.gLen, TT.gMax2, TT.gMin2, TT.gInt, TT.gListA, TT.gAll, TT.isB, TT.isS, TT.isI, TT.seqOf, TT.lstOf, TT.lstLike, TT.kSet, TT.mTake, TT.fz, TT.fzL, TT.setSlot, TT.kRet, TT.mPut, TT.kPut2, TT.mlsAt, TT.setMls, TT.keepP, TT.keep1, TT.imm, TT.mLst, TT.mTup, TT.mLc, TT.okWipe, TT.wipeS, TT.SV.isPar, TT.kRange1, TT.mRow, TT.kRow, TT.rowOf, TT.mChain, TT.mAndV, TT.mOrV, TT.mNotV, TT.mAnd, TT.mOr, TT.mNot, TT.mIf, TT.tru, TT.truD, TT.mSl, TT.opP, TT.gSl, TT.mAppend, TT.kAppend, TT.mExtend, TT.kExtend, TT.only, TT.gTupD, TT.gsCons, TT.gsNil, TT.gEqA, TT.gNeA, TT.eqB, TT.scEq, TT.gIn, TT.gNotIn, TT.inB, TT.smallI, -TT.gAdd, -TT.gSl, -TT.fzL, hs, ha, hf]
  rw [e]
theorem mirror (ns : List Int) (hl : ns.length ≤ 63) (hb : ∀ z ∈ ns, Builtin.Int.intBits z ≤ 1048576) : ∃ ρ', b_law (.loc (.sq (ns.map D.int)) :: List.replicate (7 - 1) .un) = some (.rt (.bl true) ρ') := by
  obtain ⟨ρ', e, _, s2, s3, s4, s5, s6, _, _, _, _, _, e2⟩ := forL_inv (t := setSlot 2) (b := o4_law) (fun ds ρ => (∀ d ∈ ds, ∃ k : Int, 0 ≤ k ∧ d = .int k) ∧ ∃ s2 s3 s4 s5 s6, stt s2 ∧ stt s3 ∧ stt s4 ∧ stt s5 ∧ stt s6 ∧ ρ = [.loc (.sq (ns.map D.int)), .loc (.str ANY), s2, s3, s4, s5, s6]) (fun d ds ρ ⟨hd', s2, s3, s4, s5, s6, h2, h3, h4, h5, h6, e⟩ => by
    subst e
    obtain ⟨k, hk, rfl⟩ := hd' d List.mem_cons_self
    obtain ⟨a, b, c, eb⟩ := box_ok ns k hk
    obtain ⟨a1, b1, c1, xs, et, hg, hlen⟩ := texts_ok a b c
    obtain ⟨a2, b2, c2, ys, eo, hg2, hlen2⟩ := others_ok (.loc (.sq (ns.map D.int))) (.loc (.int k)) s6 s5 h5 a1 b1 c1 xs hg hlen
    have hg1 : ∀ d ∈ xs, good 61 d := fun d hd' => good_mono (by omega) (hg d hd')
    have ha := (gAdd_mls hg1 hg2 (by omega)).2
    obtain ⟨s5', s6', ei, k5, k6⟩ := inner_ok (.loc (.sq (ns.map D.int))) (.loc (.int k)) (.loc (Bx a2 b2 c2)) .un s6 (.inl rfl) h6 (xs ++ ys) (fun d hd' => (List.mem_append.mp hd').elim (hg1 d) (hg2 d)) (by rw [List.length_append]; omega)
    refine ⟨[.loc (.sq (ns.map D.int)), .loc (.str ANY), .loc (.int k), s3, s4, s5, s6], [.loc (.sq (ns.map D.int)), .loc (.str ANY), .loc (.int k), .loc (Bx a2 b2 c2), .loc (.mls (xs ++ ys)), s5', s6'], ?_, .inl ?_, fun x hx => hd' x (List.mem_cons_of_mem _ hx), _, _, _, _, _, .inr ⟨_, rfl⟩, .inr ⟨_, rfl⟩, .inr ⟨_, rfl⟩, k5, k6, rfl⟩
    · rcases h2 with h | ⟨d2, h⟩ <;> subst h <;> rfl
    · refine seq_go (ρ1 := [.loc (.sq (ns.map D.int)), .loc (.str ANY), .loc (.int k), .loc (Bx a b c), s4, s5, s6]) ?_ ?_
      · rcases h3 with h | ⟨d2, h⟩ <;> subst h <;> simp [TT.mDef, TT.mCall, TT.mEnd, TT.mPass, TT.mPass1, TT.mBack, TT.mBack1, TT.mkSs, TT.mkS, TT.sSeq, TT.sIf, TT.sSet, TT.sRet, TT.sOf, TT.sExpr, TT.sNext, TT.sFor, TT.sAsg, TT.sPar, TT.setSs, TT.mTakeL, TT.mOp2, TT.mOpN, TT.mCons, TT.mb, TT.mr, TT.mo, TT.mName, TT.slot, TT.SV.d?, TT.op2, TT.opN, TT.rs, TT.rsL, TT.gIx, TT.gAdd, TT.gSub, TT.gMul, TT.gFdiv, TT.gMod, TT.gPow, TT.gLt, TT.gLe, TT.gGt, TT.gGe, TT.gI2, TT.gLen, TT.gMax2, TT.gMin2, TT.gInt, TT.gListA, TT.gAll, TT.isB, TT.isS, TT.isI, TT.seqOf, TT.lstOf, TT.lstLike, TT.kSet, TT.mTake, TT.fz, TT.fzL, TT.setSlot, TT.kRet, TT.mPut, TT.kPut2, TT.mlsAt, TT.setMls, TT.keepP, TT.keep1, TT.imm, TT.mLst, TT.mTup, TT.mLc, TT.okWipe, TT.wipeS, TT.SV.isPar, TT.kRange1, TT.mRow, TT.kRow, TT.rowOf, TT.mChain, TT.mAndV, TT.mOrV, TT.mNotV, TT.mAnd, TT.mOr, TT.mNot, TT.mIf, TT.tru, TT.truD, TT.mSl, TT.opP, TT.gSl, TT.mAppend, TT.kAppend, TT.mExtend, TT.kExtend, TT.only, TT.gTupD, TT.gsCons, TT.gsNil, TT.gEqA, TT.gNeA, TT.eqB, TT.scEq, TT.gIn, TT.gNotIn, TT.inB, TT.smallI, eb]
      refine seq_go (ρ1 := [.loc (.sq (ns.map D.int)), .loc (.str ANY), .loc (.int k), .loc (Bx a1 b1 c1), .loc (.mls xs), s5, s6]) ?_ ?_
      · rcases h4 with h | ⟨d2, h⟩ <;> subst h <;> simp [TT.mDef, TT.mCall, TT.mEnd, TT.mPass, TT.mPass1, TT.mBack, TT.mBack1, TT.mkSs, TT.mkS, TT.sSeq, TT.sIf, TT.sSet, TT.sRet, TT.sOf, TT.sExpr, TT.sNext, TT.sFor, TT.sAsg, TT.sPar, TT.setSs, TT.mTakeL, TT.mOp2, TT.mOpN, TT.mCons, TT.mb, TT.mr, TT.mo, TT.mName, TT.slot, TT.SV.d?, TT.op2, TT.opN, TT.rs, TT.rsL, TT.gIx, TT.gAdd, TT.gSub, TT.gMul, TT.gFdiv, TT.gMod, TT.gPow, TT.gLt, TT.gLe, TT.gGt, TT.gGe, TT.gI2, TT.gLen, TT.gMax2, TT.gMin2, TT.gInt, TT.gListA, TT.gAll, TT.isB, TT.isS, TT.isI, TT.seqOf, TT.lstOf, TT.lstLike, TT.kSet, TT.mTake, TT.fz, TT.fzL, TT.setSlot, TT.kRet, TT.mPut, TT.kPut2, TT.mlsAt, TT.setMls, TT.keepP, TT.keep1, TT.imm, TT.mLst, TT.mTup, TT.mLc, TT.okWipe, TT.wipeS, TT.SV.isPar, TT.kRange1, TT.mRow, TT.kRow, TT.rowOf, TT.mChain, TT.mAndV, TT.mOrV, TT.mNotV, TT.mAnd, TT.mOr, TT.mNot, TT.mIf, TT.tru, TT.truD, TT.mSl, TT.opP, TT.gSl, TT.mAppend, TT.kAppend, TT.mExtend, TT.kExtend, TT.only, TT.gTupD, TT.gsCons, TT.gsNil, TT.gEqA, TT.gNeA, TT.eqB, TT.scEq, TT.gIn, TT.gNotIn, TT.inB, TT.smallI, et]
      refine seq_go (ρ1 := [.loc (.sq (ns.map D.int)), .loc (.str ANY), .loc (.int k), .loc (Bx a2 b2 c2), .loc (.mls (xs ++ ys)), .un, s6]) ?_ ei
      simp [TT.mDef, TT.mCall, TT.mEnd, TT.mPass, TT.mPass1, TT.mBack, TT.mBack1, TT.mkSs, TT.mkS, TT.sSeq, TT.sIf, TT.sSet, TT.sRet, TT.sOf, TT.sExpr, TT.sNext, TT.sFor, TT.sAsg, TT.sPar, TT.setSs, TT.mTakeL, TT.mOp2, TT.mOpN, TT.mCons, TT.mb, TT.mr, TT.mo, TT.mName, TT.slot, TT.SV.d?, TT.op2, TT.opN, TT.rs, TT.rsL, TT.gIx, TT.gAdd, TT.gSub, TT.gMul, TT.gFdiv, TT.gMod, TT.gPow, TT.gLt, TT.gLe, TT.gGt, TT.gGe, TT.gI2, TT.gLen, TT.gMax2, TT.gMin2, TT.gInt, TT.gListA, TT.gAll, TT.isB, TT.isS, TT.isI, TT.seqOf, TT.lstOf, TT.lstLike, TT.kSet, TT.mTake, TT.fz, TT.fzL, TT.setSlot, TT.kRet, TT.mPut, TT.kPut2, TT.mlsAt, TT.setMls, TT.keepP, TT.keep1, TT.imm, TT.mLst, TT.mTup, TT.mLc, TT.okWipe, TT.wipeS, TT.SV.isPar, TT.kRange1, TT.mRow, TT.kRow, TT.rowOf, TT.mChain, TT.mAndV, TT.mOrV, TT.mNotV, TT.mAnd, TT.mOr, TT.mNot, TT.mIf, TT.tru, TT.truD, TT.mSl, TT.opP, TT.gSl, TT.mAppend, TT.kAppend, TT.mExtend, TT.kExtend, TT.only, TT.gTupD, TT.gsCons, TT.gsNil, TT.gEqA, TT.gNeA, TT.eqB, TT.scEq, TT.gIn, TT.gNotIn, TT.inB, TT.smallI, -TT.gAdd, eo, ha]) (rangeD 0 (max 1 (min ns.length 2))) [.loc (.sq (ns.map D.int)), .loc (.str ANY), .un, .un, .un, .un, .un]
    ⟨fun d hd' => by
      unfold rangeD at hd'
      obtain ⟨i, _, rfl⟩ := List.mem_map.mp hd'
      exact ⟨0 + (i : Int), by omega, rfl⟩, .un, .un, .un, .un, .un, .inl rfl, .inl rfl, .inl rfl, .inl rfl, .inl rfl, rfl⟩
  subst e2
  refine ⟨[.loc (.sq (ns.map D.int)), .loc (.str ANY), s2, s3, s4, s5, s6], ?_⟩
  refine seq_go (ρ1 := [.loc (.sq (ns.map D.int)), .loc (.str ANY), .un, .un, .un, .un, .un]) rfl ?_
  refine seq_go (ρ1 := [.loc (.sq (ns.map D.int)), .loc (.str ANY), s2, s3, s4, s5, s6]) ?_ rfl
  have em : gMin2 [.int (ns.length : Int), .int 2] = some (.int ((min ns.length 2 : Nat) : Int)) := by
    show some (D.int (if (2 : Int) < (ns.length : Int) then 2 else (ns.length : Int))) = _
    congr 2
    split <;> omega
  have eM : gMax2 [.int 1, .int ((min ns.length 2 : Nat) : Int)] = some (.int ((max 1 (min ns.length 2) : Nat) : Int)) := by
    show some (D.int (if ((min ns.length 2 : Nat) : Int) > 1 then ((min ns.length 2 : Nat) : Int) else 1)) = _
    congr 2
    split <;> omega
  generalize hj : max 1 (min ns.length 2) = j at *
  have j1 : (-4611686018427387904 : Int) ≤ (j : Int) ∧ (j : Int) < 4611686018427387904 := by constructor <;> omega
  generalize min ns.length 2 = i at *
  simp [l5_law, TT.mDef, TT.mCall, TT.mEnd, TT.mPass, TT.mPass1, TT.mBack, TT.mBack1, TT.mkSs, TT.mkS, TT.sSeq, TT.sIf, TT.sSet, TT.sRet, TT.sOf, TT.sExpr, TT.sNext, TT.sFor, TT.sAsg, TT.sPar, TT.setSs, TT.mTakeL, TT.mOp2, TT.mOpN, TT.mCons, TT.mb, TT.mr, TT.mo, TT.mName, TT.slot, TT.SV.d?, TT.op2, TT.opN, TT.rs, TT.rsL, TT.gIx, TT.gAdd, TT.gSub, TT.gMul, TT.gFdiv, TT.gMod, TT.gPow, TT.gLt, TT.gLe, TT.gGt, TT.gGe, TT.gI2, TT.gLen, TT.gMax2, TT.gMin2, TT.gInt, TT.gListA, TT.gAll, TT.isB, TT.isS, TT.isI, TT.seqOf, TT.lstOf, TT.lstLike, TT.kSet, TT.mTake, TT.fz, TT.fzL, TT.setSlot, TT.kRet, TT.mPut, TT.kPut2, TT.mlsAt, TT.setMls, TT.keepP, TT.keep1, TT.imm, TT.mLst, TT.mTup, TT.mLc, TT.okWipe, TT.wipeS, TT.SV.isPar, TT.kRange1, TT.mRow, TT.kRow, TT.rowOf, TT.mChain, TT.mAndV, TT.mOrV, TT.mNotV, TT.mAnd, TT.mOr, TT.mNot, TT.mIf, TT.tru, TT.truD, TT.mSl, TT.opP, TT.gSl, TT.mAppend, TT.kAppend, TT.mExtend, TT.kExtend, TT.only, TT.gTupD, TT.gsCons, TT.gsNil, TT.gEqA, TT.gNeA, TT.eqB, TT.scEq, TT.gIn, TT.gNotIn, TT.inB, TT.smallI, -TT.gMax2, -TT.gMin2, em, eM, j1.1, j1.2]
  rw [e]
end K02

set_option Elab.async false
set_option linter.all false
set_option maxRecDepth 100000
set_option maxHeartbeats 0
namespace K02
open PySem PySem.Spec PyProof.Rows L2 TT
def fa : List He.Fa := [.glo "_law_box", .glo "_law_take", .glo "_law_word", .glo "_law_texts", .glo "_law_otherwise", .glo "is_made_of", .glo "is_name", .glo "is_sign", .glo "is_call", .glo "number_of", .glo "_law_is_word", .glo "_law_due", .glo "law", .free "all", .free "int", .free "len", .free "list", .free "max", .free "min", .free "range", .free "repr", .str "CAPITALS" "ABCDEFGHIJKLMNOPQRSTUVWXYZ", .str "FIGURES" "0123456789", .str "LETTERS" "abcdefghijklmnopqrstuvwxyz", .int "LONGEST" 6, .glo "MARKS", .int "MOST_FIGURES" 3]
def fn : List He.DefD := [dD "_law_box" s__law_box, dD "_law_take" s__law_take, dD "_law_word" s__law_word, dD "_law_texts" s__law_texts, dD "_law_otherwise" s__law_otherwise, dD "is_made_of" s_is_made_of, dD "is_name" s_is_name, dD "is_sign" s_is_sign, dD "is_call" s_is_call, dD "number_of" s_number_of, dD "_law_is_word" s__law_is_word, dD "_law_due" s__law_due, dD "law" s_law]
def ex (K : PySem.W.Frag) : Bool := He.tupB K "MARKS" q_MARKS
theorem ex1 {K : Fg} (h : ex K = true) : He.tupB K "MARKS" q_MARKS = true := h
abbrev R : PySem.W.OpenRow := PySem.W.OpenLaw.row PySem.Challenge.rw_tonguetower_k02_words
abbrev hk : PySem.W.Hook := He.hookX 4 fa fn [] [] ex
def ob (s : PySem.W.SharedT) : He.AlX := He.obsX 4 fa fn [] [] ex (HandSHeadRun.getT s)
theorem ob_eq (s : PySem.W.SharedT) : ob s = hk.obs s.abs := He.obsX_eq (HandSHeadRun.getT_eq s)
def loose1 : List Str := ["LETTERS", "CAPITALS", "FIGURES", "MARKS", "LONGEST", "MOST_FIGURES", "is_made_of", "is_name", "is_sign", "is_call", "number_of", "_law_box", "_law_take", "_law_word", "_law_otherwise", "_law_is_word", "_law_due", "_law_texts"]
def loose2 : List Str := []
def loose3 : List Str := []
abbrev loose : List Str := loose1 ++ (loose2 ++ loose3)
theorem run (w : World) : HandSHeadRun.RunEq R (PySem.W.view R.prog [20]) hk ob 20000 loose w := by
  intro os
  kernel_rfl
theorem facts {w : World} {K : Fg} {h : Heap} {mg : Str → Option Value} (X : K.In h) (G : h.Ns mainGlobals mg) (c : He.SaysD fa fn K) (hx : ex K = true) : Fc K mg :=
  ⟨defF_of X G c 0 0 (fun _ _ _ _ _ _ us hl => match us, hl with | [_, _], _ => rfl) rfl rfl,
   defF_of X G c 1 1 (fun _ _ _ _ _ _ us hl => match us, hl with | [_, _], _ => rfl) rfl rfl,
   defF_of X G c 2 2 (fun _ _ _ _ _ _ us hl => match us, hl with | [_, _, _], _ => rfl) rfl rfl,
   defF_of X G c 3 3 (fun _ _ _ _ _ _ us hl => match us, hl with | [_], _ => rfl) rfl rfl,
   defF_of X G c 4 4 (fun _ _ _ _ _ _ us hl => match us, hl with | [_, _, _], _ => rfl) rfl rfl,
   defF_of X G c 5 5 (fun _ _ _ _ _ _ us hl => match us, hl with | [_, _, _], _ => rfl) rfl rfl,
   defF_of X G c 6 6 (fun _ _ _ _ _ _ us hl => match us, hl with | [_], _ => rfl) rfl rfl,
   defF_of X G c 7 7 (fun _ _ _ _ _ _ us hl => match us, hl with | [_], _ => rfl) rfl rfl,
   defF_of X G c 8 8 (fun _ _ _ _ _ _ us hl => match us, hl with | [_], _ => rfl) rfl rfl,
   defF_of X G c 9 9 (fun _ _ _ _ _ _ us hl => match us, hl with | [_], _ => rfl) rfl rfl,
   defF_of X G c 10 10 (fun _ _ _ _ _ _ us hl => match us, hl with | [_, _], _ => rfl) rfl rfl,
   defF_of X G c 11 11 (fun _ _ _ _ _ _ us hl => match us, hl with | [_], _ => rfl) rfl rfl,
   defF_of X G c 12 12 (fun _ _ _ _ _ _ us hl => match us, hl with | [_], _ => rfl) rfl rfl,
   He.free_ok X G (c.fact 13 (f := .free "all") rfl),
   He.free_ok X G (c.fact 14 (f := .free "int") rfl),
   He.free_ok X G (c.fact 15 (f := .free "len") rfl),
   He.free_ok X G (c.fact 16 (f := .free "list") rfl),
   He.free_ok X G (c.fact 17 (f := .free "max") rfl),
   He.free_ok X G (c.fact 18 (f := .free "min") rfl),
   He.free_ok X G (c.fact 19 (f := .free "range") rfl),
   He.free_ok X G (c.fact 20 (f := .free "repr") rfl),
   He.str_ok X G (c.fact 21 (f := .str "CAPITALS" "ABCDEFGHIJKLMNOPQRSTUVWXYZ") rfl),
   He.str_ok X G (c.fact 22 (f := .str "FIGURES" "0123456789") rfl),
   He.str_ok X G (c.fact 23 (f := .str "LETTERS" "abcdefghijklmnopqrstuvwxyz") rfl),
   He.int_ok X G (c.fact 24 (f := .int "LONGEST" 6) rfl),
   gtup_of X G c 25 rfl (ex1 hx),
   He.int_ok X G (c.fact 26 (f := .int "MOST_FIGURES" 3) rfl)⟩
end K02
open PySem PySem.W PySem.Calls PyProof.Rows
theorem PySem.Challenge.cw_tonguetower_k02_words_holds : PySem.Challenge.rw_tonguetower_k02_words.Holds := by
  w_on; o_law
  refine HandSHeadRun.head_any (r := OpenLaw.row PySem.Challenge.rw_tonguetower_k02_words) (q := view (OpenLaw.row PySem.Challenge.rw_tonguetower_k02_words).prog [20]) (H := K02.hk) (ob := K02.ob) (M := 20000) (loose := K02.loose) (d := HandSHeadRun.topDef (OpenLaw.row PySem.Challenge.rw_tonguetower_k02_words).prog 20) (kwd := []) K02.ob_eq
    (by kernel_rfl) (fun s => by kernel_rfl) K02.run (by kernel_rfl) (by kernel_rfl) (by kernel_rfl) (by rfl) (by first | assumption | decide +kernel) (by decide +kernel) ⟨rfl, rfl, rfl, rfl, rfl, by decide +kernel⟩ ?hw ?hc
  case hw => w_witness2
  case hc =>
    refine TT.walk_law (l := PySem.Challenge.rw_tonguetower_k02_words) (n := 63) rfl (by decide) (by kernel_rfl) ?F
    intro w mg fa h Y G hmg0
    obtain ⟨K, KX, c⟩ := Y
    have hmg : mg ("law" : PySem.Str) = some (.ref fa) := by
      have e : (HandSHeadRun.topDef (OpenLaw.row PySem.Challenge.rw_tonguetower_k02_words).prog 20).name = ("law" : PySem.Str) := by kernel_rfl
      rw [← e]
      exact hmg0
    have Z := K02.facts (w := w) KX G c.t.d c.more
    have hr : L2.Room (3 + 1) callerA := ⟨rfl, by decide, by decide⟩
    refine ⟨K, KX, fun s₁ a ns H base hl hbits hS hK hns e0 => TT.law_def2 (mb := mg) (s := K02.b_law) Z.d_law hmg K02.sc_law hr (fun _ _ _ _ _ _ us hl => match us, hl with | [_], _ => rfl) hS e0 (fun cdv s0 H E => K02.ok_law Z (hr.deeper _)) (K02.mirror ns hl hbits)⟩

