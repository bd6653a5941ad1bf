import PyProof.Rows.All
import Wide.All
import OpenK.AllK
import Wide.FinOn
import HandS.ForMost
import HandS.Wide
import HandS.Gcd
import HandS.IsInst
import HandS.TupAny
import HandS.TupMul
import HandS.SortInts
import HandS.Style
import HandS.Flow
import PySem.Challenge.RW_partsthatwear_k64_starts_certified
set_option Elab.async false
set_option linter.all false
set_option maxRecDepth 100000
set_option maxHeartbeats 4000000
/-! RA: plain data D, how it lies in the abstract heap (Rp), the state of a frame (Stt). -/
namespace R
open PySem L2

/-- plain data; o: this container is owned (nobody else knows it) -/
inductive D where
  | non
  | bl (b : Bool)
  | int (i : Int)
  | str (x : Str)
  | tup (l : List D)
  | lst (o : Bool) (l : List D)
  /-- a list that is locked from outside (the script) -/
  | scr (l : List D)
  | obj (o : Bool) (c : Str) (ns : List Str) (l : List D)
  | dK (o : Bool) (ks : List Key) (l : List D)
  | dT (o : Bool) (ks : List (List Key)) (l : List D)
  deriving Inhabited

structure Ge where
  K : PySem.W.Frag
  cls : Str → Option Addr
abbrev Av := Addr → Prop
def uni (O : Av) (f : List Addr) : Av := fun a => O a ∨ a ∈ f
def NAt (O : Av) (H : Hp) (o : Bool) (a : Addr) (u : HO) : Prop :=
  match o with
  | true => H a = some u
  | false => ¬ O a ∧ Rd H a u
/-- the same, not locked -/
def NSt (O : Av) (H : Hp) (o : Bool) (a : Addr) (u : HO) : Prop :=
  match o with
  | true => H a = some u
  | false => ¬ O a ∧ H a = some u
def Fp (o : Bool) (a : Addr) (g f : List Addr) : Prop :=
  match o with
  | true => f = a :: g
  | false => g = [] ∧ f = []
abbrev H00 : Hp := fun _ => none

mutual
def Rp (G : Ge) (O : Av) (H : Hp) : D → V → List Addr → Prop
  | .non, v, f => v = .non ∧ f = []
  | .bl b, v, f => v = .bl b ∧ f = []
  | .int i, v, f => v = .int i ∧ f = []
  | .str x, v, f => v = .str x ∧ f = []
  | .tup l, v, f => ∃ a vs, v = .ref a ∧ (NAt O H false a (.tup vs) ∨ SqT G.K H00 a vs) ∧ RpL G O H l vs f
  | .lst o l, v, f => ∃ a vs g, v = .ref a ∧ NSt O H o a (.lst vs) ∧ RpL G O H l vs g ∧ Fp o a g f
  | .scr l, v, f => ∃ a vs, v = .ref a ∧ (NAt O H false a (.lst vs) ∨ SqL G.K H00 a vs) ∧ RpL G O H l vs [] ∧ f = []
  | .obj o c ns l, v, f => ∃ a vs g C dx, v = .ref a ∧ G.cls c = some C ∧ ns.length = vs.length ∧ NSt O H o a (.ins C dx (ns.zip vs)) ∧ RpL G O H l vs g ∧ Fp o a g f
  | .dK o ks l, v, f => ∃ a vs g, v = .ref a ∧ ks.length = vs.length ∧ NAt O H o a (.dK (ks.zip vs)) ∧ RpL G O H l vs g ∧ Fp o a g f
  | .dT o ks l, v, f => ∃ a vs g, v = .ref a ∧ ks.length = vs.length ∧ NAt O H o a (.dT (ks.zip vs)) ∧ RpL G O H l vs g ∧ Fp o a g f
def RpL (G : Ge) (O : Av) (H : Hp) : List D → List V → List Addr → Prop
  | [], vs, f => vs = [] ∧ f = []
  | d :: l, vs, f => ∃ v r f1 f2, vs = v :: r ∧ Rp G O H d v f1 ∧ RpL G O H l r f2 ∧ f = f1 ++ f2
end

section
variable {G : Ge} {O O' : Av} {H H' : Hp}
theorem NAt.tr (k1 : ∀ a o, ¬ O a → H a = some o → H' a = some o ∧ ¬ O' a) {o : Bool} {a : Addr} {u : HO} {g f : List Addr} (hf : Fp o a g f) (k2 : ∀ a ∈ f, ∀ o, H a = some o → H' a = some o) (h : NAt O H o a u) : NAt O' H' o a u := by
  cases o with
  | true =>
    have e : f = a :: g := hf
    subst e
    exact k2 a List.mem_cons_self _ h
  | false =>
    obtain ⟨n, r⟩ := h
    rcases r with r | ⟨z, r⟩
    · obtain ⟨x, y⟩ := k1 a _ n r
      exact ⟨y, .inl x⟩
    · obtain ⟨x, y⟩ := k1 a _ n r
      exact ⟨y, .inr ⟨z, x⟩⟩
theorem NSt.tr (k1 : ∀ a o, ¬ O a → H a = some o → H' a = some o ∧ ¬ O' a) {o : Bool} {a : Addr} {u : HO} {g f : List Addr} (hf : Fp o a g f) (k2 : ∀ a ∈ f, ∀ o, H a = some o → H' a = some o) (h : NSt O H o a u) : NSt O' H' o a u := by
  cases o with
  | true =>
    have e : f = a :: g := hf
    subst e
    exact k2 a List.mem_cons_self _ h
  | false =>
    obtain ⟨n, r⟩ := h
    obtain ⟨x, y⟩ := k1 a _ n r
    exact ⟨y, x⟩
theorem Fp.sub {o : Bool} {a : Addr} {g f : List Addr} (h : Fp o a g f) : ∀ b ∈ g, b ∈ f := by
  cases o with
  | true =>
    have e : f = a :: g := h
    subst e
    exact fun b hb => List.mem_cons_of_mem _ hb
  | false =>
    obtain ⟨rfl, rfl⟩ := h
    exact fun b hb => hb
mutual
theorem Rp.tr (k1 : ∀ a o, ¬ O a → H a = some o → H' a = some o ∧ ¬ O' a) : ∀ (d : D) (v : V) (f : List Addr), (∀ a ∈ f, ∀ o, H a = some o → H' a = some o) → Rp G O H d v f → Rp G O' H' d v f
  | .non, v, f, _, h => by unfold Rp at h ⊢; exact h
  | .bl b, v, f, _, h => by unfold Rp at h ⊢; exact h
  | .int i, v, f, _, h => by unfold Rp at h ⊢; exact h
  | .str x, v, f, _, h => by unfold Rp at h ⊢; exact h
  | .tup l, v, f, k2, h => by
    unfold Rp at h ⊢
    obtain ⟨a, vs, e, ha, hl⟩ := h
    refine ⟨a, vs, e, ?_, RpL.tr k1 l vs f k2 hl⟩
    rcases ha with ha | ha
    · exact .inl (NAt.tr (g := []) (f := []) k1 ⟨rfl, rfl⟩ (fun _ z => absurd z (by simp)) ha)
    · exact .inr ha
  | .lst o l, v, f, k2, h => by
    unfold Rp at h ⊢
    obtain ⟨a, vs, g, e, ha, hl, hf⟩ := h
    exact ⟨a, vs, g, e, ha.tr k1 hf k2, RpL.tr k1 l vs g (fun b hb => k2 b (hf.sub b hb)) hl, hf⟩
  | .scr l, v, f, k2, h => by
    unfold Rp at h ⊢
    obtain ⟨a, vs, e, ha, hl, rfl⟩ := h
    refine ⟨a, vs, e, ?_, RpL.tr k1 l vs [] k2 hl, rfl⟩
    rcases ha with ha | ha
    · exact .inl (NAt.tr (o := false) (g := []) (f := []) k1 ⟨rfl, rfl⟩ (fun _ z => absurd z (by simp)) ha)
    · exact .inr ha
  | .obj o c ns l, v, f, k2, h => by
    unfold Rp at h ⊢
    obtain ⟨a, vs, g, C, dx, e, hc, hn, ha, hl, hf⟩ := h
    exact ⟨a, vs, g, C, dx, e, hc, hn, ha.tr k1 hf k2, RpL.tr k1 l vs g (fun b hb => k2 b (hf.sub b hb)) hl, hf⟩
  | .dK o ks l, v, f, k2, h => by
    unfold Rp at h ⊢
    obtain ⟨a, vs, g, e, hn, ha, hl, hf⟩ := h
    exact ⟨a, vs, g, e, hn, ha.tr k1 hf k2, RpL.tr k1 l vs g (fun b hb => k2 b (hf.sub b hb)) hl, hf⟩
  | .dT o ks l, v, f, k2, h => by
    unfold Rp at h ⊢
    obtain ⟨a, vs, g, e, hn, ha, hl, hf⟩ := h
    exact ⟨a, vs, g, e, hn, ha.tr k1 hf k2, RpL.tr k1 l vs g (fun b hb => k2 b (hf.sub b hb)) hl, hf⟩
theorem RpL.tr (k1 : ∀ a o, ¬ O a → H a = some o → H' a = some o ∧ ¬ O' a) : ∀ (l : List D) (vs : List V) (f : List Addr), (∀ a ∈ f, ∀ o, H a = some o → H' a = some o) → RpL G O H l vs f → RpL G O' H' l vs f
  | [], vs, f, _, h => by unfold RpL at h ⊢; exact h
  | d :: l, vs, f, k2, h => by
    unfold RpL at h ⊢
    obtain ⟨v, r, f1, f2, e, h1, h2, ef⟩ := h
    subst ef
    exact ⟨v, r, f1, f2, e, Rp.tr k1 d v f1 (fun a ha => k2 a (List.mem_append_left _ ha)) h1, RpL.tr k1 l r f2 (fun a ha => k2 a (List.mem_append_right _ ha)) h2, rfl⟩
end
/-- fewer owned addresses -/
theorem Rp.mono {d : D} {v : V} {f : List Addr} (k : ∀ a, O' a → O a) (h : Rp G O H d v f) : Rp G O' H d v f :=
  Rp.tr (fun a o n e => ⟨e, fun z => n (k a z)⟩) d v f (fun _ _ _ e => e) h
theorem RpL.mono {d : List D} {v : List V} {f : List Addr} (k : ∀ a, O' a → O a) (h : RpL G O H d v f) : RpL G O' H d v f :=
  RpL.tr (fun a o n e => ⟨e, fun z => n (k a z)⟩) d v f (fun _ _ _ e => e) h
theorem Rp.same {d : D} {v : V} {f : List Addr} (s : Same H H') (h : Rp G O H d v f) : Rp G O H' d v f :=
  Rp.tr (fun a o n e => ⟨s a o e, n⟩) d v f (fun a _ o e => s a o e) h
theorem RpL.same {d : List D} {v : List V} {f : List Addr} (s : Same H H') (h : RpL G O H d v f) : RpL G O H' d v f :=
  RpL.tr (fun a o n e => ⟨s a o e, n⟩) d v f (fun a _ o e => s a o e) h
/-- new addresses become owned -/
theorem Rp.add {d : D} {v : V} {f g : List Addr} (hg : ∀ a ∈ g, H a = none) (s : Same H H') (h : Rp G O H d v f) : Rp G (uni O g) H' d v f :=
  Rp.tr (fun a o n e => ⟨s a o e, fun z => z.elim n fun q => by rw [hg a q] at e; cases e⟩) d v f (fun a _ o e => s a o e) h
theorem RpL.add {d : List D} {v : List V} {f g : List Addr} (hg : ∀ a ∈ g, H a = none) (s : Same H H') (h : RpL G O H d v f) : RpL G (uni O g) H' d v f :=
  RpL.tr (fun a o n e => ⟨s a o e, fun z => z.elim n fun q => by rw [hg a q] at e; cases e⟩) d v f (fun a _ o e => s a o e) h
/-- an owned object is changed -/
theorem Rp.upd {d : D} {v : V} {f : List Addr} {p : Addr} {u : HO} (hp : O p) (hf : p ∉ f) (h : Rp G O H d v f) : Rp G O (upd H p u) d v f :=
  Rp.tr (fun a o n e => ⟨by rw [upd_ne (show a ≠ p from fun z => n (by rw [z]; exact hp))]; exact e, n⟩) d v f (fun a ha o e => by rw [upd_ne (show a ≠ p from fun z => hf (by rw [← z]; exact ha))]; exact e) h
theorem RpL.upd {d : List D} {v : List V} {f : List Addr} {p : Addr} {u : HO} (hp : O p) (hf : p ∉ f) (h : RpL G O H d v f) : RpL G O (L2.upd H p u) d v f :=
  RpL.tr (fun a o n e => ⟨by rw [upd_ne (show a ≠ p from fun z => n (by rw [z]; exact hp))]; exact e, n⟩) d v f (fun a ha o e => by rw [upd_ne (show a ≠ p from fun z => hf (by rw [← z]; exact ha))]; exact e) h
end

/-- what may be owned -/
def Own : HO → Prop
  | .lst _ => True
  | .ins _ _ _ => True
  | .dK _ => True
  | .dT _ => True
  | _ => False
section
variable {G : Ge} {O O' : Av} {H H' : Hp}
mutual
theorem Rp.mem : ∀ (d : D) (v : V) (f : List Addr), Rp G O H d v f → ∀ a ∈ f, ∃ u, H a = some u ∧ Own u
  | .non, v, f, h => by unfold Rp at h; rw [h.2]; intro a z; cases z
  | .bl b, v, f, h => by unfold Rp at h; rw [h.2]; intro a z; cases z
  | .int i, v, f, h => by unfold Rp at h; rw [h.2]; intro a z; cases z
  | .str x, v, f, h => by unfold Rp at h; rw [h.2]; intro a z; cases z
  | .tup l, v, f, h => by
    unfold Rp at h
    obtain ⟨a, vs, e, ha, hl⟩ := h
    exact RpL.mem l vs f hl
  | .lst o l, v, f, h => by
    unfold Rp at h
    obtain ⟨a, vs, g, e, ha, hl, hf⟩ := h
    cases o with
    | true =>
      have ef : f = a :: g := hf
      subst ef
      intro b hb
      rcases List.mem_cons.mp hb with rfl | hb
      · exact ⟨_, ha, trivial⟩
      · exact RpL.mem l vs g hl b hb
    | false =>
      obtain ⟨rfl, rfl⟩ := hf
      intro b hb; cases hb
  | .scr l, v, f, h => by
    unfold Rp at h
    obtain ⟨a, vs, e, ha, hl, rfl⟩ := h
    intro b hb; cases hb
  | .obj o c ns l, v, f, h => by
    unfold Rp at h
    obtain ⟨a, vs, g, C, dx, e, hc, hn, ha, hl, hf⟩ := h
    cases o with
    | true =>
      have ef : f = a :: g := hf
      subst ef
      intro b hb
      rcases List.mem_cons.mp hb with rfl | hb
      · exact ⟨_, ha, trivial⟩
      · exact RpL.mem l vs g hl b hb
    | false =>
      obtain ⟨rfl, rfl⟩ := hf
      intro b hb; cases hb
  | .dK o ks l, v, f, h => by
    unfold Rp at h
    obtain ⟨a, vs, g, e, hn, ha, hl, hf⟩ := h
    cases o with
    | true =>
      have ef : f = a :: g := hf
      subst ef
      intro b hb
      rcases List.mem_cons.mp hb with rfl | hb
      · exact ⟨_, ha, trivial⟩
      · exact RpL.mem l vs g hl b hb
    | false =>
      obtain ⟨rfl, rfl⟩ := hf
      intro b hb; cases hb
  | .dT o ks l, v, f, h => by
    unfold Rp at h
    obtain ⟨a, vs, g, e, hn, ha, hl, hf⟩ := h
    cases o with
    | true =>
      have ef : f = a :: g := hf
      subst ef
      intro b hb
      rcases List.mem_cons.mp hb with rfl | hb
      · exact ⟨_, ha, trivial⟩
      · exact RpL.mem l vs g hl b hb
    | false =>
      obtain ⟨rfl, rfl⟩ := hf
      intro b hb; cases hb
theorem RpL.mem : ∀ (l : List D) (vs : List V) (f : List Addr), RpL G O H l vs f → ∀ a ∈ f, ∃ u, H a = some u ∧ Own u
  | [], vs, f, h => by unfold RpL at h; rw [h.2]; intro a z; cases z
  | d :: l, vs, f, h => by
    unfold RpL at h
    obtain ⟨v, r, f1, f2, e, h1, h2, ef⟩ := h
    subst ef
    intro a ha
    rcases List.mem_append.mp ha with ha | ha
    · exact Rp.mem d v f1 h1 a ha
    · exact RpL.mem l r f2 h2 a ha
end
mutual
def fz : D → D
  | .tup l => .tup (fzL l)
  | .lst _ l => .lst false (fzL l)
  | .scr l => .scr (fzL l)
  | .obj _ c ns l => .obj false c ns (fzL l)
  | .dK _ ks l => .dK false ks (fzL l)
  | .dT _ ks l => .dT false ks (fzL l)
  | .non => .non
  | .bl b => .bl b
  | .int i => .int i
  | .str x => .str x
def fzL : List D → List D
  | [] => []
  | d :: l => fz d :: fzL l
end
mutual
/-- nothing owned within -/
def frz : D → Bool
  | .tup l => frzL l
  | .lst o l => !o && frzL l
  | .scr l => frzL l
  | .obj o c ns l => !o && frzL l
  | .dK o ks l => !o && frzL l
  | .dT o ks l => !o && frzL l
  | _ => true
def frzL : List D → Bool
  | [] => true
  | d :: l => frz d && frzL l
end
mutual
/-- what is shared within is tuples and scalars alone -/
def tf : D → Bool
  | .tup l => tfL l
  | .lst o l => o && tfL l
  | .scr l => false
  | .obj o c ns l => o && tfL l
  | .dK o ks l => o && tfL l
  | .dT o ks l => o && tfL l
  | _ => true
def tfL : List D → Bool
  | [] => true
  | d :: l => tf d && tfL l
end
theorem NAt.fz (h1 : ∀ a, O' a → O a) {o : Bool} {a : Addr} {u : HO} {g f : List Addr} (hf : Fp o a g f) (h2 : ∀ a ∈ f, ¬ O' a) (h : NAt O H o a u) : NAt O' H false a u := by
  cases o with
  | true =>
    have e : f = a :: g := hf
    subst e
    exact ⟨h2 a List.mem_cons_self, .inl h⟩
  | false => exact ⟨fun z => h.1 (h1 a z), h.2⟩
theorem NSt.fz (h1 : ∀ a, O' a → O a) {o : Bool} {a : Addr} {u : HO} {g f : List Addr} (hf : Fp o a g f) (h2 : ∀ a ∈ f, ¬ O' a) (h : NSt O H o a u) : NSt O' H false a u := by
  cases o with
  | true =>
    have e : f = a :: g := hf
    subst e
    exact ⟨h2 a List.mem_cons_self, h⟩
  | false => exact ⟨fun z => h.1 (h1 a z), h.2⟩
mutual
theorem Rp.fz (h1 : ∀ a, O' a → O a) : ∀ (d : D) (v : V) (f : List Addr), (∀ a ∈ f, ¬ O' a) → Rp G O H d v f → Rp G O' H (fz d) v []
  | .non, v, f, _, h => by unfold Rp at h; unfold R.fz Rp; exact ⟨h.1, rfl⟩
  | .bl b, v, f, _, h => by unfold Rp at h; unfold R.fz Rp; exact ⟨h.1, rfl⟩
  | .int i, v, f, _, h => by unfold Rp at h; unfold R.fz Rp; exact ⟨h.1, rfl⟩
  | .str x, v, f, _, h => by unfold Rp at h; unfold R.fz Rp; exact ⟨h.1, rfl⟩
  | .tup l, v, f, h2, h => by
    unfold Rp at h; unfold R.fz Rp
    obtain ⟨a, vs, e, ha, hl⟩ := h
    refine ⟨a, vs, e, ?_, RpL.fz h1 l vs f h2 hl⟩
    rcases ha with ha | ha
    · exact .inl (NAt.fz (o := false) (g := []) (f := []) h1 ⟨rfl, rfl⟩ (fun _ z => absurd z (by simp)) ha)
    · exact .inr ha
  | .lst o l, v, f, h2, h => by
    unfold Rp at h; unfold R.fz Rp
    obtain ⟨a, vs, g, e, ha, hl, hf⟩ := h
    exact ⟨a, vs, [], e, ha.fz h1 hf h2, RpL.fz h1 l vs g (fun b hb => h2 b (hf.sub b hb)) hl, (show Fp false a [] [] from ⟨rfl, rfl⟩)⟩
  | .scr l, v, f, h2, h => by
    unfold Rp at h; unfold R.fz Rp
    obtain ⟨a, vs, e, ha, hl, rfl⟩ := h
    refine ⟨a, vs, e, ?_, RpL.fz h1 l vs [] h2 hl, rfl⟩
    rcases ha with ha | ha
    · exact .inl (NAt.fz (o := false) (g := []) (f := []) h1 ⟨rfl, rfl⟩ (fun _ z => absurd z (by simp)) ha)
    · exact .inr ha
  | .obj o c ns l, v, f, h2, h => by
    unfold Rp at h; unfold R.fz Rp
    obtain ⟨a, vs, g, C, dx, e, hc, hn, ha, hl, hf⟩ := h
    exact ⟨a, vs, [], C, dx, e, hc, hn, ha.fz h1 hf h2, RpL.fz h1 l vs g (fun b hb => h2 b (hf.sub b hb)) hl, (show Fp false a [] [] from ⟨rfl, rfl⟩)⟩
  | .dK o ks l, v, f, h2, h => by
    unfold Rp at h; unfold R.fz Rp
    obtain ⟨a, vs, g, e, hn, ha, hl, hf⟩ := h
    exact ⟨a, vs, [], e, hn, ha.fz h1 hf h2, RpL.fz h1 l vs g (fun b hb => h2 b (hf.sub b hb)) hl, (show Fp false a [] [] from ⟨rfl, rfl⟩)⟩
  | .dT o ks l, v, f, h2, h => by
    unfold Rp at h; unfold R.fz Rp
    obtain ⟨a, vs, g, e, hn, ha, hl, hf⟩ := h
    exact ⟨a, vs, [], e, hn, ha.fz h1 hf h2, RpL.fz h1 l vs g (fun b hb => h2 b (hf.sub b hb)) hl, (show Fp false a [] [] from ⟨rfl, rfl⟩)⟩
theorem RpL.fz (h1 : ∀ a, O' a → O a) : ∀ (l : List D) (vs : List V) (f : List Addr), (∀ a ∈ f, ¬ O' a) → RpL G O H l vs f → RpL G O' H (fzL l) vs []
  | [], vs, f, _, h => by unfold RpL at h; unfold R.fzL RpL; exact ⟨h.1, rfl⟩
  | d :: l, vs, f, h2, h => by
    unfold RpL at h; unfold R.fzL RpL
    obtain ⟨v, r, f1, f2, e, h3, h4, ef⟩ := h
    subst ef
    exact ⟨v, r, [], [], e, Rp.fz h1 d v f1 (fun a ha => h2 a (List.mem_append_left _ ha)) h3, RpL.fz h1 l r f2 (fun a ha => h2 a (List.mem_append_right _ ha)) h4, rfl⟩
end
mutual
theorem Rp.nil : ∀ (d : D) (v : V) (f : List Addr), frz d = true → Rp G O H d v f → f = []
  | .non, v, f, _, h => by unfold Rp at h; exact h.2
  | .bl b, v, f, _, h => by unfold Rp at h; exact h.2
  | .int i, v, f, _, h => by unfold Rp at h; exact h.2
  | .str x, v, f, _, h => by unfold Rp at h; exact h.2
  | .tup l, v, f, hz, h => by
    unfold Rp at h; unfold frz at hz
    obtain ⟨a, vs, e, ha, hl⟩ := h
    exact RpL.nil l vs f hz hl
  | .lst o l, v, f, hz, h => by
    unfold Rp at h; unfold frz at hz
    obtain ⟨a, vs, g, e, ha, hl, hf⟩ := h
    cases o with
    | true => simp at hz
    | false => exact hf.2
  | .scr l, v, f, hz, h => by
    unfold Rp at h
    obtain ⟨a, vs, e, ha, hl, rfl⟩ := h
    rfl
  | .obj o c ns l, v, f, hz, h => by
    unfold Rp at h; unfold frz at hz
    obtain ⟨a, vs, g, C, dx, e, hc, hn, ha, hl, hf⟩ := h
    cases o with
    | true => simp at hz
    | false => exact hf.2
  | .dK o ks l, v, f, hz, h => by
    unfold Rp at h; unfold frz at hz
    obtain ⟨a, vs, g, e, hn, ha, hl, hf⟩ := h
    cases o with
    | true => simp at hz
    | false => exact hf.2
  | .dT o ks l, v, f, hz, h => by
    unfold Rp at h; unfold frz at hz
    obtain ⟨a, vs, g, e, hn, ha, hl, hf⟩ := h
    cases o with
    | true => simp at hz
    | false => exact hf.2
theorem RpL.nil : ∀ (l : List D) (vs : List V) (f : List Addr), frzL l = true → RpL G O H l vs f → f = []
  | [], vs, f, _, h => by unfold RpL at h; exact h.2
  | d :: l, vs, f, hz, h => by
    unfold RpL at h; unfold frzL at hz
    obtain ⟨v, r, f1, f2, e, h3, h4, ef⟩ := h
    subst ef
    rw [Bool.and_eq_true] at hz
    rw [Rp.nil d v f1 hz.1 h3, RpL.nil l r f2 hz.2 h4]
    rfl
end
mutual
theorem fz_frz : ∀ d : D, frz d = true → fz d = d
  | .non, _ => rfl
  | .bl b, _ => rfl
  | .int i, _ => rfl
  | .str x, _ => rfl
  | .tup l, h => by unfold frz at h; unfold fz; rw [fzL_frz l h]
  | .lst o l, h => by unfold frz at h; unfold fz; cases o with
    | true => simp at h
    | false => rw [fzL_frz l (by simpa using h)]
  | .scr l, h => by unfold frz at h; unfold fz; rw [fzL_frz l h]
  | .obj o c ns l, h => by unfold frz at h; unfold fz; cases o with
    | true => simp at h
    | false => rw [fzL_frz l (by simpa using h)]
  | .dK o ks l, h => by unfold frz at h; unfold fz; cases o with
    | true => simp at h
    | false => rw [fzL_frz l (by simpa using h)]
  | .dT o ks l, h => by unfold frz at h; unfold fz; cases o with
    | true => simp at h
    | false => rw [fzL_frz l (by simpa using h)]
theorem fzL_frz : ∀ l : List D, frzL l = true → fzL l = l
  | [], _ => rfl
  | d :: l, h => by
    unfold frzL at h; unfold fzL
    rw [Bool.and_eq_true] at h
    rw [fz_frz d h.1, fzL_frz l h.2]
end
mutual
theorem frz_fz : ∀ d : D, frz (fz d) = true
  | .non => rfl
  | .bl b => rfl
  | .int i => rfl
  | .str x => rfl
  | .tup l => by unfold fz frz; exact frzL_fz l
  | .lst o l => by unfold fz frz; rw [frzL_fz l]; rfl
  | .scr l => by unfold fz frz; exact frzL_fz l
  | .obj o c ns l => by unfold fz frz; rw [frzL_fz l]; rfl
  | .dK o ks l => by unfold fz frz; rw [frzL_fz l]; rfl
  | .dT o ks l => by unfold fz frz; rw [frzL_fz l]; rfl
theorem frzL_fz : ∀ l : List D, frzL (fzL l) = true
  | [] => rfl
  | d :: l => by unfold fzL frzL; rw [frz_fz d, frzL_fz l]; rfl
end
theorem up_tup (k : ∀ a, O' a → O a ∨ ∃ u, H a = some u ∧ Own u) {a : Addr} {vs : List V} (h : NAt O H false a (.tup vs)) : NAt O' H false a (.tup vs) := by
  obtain ⟨n, r⟩ := h
  refine ⟨fun z => ?_, r⟩
  rcases k a z with z | ⟨u, hu, ou⟩
  · exact n z
  · rcases r with r | ⟨o, r⟩
    · rw [r] at hu; cases hu; exact ou
    · rw [r] at hu; cases hu; exact ou
theorem up_own {o : Bool} (ho : o = true) {a : Addr} {u : HO} (h : NAt O H o a u) : NAt O' H o a u := by
  subst ho; exact h
theorem up_ownS {o : Bool} (ho : o = true) {a : Addr} {u : HO} (h : NSt O H o a u) : NSt O' H o a u := by
  subst ho; exact h
mutual
theorem Rp.up (k : ∀ a, O' a → O a ∨ ∃ u, H a = some u ∧ Own u) : ∀ (d : D) (v : V) (f : List Addr), tf d = true → Rp G O H d v f → Rp G O' H d v f
  | .non, v, f, _, h => by unfold Rp at h ⊢; exact h
  | .bl b, v, f, _, h => by unfold Rp at h ⊢; exact h
  | .int i, v, f, _, h => by unfold Rp at h ⊢; exact h
  | .str x, v, f, _, h => by unfold Rp at h ⊢; exact h
  | .tup l, v, f, ht, h => by
    unfold Rp at h ⊢; unfold tf at ht
    obtain ⟨a, vs, e, ha, hl⟩ := h
    refine ⟨a, vs, e, ?_, RpL.up k l vs f ht hl⟩
    rcases ha with ha | ha
    · exact .inl (up_tup k ha)
    · exact .inr ha
  | .lst o l, v, f, ht, h => by
    unfold Rp at h ⊢; unfold tf at ht
    rw [Bool.and_eq_true] at ht
    obtain ⟨a, vs, g, e, ha, hl, hf⟩ := h
    exact ⟨a, vs, g, e, up_ownS ht.1 ha, RpL.up k l vs g ht.2 hl, hf⟩
  | .scr l, v, f, ht, h => by unfold tf at ht; cases ht
  | .obj o c ns l, v, f, ht, h => by
    unfold Rp at h ⊢; unfold tf at ht
    rw [Bool.and_eq_true] at ht
    obtain ⟨a, vs, g, C, dx, e, hc, hn, ha, hl, hf⟩ := h
    exact ⟨a, vs, g, C, dx, e, hc, hn, up_ownS ht.1 ha, RpL.up k l vs g ht.2 hl, hf⟩
  | .dK o ks l, v, f, ht, h => by
    unfold Rp at h ⊢; unfold tf at ht
    rw [Bool.and_eq_true] at ht
    obtain ⟨a, vs, g, e, hn, ha, hl, hf⟩ := h
    exact ⟨a, vs, g, e, hn, up_own ht.1 ha, RpL.up k l vs g ht.2 hl, hf⟩
  | .dT o ks l, v, f, ht, h => by
    unfold Rp at h ⊢; unfold tf at ht
    rw [Bool.and_eq_true] at ht
    obtain ⟨a, vs, g, e, hn, ha, hl, hf⟩ := h
    exact ⟨a, vs, g, e, hn, up_own ht.1 ha, RpL.up k l vs g ht.2 hl, hf⟩
theorem RpL.up (k : ∀ a, O' a → O a ∨ ∃ u, H a = some u ∧ Own u) : ∀ (l : List D) (vs : List V) (f : List Addr), tfL l = true → RpL G O H l vs f → RpL G O' H l vs f
  | [], vs, f, _, h => by unfold RpL at h ⊢; exact h
  | d :: l, vs, f, ht, h => by
    unfold RpL at h ⊢; unfold tfL at ht
    rw [Bool.and_eq_true] at ht
    obtain ⟨v, r, f1, f2, e, h1, h2, ef⟩ := h
    exact ⟨v, r, f1, f2, e, Rp.up k d v f1 ht.1 h1, RpL.up k l r f2 ht.2 h2, ef⟩
end
end

/-! ### lists of data by place -/
section
variable {G : Ge} {O : Av} {H : Hp}
theorem RpL.len : ∀ {l : List D} {vs : List V} {f : List Addr}, RpL G O H l vs f → l.length = vs.length
  | [], vs, f, h => by unfold RpL at h; rw [h.1]; rfl
  | d :: l, vs, f, h => by
    unfold RpL at h
    obtain ⟨v, r, f1, f2, e, h1, h2, ef⟩ := h
    subst e
    rw [List.length_cons, List.length_cons, RpL.len h2]
theorem RpL.app : ∀ {l m : List D} {vs ws : List V} {f g : List Addr}, RpL G O H l vs f → RpL G O H m ws g → RpL G O H (l ++ m) (vs ++ ws) (f ++ g)
  | [], m, vs, ws, f, g, h, k => by
    unfold RpL at h
    obtain ⟨rfl, rfl⟩ := h
    exact k
  | d :: l, m, vs, ws, f, g, h, k => by
    unfold RpL at h
    obtain ⟨v, r, f1, f2, e, h1, h2, ef⟩ := h
    subst e ef
    show RpL G O H (d :: (l ++ m)) _ _
    unfold RpL
    exact ⟨v, r ++ ws, f1, f2 ++ g, rfl, h1, RpL.app h2 k, by rw [List.append_assoc]⟩
theorem RpL.one {d : D} {v : V} {f : List Addr} (h : Rp G O H d v f) : RpL G O H [d] [v] f := by
  unfold RpL
  exact ⟨v, [], f, [], rfl, h, by unfold RpL; exact ⟨rfl, rfl⟩, (List.append_nil _).symm⟩
theorem RpL.cons {d : D} {v : V} {f : List Addr} {l : List D} {vs : List V} {g : List Addr} (h : Rp G O H d v f) (k : RpL G O H l vs g) : RpL G O H (d :: l) (v :: vs) (f ++ g) := by
  unfold RpL
  exact ⟨v, vs, f, g, rfl, h, k, rfl⟩
theorem RpL.nil' : RpL G O H [] [] [] := by unfold RpL; exact ⟨rfl, rfl⟩
/-- cut at a place -/
theorem RpL.cut : ∀ {l : List D} {vs : List V} {f : List Addr} {k : Nat} {d : D}, RpL G O H l vs f → l[k]? = some d →
    ∃ v fa f1 fb, vs[k]? = some v ∧ RpL G O H (l.take k) (vs.take k) fa ∧ Rp G O H d v f1 ∧ RpL G O H (l.drop (k + 1)) (vs.drop (k + 1)) fb ∧ f = fa ++ (f1 ++ fb)
  | [], vs, f, k, d, h, e => by simp at e
  | c :: l, vs, f, 0, d, h, e => by
    unfold RpL at h
    obtain ⟨v, r, f1, f2, ev, h1, h2, ef⟩ := h
    subst ev ef
    have e' : c = d := by simpa using e
    subst e'
    exact ⟨v, [], f1, f2, rfl, RpL.nil', h1, h2, rfl⟩
  | c :: l, vs, f, k + 1, d, h, e => by
    unfold RpL at h
    obtain ⟨v, r, f1, f2, ev, h1, h2, ef⟩ := h
    subst ev ef
    have e' : l[k]? = some d := by simpa using e
    obtain ⟨w, fa, fm, fb, hw, ha, hm, hb, ee⟩ := RpL.cut h2 e'
    subst ee
    refine ⟨w, f1 ++ fa, fm, fb, by simpa using hw, ?_, hm, hb, by simp⟩
    exact RpL.cons h1 ha
theorem RpL.none {l : List D} {vs : List V} {f : List Addr} {k : Nat} (h : RpL G O H l vs f) (e : l[k]? = none) : vs[k]? = none := by
  have := h.len
  rw [List.getElem?_eq_none_iff] at e ⊢
  omega
theorem RpL.take {l : List D} {vs : List V} (h : RpL G O H l vs []) (k : Nat) : RpL G O H (l.take k) (vs.take k) [] := by
  by_cases e : k < l.length
  · obtain ⟨v, fa, f1, fb, hv, ha, h1, hb, ee⟩ := h.cut (List.getElem?_eq_getElem e)
    have : fa = [] := (List.append_eq_nil_iff.mp ee.symm).1
    subst this
    exact ha
  · have l1 : l.length ≤ k := by omega
    rw [List.take_of_length_le l1, List.take_of_length_le (by rw [← h.len]; exact l1)]
    exact h
theorem RpL.drop {l : List D} {vs : List V} (h : RpL G O H l vs []) : ∀ (k : Nat), RpL G O H (l.drop k) (vs.drop k) []
  | 0 => h
  | k + 1 => by
    by_cases e : k < l.length
    · obtain ⟨v, fa, f1, fb, hv, ha, h1, hb, ee⟩ := h.cut (List.getElem?_eq_getElem e)
      have : f1 ++ fb = [] := (List.append_eq_nil_iff.mp ee.symm).2
      have : fb = [] := (List.append_eq_nil_iff.mp this).2
      subst this
      exact hb
    · have l1 : l.length ≤ k + 1 := by omega
      rw [List.drop_of_length_le l1, List.drop_of_length_le (by rw [← h.len]; exact l1)]
      exact RpL.nil'
theorem RpL.get {l : List D} {vs : List V} {f : List Addr} {k : Nat} {d : D} (h : RpL G O H l vs f) (e : l[k]? = some d) : ∃ v f1, vs[k]? = some v ∧ Rp G O H d v f1 ∧ (∀ a ∈ f1, a ∈ f) ∧ (f.Nodup → f1.Nodup) := by
  obtain ⟨v, fa, f1, fb, hv, ha, h1, hb, ee⟩ := h.cut e
  subst ee
  refine ⟨v, f1, hv, h1, fun a q => List.mem_append_right _ (List.mem_append_left _ q), fun n => ?_⟩
  exact (List.nodup_append.mp (List.nodup_append.mp n).2.1).1
theorem set_cut {α : Type} : ∀ (l : List α) (k : Nat) (x : α), k < l.length → l.set k x = l.take k ++ x :: l.drop (k + 1)
  | [], k, x, h => by simp at h
  | a :: l, 0, x, h => by simp
  | a :: l, k + 1, x, h => by
    have h' : k < l.length := by simpa using h
    simp [set_cut l k x h']
end
end R

set_option Elab.async false
set_option linter.all false
set_option maxRecDepth 100000
set_option maxHeartbeats 4000000
/-! RB: the state of a frame, what an expression means (tM: a value that may be stored; tA: a value that is only looked at). -/
namespace R
open PySem L2

abbrev Rho := List (Option D)
abbrev EM := Rho → Option D
abbrev LM := Rho → Option (List D)
abbrev BM := Rho → Option Bool

def RpS (G : Ge) (O : Av) (H : Hp) : Rho → St → List Addr → Prop
  | [], σ, f => σ = [] ∧ f = []
  | none :: ρ, σ, f => ∃ x r, σ = x :: r ∧ RpS G O H ρ r f
  | some d :: ρ, σ, f => ∃ v r f1 f2, σ = some v :: r ∧ Rp G O H d v f1 ∧ RpS G O H ρ r f2 ∧ f = f1 ++ f2
section
variable {G : Ge} {O O' : Av} {H H' : Hp}
theorem RpS.tr (k1 : ∀ a o, ¬ O a → H a = some o → H' a = some o ∧ ¬ O' a) : ∀ (ρ : Rho) (σ : St) (f : List Addr), (∀ a ∈ f, ∀ o, H a = some o → H' a = some o) → RpS G O H ρ σ f → RpS G O' H' ρ σ f
  | [], σ, f, _, h => h
  | none :: ρ, σ, f, k2, h => by
    obtain ⟨x, r, e, h⟩ := h
    exact ⟨x, r, e, RpS.tr k1 ρ r f k2 h⟩
  | some d :: ρ, σ, f, k2, h => by
    obtain ⟨v, r, f1, f2, e, h1, h2, ef⟩ := h
    subst ef
    exact ⟨v, r, f1, f2, e, Rp.tr k1 d v f1 (fun a ha => k2 a (List.mem_append_left _ ha)) h1, RpS.tr k1 ρ r f2 (fun a ha => k2 a (List.mem_append_right _ ha)) h2, rfl⟩
theorem RpS.mem : ∀ (ρ : Rho) (σ : St) (f : List Addr), RpS G O H ρ σ f → ∀ a ∈ f, ∃ u, H a = some u ∧ Own u
  | [], σ, f, h => by rw [h.2]; intro a z; cases z
  | none :: ρ, σ, f, h => by
    obtain ⟨x, r, e, h⟩ := h
    exact RpS.mem ρ r f h
  | some d :: ρ, σ, f, h => by
    obtain ⟨v, r, f1, f2, e, h1, h2, ef⟩ := h
    subst ef
    intro a ha
    rcases List.mem_append.mp ha with ha | ha
    · exact Rp.mem d v f1 h1 a ha
    · exact RpS.mem ρ r f2 h2 a ha
theorem RpS.len : ∀ {ρ : Rho} {σ : St} {f : List Addr}, RpS G O H ρ σ f → ρ.length = σ.length
  | [], σ, f, h => by rw [h.1]; rfl
  | none :: ρ, σ, f, h => by
    obtain ⟨x, r, e, h⟩ := h
    subst e
    rw [List.length_cons, List.length_cons, RpS.len h]
  | some d :: ρ, σ, f, h => by
    obtain ⟨v, r, f1, f2, e, h1, h2, ef⟩ := h
    subst e
    rw [List.length_cons, List.length_cons, RpS.len h2]
theorem RpS.app : ∀ {l m : Rho} {vs ws : St} {f g : List Addr}, RpS G O H l vs f → RpS G O H m ws g → RpS G O H (l ++ m) (vs ++ ws) (f ++ g)
  | [], m, vs, ws, f, g, h, k => by
    obtain ⟨rfl, rfl⟩ := h
    exact k
  | none :: l, m, vs, ws, f, g, h, k => by
    obtain ⟨x, r, e, h⟩ := h
    subst e
    exact ⟨x, r ++ ws, rfl, RpS.app h k⟩
  | some d :: l, m, vs, ws, f, g, h, k => by
    obtain ⟨v, r, f1, f2, e, h1, h2, ef⟩ := h
    subst e ef
    exact ⟨v, r ++ ws, f1, f2 ++ g, rfl, h1, RpS.app h2 k, by rw [List.append_assoc]⟩
theorem RpS.cons {d : D} {v : V} {f : List Addr} {l : Rho} {vs : St} {g : List Addr} (h : Rp G O H d v f) (k : RpS G O H l vs g) : RpS G O H (some d :: l) (some v :: vs) (f ++ g) := ⟨v, vs, f, g, rfl, h, k, rfl⟩
theorem RpS.cut : ∀ {l : Rho} {vs : St} {f : List Addr} {k : Nat} {d : D}, RpS G O H l vs f → l[k]? = some (some d) →
    ∃ v fa f1 fb, vs[k]? = some (some v) ∧ RpS G O H (l.take k) (vs.take k) fa ∧ Rp G O H d v f1 ∧ RpS G O H (l.drop (k + 1)) (vs.drop (k + 1)) fb ∧ f = fa ++ (f1 ++ fb)
  | [], vs, f, k, d, h, e => by simp at e
  | some c :: l, vs, f, 0, d, h, e => by
    obtain ⟨v, r, f1, f2, ev, h1, h2, ef⟩ := h
    subst ev ef
    have e' : c = d := by simpa using e
    subst e'
    exact ⟨v, [], f1, f2, rfl, ⟨rfl, rfl⟩, h1, h2, rfl⟩
  | none :: l, vs, f, 0, d, h, e => by simp at e
  | none :: l, vs, f, k + 1, d, h, e => by
    obtain ⟨x, r, ev, h⟩ := h
    subst ev
    have e' : l[k]? = some (some d) := by simpa using e
    obtain ⟨w, fa, fm, fb, hw, ha, hm, hb, ee⟩ := RpS.cut h e'
    exact ⟨w, fa, fm, fb, by simpa using hw, ⟨x, r.take k, rfl, ha⟩, hm, hb, ee⟩
  | some c :: l, vs, f, k + 1, d, h, e => by
    obtain ⟨v, r, f1, f2, ev, h1, h2, ef⟩ := h
    subst ev ef
    have e' : l[k]? = some (some d) := by simpa using e
    obtain ⟨w, fa, fm, fb, hw, ha, hm, hb, ee⟩ := RpS.cut h2 e'
    subst ee
    exact ⟨w, f1 ++ fa, fm, fb, by simpa using hw, RpS.cons h1 ha, hm, hb, by simp⟩
/-- cut at a place that may be empty -/
theorem RpS.cutN : ∀ {l : Rho} {vs : St} {f : List Addr} {k : Nat}, RpS G O H l vs f → k < l.length →
    ∃ fa f1 fb, k < vs.length ∧ RpS G O H (l.take k) (vs.take k) fa ∧ RpS G O H (l.drop (k + 1)) (vs.drop (k + 1)) fb ∧ f = fa ++ (f1 ++ fb)
  | [], vs, f, k, h, e => by simp at e
  | some c :: l, vs, f, 0, h, e => by
    obtain ⟨v, r, f1, f2, ev, h1, h2, ef⟩ := h
    subst ev ef
    exact ⟨[], f1, f2, by simp, ⟨rfl, rfl⟩, h2, rfl⟩
  | none :: l, vs, f, 0, h, e => by
    obtain ⟨x, r, ev, h⟩ := h
    subst ev
    exact ⟨[], [], f, by simp, ⟨rfl, rfl⟩, h, rfl⟩
  | none :: l, vs, f, k + 1, h, e => by
    obtain ⟨x, r, ev, h⟩ := h
    subst ev
    obtain ⟨fa, fm, fb, hw, ha, hb, ee⟩ := RpS.cutN h (by simpa using e)
    exact ⟨fa, fm, fb, by simpa using hw, ⟨x, r.take k, rfl, ha⟩, hb, ee⟩
  | some c :: l, vs, f, k + 1, h, e => by
    obtain ⟨v, r, f1, f2, ev, h1, h2, ef⟩ := h
    subst ev ef
    obtain ⟨fa, fm, fb, hw, ha, hb, ee⟩ := RpS.cutN h2 (by simpa using e)
    subst ee
    exact ⟨f1 ++ fa, fm, fb, by simpa using hw, RpS.cons h1 ha, hb, by simp⟩
end

/-- the state of a frame: O: what others own; f: what its slots own -/
structure Stt (G : Ge) (O : Av) (H : Hp) (ρ : Rho) (σ : St) (f : List Addr) : Prop where
  rp : RpS G (uni O f) H ρ σ f
  nd : f.Nodup
  dis : ∀ a ∈ f, ¬ O a
  al : ∀ a, O a → ∃ o, H a = some o
section
variable {G : Ge} {O : Av} {H H' : Hp} {ρ : Rho} {σ : St} {f g : List Addr}
theorem Stt.mem (S : Stt G O H ρ σ f) : ∀ a ∈ f, ∃ u, H a = some u ∧ Own u := RpS.mem _ _ _ S.rp
theorem Stt.same (S : Stt G O H ρ σ f) (s : Same H H') : Stt G O H' ρ σ f :=
  ⟨RpS.tr (fun a o n e => ⟨s a o e, n⟩) _ _ _ (fun a _ o e => s a o e) S.rp, S.nd, S.dis, fun a z => let ⟨o, e⟩ := S.al a z; ⟨o, s a o e⟩⟩
/-- others own more: new things -/
theorem Stt.ext {P : Av} (S : Stt G O H ρ σ f) (s : Same H H') (hP : ∀ a, P a → H a = none ∧ ∃ o, H' a = some o) : Stt G (fun a => O a ∨ P a) H' ρ σ f where
  rp := RpS.tr (fun a o n e => ⟨s a o e, fun z => by
    rcases z with (z | z) | z
    · exact n (.inl z)
    · rw [(hP a z).1] at e; cases e
    · exact n (.inr z)⟩) _ _ _ (fun a _ o e => s a o e) S.rp
  nd := S.nd
  dis := fun a ha z => by
    rcases z with z | z
    · exact S.dis a ha z
    · obtain ⟨u, e, _⟩ := S.mem a ha
      rw [(hP a z).1] at e; cases e
  al := fun a z => by
    rcases z with z | z
    · obtain ⟨o, e⟩ := S.al a z; exact ⟨o, s a o e⟩
    · exact (hP a z).2
theorem Stt.get (S : Stt G O H ρ σ f) {i : Nat} {d : D} (e : ρ[i]? = some (some d)) : ∃ v f1, σ[i]? = some (some v) ∧ Rp G (uni O f) H d v f1 ∧ (∀ a ∈ f1, a ∈ f) ∧ f1.Nodup := by
  obtain ⟨v, fa, f1, fb, hv, ha, h1, hb, ee⟩ := S.rp.cut e
  refine ⟨v, f1, hv, h1, fun a q => ?_, ?_⟩
  · rw [ee]; exact List.mem_append_right _ (List.mem_append_left _ q)
  · have n := S.nd
    rw [ee] at n
    exact (List.nodup_append.mp (List.nodup_append.mp n).2.1).1
theorem nodup_mid {α : Type} {fa f1 fb g : List α} (n : (fa ++ (f1 ++ fb)).Nodup) (ng : g.Nodup) (d : ∀ a ∈ g, a ∈ fa ++ (f1 ++ fb) → a ∈ f1) : (fa ++ (g ++ fb)).Nodup := by
  rw [List.nodup_append] at n ⊢
  obtain ⟨n1, n2, n3⟩ := n
  rw [List.nodup_append] at n2
  obtain ⟨n4, n5, n6⟩ := n2
  refine ⟨n1, ?_, fun a ha b hb => ?_⟩
  · rw [List.nodup_append]
    refine ⟨ng, n5, fun a ha b hb => ?_⟩
    rintro rfl
    exact n6 a (d a ha (List.mem_append_right _ (List.mem_append_right _ hb))) a hb rfl
  · rintro rfl
    rcases List.mem_append.mp hb with q | q
    · exact n3 a ha a (List.mem_append_left _ (d a q (List.mem_append_left _ ha))) rfl
    · exact n3 a ha a (List.mem_append_right _ q) rfl
/-- a slot is stored -/
theorem Stt.set (S : Stt G O H ρ σ f) {i : Nat} {d : D} {v : V} (hi : i < ρ.length) (h : Rp G (uni (uni O f) g) H d v g) (ng : g.Nodup) (hg : ∀ a ∈ g, a ∉ f) (ho : ∀ a ∈ g, ¬ O a)
    (ext : RpS G (uni (uni O f) g) H ρ σ f) : ∃ f', Stt G O H (ρ.set i (some d)) (σ.set i (some v)) f' ∧ ∀ a ∈ f', a ∈ f ∨ a ∈ g := by
  obtain ⟨fa, f1, fb, hv, ha, hb, ee⟩ := ext.cutN hi
  have sub : ∀ a, uni O (fa ++ (g ++ fb)) a → uni (uni O f) g a := fun a z => by
    rcases z with z | z
    · exact .inl (.inl z)
    · rw [ee]
      rcases List.mem_append.mp z with z | z
      · exact .inl (.inr (List.mem_append_left _ z))
      · rcases List.mem_append.mp z with z | z
        · exact .inr z
        · exact .inl (.inr (List.mem_append_right _ (List.mem_append_right _ z)))
  have mono : ∀ {l : Rho} {vs : St} {x : List Addr}, RpS G (uni (uni O f) g) H l vs x → RpS G (uni O (fa ++ (g ++ fb))) H l vs x := fun {l vs x} q =>
    RpS.tr (fun a o n e => ⟨e, fun z => n (sub a z)⟩) l vs x (fun _ _ _ e => e) q
  refine ⟨fa ++ (g ++ fb), ⟨?_, ?_, ?_, S.al⟩, ?_⟩
  · rw [set_cut ρ i _ hi, set_cut σ i _ hv]
    exact (mono ha).app (RpS.cons (h.mono sub) (mono hb))
  · have n := S.nd
    rw [ee] at n
    exact nodup_mid n ng fun a q z => absurd (by rw [ee]; exact z) (hg a q)
  · intro a z
    rcases List.mem_append.mp z with q | q
    · exact S.dis a (by rw [ee]; exact List.mem_append_left _ q)
    · rcases List.mem_append.mp q with q | q
      · exact ho a q
      · exact S.dis a (by rw [ee]; exact List.mem_append_right _ (List.mem_append_right _ q))
  · intro a z
    rcases List.mem_append.mp z with q | q
    · exact .inl (by rw [ee]; exact List.mem_append_left _ q)
    · rcases List.mem_append.mp q with q | q
      · exact .inr q
      · exact .inl (by rw [ee]; exact List.mem_append_right _ (List.mem_append_right _ q))
end

/-! ### meanings -/
/-- a value that may be stored: what it owns is new -/
def tM (G : Ge) (m : EM) : TE := fun σ H Q => ∃ O ρ f d, Stt G O H ρ σ f ∧ m ρ = some d ∧
  ∀ v H' g, Same H H' → Rp G (uni (uni O f) g) H' d v g → g.Nodup → (∀ a ∈ g, H a = none) → Q v H'
/-- a value that is looked at: what it owns may be the frame's -/
def tA (G : Ge) (m : EM) : TE := fun σ H Q => ∃ O ρ f d, Stt G O H ρ σ f ∧ m ρ = some d ∧
  ∀ v H' g, Same H H' → Rp G (uni O f) H' d v g → (∀ a ∈ g, a ∈ f ∨ H a = none) → Q v H'
def tMs (G : Ge) (m : LM) : TA := fun σ H Q => ∃ O ρ f ds, Stt G O H ρ σ f ∧ m ρ = some ds ∧
  ∀ vs H' g, Same H H' → RpL G (uni (uni O f) g) H' ds vs g → g.Nodup → (∀ a ∈ g, H a = none) → Q vs H'
def tAs (G : Ge) (m : LM) : TA := fun σ H Q => ∃ O ρ f ds, Stt G O H ρ σ f ∧ m ρ = some ds ∧
  ∀ vs H' g, Same H H' → RpL G (uni O f) H' ds vs g → (∀ a ∈ g, a ∈ f ∨ H a = none) → Q vs H'
def tT (G : Ge) (m : BM) : TT := fun σ H Q => ∃ O ρ f b, Stt G O H ρ σ f ∧ m ρ = some b ∧ ∀ H', Same H H' → Q b H'
abbrev gX (X : Cx) (c : Str → Option Addr) : Ge := ⟨X.K, c⟩
abbrev PEm (X : Cx) (c : Str → Option Addr) (e : Expr) (m : EM) : Prop := PE X e (tM (gX X c) m)
abbrev PEa (X : Cx) (c : Str → Option Addr) (e : Expr) (m : EM) : Prop := PE X e (tA (gX X c) m)
abbrev PTm (X : Cx) (c : Str → Option Addr) (e : Expr) (m : BM) : Prop := PT X e (tT (gX X c) m)
abbrev PAm (X : Cx) (c : Str → Option Addr) (es : List Expr) (m : LM) : Prop := PA X es (tMs (gX X c) m)
abbrev PAa (X : Cx) (c : Str → Option Addr) (es : List Expr) (m : LM) : Prop := PA X es (tAs (gX X c) m)
theorem PEimp {X : Cx} {e : Expr} {t t' : TE} (h : PE X e t) (k : ∀ σ H Q, t' σ H Q → t σ H Q) : PE X e t' := ⟨fun pins s σ H Q I q => h.run pins s σ H Q I (k σ H Q q)⟩
theorem PTimp {X : Cx} {e : Expr} {t t' : TT} (h : PT X e t) (k : ∀ σ H Q, t' σ H Q → t σ H Q) : PT X e t' := ⟨fun pins s σ H Q I q => h.run pins s σ H Q I (k σ H Q q)⟩
theorem PAimp {X : Cx} {e : List Expr} {t t' : TA} (h : PA X e t) (k : ∀ σ H Q, t' σ H Q → t σ H Q) : PA X e t' := ⟨fun pos pins s σ H Q I q => h.run pos pins s σ H Q I (k σ H Q q)⟩
def mP (m : EM) : EM := fun ρ => (m ρ).bind fun d => if frz d = true then some d else none
def mF (m : EM) : EM := fun ρ => (m ρ).map fz

section
variable {G : Ge} {O : Av} {H H' : Hp} {ρ : Rho} {σ : St} {f g : List Addr} {m ma mb : EM} {d : D}
theorem Stt.fresh_not (S : Stt G O H ρ σ f) {a : Addr} (h : H a = none) : ¬ O a ∧ a ∉ f := by
  refine ⟨fun z => ?_, fun z => ?_⟩
  · obtain ⟨o, e⟩ := S.al a z; rw [h] at e; cases e
  · obtain ⟨o, e, _⟩ := S.mem a z; rw [h] at e; cases e
theorem Stt.gO (S : Stt G O H ρ σ f) {g : List Addr} (w : ∀ a ∈ g, a ∈ f ∨ H a = none) : ∀ a ∈ g, ¬ O a := fun a ha =>
  (w a ha).elim (S.dis a) fun q => (S.fresh_not q).1
/-- stored values may be looked at -/
theorem tMa {σ H} {Q : VK} (h : tA G m σ H Q) : tM G m σ H Q := by
  obtain ⟨O, ρ, f, d, S, e, k⟩ := h
  exact ⟨O, ρ, f, d, S, e, fun v H' g s r n w => k v H' g s (r.mono fun a z => .inl z) fun a z => .inr (w a z)⟩
theorem uni_nil {O : Av} : ∀ a, uni O [] a → O a := fun a q => q.elim id fun q => absurd q (by simp)
/-- what owns nothing may be stored -/
theorem tAm {σ H} {Q : VK} (h : tM G (mP m) σ H Q) : tA G m σ H Q := by
  obtain ⟨O, ρ, f, d, S, e, k⟩ := h
  unfold mP at e
  obtain ⟨d', e1, e2⟩ := Option.bind_eq_some_iff.mp e
  by_cases z : frz d' = true
  · rw [if_pos z] at e2
    cases e2
    refine ⟨O, ρ, f, d, S, e1, fun v H' g s r w => ?_⟩
    have eg : g = [] := Rp.nil d v g z r
    subst eg
    exact k v H' [] s (r.mono uni_nil) List.nodup_nil (fun a q => absurd q (by simp))
  · rw [if_neg z] at e2; cases e2
/-- a new thing given away -/
theorem tMf {σ H} {Q : VK} (h : tM G (mF m) σ H Q) : tM G m σ H Q := by
  obtain ⟨O, ρ, f, d, S, e, k⟩ := h
  unfold mF at e
  obtain ⟨d', e1, e2⟩ := Option.map_eq_some_iff.mp e
  subst e2
  refine ⟨O, ρ, f, d', S, e1, fun v H' g s r n w => ?_⟩
  refine k v H' [] s (Rp.fz (fun a q => .inl (uni_nil a q)) d' v g (fun a ha z => ?_) r) List.nodup_nil (fun a q => absurd q (by simp))
  rcases uni_nil a z with z | z
  · exact (S.fresh_not (w a ha)).1 z
  · exact (S.fresh_not (w a ha)).2 z
/-- two values, one after another, looked at -/
theorem tA2 {σ H} {dx dy : D} {R : V → V → Hp → Prop} (S : Stt G O H ρ σ f) (ha : ma ρ = some dx) (hb : mb ρ = some dy)
    (k : ∀ x y H2 g1 g2, Same H H2 → Rp G (uni O f) H2 dx x g1 → Rp G (uni O f) H2 dy y g2 → (∀ a ∈ g1, a ∈ f ∨ H a = none) → (∀ a ∈ g2, a ∈ f ∨ H a = none) → R x y H2) :
    tA G ma σ H fun x H1 => tA G mb σ H1 fun y H2 => R x y H2 :=
  ⟨O, ρ, f, dx, S, ha, fun x H1 g1 s1 r1 w1 => ⟨O, ρ, f, dy, S.same s1, hb, fun y H2 g2 s2 r2 w2 =>
    k x y H2 g1 g2 (s1.trans s2) (r1.same s2) r2 w1 fun a z => (w2 a z).imp id fun q => s1.free q⟩⟩
end

/-! ### names, constants -/
section
variable {X : Cx} {c : Str → Option Addr} {e a b : Expr} {es : List Expr} {pos : Pos} {m ma mb : EM} {ms : LM}
theorem toA (h : PEm X c e m) : PEa X c e m := PEimp h fun _ _ _ => tMa
theorem toM (h : PEa X c e m) : PEm X c e (mP m) := PEimp h fun _ _ _ => tAm
theorem toF (h : PEm X c e m) : PEm X c e (mF m) := PEimp h fun _ _ _ => tMf
def mC (d : D) : EM := fun _ => some d
def mV (i : Nat) : EM := fun ρ => ρ.getD i none
theorem mV_some {i : Nat} {ρ : Rho} {d : D} (h : mV i ρ = some d) : ρ[i]? = some (some d) := by
  unfold mV at h
  rw [List.getD_eq_getElem?_getD] at h
  cases e : ρ[i]? with
  | none => rw [e] at h; cases h
  | some x => rw [e] at h; exact congrArg some h
theorem pa_var (i : Nat) {x : Str} (hN : X.N[i]? = some x := by rfl) (hv : Vis X.env.scope x := by first | exact Or.inl rfl | exact Or.inr (Or.inl rfl) | exact Or.inr (Or.inr rfl)) (hd : (x == ("__debug__" : Str)) = false := by decide)
    (hcd : (x == ("__classdict__" : Str)) = false := by decide) : PEa X c (.Name x pos) (mV i) := PEimp (pe_var hN hv hd hcd) fun σ H Q h => by
  obtain ⟨O, ρ, f, d, S, e, k⟩ := h
  obtain ⟨v, f1, hv, r, sub, _⟩ := S.get (mV_some e)
  exact ⟨v, hv, k v H f1 (Same.refl _) r fun a z => .inl (sub a z)⟩
/-- a slot's value, taken out of the frame (behind it nothing of the frame is used) -/
theorem pc_of {v : V} {d : D} {e : Expr} (h : PE X e (tC v)) (hr : ∀ O H, Rp (gX X c) O H d v []) : PEm X c e (mC d) := PEimp h fun σ H Q h => by
  obtain ⟨O, ρ, f, d', S, e, k⟩ := h
  cases e
  exact k v H [] (Same.refl _) (hr _ _) List.nodup_nil (fun a q => absurd q (by simp))
theorem pm_int {i : Int} {j : Nat} : PEm X c (.Constant (.int i) j pos) (mC (.int i)) := pc_of pe_int fun _ _ => by unfold Rp; exact ⟨rfl, rfl⟩
theorem pm_bl {i : Bool} {j : Nat} : PEm X c (.Constant (.bool i) j pos) (mC (.bl i)) := pc_of pe_bl fun _ _ => by unfold Rp; exact ⟨rfl, rfl⟩
theorem pm_non {j : Nat} : PEm X c (.Constant .none j pos) (mC .non) := pc_of pe_non fun _ _ => by unfold Rp; exact ⟨rfl, rfl⟩
theorem pm_str {x : Str} {j : Nat} : PEm X c (.Constant (.str x) j pos) (mC (.str x)) := pc_of pe_str fun _ _ => by unfold Rp; exact ⟨rfl, rfl⟩
/-! ### argument lists -/
def mNil : LM := fun _ => some []
def mCons (m : EM) (ms : LM) : LM := fun ρ => (m ρ).bind fun d => (ms ρ).bind fun ds => some (d :: ds)
theorem paa_nil : PAa X c [] mNil := PAimp pa_nil fun σ H Q h => by
  obtain ⟨O, ρ, f, ds, S, e, k⟩ := h
  cases e
  exact k [] H [] (Same.refl _) RpL.nil' (fun a q => absurd q (by simp))
theorem pam_nil : PAm X c [] mNil := PAimp pa_nil fun σ H Q h => by
  obtain ⟨O, ρ, f, ds, S, e, k⟩ := h
  cases e
  exact k [] H [] (Same.refl _) RpL.nil' List.nodup_nil (fun a q => absurd q (by simp))
theorem paa_cons (ha : PEa X c e m) (hr : PAa X c es ms) (hs : starEach (e :: es) X.env = (false, eval e X.env) :: starEach es X.env := by rfl) : PAa X c (e :: es) (mCons m ms) := PAimp (pa_cons ha hr hs) fun σ H Q h => by
  obtain ⟨O, ρ, f, ds, S, e, k⟩ := h
  unfold mCons at e
  obtain ⟨d, e1, e⟩ := Option.bind_eq_some_iff.mp e
  obtain ⟨ds', e2, e⟩ := Option.bind_eq_some_iff.mp e
  cases e
  exact ⟨O, ρ, f, d, S, e1, fun v H1 g s1 r1 w1 => ⟨O, ρ, f, ds', S.same s1, e2, fun vs H2 g2 s2 r2 w2 => k (v :: vs) H2 (g ++ g2) (s1.trans s2) (RpL.cons (r1.same s2) r2) fun a z =>
    (List.mem_append.mp z).elim (w1 a) fun z => (w2 a z).imp id fun q => s1.free q⟩⟩
theorem pam_cons (ha : PEm X c e m) (hr : PAm X c es ms) (hs : starEach (e :: es) X.env = (false, eval e X.env) :: starEach es X.env := by rfl) : PAm X c (e :: es) (mCons m ms) := PAimp (pa_cons ha hr hs) fun σ H Q h => by
  obtain ⟨O, ρ, f, ds, S, e, k⟩ := h
  unfold mCons at e
  obtain ⟨d, e1, e⟩ := Option.bind_eq_some_iff.mp e
  obtain ⟨ds', e2, e⟩ := Option.bind_eq_some_iff.mp e
  cases e
  refine ⟨O, ρ, f, d, S, e1, fun v H1 g s1 r1 n1 w1 => ?_⟩
  have al1 : ∀ a ∈ g, ∃ o, H1 a = some o := fun a z => let ⟨u, e, _⟩ := Rp.mem _ _ _ r1 a z; ⟨u, e⟩
  refine ⟨_, ρ, f, ds', S.ext (P := fun a => a ∈ g) s1 (fun a z => ⟨w1 a z, al1 a z⟩), e2, fun vs H2 g2 s2 r2 n2 w2 => ?_⟩
  refine k (v :: vs) H2 (g ++ g2) (s1.trans s2) (RpL.cons ?_ (r2.mono fun a z => ?_)) ?_ fun a z => (List.mem_append.mp z).elim (w1 a) fun z => s1.free (w2 a z)
  · refine Rp.tr (fun a o n e => ⟨s2 a o e, fun z => ?_⟩) d v g (fun a _ o e => s2 a o e) r1
    rcases z with z | z
    · exact n (.inl z)
    · rcases List.mem_append.mp z with z | z
      · exact n (.inr z)
      · rw [w2 a z] at e; cases e
  · rcases z with (z | z) | z
    · exact .inl (.inl (.inl z))
    · exact .inl (.inr z)
    · rcases List.mem_append.mp z with z | z
      · exact .inl (.inl (.inr z))
      · exact .inr z
  · rw [List.nodup_append]
    refine ⟨n1, n2, fun a ha b hb => ?_⟩
    rintro rfl
    obtain ⟨o, e⟩ := al1 a ha
    rw [w2 a hb] at e; cases e
end
end R

set_option Elab.async false
set_option linter.all false
set_option maxRecDepth 100000
set_option maxHeartbeats 4000000
/-! RC: operators on values. -/
namespace R
open PySem L2

theorem same_new {H : Hp} {p : Addr} {o : HO} (h : H p = none) : Same H (upd H p o) := fun b x e => by
  rw [upd_ne (ne_of_none e h)]
  exact e
section
variable {G : Ge} {O : Av} {H : Hp} {l : List D} {vs : List V} {g : List Addr} {p : Addr}
theorem add_new {o : HO} (hp : H p = none) (h : RpL G (uni O g) H l vs g) : RpL G (uni O (p :: g)) (upd H p o) l vs g :=
  RpL.tr (fun a u n e => ⟨same_new hp a u e, fun z => by
    rcases z with z | z
    · exact n (.inl z)
    · rcases List.mem_cons.mp z with rfl | z
      · rw [hp] at e; cases e
      · exact n (.inr z)⟩) l vs g (fun a _ u e => same_new hp a u e) h
theorem new_lst (hp : H p = none) (h : RpL G (uni O g) H l vs g) : Rp G (uni O (p :: g)) (upd H p (.lst vs)) (.lst true l) (.ref p) (p :: g) := by
  unfold Rp
  exact ⟨p, vs, g, rfl, upd_same, add_new hp h, rfl⟩
theorem new_tup (hp : H p = none) (hO : ∀ a, O a → ∃ o, H a = some o) (hg : ∀ a ∈ g, ∃ o, H a = some o) (h : RpL G (uni O g) H l vs g) : Rp G (uni O g) (upd H p (.tup vs)) (.tup l) (.ref p) g := by
  unfold Rp
  refine ⟨p, vs, rfl, .inl ⟨fun z => ?_, .inl upd_same⟩, h.same (same_new hp)⟩
  rcases z with z | z
  · obtain ⟨o, e⟩ := hO p z; rw [hp] at e; cases e
  · obtain ⟨o, e⟩ := hg p z; rw [hp] at e; cases e
theorem rp_int {i : Int} : Rp G O H (.int i) (.int i) [] := by unfold Rp; exact ⟨rfl, rfl⟩
theorem rp_bl {i : Bool} : Rp G O H (.bl i) (.bl i) [] := by unfold Rp; exact ⟨rfl, rfl⟩
theorem rp_str {i : Str} : Rp G O H (.str i) (.str i) [] := by unfold Rp; exact ⟨rfl, rfl⟩
theorem rp_non : Rp G O H .non .non [] := by unfold Rp; exact ⟨rfl, rfl⟩
theorem of_int {i : Int} {v : V} {g : List Addr} (h : Rp G O H (.int i) v g) : v = .int i := by unfold Rp at h; exact h.1
theorem of_bl {i : Bool} {v : V} {g : List Addr} (h : Rp G O H (.bl i) v g) : v = .bl i := by unfold Rp at h; exact h.1
theorem of_str {i : Str} {v : V} {g : List Addr} (h : Rp G O H (.str i) v g) : v = .str i := by unfold Rp at h; exact h.1
theorem of_non {v : V} {g : List Addr} (h : Rp G O H .non v g) : v = .non := by unfold Rp at h; exact h.1
theorem of_lst {o : Bool} {v : V} {f : List Addr} (h : Rp G O H (.lst o l) v f) : ∃ a vs g, v = .ref a ∧ H a = some (.lst vs) ∧ RpL G O H l vs g ∧ (∀ b ∈ g, b ∈ f) := by
  unfold Rp at h
  obtain ⟨a, vs, g, e, ha, hl, hf⟩ := h
  refine ⟨a, vs, g, e, ?_, hl, hf.sub⟩
  cases o with
  | true => exact ha
  | false => exact ha.2
theorem of_tup {v : V} {f : List Addr} (h : Rp G O H (.tup l) v f) : ∃ a vs, v = .ref a ∧ SqT G.K H a vs ∧ RpL G O H l vs f := by
  unfold Rp at h
  obtain ⟨a, vs, e, ha, hl⟩ := h
  refine ⟨a, vs, e, ?_, hl⟩
  rcases ha with ⟨_, ha⟩ | ha
  · exact .inl ha
  · rcases ha with (ha | ⟨_, ha⟩) | ha
    · cases ha
    · cases ha
    · exact .inr ha
theorem of_scr {v : V} {f : List Addr} (h : Rp G O H (.scr l) v f) : ∃ a vs, v = .ref a ∧ SqL G.K H a vs ∧ RpL G O H l vs [] := by
  unfold Rp at h
  obtain ⟨a, vs, e, ha, hl, _⟩ := h
  refine ⟨a, vs, e, ?_, hl⟩
  rcases ha with ⟨_, ha⟩ | ha
  · exact .inl ha
  · rcases ha with (ha | ⟨_, ha⟩) | ha
    · cases ha
    · cases ha
    · exact .inr ha
end
/-- what a reading may be given: a value that is new or shared -/
abbrev Post (G : Ge) (O : Av) (H : Hp) (d : D) (Q : VK) : Prop := ∀ v H' g, Same H H' → Rp G (uni O g) H' d v g → g.Nodup → (∀ a ∈ g, H a = none) → Q v H'
section
variable {G : Ge} {O : Av} {H : Hp} {Q : VK}
theorem Post.v {d : D} {v : V} (k : Post G O H d Q) (h : Rp G O H d v []) : Q v H := k v H [] (Same.refl _) (h.mono uni_nil) List.nodup_nil fun a q => absurd q (by simp)
theorem Post.int {i : Int} (k : Post G O H (.int i) Q) : Q (.int i) H := k.v rp_int
theorem Post.bl {i : Bool} (k : Post G O H (.bl i) Q) : Q (.bl i) H := k.v rp_bl
theorem Post.str {i : Str} (k : Post G O H (.str i) Q) : Q (.str i) H := k.v rp_str
theorem Post.non (k : Post G O H .non Q) : Q .non H := k.v rp_non
theorem Post.lst {l : List D} {vs : List V} {p : Addr} (k : Post G O H (.lst true l) Q) (h : RpL G O H l vs []) (hp : H p = none) : Q (.ref p) (upd H p (.lst vs)) :=
  k (.ref p) _ [p] (same_new hp) (new_lst hp (h.mono uni_nil)) (by simp) fun a q => by
    have e : a = p := by simpa using q
    rw [e]; exact hp
theorem Post.tup {l : List D} {vs : List V} {p : Addr} (k : Post G O H (.tup l) Q) (hO : ∀ a, O a → ∃ o, H a = some o) (h : RpL G O H l vs []) (hp : H p = none) : Q (.ref p) (upd H p (.tup vs)) :=
  k (.ref p) _ [] (same_new hp) (new_tup hp hO (fun a q => absurd q (by simp)) (h.mono uni_nil)) List.nodup_nil fun a q => absurd q (by simp)
end
/-- a two-place operation on values means dop -/
def BinOk (G : Ge) (r : R2) (dop : D → D → Option D) : Prop := ∀ (O : Av) (H : Hp) (x y : V) (dx dy d : D) (gx gy : List Addr) (Q : VK), (∀ a, O a → ∃ o, H a = some o) → Rp G O H dx x gx → Rp G O H dy y gy → dop dx dy = some d → Post G O H d Q → r x y H Q
def UnOk (G : Ge) (r : V → Hp → VK → Prop) (dop : D → Option D) : Prop := ∀ (O : Av) (H : Hp) (x : V) (dx d : D) (gx : List Addr) (Q : VK), (∀ a, O a → ∃ o, H a = some o) → Rp G O H dx x gx → dop dx = some d → Post G O H d Q → r x H Q
def CalOk (G : Ge) (r : List V → Hp → VK → Prop) (dop : List D → Option D) : Prop := ∀ (O : Av) (H : Hp) (xs : List V) (dx : List D) (d : D) (gx : List Addr) (Q : VK), (∀ a, O a → ∃ o, H a = some o) → RpL G O H dx xs gx → dop dx = some d → Post G O H d Q → r xs H Q
def mB (dop : D → D → Option D) (ma mb : EM) : EM := fun ρ => (ma ρ).bind fun x => (mb ρ).bind fun y => dop x y
def mU (dop : D → Option D) (ma : EM) : EM := fun ρ => (ma ρ).bind dop
def mL (dop : List D → Option D) (ms : LM) : EM := fun ρ => (ms ρ).bind dop
section
variable {X : Cx} {c : Str → Option Addr} {e a b : Expr} {es : List Expr} {pos : Pos} {m ma mb : EM} {ms : LM} {r : R2} {dop : D → D → Option D} {r1 : V → Hp → VK → Prop} {d1 : D → Option D} {rc : List V → Hp → VK → Prop} {dl : List D → Option D}
theorem Stt.alf {G : Ge} {O : Av} {H : Hp} {ρ : Rho} {σ : St} {f : List Addr} (S : Stt G O H ρ σ f) : ∀ a, uni O f a → ∃ o, H a = some o := fun a z => z.elim (S.al a) fun z => let ⟨u, e, _⟩ := S.mem a z; ⟨u, e⟩
theorem use_bin (hk : BinOk (gX X c) r dop) {σ : St} {H : Hp} {Q : VK} (h : tM (gX X c) (mB dop ma mb) σ H Q) : tOp r (tA (gX X c) ma) (tA (gX X c) mb) σ H Q := by
  obtain ⟨O, ρ, f, d, S, e, k⟩ := h
  unfold mB at e
  obtain ⟨dx, e1, e⟩ := Option.bind_eq_some_iff.mp e
  obtain ⟨dy, e2, e⟩ := Option.bind_eq_some_iff.mp e
  refine tA2 S e1 e2 fun x y H2 g1 g2 s r1 r2 w1 w2 => hk _ H2 x y dx dy d g1 g2 Q (S.same s).alf r1 r2 e fun v H' g s' r n w => k v H' g (s.trans s') r n fun a z => s.free (w a z)
theorem pm_bin {op : Operator} (ho : OpR X (binaryOp op) r) (hk : BinOk (gX X c) r dop) (ha : PEa X c a ma) (hb : PEa X c b mb) : PEm X c (.BinOp a op b pos) (mB dop ma mb) := PEimp (pe_op ho ha hb) fun _ _ _ => use_bin hk
theorem pm_cmp {op : CmpOp} (ho : OpR X (compareOp op) r) (hk : BinOk (gX X c) r dop) (ha : PEa X c a ma) (hb : PEa X c b mb) (hm : behindInMarks op b = false) : PEm X c (.Compare a [op] [b] pos) (mB dop ma mb) := PEimp (pe_cmpR ho ha hb hm) fun _ _ _ => use_bin hk
theorem pm_un {op : UnaryOp} (ho : UnR X (unaryOp op) r1) (hk : UnOk (gX X c) r1 d1) (ha : PEa X c a ma) : PEm X c (.UnaryOp op a pos) (mU d1 ma) := PEimp (pe_un ho ha) fun σ H Q h => by
  obtain ⟨O, ρ, f, d, S, e, k⟩ := h
  unfold mU at e
  obtain ⟨dx, e1, e⟩ := Option.bind_eq_some_iff.mp e
  exact ⟨O, ρ, f, dx, S, e1, fun v H' g s r w => hk _ H' v dx d g Q (S.same s).alf r e fun v2 H2 g2 s2 r2 n2 w2 => k v2 H2 g2 (s.trans s2) r2 n2 fun a z => s.free (w2 a z)⟩
theorem use_call (hk : CalOk (gX X c) rc dl) {σ : St} {H : Hp} {Q : VK} (h : tM (gX X c) (mL dl ms) σ H Q) : tCB rc (tAs (gX X c) ms) σ H Q := by
  obtain ⟨O, ρ, f, d, S, e, k⟩ := h
  unfold mL at e
  obtain ⟨dx, e1, e⟩ := Option.bind_eq_some_iff.mp e
  exact ⟨O, ρ, f, dx, S, e1, fun vs H' g s r w => hk _ H' vs dx d g Q (S.same s).alf r e fun v2 H2 g2 s2 r2 n2 w2 => k v2 H2 g2 (s.trans s2) r2 n2 fun a z => s.free (w2 a z)⟩
variable {x : Str} {p : Pos} {id T : String}
theorem pm_callB (hc : CallR X (.builtin id) rc) (hk : CalOk (gX X c) rc dl) (hg : Gl X x) (hm : X.mg x = none) (hv : bootBuiltins x = some (.builtin id)) (ha : PAa X c (e :: es) ms) (hn : x ≠ "__name__" := by decide) (hdb : (x == ("__debug__" : Str)) = false := by decide)
    (he : starEach (e :: es) X.env = (false, eval e X.env) :: starEach es X.env := by rfl) (hpl : (backTo pos (starEach es X.env)).any (·.1) = false := by rfl) : PEm X c (.Call (.Name x p) (e :: es) [] pos) (mL dl ms) := PEimp (pe_callB hc hg hm hv ha hn hdb he hpl) fun _ _ _ => use_call hk
theorem pm_callTy (hc : CallR X (.type T) rc) (hk : CalOk (gX X c) rc dl) (hg : Gl X x) (hm : X.mg x = none) (hv : bootBuiltins x = some (.type T)) (ha : PAa X c (e :: es) ms) (hn : x ≠ "__name__" := by decide) (hdb : (x == ("__debug__" : Str)) = false := by decide)
    (he : starEach (e :: es) X.env = (false, eval e X.env) :: starEach es X.env := by rfl) (hpl : (backTo pos (starEach es X.env)).any (·.1) = false := by rfl) : PEm X c (.Call (.Name x p) (e :: es) [] pos) (mL dl ms) := PEimp (pe_callTy hc hg hm hv ha hn hdb he hpl) fun _ _ _ => use_call hk
theorem pm_callF (hc : CallR X (.builtin id) rc) (hk : CalOk (gX X c) rc dl) (hg : Gl X x) (hm : X.mg x = some (.builtin id)) (ha : PAa X c (e :: es) ms) (hdb : (x == ("__debug__" : Str)) = false := by decide)
    (he : starEach (e :: es) X.env = (false, eval e X.env) :: starEach es X.env := by rfl) (hpl : (backTo pos (starEach es X.env)).any (·.1) = false := by rfl) : PEm X c (.Call (.Name x p) (e :: es) [] pos) (mL dl ms) := PEimp (pe_callBfun hc hg hm ha hdb he hpl) fun _ _ _ => use_call hk
/-! ### displays -/
def mTup (ms : LM) : EM := fun ρ => (ms ρ).bind fun ds => if ds.length ≤ sizeLine then some (.tup ds) else none
def mLst (ms : LM) : EM := fun ρ => (ms ρ).bind fun ds => if ds.length ≤ sizeLine then some (.lst true ds) else none
theorem pm_tup {x1} (h : PAm X c es ms) : PEm X c (.Tuple es x1 pos) (mTup ms) := PEimp (pe_tup h) fun σ H Q h => by
  obtain ⟨O, ρ, f, d, S, e, k⟩ := h
  unfold mTup at e
  obtain ⟨dx, e1, e⟩ := Option.bind_eq_some_iff.mp e
  by_cases z : dx.length ≤ sizeLine
  · rw [if_pos z] at e
    cases e
    refine ⟨O, ρ, f, dx, S, e1, fun vs H' g s r n w => ⟨by rw [← r.len]; exact z, fun p hp => ?_⟩⟩
    exact k (.ref p) _ g (s.trans (same_new hp)) (new_tup hp (S.same s).alf (fun a q => let ⟨u, e, _⟩ := RpL.mem _ _ _ r a q; ⟨u, e⟩) r) n w
  · rw [if_neg z] at e; cases e
theorem pm_lst (h : PAm X c es ms) : PEm X c (.List es pos) (mLst ms) := PEimp (pe_lst h) fun σ H Q h => by
  obtain ⟨O, ρ, f, d, S, e, k⟩ := h
  unfold mLst at e
  obtain ⟨dx, e1, e⟩ := Option.bind_eq_some_iff.mp e
  by_cases z : dx.length ≤ sizeLine
  · rw [if_pos z] at e
    cases e
    refine ⟨O, ρ, f, dx, S, e1, fun vs H' g s r n w => ⟨by rw [← r.len]; exact z, fun p hp => ?_⟩⟩
    refine k (.ref p) _ (p :: g) (s.trans (same_new hp)) (new_lst hp r) (List.nodup_cons.mpr ⟨fun q => ?_, n⟩) fun a q => ?_
    · obtain ⟨u, e, _⟩ := RpL.mem _ _ _ r p q
      rw [hp] at e; cases e
    · rcases List.mem_cons.mp q with rfl | q
      · exact s.free hp
      · exact w a q
  · rw [if_neg z] at e; cases e
end

/-! ### arithmetic -/
def dAdd : D → D → Option D
  | .int i, .int j => some (.int (i + j))
  | .str x, .str y => if x.length + y.length ≤ sizeLine then some (.str (x ++ y)) else none
  | .lst _ l, .lst _ m => if frzL l = true ∧ frzL m = true ∧ l.length + m.length ≤ sizeLine then some (.lst true (l ++ m)) else none
  | .tup l, .tup m => if frzL l = true ∧ frzL m = true ∧ l ≠ [] ∧ l.length + m.length ≤ sizeLine then some (.tup (l ++ m)) else none
  | _, _ => none
def rAddStr : R2 := fun x y H Q => ∃ i j, x = .str i ∧ y = .str j ∧ i.length + j.length ≤ sizeLine ∧ Q (.str (i ++ j)) H
def rAddD (K : PySem.W.Frag) : R2 := fun x y H Q => rI0 (fun i j => .int (i + j)) x y H Q ∨ rAddStr x y H Q ∨ rCat x y H Q ∨ rCatT K x y H Q
theorem op_addD {X : Cx} : OpR X (binaryOp .Add) (rAddD X.K) := op_add.or (OpR.or (r := rAddStr) op_add_str (op_cat.or op_catT))
theorem frz_rp {G : Ge} {O : Av} {H : Hp} {l : List D} {vs : List V} {g : List Addr} (z : frzL l = true) (h : RpL G O H l vs g) : RpL G O H l vs [] := by
  have e : g = [] := RpL.nil l vs g z h
  rw [e] at h
  exact h
theorem bin_add {G : Ge} : BinOk G (rAddD G.K) dAdd := by
  intro O H x y dx dy d gx gy Q hO hx hy e k
  unfold dAdd at e
  split at e
  · cases e
    exact .inl ⟨_, _, of_int hx, of_int hy, k.int⟩
  · split at e
    · rename_i z
      cases e
      exact .inr (.inl ⟨_, _, of_str hx, of_str hy, z, k.str⟩)
    · cases e
  · split at e
    · rename_i z
      cases e
      obtain ⟨a, vs, g, rfl, ha, hl, _⟩ := of_lst hx
      obtain ⟨b, ws, g', rfl, hb, hm, _⟩ := of_lst hy
      refine .inr (.inr (.inl ⟨a, b, vs, ws, rfl, rfl, ha, hb, by rw [← hl.len, ← hm.len]; exact z.2.2, fun p hp => k.lst ?_ hp⟩))
      exact (frz_rp z.1 hl).app (frz_rp z.2.1 hm)
    · cases e
  · split at e
    · rename_i z
      cases e
      obtain ⟨a, vs, rfl, ha, hl⟩ := of_tup hx
      obtain ⟨b, ws, rfl, hb, hm⟩ := of_tup hy
      have hl' := frz_rp z.1 hl
      have hm' := frz_rp z.2.1 hm
      refine .inr (.inr (.inr ⟨a, b, vs, ws, rfl, rfl, ha, hb, fun q => z.2.2.1 ?_, by rw [← hl.len, ← hm.len]; exact z.2.2.2, fun q => ?_, fun q p hp => k.tup hO (hl'.app hm') hp⟩))
      · have := hl.len
        rw [q] at this
        exact List.length_eq_zero_iff.mp this
      · have := hm.len
        rw [q] at this
        have e0 : _ = [] := List.length_eq_zero_iff.mp this
        subst e0
        have gx0 : gx = [] := RpL.nil _ _ _ z.1 hl
        subst gx0
        rw [List.append_nil] at k
        exact k.v hx
    · cases e
  · cases e
def dSub : D → D → Option D
  | .int i, .int j => some (.int (i - j))
  | _, _ => none
theorem bin_sub {G : Ge} : BinOk G (rI0 fun i j => .int (i - j)) dSub := by
  intro O H x y dx dy d gx gy Q hO hx hy e k
  unfold dSub at e
  split at e
  · cases e
    exact ⟨_, _, of_int hx, of_int hy, k.int⟩
  · cases e
def mulOk (i j : Int) : Prop := i.natAbs.log2 + j.natAbs.log2 < 1000000
instance (i j : Int) : Decidable (mulOk i j) := by unfold mulOk; infer_instance
def dMul : D → D → Option D
  | .int i, .int j => if mulOk i j then some (.int (i * j)) else none
  | .lst _ l, .int k => if frzL l = true ∧ -(2 ^ 63) ≤ k ∧ k < 2 ^ 63 ∧ l.length * k.toNat ≤ sizeLine then some (.lst true (List.replicate k.toNat l).flatten) else none
  | _, _ => none
def rMulD : R2 := fun x y H Q => rI CMulW (fun i j => .int (i * j)) x y H Q ∨ rRep x y H Q
theorem op_mulD {X : Cx} : OpR X (binaryOp .Mult) rMulD := op_mulW.or op_rep
theorem RpL.rep {G : Ge} {O : Av} {H : Hp} {l : List D} {vs : List V} (h : RpL G O H l vs []) : ∀ k : Nat, RpL G O H (List.replicate k l).flatten (List.replicate k vs).flatten []
  | 0 => RpL.nil'
  | k + 1 => by
    rw [List.replicate_succ, List.replicate_succ, List.flatten_cons, List.flatten_cons]
    exact h.app (RpL.rep h k)
theorem bin_mul {G : Ge} : BinOk G rMulD dMul := by
  intro O H x y dx dy d gx gy Q hO hx hy e k
  unfold dMul at e
  split at e
  · split at e
    · rename_i z
      cases e
      exact .inl ⟨_, _, of_int hx, of_int hy, z, k.int⟩
    · cases e
  · split at e
    · rename_i z
      cases e
      obtain ⟨a, vs, g, rfl, ha, hl, _⟩ := of_lst hx
      exact .inr ⟨a, _, vs, rfl, of_int hy, ha, z.2.1, z.2.2.1, by rw [← hl.len]; exact z.2.2.2, fun p hp => k.lst ((frz_rp z.1 hl).rep _) hp⟩
    · cases e
  · cases e
def divOk (j : Int) : Prop := 0 < j ∧ j.natAbs.log2 < 9000
instance (j : Int) : Decidable (divOk j) := by unfold divOk; infer_instance
def dDiv : D → D → Option D
  | .int i, .int j => if divOk j then some (.int (i / j)) else none
  | _, _ => none
theorem bin_div {G : Ge} : BinOk G (rI CDivW fun i j => .int (i / j)) dDiv := by
  intro O H x y dx dy d gx gy Q hO hx hy e k
  unfold dDiv at e
  split at e
  · split at e
    · rename_i z
      cases e
      exact ⟨_, _, of_int hx, of_int hy, z, k.int⟩
    · cases e
  · cases e
def dMod : D → D → Option D
  | .int i, .int j => if 0 < j then some (.int (i % j)) else none
  | _, _ => none
theorem bin_mod {G : Ge} : BinOk G (rI (fun _ j => 0 < j) fun i j => .int (i % j)) dMod := by
  intro O H x y dx dy d gx gy Q hO hx hy e k
  unfold dMod at e
  split at e
  · split at e
    · rename_i z
      cases e
      exact ⟨_, _, of_int hx, of_int hy, z, k.int⟩
    · cases e
  · cases e
def dAnd : D → D → Option D
  | .int i, .int j => some (.int (Builtin.bitAnd i j))
  | _, _ => none
theorem bin_and {G : Ge} : BinOk G (rI0 fun i j => .int (Builtin.bitAnd i j)) dAnd := by
  intro O H x y dx dy d gx gy Q hO hx hy e k
  unfold dAnd at e
  split at e
  · cases e
    exact ⟨_, _, of_int hx, of_int hy, k.int⟩
  · cases e
def dNeg : D → Option D
  | .int i => some (.int (-i))
  | _ => none
theorem un_negD {G : Ge} : UnOk G (rU fun i => .int (-i)) dNeg := by
  intro O H x dx d gx Q hO hx e k
  unfold dNeg at e
  split at e
  · cases e
    exact ⟨_, of_int hx, k.int⟩
  · cases e

/-! ### comparisons -/
def dCmp (h : Int → Int → Bool) : D → D → Option D
  | .int i, .int j => some (.bl (h i j))
  | _, _ => none
theorem bin_cmp {G : Ge} {h : Int → Int → Bool} : BinOk G (rI0 fun i j => .bl (h i j)) (dCmp h) := by
  intro O H x y dx dy d gx gy Q hO hx hy e k
  unfold dCmp at e
  split at e
  · cases e
    exact ⟨_, _, of_int hx, of_int hy, k.bl⟩
  · cases e
abbrev dLt := dCmp fun i j => decide (i < j)
abbrev dLe := dCmp fun i j => decide (i ≤ j)
abbrev dGt := dCmp fun i j => decide (j < i)
abbrev dGe := dCmp fun i j => decide (j ≤ i)
mutual
def toPy : D → PyData
  | .non => .none
  | .bl b => .bool b
  | .int i => .int i
  | .str x => .str x
  | .tup l => .tuple (toPyL l)
  | .lst _ l => .list (toPyL l)
  | .scr l => .list (toPyL l)
  | .obj _ _ _ _ => .dict []
  | .dK _ _ _ => .dict []
  | .dT _ _ _ => .dict []
def toPyL : List D → List PyData
  | [] => []
  | d :: l => toPy d :: toPyL l
end
mutual
theorem dp_of {G : Ge} {O : Av} {H : Hp} : ∀ (d : D) (v : V) (f : List Addr), (toPy d).canLay0 = true → Rp G O H d v f → Dp G.K H v (toPy d)
  | .non, v, f, _, h => by unfold toPy; rw [of_non h]; exact .non
  | .bl b, v, f, _, h => by unfold toPy; rw [of_bl h]; exact .bl b
  | .int i, v, f, _, h => by unfold toPy; rw [of_int h]; exact .int i
  | .str x, v, f, _, h => by unfold toPy; rw [of_str h]; exact .str x
  | .tup l, v, f, z, h => by
    unfold toPy at z ⊢
    obtain ⟨a, vs, rfl, ha, hl⟩ := of_tup h
    exact .tup ha (dp_ofL l vs f (by simpa [PyData.canLay0] using z) hl)
  | .lst o l, v, f, z, h => by
    unfold toPy at z ⊢
    obtain ⟨a, vs, g, rfl, ha, hl, _⟩ := of_lst h
    exact .lst (.of ha) (dp_ofL l vs g (by simpa [PyData.canLay0] using z) hl)
  | .scr l, v, f, z, h => by
    unfold toPy at z ⊢
    obtain ⟨a, vs, rfl, ha, hl⟩ := of_scr h
    exact .lst ha (dp_ofL l vs [] (by simpa [PyData.canLay0] using z) hl)
  | .obj _ _ _ _, v, f, z, h => by unfold toPy at z; simp [PyData.canLay0] at z
  | .dK _ _ _, v, f, z, h => by unfold toPy at z; simp [PyData.canLay0] at z
  | .dT _ _ _, v, f, z, h => by unfold toPy at z; simp [PyData.canLay0] at z
theorem dp_ofL {G : Ge} {O : Av} {H : Hp} : ∀ (l : List D) (vs : List V) (f : List Addr), PyData.canLayAll0 (toPyL l) = true → RpL G O H l vs f → DpAll G.K H vs (toPyL l)
  | [], vs, f, _, h => by unfold RpL at h; unfold toPyL; rw [h.1]; exact .nil
  | d :: l, vs, f, z, h => by
    unfold RpL at h; unfold toPyL at z ⊢
    obtain ⟨v, r, f1, f2, rfl, h1, h2, _⟩ := h
    have z' : (toPy d).canLay0 = true ∧ PyData.canLayAll0 (toPyL l) = true := by simpa [PyData.canLayAll0] using z
    exact .cons (dp_of d v f1 z'.1 h1) (dp_ofL l r f2 z'.2 h2)
end
/-- == of data -/
def dEqB : D → D → Option Bool
  | .int i, .int j => some (decide (i = j))
  | .bl i, .bl j => some (decide (i = j))
  | .str i, .str j => some (decide (i = j))
  | x, y => if SeqAt.shaped (toPy x) = true ∧ SeqAt.shaped (toPy y) = true then some (PyData.eqv (toPy x) (toPy y)) else none
def dEq (x y : D) : Option D := (dEqB x y).map .bl
def dNe (x y : D) : Option D := (dEqB x y).map fun b => .bl (!b)
def rEqA (K : PySem.W.Frag) : R2 := fun x y H Q => rEq x y H Q ∨ rEqD K x y H Q
def rNeA (K : PySem.W.Frag) : R2 := fun x y H Q => rNe x y H Q ∨ rNeD K x y H Q
theorem op_eqA {X : Cx} (hu : X.A.units + 64 < cLine) : OpR X (compareOp .Eq) (rEqA X.K) := op_eq.or (op_eqD hu)
theorem op_neA {X : Cx} (hu : X.A.units + 64 < cLine) : OpR X (compareOp .NotEq) (rNeA X.K) := op_ne.or (op_neD hu)
theorem canLay_shaped {d : PyData} (h : SeqAt.shaped d = true) : d.canLay0 = true := SeqAt.canLay_of_shaped h
theorem eqb_shape {x y : D} {b : Bool} (h : dEqB x y = some b) : (∃ i j, x = .int i ∧ y = .int j ∧ b = decide (i = j)) ∨ (∃ i j, x = .bl i ∧ y = .bl j ∧ b = decide (i = j)) ∨ (∃ i j, x = .str i ∧ y = .str j ∧ b = decide (i = j)) ∨
    (SeqAt.shaped (toPy x) = true ∧ SeqAt.shaped (toPy y) = true ∧ b = PyData.eqv (toPy x) (toPy y)) := by
  unfold dEqB at h
  split at h
  · exact .inl ⟨_, _, rfl, rfl, (Option.some.inj h).symm⟩
  · exact .inr (.inl ⟨_, _, rfl, rfl, (Option.some.inj h).symm⟩)
  · exact .inr (.inr (.inl ⟨_, _, rfl, rfl, (Option.some.inj h).symm⟩))
  · split at h
    · rename_i z
      exact .inr (.inr (.inr ⟨z.1, z.2, (Option.some.inj h).symm⟩))
    · cases h
theorem bin_eq {G : Ge} : BinOk G (rEqA G.K) dEq := by
  intro O H x y dx dy d gx gy Q hO hx hy e k
  unfold dEq at e
  obtain ⟨b, eb, e⟩ := Option.map_eq_some_iff.mp e
  subst e
  rcases eqb_shape eb with ⟨i, j, rfl, rfl, rfl⟩ | ⟨i, j, rfl, rfl, rfl⟩ | ⟨i, j, rfl, rfl, rfl⟩ | ⟨z1, z2, rfl⟩
  · rw [of_int hx, of_int hy]
    exact .inl ⟨rfl, by rw [dec_int]; exact k.bl⟩
  · rw [of_bl hx, of_bl hy]
    exact .inl ⟨rfl, by rw [dec_bl]; exact k.bl⟩
  · rw [of_str hx, of_str hy]
    exact .inl ⟨rfl, by rw [dec_str]; exact k.bl⟩
  · exact .inr ⟨_, _, dp_of dx x gx (canLay_shaped z1) hx, dp_of dy y gy (canLay_shaped z2) hy, z1, z2, k.bl⟩
theorem bin_ne {G : Ge} : BinOk G (rNeA G.K) dNe := by
  intro O H x y dx dy d gx gy Q hO hx hy e k
  unfold dNe at e
  obtain ⟨b, eb, e⟩ := Option.map_eq_some_iff.mp e
  subst e
  rcases eqb_shape eb with ⟨i, j, rfl, rfl, rfl⟩ | ⟨i, j, rfl, rfl, rfl⟩ | ⟨i, j, rfl, rfl, rfl⟩ | ⟨z1, z2, rfl⟩
  · rw [of_int hx, of_int hy]
    exact .inl ⟨rfl, by rw [dec_int]; exact k.bl⟩
  · rw [of_bl hx, of_bl hy]
    exact .inl ⟨rfl, by rw [dec_bl]; exact k.bl⟩
  · rw [of_str hx, of_str hy]
    exact .inl ⟨rfl, by rw [dec_str]; exact k.bl⟩
  · exact .inr ⟨_, _, dp_of dx x gx (canLay_shaped z1) hx, dp_of dy y gy (canLay_shaped z2) hy, z1, z2, k.bl⟩
/-- is None, is not None -/
def dIsN : D → D → Option D
  | .non, .non => some (.bl true)
  | _, .non => some (.bl false)
  | _, _ => none
def dNotN : D → D → Option D
  | .non, .non => some (.bl false)
  | _, .non => some (.bl true)
  | _, _ => none
def rIsN' : R2 := fun x y H Q => y = .non ∧ Q (.bl (decide (x = .non))) H
def rNotN' : R2 := fun x y H Q => y = .non ∧ Q (.bl (!decide (x = .non))) H
theorem rp_notnon {G : Ge} {O : Av} {H : Hp} {d : D} {v : V} {f : List Addr} (n : d ≠ .non) (h : Rp G O H d v f) : ¬ v = .non := by
  cases d with
  | non => exact absurd rfl n
  | bl b => rw [of_bl h]; intro z; cases z
  | int b => rw [of_int h]; intro z; cases z
  | str b => rw [of_str h]; intro z; cases z
  | tup l => obtain ⟨a, vs, rfl, _⟩ := of_tup h; intro z; cases z
  | lst o l => obtain ⟨a, vs, g, rfl, _⟩ := of_lst h; intro z; cases z
  | scr l => obtain ⟨a, vs, rfl, _⟩ := of_scr h; intro z; cases z
  | obj o cc ns l => unfold Rp at h; obtain ⟨a, vs, g, C, dx, rfl, _⟩ := h; intro z; cases z
  | dK o ks l => unfold Rp at h; obtain ⟨a, vs, g, rfl, _⟩ := h; intro z; cases z
  | dT o ks l => unfold Rp at h; obtain ⟨a, vs, g, rfl, _⟩ := h; intro z; cases z
theorem bin_isN {G : Ge} : BinOk G rIsN' dIsN := by
  intro O H x y dx dy d gx gy Q hO hx hy e k
  unfold dIsN at e
  split at e
  · cases e
    exact ⟨of_non hy, by rw [of_non hx]; exact k.bl⟩
  · rename_i n
    cases e
    refine ⟨of_non hy, ?_⟩
    rw [decide_eq_false (rp_notnon (fun z => n z) hx)]
    exact k.bl
  · cases e
theorem bin_notN {G : Ge} : BinOk G rNotN' dNotN := by
  intro O H x y dx dy d gx gy Q hO hx hy e k
  unfold dNotN at e
  split at e
  · cases e
    exact ⟨of_non hy, by rw [of_non hx]; exact k.bl⟩
  · rename_i n
    cases e
    refine ⟨of_non hy, ?_⟩
    rw [decide_eq_false (rp_notnon (fun z => n z) hx)]
    exact k.bl
  · cases e
section
variable {X : Cx} {c : Str → Option Addr} {a b : Expr} {pos : Pos} {ma mb : EM}
theorem pm_add (ha : PEa X c a ma) (hb : PEa X c b mb) : PEm X c (.BinOp a .Add b pos) (mB dAdd ma mb) := pm_bin op_addD bin_add ha hb
theorem pm_sub (ha : PEa X c a ma) (hb : PEa X c b mb) : PEm X c (.BinOp a .Sub b pos) (mB dSub ma mb) := pm_bin op_sub bin_sub ha hb
theorem pm_mul (ha : PEa X c a ma) (hb : PEa X c b mb) : PEm X c (.BinOp a .Mult b pos) (mB dMul ma mb) := pm_bin op_mulD bin_mul ha hb
theorem pm_div (ha : PEa X c a ma) (hb : PEa X c b mb) : PEm X c (.BinOp a .FloorDiv b pos) (mB dDiv ma mb) := pm_bin op_fdivW bin_div ha hb
theorem pm_mod (ha : PEa X c a ma) (hb : PEa X c b mb) : PEm X c (.BinOp a .Mod b pos) (mB dMod ma mb) := pm_bin op_mod bin_mod ha hb
theorem pm_and (ha : PEa X c a ma) (hb : PEa X c b mb) : PEm X c (.BinOp a .BitAnd b pos) (mB dAnd ma mb) := pm_bin op_and bin_and ha hb
theorem pm_neg (ha : PEa X c a ma) : PEm X c (.UnaryOp .USub a pos) (mU dNeg ma) := pm_un un_neg un_negD ha
theorem pm_lt (ha : PEa X c a ma) (hb : PEa X c b mb) : PEm X c (.Compare a [.Lt] [b] pos) (mB dLt ma mb) := pm_cmp op_lt bin_cmp ha hb (nomark _)
theorem pm_le (ha : PEa X c a ma) (hb : PEa X c b mb) : PEm X c (.Compare a [.LtE] [b] pos) (mB dLe ma mb) := pm_cmp op_le bin_cmp ha hb (nomark _)
theorem pm_gt (ha : PEa X c a ma) (hb : PEa X c b mb) : PEm X c (.Compare a [.Gt] [b] pos) (mB dGt ma mb) := pm_cmp op_gt bin_cmp ha hb (nomark _)
theorem pm_ge (ha : PEa X c a ma) (hb : PEa X c b mb) : PEm X c (.Compare a [.GtE] [b] pos) (mB dGe ma mb) := pm_cmp op_ge bin_cmp ha hb (nomark _)
theorem pm_eq (hu : X.A.units + 64 < cLine) (ha : PEa X c a ma) (hb : PEa X c b mb) : PEm X c (.Compare a [.Eq] [b] pos) (mB dEq ma mb) := pm_cmp (op_eqA hu) bin_eq ha hb (nomark _)
theorem pm_ne (hu : X.A.units + 64 < cLine) (ha : PEa X c a ma) (hb : PEa X c b mb) : PEm X c (.Compare a [.NotEq] [b] pos) (mB dNe ma mb) := pm_cmp (op_neA hu) bin_ne ha hb (nomark _)
theorem pm_isN (ha : PEa X c a ma) (hb : PEa X c b mb) : PEm X c (.Compare a [.Is] [b] pos) (mB dIsN ma mb) := pm_cmp (r := rIsN') op_isN bin_isN ha hb (nomark _)
theorem pm_notN (ha : PEa X c a ma) (hb : PEa X c b mb) : PEm X c (.Compare a [.IsNot] [b] pos) (mB dNotN ma mb) := pm_cmp (r := rNotN') op_notN bin_notN ha hb (nomark _)
end
end R

set_option Elab.async false
set_option linter.all false
set_option maxRecDepth 100000
set_option maxHeartbeats 4000000
/-! RD: places, slices, built-ins, tests. -/
namespace R
open PySem L2

/-! ### places -/
def dIx : D → D → Option D
  | .lst _ l, .int i => atI l i
  | .scr l, .int i => atI l i
  | .tup l, .int i => atI l i
  | .str z, .int i => if z.length ≤ sizeLine then (atI z.cps.toList i).map fun c => .str ⟨#[c]⟩ else none
  | _, _ => none
theorem atI_rp {G : Ge} {O : Av} {H : Hp} {l : List D} {vs : List V} {g : List Addr} {i : Int} {d : D} (h : RpL G O H l vs g) (e : atI l i = some d) : ∃ v g1, atI vs i = some v ∧ Rp G O H d v g1 ∧ ∀ a ∈ g1, a ∈ g := by
  unfold atI at e ⊢
  rw [h.len] at e
  obtain ⟨j, e1, e2⟩ := Option.bind_eq_some_iff.mp e
  obtain ⟨v, g1, hv, r, sub, _⟩ := h.get e2
  exact ⟨v, g1, by rw [e1]; exact hv, r, sub⟩
section
variable {X : Cx} {c : Str → Option Addr} {e a b t : Expr} {es : List Expr} {pos p2 : Pos} {m ma mb mt : EM} {ms : LM}
theorem pa_ix (ha : PEa X c a ma) (hb : PEa X c b mb) (hs : PlainIx b := by first | exact fun _ _ => rfl | (intro _ _; rfl)) : PEa X c (.Subscript a b pos) (mB dIx ma mb) := PEimp (pe_ix ix_seq ha hb hs) fun σ H Q h => by
  obtain ⟨O, ρ, f, d, S, e, k⟩ := h
  unfold mB at e
  obtain ⟨dx, e1, e⟩ := Option.bind_eq_some_iff.mp e
  obtain ⟨dy, e2, e⟩ := Option.bind_eq_some_iff.mp e
  refine tA2 S e1 e2 fun x y H2 g1 g2 s r1 r2 w1 w2 => ?_
  unfold dIx at e
  split at e
  · obtain ⟨p, vs, g, rfl, hp, hl, sub⟩ := of_lst r1
    obtain ⟨v, g', hv, r, sub'⟩ := atI_rp hl e
    exact .inl ⟨p, vs, _, v, rfl, of_int r2, .of hp, hv, k v H2 g' s r fun a z => w1 a (sub a (sub' a z))⟩
  · obtain ⟨p, vs, rfl, hp, hl⟩ := of_scr r1
    obtain ⟨v, g', hv, r, sub'⟩ := atI_rp hl e
    exact .inl ⟨p, vs, _, v, rfl, of_int r2, hp, hv, k v H2 g' s r fun a z => absurd (sub' a z) (by simp)⟩
  · obtain ⟨p, vs, rfl, hp, hl⟩ := of_tup r1
    obtain ⟨v, g', hv, r, sub'⟩ := atI_rp hl e
    exact .inr (.inl ⟨p, vs, _, v, rfl, of_int r2, hp, hv, k v H2 g' s r fun a z => w1 a (sub' a z)⟩)
  · split at e
    · rename_i z
      obtain ⟨ch, h1, h2⟩ := Option.map_eq_some_iff.mp e
      subst h2
      exact .inr (.inr ⟨_, _, ch, of_str r1, of_int r2, z, h1, k (.str _) H2 [] s rp_str fun a q => absurd q (by simp)⟩)
    · cases e
  · cases e
/-! ### slices -/
abbrev OM := Rho → Option (Option Int)
def asInt : D → Option Int
  | .int i => some i
  | _ => none
def mNo : OM := fun _ => some none
def mSo (m : EM) : OM := fun ρ => (m ρ).bind fun d => (asInt d).map some
def tOm (G : Ge) (m : OM) : TO := fun σ H Q => ∃ O ρ f o, Stt G O H ρ σ f ∧ m ρ = some o ∧ ∀ H', Same H H' → Q o H'
abbrev POm (X : Cx) (c : Str → Option Addr) (e : Option Expr) (m : OM) : Prop := PO X e (tOm (gX X c) m)
theorem pom_none : POm X c none mNo := ⟨fun pins s σ H Q I h => by
  obtain ⟨O, ρ, f, o, S, e, k⟩ := h
  cases e
  exact po_none.run pins s σ H Q I (k H (Same.refl _))⟩
theorem pom_some (h : PEa X c e m) : POm X c (some e) (mSo m) := ⟨fun pins s σ H Q I hq => by
  obtain ⟨O, ρ, f, o, S, e1, k⟩ := hq
  unfold mSo at e1
  obtain ⟨d, e2, e1⟩ := Option.bind_eq_some_iff.mp e1
  obtain ⟨i, e3, e4⟩ := Option.map_eq_some_iff.mp e1
  subst e4
  unfold asInt at e3
  split at e3
  · cases e3
    exact (po_some h).run pins s σ H Q I ⟨O, ρ, f, _, S, e2, fun v H' g s r w => ⟨_, of_int r, k H' s⟩⟩
  · cases e3⟩
def dcut {α : Type} (xs : List α) (lo hi : Option Int) : List α := (xs.drop (HT.sIx xs.length 0 lo)).take (HT.sIx xs.length xs.length hi - HT.sIx xs.length 0 lo)
def dSl (d : D) (lo hi : Option Int) : Option D :=
  match d with
  | .lst _ l => if frzL l = true then some (.lst true (dcut l lo hi)) else none
  | .scr l => if frzL l = true then some (.lst true (dcut l lo hi)) else none
  | .tup l => if frzL l = true ∧ ¬ (HT.sIx l.length 0 lo = 0 ∧ HT.sIx l.length l.length hi = l.length) then some (.tup (dcut l lo hi)) else none
  | .str z => if z.length ≤ sizeLine then some (.str (cutS z lo hi)) else none
  | _ => none
def mSl (m : EM) (lo hi : OM) : EM := fun ρ => (m ρ).bind fun d => (lo ρ).bind fun l => (hi ρ).bind fun h => dSl d l h
def rSlA (K : PySem.W.Frag) : V → Option Int → Option Int → Hp → VK → Prop := fun x lo hi H Q => rSlL K x lo hi H Q ∨ rSlT K x lo hi H Q ∨ rSlS x lo hi H Q
theorem sl_all : SlR X (rSlA X.K) := sl_list.or (sl_tup.or sl_str)
theorem cut_rp {G : Ge} {O : Av} {H : Hp} {l : List D} {vs : List V} (h : RpL G O H l vs []) (lo hi : Option Int) : RpL G O H (dcut l lo hi) (cutV vs lo hi) [] := by
  unfold dcut cutV
  rw [h.len]
  exact (h.drop _).take _
theorem pm_sl {lo hi : Option Expr} {ml mh : OM} (ha : PEa X c a ma) (hl : POm X c lo ml) (hh : POm X c hi mh) : PEm X c (.Subscript a (.Slice lo hi none p2) pos) (mSl ma ml mh) := PEimp (pe_slice sl_all ha hl hh) fun σ H Q h => by
  obtain ⟨O, ρ, f, d, S, e, k⟩ := h
  unfold mSl at e
  obtain ⟨dx, e1, e⟩ := Option.bind_eq_some_iff.mp e
  obtain ⟨l, e2, e⟩ := Option.bind_eq_some_iff.mp e
  obtain ⟨u, e3, e⟩ := Option.bind_eq_some_iff.mp e
  refine ⟨O, ρ, f, dx, S, e1, fun v H1 g s1 r1 w1 => ⟨O, ρ, f, l, S.same s1, e2, fun H2 s2 => ⟨O, ρ, f, u, S.same (s1.trans s2), e3, fun H3 s3 => ?_⟩⟩⟩
  have s := (s1.trans s2).trans s3
  have r := r1.same (s2.trans s3)
  have kk : Post (gX X c) (uni O f) H3 d Q := fun v H' g s' r n w => k v H' g (s.trans s') r n fun a z => s.free (w a z)
  unfold dSl at e
  split at e
  · split at e
    · rename_i z
      cases e
      obtain ⟨p, vs, g', rfl, hp, hl, sub⟩ := of_lst r
      exact .inl ⟨p, vs, rfl, .of hp, fun p hp => kk.lst (cut_rp (frz_rp z hl) l u) hp⟩
    · cases e
  · split at e
    · rename_i z
      cases e
      obtain ⟨p, vs, rfl, hp, hl⟩ := of_scr r
      exact .inl ⟨p, vs, rfl, hp, fun p hp => kk.lst (cut_rp hl l u) hp⟩
    · cases e
  · split at e
    · rename_i z
      cases e
      obtain ⟨p, vs, rfl, hp, hl⟩ := of_tup r
      exact .inr (.inl ⟨p, vs, rfl, hp, by rw [← hl.len]; exact z.2, fun p hp => kk.tup (S.same s).alf (cut_rp (frz_rp z.1 hl) l u) hp⟩)
    · cases e
  · split at e
    · rename_i z
      cases e
      exact .inr (.inr ⟨_, of_str r, z, kk.str⟩)
    · cases e
  · cases e
/-- xs[::-1] -/
def dRev : D → Option D
  | .lst _ l => if frzL l = true then some (.lst true l.reverse) else none
  | _ => none
theorem RpL.rev {G : Ge} {O : Av} {H : Hp} : ∀ {l : List D} {vs : List V}, RpL G O H l vs [] → RpL G O H l.reverse vs.reverse []
  | [], vs, h => by unfold RpL at h; rw [h.1]; exact RpL.nil'
  | d :: l, vs, h => by
    unfold RpL at h
    obtain ⟨v, r, f1, f2, e, h1, h2, ef⟩ := h
    have ef' : f1 = [] ∧ f2 = [] := List.append_eq_nil_iff.mp ef.symm
    obtain ⟨rfl, rfl⟩ := ef'
    subst e
    rw [List.reverse_cons, List.reverse_cons]
    exact (RpL.rev h2).app (RpL.one h1)
theorem pm_rev {k : Nat} {p1 p2 p3 : Pos} (ha : PEa X c a ma) : PEm X c (.Subscript a (.Slice none none (some (.UnaryOp .USub (.Constant (.int 1) k p1) p2)) p3) pos) (mU dRev ma) := PEimp (pe_revL ha) fun σ H Q h => by
  obtain ⟨O, ρ, f, d, S, e, k⟩ := h
  unfold mU at e
  obtain ⟨dx, e1, e⟩ := Option.bind_eq_some_iff.mp e
  refine ⟨O, ρ, f, dx, S, e1, fun v H1 g s r w => ?_⟩
  have kk : Post (gX X c) (uni O f) H1 d Q := fun v H' g s' r n w => k v H' g (s.trans s') r n fun a z => s.free (w a z)
  unfold dRev at e
  split at e
  · split at e
    · rename_i z
      cases e
      obtain ⟨p, vs, g', rfl, hp, hl, sub⟩ := of_lst r
      exact ⟨p, vs, rfl, .of hp, fun p hp => kk.lst (frz_rp z hl).rev hp⟩
    · cases e
  · cases e
end

/-! ### built-ins -/
section
variable {G : Ge}
theorem of_one {O : Av} {H : Hp} {d : D} {vs : List V} {f : List Addr} (h : RpL G O H [d] vs f) : ∃ v, vs = [v] ∧ Rp G O H d v f := by
  unfold RpL at h
  obtain ⟨v, r, f1, f2, e, h1, h2, ef⟩ := h
  unfold RpL at h2
  obtain ⟨rfl, rfl⟩ := h2
  rw [List.append_nil] at ef
  subst ef
  exact ⟨v, e, h1⟩
theorem of_two {O : Av} {H : Hp} {d d2 : D} {vs : List V} {f : List Addr} (h : RpL G O H [d, d2] vs f) : ∃ v w f1 f2, vs = [v, w] ∧ Rp G O H d v f1 ∧ Rp G O H d2 w f2 := by
  unfold RpL at h
  obtain ⟨v, r, f1, f2, e, h1, h2, ef⟩ := h
  obtain ⟨w, rfl, h3⟩ := of_one h2
  exact ⟨v, w, f1, f2, e, h1, h3⟩
def dLen : List D → Option D
  | [.lst _ l] => some (.int l.length)
  | [.scr l] => some (.int l.length)
  | [.tup l] => some (.int l.length)
  | [.str z] => if z.length ≤ sizeLine then some (.int z.length) else none
  | _ => none
def rLenA (K : PySem.W.Frag) : List V → Hp → VK → Prop := fun xs H Q => ∃ x n, xs = [x] ∧ LenV K x H n ∧ Q (.int n) H
theorem cal_len : CalOk G (rLenA G.K) dLen := by
  intro O H xs dx d gx Q hO hx e k
  unfold dLen at e
  split at e
  · cases e
    obtain ⟨v, rfl, h⟩ := of_one hx
    obtain ⟨p, vs, g, rfl, hp, hl, _⟩ := of_lst h
    exact ⟨.ref p, vs.length, rfl, .inl ⟨vs, .of hp, rfl⟩, by rw [← hl.len]; exact k.int⟩
  · cases e
    obtain ⟨v, rfl, h⟩ := of_one hx
    obtain ⟨p, vs, rfl, hp, hl⟩ := of_scr h
    exact ⟨.ref p, vs.length, rfl, .inl ⟨vs, hp, rfl⟩, by rw [← hl.len]; exact k.int⟩
  · cases e
    obtain ⟨v, rfl, h⟩ := of_one hx
    obtain ⟨p, vs, rfl, hp, hl⟩ := of_tup h
    exact ⟨.ref p, vs.length, rfl, .inr ⟨vs, hp, rfl⟩, by rw [← hl.len]; exact k.int⟩
  · split at e
    · rename_i z
      cases e
      obtain ⟨v, rfl, h⟩ := of_one hx
      rw [of_str h]
      exact ⟨.str _, _, rfl, ⟨z, rfl⟩, k.int⟩
    · cases e
  · cases e
def dInt : List D → Option D
  | [.int i] => some (.int i)
  | [.bl b] => some (.int (if b then 1 else 0))
  | _ => none
def rInt1 : List V → Hp → VK → Prop := fun xs H Q => (∃ i, xs = [.int i] ∧ Q (.int i) H) ∨ ∃ k, xs = [.bl k] ∧ Q (.int (if k then 1 else 0)) H
theorem cal_int : CalOk G rInt1 dInt := by
  intro O H xs dx d gx Q hO hx e k
  unfold dInt at e
  split at e
  · cases e
    obtain ⟨v, rfl, h⟩ := of_one hx
    exact .inl ⟨_, by rw [of_int h], k.int⟩
  · cases e
    obtain ⟨v, rfl, h⟩ := of_one hx
    exact .inr ⟨_, by rw [of_bl h], k.int⟩
  · cases e
def dAbs : List D → Option D
  | [.int i] => some (.int (if i < 0 then -i else i))
  | _ => none
def rAbs : List V → Hp → VK → Prop := fun xs H Q => ∃ i, xs = [.int i] ∧ Q (.int (if i < 0 then -i else i)) H
theorem cal_abs : CalOk G rAbs dAbs := by
  intro O H xs dx d gx Q hO hx e k
  unfold dAbs at e
  split at e
  · cases e
    obtain ⟨v, rfl, h⟩ := of_one hx
    exact ⟨_, by rw [of_int h], k.int⟩
  · cases e
def dII (h : Int → Int → Int) : List D → Option D
  | [.int i, .int j] => some (.int (h i j))
  | _ => none
def rII (h : Int → Int → Int) : List V → Hp → VK → Prop := fun xs H Q => ∃ i j, xs = [.int i, .int j] ∧ Q (.int (h i j)) H
theorem cal_II {h : Int → Int → Int} : CalOk G (rII h) (dII h) := by
  intro O H xs dx d gx Q hO hx e k
  unfold dII at e
  split at e
  · cases e
    obtain ⟨v, w, f1, f2, rfl, h1, h2⟩ := of_two hx
    exact ⟨_, _, by rw [of_int h1, of_int h2], k.int⟩
  · cases e
abbrev hMax : Int → Int → Int := fun i j => if j > i then j else i
abbrev hMin : Int → Int → Int := fun i j => if j < i then j else i
abbrev hGcd : Int → Int → Int := fun a b => ((Nat.gcd a.natAbs b.natAbs : Nat) : Int)
/-- math.lcm of two ints below 2 ^ 13000 -/
def dLcm : List D → Option D
  | [.int i, .int j] => if i.natAbs.log2 < 13000 ∧ j.natAbs.log2 < 13000 then some (.int ((Nat.lcm i.natAbs j.natAbs : Nat) : Int)) else none
  | _ => none
def rLcm : List V → Hp → VK → Prop := fun xs H Q => ∃ i j : Int, xs = [.int i, .int j] ∧ (i.natAbs.log2 < 13000 ∧ j.natAbs.log2 < 13000) ∧ Q (.int ((Nat.lcm i.natAbs j.natAbs : Nat) : Int)) H
theorem log2_max {a b n : Nat} (ha : a.log2 < n) (hb : b.log2 < n) : (max a b).log2 < n := by
  rcases Nat.le_total a b with h | h
  · rw [Nat.max_eq_right h]; exact hb
  · rw [Nat.max_eq_left h]; exact ha
theorem log2_lt_pow {a n : Nat} (h : a.log2 < n) : a < 2 ^ n := by
  by_cases z : a = 0
  · subst z; exact Nat.two_pow_pos n
  · exact (Nat.log2_lt z).mp h
theorem cr_lcm {X : Cx} : CallR X (.builtin "math.lcm") rLcm := by
  intro pins s σ H vs us Q I r h
  obtain ⟨a, b, rfl, ⟨ha, hb⟩, q⟩ := h
  obtain ⟨t, u, rfl⟩ := Vals.int2 r
  have e1 : Nat.lcm 1 a.natAbs = a.natAbs := Nat.lcm_one_left _
  have h1 : (max 1 a.natAbs).log2 < 13000 := log2_max (by decide) ha
  have h2 : (max a.natAbs b.natAbs).log2 < 13000 := log2_max ha hb
  have h3 : (((Nat.lcm 1 a.natAbs).lcm b.natAbs : Nat) : Int).natAbs.log2 < bitsLine := by
    rw [e1, Int.natAbs_natCast]
    by_cases z : a.natAbs.lcm b.natAbs = 0
    · rw [z]; decide
    · refine (Nat.log2_lt z).mpr ?_
      have hle : a.natAbs.lcm b.natAbs ≤ a.natAbs * b.natAbs := Nat.le_of_dvd (Nat.pos_of_ne_zero fun q => z (by
        rcases Nat.mul_eq_zero.mp q with q | q
        · rw [q]; exact Nat.lcm_zero_left _
        · rw [q]; exact Nat.lcm_zero_right _)) (Nat.lcm_dvd_mul _ _)
      have hlt : a.natAbs * b.natAbs < 2 ^ 13000 * 2 ^ 13000 := Nat.mul_lt_mul'' (log2_lt_pow ha) (log2_lt_pow hb)
      rw [← Nat.pow_add] at hlt
      exact Nat.lt_of_le_of_lt hle (Nat.lt_of_lt_of_le hlt (Nat.pow_le_pow_right (by decide) (by decide)))
  refine PySem.call_function_meets PySem.W.MGF.kind_lcm PySem.W.MGF.plain_lcm PySem.W.MGF.entry_lcm (PySem.W.MGF.args_lcm _ _) (PySem.W.mg_run_lcm a t b u (by omega) (by omega) h3).meets ?_
  rw [e1]
  exact ⟨.int _, H, I.tok _, ⟨_, rfl⟩, q⟩
theorem cal_lcm : CalOk G rLcm dLcm := by
  intro O H xs dx d gx Q hO hx e k
  unfold dLcm at e
  split at e
  · split at e
    · rename_i z
      cases e
      obtain ⟨v, w, f1, f2, rfl, h1, h2⟩ := of_two hx
      exact ⟨_, _, by rw [of_int h1, of_int h2], z, k.int⟩
    · cases e
  · cases e
/-- a list of ints, of bools -/
def intsD : List D → Option (List Int)
  | [] => some []
  | .int i :: l => (intsD l).map (i :: ·)
  | _ => none
def boolsD : List D → Option (List Bool)
  | [] => some []
  | .bl i :: l => (boolsD l).map (i :: ·)
  | _ => none
theorem intsD_rp {O : Av} {H : Hp} : ∀ {l : List D} {ns : List Int} {vs : List V} {g : List Addr}, intsD l = some ns → RpL G O H l vs g → vs = ns.map V.int ∧ l = ns.map D.int
  | [], ns, vs, g, e, h => by
    cases e
    unfold RpL at h
    exact ⟨h.1, rfl⟩
  | .int i :: l, ns, vs, g, e, h => by
    unfold intsD at e
    obtain ⟨ms, e1, e2⟩ := Option.map_eq_some_iff.mp e
    subst e2
    unfold RpL at h
    obtain ⟨v, r, f1, f2, e, h1, h2, ef⟩ := h
    obtain ⟨q1, q2⟩ := intsD_rp e1 h2
    rw [e, of_int h1, q1, q2]
    exact ⟨rfl, rfl⟩
  | .non :: l, ns, vs, g, e, h => by unfold intsD at e; cases e
  | .bl _ :: l, ns, vs, g, e, h => by unfold intsD at e; cases e
  | .str _ :: l, ns, vs, g, e, h => by unfold intsD at e; cases e
  | .tup _ :: l, ns, vs, g, e, h => by unfold intsD at e; cases e
  | .lst _ _ :: l, ns, vs, g, e, h => by unfold intsD at e; cases e
  | .scr _ :: l, ns, vs, g, e, h => by unfold intsD at e; cases e
  | .obj _ _ _ _ :: l, ns, vs, g, e, h => by unfold intsD at e; cases e
  | .dK _ _ _ :: l, ns, vs, g, e, h => by unfold intsD at e; cases e
  | .dT _ _ _ :: l, ns, vs, g, e, h => by unfold intsD at e; cases e
theorem boolsD_rp {O : Av} {H : Hp} : ∀ {l : List D} {ns : List Bool} {vs : List V} {g : List Addr}, boolsD l = some ns → RpL G O H l vs g → vs = ns.map V.bl ∧ l = ns.map D.bl
  | [], ns, vs, g, e, h => by
    cases e
    unfold RpL at h
    exact ⟨h.1, rfl⟩
  | .bl i :: l, ns, vs, g, e, h => by
    unfold boolsD at e
    obtain ⟨ms, e1, e2⟩ := Option.map_eq_some_iff.mp e
    subst e2
    unfold RpL at h
    obtain ⟨v, r, f1, f2, e, h1, h2, ef⟩ := h
    obtain ⟨q1, q2⟩ := boolsD_rp e1 h2
    rw [e, of_bl h1, q1, q2]
    exact ⟨rfl, rfl⟩
  | .non :: l, ns, vs, g, e, h => by unfold boolsD at e; cases e
  | .int _ :: l, ns, vs, g, e, h => by unfold boolsD at e; cases e
  | .str _ :: l, ns, vs, g, e, h => by unfold boolsD at e; cases e
  | .tup _ :: l, ns, vs, g, e, h => by unfold boolsD at e; cases e
  | .lst _ _ :: l, ns, vs, g, e, h => by unfold boolsD at e; cases e
  | .scr _ :: l, ns, vs, g, e, h => by unfold boolsD at e; cases e
  | .obj _ _ _ _ :: l, ns, vs, g, e, h => by unfold boolsD at e; cases e
  | .dK _ _ _ :: l, ns, vs, g, e, h => by unfold boolsD at e; cases e
  | .dT _ _ _ :: l, ns, vs, g, e, h => by unfold boolsD at e; cases e
theorem intsD_map : ∀ ns : List Int, intsD (ns.map D.int) = some ns
  | [] => rfl
  | n :: ns => by
    show (intsD (ns.map D.int)).map (n :: ·) = _
    rw [intsD_map ns]
    rfl
theorem boolsD_map : ∀ ns : List Bool, boolsD (ns.map D.bl) = some ns
  | [] => rfl
  | n :: ns => by
    show (boolsD (ns.map D.bl)).map (n :: ·) = _
    rw [boolsD_map ns]
    rfl
def lOf : D → Option (List D)
  | .lst _ l => some l
  | .scr l => some l
  | _ => none
theorem lOf_rp {O : Av} {H : Hp} {d : D} {l : List D} {v : V} {g : List Addr} (e : lOf d = some l) (h : Rp G O H d v g) : ∃ p vs g', v = .ref p ∧ SqL G.K H p vs ∧ RpL G O H l vs g' ∧ (∀ a ∈ g', a ∈ g) := by
  unfold lOf at e
  split at e
  · cases e
    obtain ⟨p, vs, g', rfl, hp, hl, sub⟩ := of_lst h
    exact ⟨p, vs, g', rfl, .of hp, hl, sub⟩
  · cases e
    obtain ⟨p, vs, rfl, hp, hl⟩ := of_scr h
    exact ⟨p, vs, [], rfl, hp, hl, fun a q => absurd q (by simp)⟩
  · cases e
def d1 (h : D → Option D) : List D → Option D
  | [x] => h x
  | _ => none
def dSum : List D → Option D := d1 fun x => (lOf x).bind fun l => (intsD l).map fun ns => .int ns.sum
theorem d1_some {h : D → Option D} {dx : List D} {d : D} (e : d1 h dx = some d) : ∃ x, dx = [x] ∧ h x = some d := by
  unfold d1 at e
  split at e
  · exact ⟨_, rfl, e⟩
  · cases e
theorem cal_sum : CalOk G (rSum G.K) dSum := by
  intro O H xs dx d gx Q hO hx e k
  obtain ⟨x, rfl, e⟩ := d1_some e
  obtain ⟨l, e1, e⟩ := Option.bind_eq_some_iff.mp e
  obtain ⟨ns, e2, e⟩ := Option.map_eq_some_iff.mp e
  subst e
  obtain ⟨v, rfl, h⟩ := of_one hx
  obtain ⟨p, vs, g', rfl, hp, hl, _⟩ := lOf_rp e1 h
  obtain ⟨q1, _⟩ := intsD_rp e2 hl
  subst q1
  exact ⟨p, ns, rfl, hp, k.int⟩
def maxL : Int → List Int → Int
  | m, [] => m
  | m, x :: l => maxL (if x > m then x else m) l
def minL : Int → List Int → Int
  | m, [] => m
  | m, x :: l => minL (if x < m then x else m) l
theorem maxL_ge : ∀ (l : List Int) (m : Int), m ≤ maxL m l ∧ (∀ x ∈ l, x ≤ maxL m l) ∧ (maxL m l = m ∨ maxL m l ∈ l)
  | [], m => ⟨Int.le_refl _, fun x h => absurd h (by simp), .inl rfl⟩
  | x :: l, m => by
    by_cases q : x > m
    · have e : maxL m (x :: l) = maxL x l := by show maxL (if x > m then x else m) l = _; rw [if_pos q]
      obtain ⟨h1, h2, h3⟩ := maxL_ge l x
      rw [e]
      refine ⟨by omega, fun y hy => ?_, ?_⟩
      · rcases List.mem_cons.mp hy with rfl | hy
        · exact h1
        · exact h2 y hy
      · rcases h3 with h3 | h3
        · right; rw [h3]; exact List.mem_cons_self
        · right; exact List.mem_cons_of_mem _ h3
    · have e : maxL m (x :: l) = maxL m l := by show maxL (if x > m then x else m) l = _; rw [if_neg q]
      obtain ⟨h1, h2, h3⟩ := maxL_ge l m
      rw [e]
      refine ⟨h1, fun y hy => ?_, ?_⟩
      · rcases List.mem_cons.mp hy with rfl | hy
        · omega
        · exact h2 y hy
      · rcases h3 with h3 | h3
        · left; exact h3
        · right; exact List.mem_cons_of_mem _ h3
theorem minL_le : ∀ (l : List Int) (m : Int), minL m l ≤ m ∧ (∀ x ∈ l, minL m l ≤ x) ∧ (minL m l = m ∨ minL m l ∈ l)
  | [], m => ⟨Int.le_refl _, fun x h => absurd h (by simp), .inl rfl⟩
  | x :: l, m => by
    by_cases q : x < m
    · have e : minL m (x :: l) = minL x l := by show minL (if x < m then x else m) l = _; rw [if_pos q]
      obtain ⟨h1, h2, h3⟩ := minL_le l x
      rw [e]
      refine ⟨by omega, fun y hy => ?_, ?_⟩
      · rcases List.mem_cons.mp hy with rfl | hy
        · exact h1
        · exact h2 y hy
      · rcases h3 with h3 | h3
        · right; rw [h3]; exact List.mem_cons_self
        · right; exact List.mem_cons_of_mem _ h3
    · have e : minL m (x :: l) = minL m l := by show minL (if x < m then x else m) l = _; rw [if_neg q]
      obtain ⟨h1, h2, h3⟩ := minL_le l m
      rw [e]
      refine ⟨h1, fun y hy => ?_, ?_⟩
      · rcases List.mem_cons.mp hy with rfl | hy
        · omega
        · exact h2 y hy
      · rcases h3 with h3 | h3
        · left; exact h3
        · right; exact List.mem_cons_of_mem _ h3
def most : List Int → Option D
  | [] => none
  | n :: ns => some (.int (maxL n ns))
def least : List Int → Option D
  | [] => none
  | n :: ns => some (.int (minL n ns))
def dMaxL : List D → Option D := d1 fun x => (lOf x).bind fun l => (intsD l).bind most
def dMinL : List D → Option D := d1 fun x => (lOf x).bind fun l => (intsD l).bind least
theorem cal_maxL : CalOk G (rMax G.K) dMaxL := by
  intro O H xs dx d gx Q hO hx e k
  obtain ⟨x, rfl, e⟩ := d1_some e
  obtain ⟨l, e1, e⟩ := Option.bind_eq_some_iff.mp e
  obtain ⟨ns, e2, e⟩ := Option.bind_eq_some_iff.mp e
  obtain ⟨v, rfl, h⟩ := of_one hx
  obtain ⟨p, vs, g', rfl, hp, hl, _⟩ := lOf_rp e1 h
  obtain ⟨q1, _⟩ := intsD_rp e2 hl
  subst q1
  cases ns with
  | nil => cases e
  | cons n ns =>
    cases e
    refine ⟨p, n :: ns, rfl, hp, by simp, fun m hm hle => ?_⟩
    obtain ⟨h1, h2, h3⟩ := maxL_ge ns n
    have e1 : m = maxL n ns := by
      have a1 : m ≤ maxL n ns := by
        rcases List.mem_cons.mp hm with rfl | hm
        · exact h1
        · exact h2 m hm
      have a2 : maxL n ns ≤ m := by
        rcases h3 with h3 | h3
        · rw [h3]; exact hle n List.mem_cons_self
        · exact hle _ (List.mem_cons_of_mem _ h3)
      omega
    rw [e1]
    exact k.int
theorem cal_minL : CalOk G (rMin G.K) dMinL := by
  intro O H xs dx d gx Q hO hx e k
  obtain ⟨x, rfl, e⟩ := d1_some e
  obtain ⟨l, e1, e⟩ := Option.bind_eq_some_iff.mp e
  obtain ⟨ns, e2, e⟩ := Option.bind_eq_some_iff.mp e
  obtain ⟨v, rfl, h⟩ := of_one hx
  obtain ⟨p, vs, g', rfl, hp, hl, _⟩ := lOf_rp e1 h
  obtain ⟨q1, _⟩ := intsD_rp e2 hl
  subst q1
  cases ns with
  | nil => cases e
  | cons n ns =>
    cases e
    refine ⟨p, n :: ns, rfl, hp, by simp, fun m hm hle => ?_⟩
    obtain ⟨h1, h2, h3⟩ := minL_le ns n
    have e1 : m = minL n ns := by
      have a1 : minL n ns ≤ m := by
        rcases List.mem_cons.mp hm with rfl | hm
        · exact h1
        · exact h2 m hm
      have a2 : m ≤ minL n ns := by
        rcases h3 with h3 | h3
        · rw [h3]; exact hle n List.mem_cons_self
        · exact hle _ (List.mem_cons_of_mem _ h3)
      omega
    rw [e1]
    exact k.int
def dAll : List D → Option D := d1 fun x => (lOf x).bind fun l => (boolsD l).map fun ns => .bl (ns.all id)
def dAny : List D → Option D := d1 fun x => (lOf x).bind fun l => (boolsD l).map fun ns => .bl (ns.any id)
theorem cal_all : CalOk G (rAll G.K) dAll := by
  intro O H xs dx d gx Q hO hx e k
  obtain ⟨x, rfl, e⟩ := d1_some e
  obtain ⟨l, e1, e⟩ := Option.bind_eq_some_iff.mp e
  obtain ⟨ns, e2, e⟩ := Option.map_eq_some_iff.mp e
  subst e
  obtain ⟨v, rfl, h⟩ := of_one hx
  obtain ⟨p, vs, g', rfl, hp, hl, _⟩ := lOf_rp e1 h
  obtain ⟨q1, _⟩ := boolsD_rp e2 hl
  subst q1
  exact ⟨p, ns, rfl, hp, k.bl⟩
theorem cal_any : CalOk G (rAny G.K) dAny := by
  intro O H xs dx d gx Q hO hx e k
  obtain ⟨x, rfl, e⟩ := d1_some e
  obtain ⟨l, e1, e⟩ := Option.bind_eq_some_iff.mp e
  obtain ⟨ns, e2, e⟩ := Option.map_eq_some_iff.mp e
  subst e
  obtain ⟨v, rfl, h⟩ := of_one hx
  obtain ⟨p, vs, g', rfl, hp, hl, _⟩ := lOf_rp e1 h
  obtain ⟨q1, _⟩ := boolsD_rp e2 hl
  subst q1
  exact ⟨p, ns, rfl, hp, k.bl⟩
/-- list(x), tuple(x) -/
def sOf : D → Option (List D)
  | .lst _ l => some l
  | .scr l => some l
  | .tup l => some l
  | _ => none
theorem sOf_rp {O : Av} {H : Hp} {d : D} {l : List D} {v : V} {g : List Addr} (e : sOf d = some l) (h : Rp G O H d v g) : ∃ p vs g', v = .ref p ∧ (SqL G.K H p vs ∨ SqT G.K H p vs) ∧ RpL G O H l vs g' ∧ (∀ a ∈ g', a ∈ g) := by
  unfold sOf at e
  split at e
  · cases e
    obtain ⟨p, vs, g', rfl, hp, hl, sub⟩ := of_lst h
    exact ⟨p, vs, g', rfl, .inl (.of hp), hl, sub⟩
  · cases e
    obtain ⟨p, vs, rfl, hp, hl⟩ := of_scr h
    exact ⟨p, vs, [], rfl, .inl hp, hl, fun a q => absurd q (by simp)⟩
  · cases e
    obtain ⟨p, vs, rfl, hp, hl⟩ := of_tup h
    exact ⟨p, vs, g, rfl, .inr hp, hl, fun a q => q⟩
  · cases e
def dList : List D → Option D := d1 fun x => (sOf x).bind fun l => if frzL l = true then some (.lst true l) else none
def rListA (K : PySem.W.Frag) : List V → Hp → VK → Prop := fun xs H Q => ∃ p ys, xs = [.ref p] ∧ (SqL K H p ys ∨ SqT K H p ys) ∧ ∀ l, H l = none → Q (.ref l) (upd H l (.lst ys))
theorem cal_list : CalOk G (rListA G.K) dList := by
  intro O H xs dx d gx Q hO hx e k
  obtain ⟨x, rfl, e⟩ := d1_some e
  obtain ⟨l, e1, e⟩ := Option.bind_eq_some_iff.mp e
  split at e
  · rename_i z
    cases e
    obtain ⟨v, rfl, h⟩ := of_one hx
    obtain ⟨p, vs, g', rfl, hp, hl, _⟩ := sOf_rp e1 h
    exact ⟨p, vs, rfl, hp, fun q hq => k.lst (frz_rp z hl) hq⟩
  · cases e
def dTuple : List D → Option D := d1 fun x => (sOf x).bind fun l => if frzL l = true then some (.tup l) else none
def rTupleA (K : PySem.W.Frag) : List V → Hp → VK → Prop := fun xs H Q => ∃ p ys, xs = [.ref p] ∧ ((SqL K H p ys ∧ ∀ l, H l = none → Q (.ref l) (upd H l (.tup ys))) ∨ (SqT K H p ys ∧ Q (.ref p) H))
theorem cal_tuple : CalOk G (rTupleA G.K) dTuple := by
  intro O H xs dx d gx Q hO hx e k
  obtain ⟨x, rfl, e⟩ := d1_some e
  obtain ⟨l, e1, e⟩ := Option.bind_eq_some_iff.mp e
  split at e
  · rename_i z
    cases e
    obtain ⟨v, rfl, h⟩ := of_one hx
    unfold sOf at e1
    split at e1
    · cases e1
      obtain ⟨p, vs, g', rfl, hp, hl, _⟩ := of_lst h
      exact ⟨p, vs, rfl, .inl ⟨.of hp, fun q hq => k.tup hO (frz_rp z hl) hq⟩⟩
    · cases e1
      obtain ⟨p, vs, rfl, hp, hl⟩ := of_scr h
      exact ⟨p, vs, rfl, .inl ⟨hp, fun q hq => k.tup hO hl hq⟩⟩
    · cases e1
      obtain ⟨p, vs, rfl, hp, hl⟩ := of_tup h
      have g0 : gx = [] := RpL.nil _ _ _ z hl
      subst g0
      exact ⟨p, vs, rfl, .inr ⟨hp, k.v h⟩⟩
    · cases e1
  · cases e
def dStr : List D → Option D
  | [.int i] => if i.natAbs.log2 < 1920 then some (.str (toString i)) else none
  | _ => none
def rStr : List V → Hp → VK → Prop := fun xs H Q => ∃ i : Int, xs = [.int i] ∧ i.natAbs.log2 < 1920 ∧ Q (.str (toString i)) H
theorem cal_str : CalOk G rStr dStr := by
  intro O H xs dx d gx Q hO hx e k
  unfold dStr at e
  split at e
  · split at e
    · rename_i z
      cases e
      obtain ⟨v, rfl, h⟩ := of_one hx
      exact ⟨_, by rw [of_int h], z, k.str⟩
    · cases e
  · cases e
/-- sorted(xs), of ints -/
def insI (x : Int) : List Int → List Int
  | [] => [x]
  | y :: l => if x ≤ y then x :: y :: l else y :: insI x l
def sortI : List Int → List Int
  | [] => []
  | x :: l => insI x (sortI l)
theorem insI_perm (x : Int) : ∀ l : List Int, (insI x l).Perm (x :: l)
  | [] => .refl _
  | y :: l => by
    unfold insI
    split
    · exact .refl _
    · exact ((insI_perm x l).cons y).trans (.swap x y l)
theorem sortI_perm : ∀ l : List Int, (sortI l).Perm l
  | [] => .refl _
  | x :: l => (insI_perm x (sortI l)).trans ((sortI_perm l).cons x)
theorem insI_sorted (x : Int) : ∀ l : List Int, l.Pairwise (· ≤ ·) → (insI x l).Pairwise (· ≤ ·)
  | [], _ => by unfold insI; simp
  | y :: l, h => by
    rw [List.pairwise_cons] at h
    unfold insI
    split
    · rename_i q
      rw [List.pairwise_cons]
      refine ⟨fun z hz => ?_, List.pairwise_cons.mpr h⟩
      rcases List.mem_cons.mp hz with rfl | hz
      · exact q
      · have := h.1 z hz; omega
    · rename_i q
      rw [List.pairwise_cons]
      refine ⟨fun z hz => ?_, insI_sorted x l h.2⟩
      rcases List.mem_cons.mp ((insI_perm x l).mem_iff.mp hz) with rfl | hz
      · omega
      · exact h.1 z hz
theorem sortI_sorted : ∀ l : List Int, (sortI l).Pairwise (· ≤ ·)
  | [] => .nil
  | x :: l => insI_sorted x _ (sortI_sorted l)
theorem sorted_uniq : ∀ {l m : List Int}, l.Perm m → l.Pairwise (· ≤ ·) → m.Pairwise (· ≤ ·) → l = m
  | [], m, p, _, _ => (List.nil_perm.mp p).symm
  | x :: l, [], p, _, _ => (List.perm_nil.mp p)
  | x :: l, y :: m, p, h1, h2 => by
    rw [List.pairwise_cons] at h1 h2
    have e : x = y := by
      have hx : x ∈ y :: m := p.mem_iff.mp List.mem_cons_self
      have hy : y ∈ x :: l := p.mem_iff.mpr List.mem_cons_self
      rcases List.mem_cons.mp hx with e | hx
      · exact e
      · rcases List.mem_cons.mp hy with e | hy
        · exact e.symm
        · have a := h2.1 x hx
          have b := h1.1 y hy
          omega
    subst e
    rw [sorted_uniq ((List.perm_cons x).mp p) h1.2 h2.2]
def dSorted : List D → Option D := d1 fun x => (lOf x).bind fun l => (intsD l).map fun ns => .lst true ((sortI ns).map D.int)
theorem rp_ints {O : Av} {H : Hp} : ∀ ns : List Int, RpL G O H (ns.map D.int) (ns.map V.int) []
  | [] => RpL.nil'
  | n :: ns => RpL.cons (f := []) rp_int (rp_ints ns)
theorem cal_sorted : CalOk G (rSortedI G.K) dSorted := by
  intro O H xs dx d gx Q hO hx e k
  obtain ⟨x, rfl, e⟩ := d1_some e
  obtain ⟨l, e1, e⟩ := Option.bind_eq_some_iff.mp e
  obtain ⟨ns, e2, e⟩ := Option.map_eq_some_iff.mp e
  subst e
  obtain ⟨v, rfl, h⟩ := of_one hx
  obtain ⟨p, vs, g', rfl, hp, hl, _⟩ := lOf_rp e1 h
  obtain ⟨q1, _⟩ := intsD_rp e2 hl
  subst q1
  refine ⟨p, ns, rfl, hp, fun ns' p' h1 h2 h3 => ?_⟩
  have e : ns' = sortI ns := sorted_uniq (h1.trans (sortI_perm ns).symm) h2 (sortI_sorted ns)
  subst e
  exact k.lst (rp_ints _) h3
/-- isinstance(x, T), T a built-in type -/
def tyD : D → Option String
  | .non => some "NoneType"
  | .bl _ => some "bool"
  | .int _ => some "int"
  | .str _ => some "str"
  | .tup _ => some "tuple"
  | .lst _ _ => some "list"
  | _ => none
def dIsi (T : String) : List D → Option D := d1 fun x => (tyD x).bind fun t => (kitB t T).map .bl
theorem ty_of {O : Av} {H : Hp} {d : D} {t : String} {v : V} {g : List Addr} (e : tyD d = some t) (h : Rp G O H d v g) : TyX G.K H v (.type t) := by
  cases d with
  | non => cases e; rw [of_non h]; exact .base .non
  | bl b => cases e; rw [of_bl h]; exact .base (.bl b)
  | int b => cases e; rw [of_int h]; exact .base (.int b)
  | str b => cases e; rw [of_str h]; exact .base (.str b)
  | tup l =>
    cases e
    obtain ⟨p, vs, rfl, hp, hl⟩ := of_tup h
    rcases hp with (hp | ⟨o, hp⟩) | ⟨o, its, n, hp, hc, _⟩
    · exact .base (.tup hp)
    · exact .fTuple hp
    · exact .kTuple hp hc
  | lst o l =>
    cases e
    obtain ⟨p, vs, g', rfl, hp, hl, _⟩ := of_lst h
    exact .base (.lst hp)
  | scr l => cases e
  | obj _ _ _ _ => cases e
  | dK _ _ _ => cases e
  | dT _ _ _ => cases e
end
section
variable {X : Cx} {c : Str → Option Addr} {a b e t : Expr} {es : List Expr} {pos p p1 : Pos} {ma mb mt m : EM} {ms : LM} {x : Str}
def tIsi (K : PySem.W.Frag) (T : String) (ta : TE) : TE := tCB (rIsi K) (tCons ta (tCons (tC (.ty T)) tNil))
theorem pm_isi {T : String} {x2 : Str} (hg : Gl X x) (hm : X.mg x = none) (hv : bootBuiltins x = some (.builtin "isinstance")) (ha : PEa X c a ma) (hb : PE X b (tC (.ty T)))
    (hn : x ≠ "__name__" := by decide) (hdb : (x == ("__debug__" : Str)) = false := by decide) (he : starEach [a, b] X.env = (false, eval a X.env) :: starEach [b] X.env := by rfl) (he2 : starEach [b] X.env = (false, eval b X.env) :: starEach [] X.env := by rfl)
    (hpl : (backTo pos (starEach [b] X.env)).any (·.1) = false := by rfl) : PEm X c (.Call (.Name x p) [a, b] [] pos) (mL (dIsi T) (mCons ma mNil)) := PEimp (pe_callB call_isi hg hm hv (pa_cons ha (pa_cons hb pa_nil he2) he) hn hdb he hpl) fun σ H Q h => by
  obtain ⟨O, ρ, f, d, S, e, k⟩ := h
  unfold mL mCons at e
  obtain ⟨dx, e1, e⟩ := Option.bind_eq_some_iff.mp e
  obtain ⟨d0, e0, e1⟩ := Option.bind_eq_some_iff.mp e1
  cases e1
  have e : (tyD d0).bind (fun t => (kitB t T).map D.bl) = some d := e
  obtain ⟨ty, e2, e⟩ := Option.bind_eq_some_iff.mp e
  obtain ⟨r, e3, e⟩ := Option.map_eq_some_iff.mp e
  subst e
  refine ⟨O, ρ, f, d0, S, e0, fun v H' g s r w => ⟨v, .ty T, .type ty, .type T, _, rfl, .ty T, ty_of e2 r, kit_ty e3, ?_⟩⟩
  exact k (.bl _) H' [] s rp_bl List.nodup_nil fun a q => absurd q (by simp)
end

/-! ### tests -/
section
variable {X : Cx} {c : Str → Option Addr} {a b e t d : Expr} {es rest : List Expr} {pos p p1 : Pos} {ma mb mt m mc : EM} {ms : LM} {x : Str} {b1 b2 : BM} {r r' : R2} {dop dop' : D → D → Option D}
def asB : D → Option Bool
  | .bl b => some b
  | _ => none
def mT (m : EM) : BM := fun ρ => (m ρ).bind asB
theorem asB_some {d : D} {b : Bool} (h : asB d = some b) : d = .bl b := by
  unfold asB at h
  split at h
  · cases h; rfl
  · cases h
theorem use_T {σ : St} {H : Hp} {Q : Bool → Hp → Prop} (h : tT (gX X c) (mT m) σ H Q) : tM (gX X c) m σ H fun x H' => ∃ k, x = .bl k ∧ Q k H' := by
  obtain ⟨O, ρ, f, b, S, e, k⟩ := h
  unfold mT at e
  obtain ⟨d, e1, e2⟩ := Option.bind_eq_some_iff.mp e
  have := asB_some e2
  subst this
  exact ⟨O, ρ, f, _, S, e1, fun v H' g s r n w => ⟨b, of_bl r, k H' s⟩⟩
theorem pt_cmp {op : CmpOp} (ho : OpR X (compareOp op) r) (hk : BinOk (gX X c) r dop) (ha : PEa X c a ma) (hb : PEa X c b mb) (hm : behindInMarks op b = false) : PTm X c (.Compare a [op] [b] pos) (mT (mB dop ma mb)) :=
  PTimp (pt_cmpR ho ha hb hm) fun _ _ _ h => use_bin hk (use_T h)
theorem ptm_lt (ha : PEa X c a ma) (hb : PEa X c b mb) : PTm X c (.Compare a [.Lt] [b] pos) (mT (mB dLt ma mb)) := pt_cmp op_lt bin_cmp ha hb (nomark _)
theorem ptm_le (ha : PEa X c a ma) (hb : PEa X c b mb) : PTm X c (.Compare a [.LtE] [b] pos) (mT (mB dLe ma mb)) := pt_cmp op_le bin_cmp ha hb (nomark _)
theorem ptm_gt (ha : PEa X c a ma) (hb : PEa X c b mb) : PTm X c (.Compare a [.Gt] [b] pos) (mT (mB dGt ma mb)) := pt_cmp op_gt bin_cmp ha hb (nomark _)
theorem ptm_ge (ha : PEa X c a ma) (hb : PEa X c b mb) : PTm X c (.Compare a [.GtE] [b] pos) (mT (mB dGe ma mb)) := pt_cmp op_ge bin_cmp ha hb (nomark _)
theorem ptm_eq (hu : X.A.units + 64 < cLine) (ha : PEa X c a ma) (hb : PEa X c b mb) : PTm X c (.Compare a [.Eq] [b] pos) (mT (mB dEq ma mb)) := pt_cmp (op_eqA hu) bin_eq ha hb (nomark _)
theorem ptm_ne (hu : X.A.units + 64 < cLine) (ha : PEa X c a ma) (hb : PEa X c b mb) : PTm X c (.Compare a [.NotEq] [b] pos) (mT (mB dNe ma mb)) := pt_cmp (op_neA hu) bin_ne ha hb (nomark _)
theorem ptm_isN (ha : PEa X c a ma) (hb : PEa X c b mb) : PTm X c (.Compare a [.Is] [b] pos) (mT (mB dIsN ma mb)) := pt_cmp (r := rIsN') op_isN bin_isN ha hb (nomark _)
theorem ptm_notN (ha : PEa X c a ma) (hb : PEa X c b mb) : PTm X c (.Compare a [.IsNot] [b] pos) (mT (mB dNotN ma mb)) := pt_cmp (r := rNotN') op_notN bin_notN ha hb (nomark _)
/-- an expression that gives True or False -/
theorem ptm_val (h : PEm X c e m) (he : ∀ whole, isTrue e X.env whole = (do let v ← whole; standAt e.pos; holding [v] (truthy v)) := by intro _; rfl) : PTm X c e (mT m) := PTimp (pt_val h he) fun _ _ _ h => use_T h
/-- any value by its truth -/
def dTru : D → Option Bool
  | .non => some false
  | .bl b => some b
  | .int i => some (i != 0)
  | .str z => if z.length ≤ sizeLine then some ((z.length : Int) != 0) else none
  | .lst _ l => some (!l.isEmpty)
  | .tup l => some (!l.isEmpty)
  | _ => none
def mTr (m : EM) : BM := fun ρ => (m ρ).bind dTru
theorem emp_rp {G : Ge} {O : Av} {H : Hp} {l : List D} {vs : List V} {g : List Addr} (h : RpL G O H l vs g) : l.isEmpty = vs.isEmpty := by
  have := h.len
  cases l <;> cases vs <;> simp_all
theorem tru_rp {G : Ge} {O : Av} {H : Hp} {dd : D} {v : V} {g : List Addr} {k : Bool} (e : dTru dd = some k) (h : Rp G O H dd v g) : TruV G.K v H k := by
  unfold dTru at e
  split at e
  · cases e; rw [of_non h]; rfl
  · cases e; rw [of_bl h]; rfl
  · cases e; rw [of_int h]; rfl
  · split at e
    · rename_i z
      cases e; rw [of_str h]; exact ⟨z, rfl⟩
    · cases e
  · cases e
    obtain ⟨p, vs, g', rfl, hp, hl, _⟩ := of_lst h
    exact .inl ⟨vs, .of hp, by rw [emp_rp hl]⟩
  · cases e
    obtain ⟨p, vs, rfl, hp, hl⟩ := of_tup h
    exact .inr (.inl ⟨vs, hp, by rw [emp_rp hl]⟩)
  · cases e
theorem ptm_tru (h : PEa X c e m) (he : ∀ whole, isTrue e X.env whole = (do let v ← whole; standAt e.pos; holding [v] (truthy v)) := by intro _; rfl) : PTm X c e (mTr m) := PTimp (pt_truth h he) fun σ H Q h => by
  obtain ⟨O, ρ, f, b, S, e, k⟩ := h
  unfold mTr at e
  obtain ⟨dd, e1, e2⟩ := Option.bind_eq_some_iff.mp e
  exact ⟨O, ρ, f, dd, S, e1, fun v H' g s r w => ⟨b, tru_rp e2 r, k H' s⟩⟩
def mAndB (b1 b2 : BM) : BM := fun ρ => (b1 ρ).bind fun x => if x = true then b2 ρ else some false
def mOrB (b1 b2 : BM) : BM := fun ρ => (b1 ρ).bind fun x => if x = true then some true else b2 ρ
def mNotB (b1 : BM) : BM := fun ρ => (b1 ρ).map (!·)
abbrev PWm (X : Cx) (c : Str → Option Addr) (e : Expr) (m : BM) : Prop := PW X e (tT (gX X c) m)
theorem PWimp {X : Cx} {e : Expr} {t t' : TT} (h : PW X e t) (k : ∀ σ H Q, t' σ H Q → t σ H Q) : PW X e t' := ⟨fun wh pins s σ H Q I q => h.run wh pins s σ H Q I (k σ H Q q)⟩
theorem pwm_and1 (ha : PTm X c a b1) : PWm X c (.BoolOp .And [a] pos) b1 := pw_and1 ha
theorem pwm_or1 (ha : PTm X c a b1) : PWm X c (.BoolOp .Or [a] pos) b1 := pw_or1 ha
theorem pwm_and (ha : PTm X c a b1) (hb : PWm X c (.BoolOp .And (b :: rest) pos) b2) : PWm X c (.BoolOp .And (a :: b :: rest) pos) (mAndB b1 b2) := PWimp (pw_and ha hb) fun σ H Q h => by
  obtain ⟨O, ρ, f, b, S, e, k⟩ := h
  unfold mAndB at e
  obtain ⟨x, e1, e2⟩ := Option.bind_eq_some_iff.mp e
  refine ⟨O, ρ, f, x, S, e1, fun H' s => ?_⟩
  cases x with
  | true => exact ⟨O, ρ, f, b, S.same s, e2, fun H'' s' => k H'' (s.trans s')⟩
  | false => cases e2; exact k H' s
theorem pwm_or (ha : PTm X c a b1) (hb : PWm X c (.BoolOp .Or (b :: rest) pos) b2) : PWm X c (.BoolOp .Or (a :: b :: rest) pos) (mOrB b1 b2) := PWimp (pw_or ha hb) fun σ H Q h => by
  obtain ⟨O, ρ, f, b, S, e, k⟩ := h
  unfold mOrB at e
  obtain ⟨x, e1, e2⟩ := Option.bind_eq_some_iff.mp e
  refine ⟨O, ρ, f, x, S, e1, fun H' s => ?_⟩
  cases x with
  | true => cases e2; exact k H' s
  | false => exact ⟨O, ρ, f, b, S.same s, e2, fun H'' s' => k H'' (s.trans s')⟩
theorem ptm_pw (h : PWm X c e b1) : PTm X c e b1 := h.pt
theorem ptm_not (ha : PTm X c a b1) : PTm X c (.UnaryOp .Not a pos) (mNotB b1) := PTimp (pt_not ha) fun σ H Q h => by
  obtain ⟨O, ρ, f, b, S, e, k⟩ := h
  unfold mNotB at e
  obtain ⟨x, e1, e2⟩ := Option.map_eq_some_iff.mp e
  subst e2
  exact ⟨O, ρ, f, x, S, e1, k⟩
/-- a < b < c -/
def mChain (dop dop' : D → D → Option D) (ma mb mc : EM) : EM := fun ρ => (ma ρ).bind fun x => (mb ρ).bind fun y => (dop x y).bind fun z => (asB z).bind fun k => if k = true then (mc ρ).bind fun w => dop' y w else some (.bl false)
theorem use_chain (hk : BinOk (gX X c) r dop) (hk' : BinOk (gX X c) r' dop') (hr : ∀ x y H Q, r x y H Q → True) {σ : St} {H : Hp} {Q : VK} (h : tM (gX X c) (mChain dop dop' ma mb mc) σ H Q) : tChain r r' (tA (gX X c) ma) (tA (gX X c) mb) (tA (gX X c) mc) σ H Q := by
  obtain ⟨O, ρ, f, d, S, e, k⟩ := h
  unfold mChain at e
  obtain ⟨dx, e1, e⟩ := Option.bind_eq_some_iff.mp e
  obtain ⟨dy, e2, e⟩ := Option.bind_eq_some_iff.mp e
  obtain ⟨dz, e3, e⟩ := Option.bind_eq_some_iff.mp e
  obtain ⟨kb, e4, eZ⟩ := Option.bind_eq_some_iff.mp e
  have := asB_some e4
  subst this
  refine tA2 S e1 e2 fun x y H2 g1 g2 s r1 r2 w1 w2 => hk _ H2 x y dx dy _ g1 g2 _ (S.same s).alf r1 r2 e3 fun v H3 g s3 r3 n w => ⟨kb, of_bl r3, ?_⟩
  cases kb with
  | true =>
    rw [if_pos rfl] at eZ
    obtain ⟨dw, e5, e⟩ := Option.bind_eq_some_iff.mp eZ
    exact ⟨O, ρ, f, dw, S.same (s.trans s3), e5, fun w' H4 g4 s4 r4 w4 => hk' _ H4 y w' dy dw d g2 g4 Q (S.same ((s.trans s3).trans s4)).alf (r2.same (s3.trans s4)) r4 e fun v H' g s' r n w => k v H' g (((s.trans s3).trans s4).trans s') r n fun a z => s.free (s3.free (s4.free (w a z)))⟩
  | false =>
    cases eZ
    exact k (.bl false) H3 [] (s.trans s3) rp_bl List.nodup_nil fun a q => absurd q (by simp)
theorem ptm_chain {op op' : CmpOp} (ho : OpR X (compareOp op) r) (hk : BinOk (gX X c) r dop) (ho' : OpR X (compareOp op') r') (hk' : BinOk (gX X c) r' dop') (ha : PEa X c a ma) (hb : PEa X c b mb) (hc : PEa X c d mc)
    (hm : lastMarks [op, op'] [b, d] = false := by with_unfolding_all rfl) : PTm X c (.Compare a [op, op'] [b, d] pos) (mT (mChain dop dop' ma mb mc)) := PTimp (pt_chain ho ho' ha hb hc hm) fun _ _ _ h => use_chain hk hk' (fun _ _ _ _ _ => trivial) (use_T h)
/-! ### a if t else b; and, or, not as values -/
def mIf (bt : BM) (ma mb : EM) : EM := fun ρ => (bt ρ).bind fun x => if x = true then ma ρ else mb ρ
theorem pm_if (ht : PTm X c t b1) (ha : PEm X c a ma) (hb : PEm X c b mb) : PEm X c (.IfExp t a b pos) (mIf b1 ma mb) := PEimp (pe_ifExp ht ha hb) fun σ H Q h => by
  obtain ⟨O, ρ, f, d, S, e, k⟩ := h
  unfold mIf at e
  obtain ⟨x, e1, e2⟩ := Option.bind_eq_some_iff.mp e
  refine ⟨O, ρ, f, x, S, e1, fun H' s => ?_⟩
  have kk : ∀ v H'' g, Same H' H'' → Rp (gX X c) (uni (uni O f) g) H'' d v g → g.Nodup → (∀ a ∈ g, H' a = none) → Q v H'' := fun v H'' g s' r n w => k v H'' g (s.trans s') r n fun a z => s.free (w a z)
  cases x with
  | true => exact ⟨O, ρ, f, d, S.same s, e2, kk⟩
  | false => exact ⟨O, ρ, f, d, S.same s, e2, kk⟩
def mAndV (ma mb : EM) : EM := fun ρ => (ma ρ).bind fun x => (asB x).bind fun k => if k = true then mb ρ else some (.bl false)
def mOrV (ma mb : EM) : EM := fun ρ => (ma ρ).bind fun x => (asB x).bind fun k => if k = true then some (.bl true) else mb ρ
theorem pm_one {op} (h : PEm X c a m) : PEm X c (.BoolOp op [a] pos) m := pe_one h
theorem pm_andV (ha : PEm X c a ma) (hb : PEm X c (.BoolOp .And (b :: rest) pos) mb) : PEm X c (.BoolOp .And (a :: b :: rest) pos) (mAndV ma mb) := PEimp (pe_and ha hb) fun σ H Q h => by
  obtain ⟨O, ρ, f, d, S, e, k⟩ := h
  unfold mAndV at e
  obtain ⟨x, e1, e⟩ := Option.bind_eq_some_iff.mp e
  obtain ⟨kb, e2, e⟩ := Option.bind_eq_some_iff.mp e
  have := asB_some e2
  subst this
  refine ⟨O, ρ, f, _, S, e1, fun v H' g s r n w => ⟨kb, of_bl r, ?_⟩⟩
  cases kb with
  | true => exact ⟨O, ρ, f, d, S.same s, e, fun v H'' g s' r n w => k v H'' g (s.trans s') r n fun a z => s.free (w a z)⟩
  | false => cases e; exact k (.bl false) H' [] s rp_bl List.nodup_nil fun a q => absurd q (by simp)
theorem pm_orV (ha : PEm X c a ma) (hb : PEm X c (.BoolOp .Or (b :: rest) pos) mb) : PEm X c (.BoolOp .Or (a :: b :: rest) pos) (mOrV ma mb) := PEimp (pe_or ha hb) fun σ H Q h => by
  obtain ⟨O, ρ, f, d, S, e, k⟩ := h
  unfold mOrV at e
  obtain ⟨x, e1, e⟩ := Option.bind_eq_some_iff.mp e
  obtain ⟨kb, e2, e⟩ := Option.bind_eq_some_iff.mp e
  have := asB_some e2
  subst this
  refine ⟨O, ρ, f, _, S, e1, fun v H' g s r n w => ⟨kb, of_bl r, ?_⟩⟩
  cases kb with
  | true => cases e; exact k (.bl true) H' [] s rp_bl List.nodup_nil fun a q => absurd q (by simp)
  | false => exact ⟨O, ρ, f, d, S.same s, e, fun v H'' g s' r n w => k v H'' g (s.trans s') r n fun a z => s.free (w a z)⟩
def dNot (d : D) : Option D := (asB d).map fun k => .bl (!k)
theorem pm_not (ha : PEm X c a m) : PEm X c (.UnaryOp .Not a pos) (mU dNot m) := PEimp (pe_not ha) fun σ H Q h => by
  obtain ⟨O, ρ, f, d, S, e, k⟩ := h
  unfold mU at e
  obtain ⟨x, e1, e⟩ := Option.bind_eq_some_iff.mp e
  unfold dNot at e
  obtain ⟨kb, e2, e3⟩ := Option.map_eq_some_iff.mp e
  have := asB_some e2
  subst this
  subst e3
  exact ⟨O, ρ, f, _, S, e1, fun v H' g s r n w => ⟨kb, of_bl r, k (.bl _) H' [] s rp_bl List.nodup_nil fun a q => absurd q (by simp)⟩⟩
end
end R

set_option Elab.async false
set_option linter.all false
set_option maxRecDepth 100000
set_option maxHeartbeats 4000000
/-! RE: statements, owned lists by place. -/
namespace R
open PySem L2

inductive Fl where
  | nx (ρ : Rho)
  | rt (d : D)
  | bk (ρ : Rho)
  | ct (ρ : Rho)
abbrev SM := Rho → Option Fl
structure Bs (O : Av) (H0 H : Hp) (f : List Addr) : Prop where
  fr : ∀ a ∈ f, H0 a = none
  sm : Same H0 H
  al : ∀ a, O a → ∃ o, H0 a = some o
def Fin (G : Ge) (O : Av) (H0 : Hp) (E : Ends) : Fl → Prop
  | .nx ρ => ∀ σ H f, Stt G O H ρ σ f → Bs O H0 H f → E.nx σ H
  | .bk ρ => ∀ σ H f, Stt G O H ρ σ f → Bs O H0 H f → E.bk σ H
  | .ct ρ => ∀ σ H f, Stt G O H ρ σ f → Bs O H0 H f → E.ct σ H
  | .rt d => ∀ v H g, Same H0 H → Rp G (uni O g) H d v g → g.Nodup → (∀ a ∈ g, H0 a = none) → E.rt v H
def tS (G : Ge) (m : SM) : TS := fun E σ H => ∃ O H0 ρ f fl, Stt G O H ρ σ f ∧ Bs O H0 H f ∧ m ρ = some fl ∧ Fin G O H0 E fl
abbrev PSm (X : Cx) (c : Str → Option Addr) (st : Stmt) (m : SM) : Prop := PS X st (tS (gX X c) m)
abbrev PSsm (X : Cx) (c : Str → Option Addr) (sts : List Stmt) (m : SM) : Prop := PSs X sts (tS (gX X c) m)
theorem PSimp {X : Cx} {st : Stmt} {t t' : TS} (h : PS X st t) (k : ∀ E σ H, t' E σ H → t E σ H) : PS X st t' := ⟨fun pins s σ H E I q => h.run pins s σ H E I (k E σ H q)⟩
theorem PSsimp {X : Cx} {st : List Stmt} {t t' : TS} (h : PSs X st t) (k : ∀ E σ H, t' E σ H → t E σ H) : PSs X st t' := ⟨fun pins s σ H E I q => h.run pins s σ H E I (k E σ H q)⟩
def mNx : SM := fun ρ => some (.nx ρ)
def mSeq (m1 m2 : SM) : SM := fun ρ => (m1 ρ).bind fun fl => match fl with
  | .nx ρ' => m2 ρ'
  | .rt d => some (.rt d)
  | .bk ρ' => some (.bk ρ')
  | .ct ρ' => some (.ct ρ')
section
variable {G : Ge} {O : Av} {H H' H0 : Hp} {ρ : Rho} {σ : St} {f g : List Addr}
theorem Bs.same (B : Bs O H0 H f) (s : Same H H') : Bs O H0 H' f := ⟨B.fr, B.sm.trans s, B.al⟩
theorem Bs.sub (B : Bs O H0 H f) {f' : List Addr} (h : ∀ a ∈ f', H0 a = none) : Bs O H0 H f' := ⟨h, B.sm, B.al⟩
theorem Stt.rpadd (S : Stt G O H ρ σ f) (s : Same H H') (w : ∀ a ∈ g, H a = none) : RpS G (uni (uni O f) g) H' ρ σ f :=
  RpS.tr (fun a o n e => ⟨s a o e, fun z => z.elim n fun q => by rw [w a q] at e; cases e⟩) _ _ _ (fun a _ o e => s a o e) S.rp
/-- a new value goes into a slot -/
theorem Stt.put (S : Stt G O H ρ σ f) (s : Same H H') {i : Nat} {d : D} {v : V} (hi : i < ρ.length) (h : Rp G (uni (uni O f) g) H' d v g) (ng : g.Nodup) (w : ∀ a ∈ g, H a = none) :
    ∃ f', Stt G O H' (ρ.set i (some d)) (σ.set i (some v)) f' ∧ ∀ a ∈ f', a ∈ f ∨ a ∈ g :=
  (S.same s).set hi h ng (fun a z => (S.fresh_not (w a z)).2) (fun a z => (S.fresh_not (w a z)).1) (S.rpadd s w)
end
section
variable {X : Cx} {c : Str → Option Addr} {st : Stmt} {sts rest : List Stmt} {m1 m2 m3 : SM} {e a b : Expr} {m ma : EM} {bt : BM} {pos pos' : Pos}
theorem psm_nil : PSsm X c [] mNx := PSsimp pss_nil fun E σ H h => by
  obtain ⟨O, H0, ρ, f, fl, S, B, e, k⟩ := h
  cases e
  exact k σ H f S B
theorem psm_cons (h1 : PSm X c st m1) (h2 : PSsm X c rest m2) : PSsm X c (st :: rest) (mSeq m1 m2) := PSsimp (pss_cons h1 h2) fun E σ H h => by
  obtain ⟨O, H0, ρ, f, fl, S, B, e, k⟩ := h
  unfold mSeq at e
  obtain ⟨fl1, e1, e2⟩ := Option.bind_eq_some_iff.mp e
  refine ⟨O, H0, ρ, f, fl1, S, B, e1, ?_⟩
  cases fl1 with
  | nx ρ' => exact fun σ' H' f' S' B' => ⟨O, H0, ρ', f', fl, S', B', e2, k⟩
  | rt d => cases e2; exact k
  | bk ρ' => cases e2; exact k
  | ct ρ' => cases e2; exact k
theorem psm_one (h1 : PSm X c st m1) : PSsm X c [st] m1 := pss_one h1
theorem psm_never : PSm X c st (fun _ => none) := PSimp ps_never fun E σ H h => by
  obtain ⟨O, H0, ρ, f, fl, S, B, e, k⟩ := h
  cases e
theorem pssm_never : PSsm X c sts (fun _ => none) := PSsimp pss_never fun E σ H h => by
  obtain ⟨O, H0, ρ, f, fl, S, B, e, k⟩ := h
  cases e
def mNo_ : SM := fun _ => none
theorem psm_pass : PSm X c (.Pass pos) mNx := PSimp ps_pass fun E σ H h => by
  obtain ⟨O, H0, ρ, f, fl, S, B, e, k⟩ := h
  cases e
  exact k σ H f S B
def mBk : SM := fun ρ => some (.bk ρ)
def mCt : SM := fun ρ => some (.ct ρ)
theorem psm_break : PSm X c (.Break pos) mBk := PSimp ps_break fun E σ H h => by
  obtain ⟨O, H0, ρ, f, fl, S, B, e, k⟩ := h
  cases e
  exact k σ H f S B
theorem psm_continue : PSm X c (.Continue pos) mCt := PSimp ps_continue fun E σ H h => by
  obtain ⟨O, H0, ρ, f, fl, S, B, e, k⟩ := h
  cases e
  exact k σ H f S B
/-! ### stores -/
def mSet (i : Nat) (m : EM) : SM := fun ρ => (m ρ).bind fun d => if i < ρ.length then some (.nx (ρ.set i (some d))) else none
theorem use_set {G : Ge} {i : Nat} {E : Ends} {σ : St} {H : Hp} (h : tS G (mSet i m) E σ H) : tAsg (tM G m) (gName i) E σ H := by
  obtain ⟨O, H0, ρ, f, fl, S, B, e, k⟩ := h
  unfold mSet at e
  obtain ⟨d, e1, e2⟩ := Option.bind_eq_some_iff.mp e
  split at e2
  · rename_i hi
    cases e2
    refine ⟨O, ρ, f, d, S, e1, fun v H' g s r n w => ?_⟩
    obtain ⟨f', S', sub⟩ := S.put s hi r n w
    exact k _ _ f' S' ⟨fun a z => (sub a z).elim (B.fr a) fun q => B.sm.free (w a q), B.sm.trans s, B.al⟩
  · cases e2
theorem psm_set {i : Nat} {x : Str} (hN : X.N.Nodup) (he : PEm X c e m) (hi : X.N[i]? = some x := by rfl) (hx : Loc X.env.scope x := by first | exact .inl rfl | exact .inr rfl) (hs : swapsWith e (some (.Name x pos')) pos.line X.env = pure false := by rfl)
    (hf : X.fn x = true ∨ X.env.scope.names.lookup x = some .local := by first | exact .inl rfl | exact .inr rfl | assumption) : PSm X c (.Assign [.Name x pos'] e pos) (mSet i m) := PSimp (ps_set hN hi hx he hs hf) fun _ _ _ => use_set
def mRet (m : EM) : SM := fun ρ => (m ρ).map .rt
theorem psm_ret (he : PEm X c e m) : PSm X c (.Return (some e) pos) (mRet m) := PSimp (ps_ret he) fun E σ H h => by
  obtain ⟨O, H0, ρ, f, fl, S, B, e, k⟩ := h
  unfold mRet at e
  obtain ⟨d, e1, e2⟩ := Option.map_eq_some_iff.mp e
  subst e2
  exact ⟨O, ρ, f, d, S, e1, fun v H' g s r n w => k v H' g (B.sm.trans s) (r.mono fun a z => z.elim (fun z => .inl (.inl z)) .inr) n fun a z => B.sm.free (w a z)⟩
theorem psm_retN : PSm X c (.Return none pos) (mRet (mC .non)) := PSimp ps_retN fun E σ H h => by
  obtain ⟨O, H0, ρ, f, fl, S, B, e, k⟩ := h
  cases e
  exact k .non H [] B.sm rp_non List.nodup_nil fun a q => absurd q (by simp)
/-- return x, x's value with all it owns -/
theorem psm_retV {i : Nat} {x : Str} (hN : X.N[i]? = some x := by rfl) (hv : Vis X.env.scope x := by first | exact Or.inl rfl | exact Or.inr (Or.inl rfl) | exact Or.inr (Or.inr rfl)) (hd : (x == ("__debug__" : Str)) = false := by decide)
    (hcd : (x == ("__classdict__" : Str)) = false := by decide) : PSm X c (.Return (some (.Name x pos')) pos) (mRet (mV i)) := PSimp (ps_ret (pe_var hN hv hd hcd)) fun E σ H h => by
  obtain ⟨O, H0, ρ, f, fl, S, B, e, k⟩ := h
  unfold mRet at e
  obtain ⟨d, e1, e2⟩ := Option.map_eq_some_iff.mp e
  subst e2
  obtain ⟨v, f1, hv, r, sub, nd⟩ := S.get (mV_some e1)
  exact ⟨v, hv, k v H f1 B.sm (r.mono fun a z => z.imp id (sub a)) nd fun a z => B.fr a (sub a z)⟩
def mDrop (m : EM) : SM := fun ρ => (m ρ).bind fun _ => some (.nx ρ)
theorem psm_expr (he : PEa X c e m) (hs : swapsWith e none pos.line X.env = pure false := by rfl) : PSm X c (.Expr e pos) (mDrop m) := PSimp (ps_expr he hs) fun E σ H h => by
  obtain ⟨O, H0, ρ, f, fl, S, B, e, k⟩ := h
  unfold mDrop at e
  obtain ⟨d, e1, e2⟩ := Option.bind_eq_some_iff.mp e
  cases e2
  exact ⟨O, ρ, f, d, S, e1, fun v H' g s r w => k σ H' f (S.same s) (B.same s)⟩
def mIte (bt : BM) (m1 m2 : SM) : SM := fun ρ => (bt ρ).bind fun b => if b = true then m1 ρ else m2 ρ
theorem psm_if {s1 s2 : List Stmt} (ht : PTm X c e bt) (h1 : PSsm X c s1 m1) (h2 : PSsm X c s2 m2) : PSm X c (.If e s1 s2 pos) (mIte bt m1 m2) := PSimp (ps_if ht h1 h2) fun E σ H h => by
  obtain ⟨O, H0, ρ, f, fl, S, B, e, k⟩ := h
  unfold mIte at e
  obtain ⟨b, e1, e2⟩ := Option.bind_eq_some_iff.mp e
  refine ⟨O, ρ, f, b, S, e1, fun H' s => ?_⟩
  cases b with
  | true => exact ⟨O, H0, ρ, f, fl, S.same s, B.same s, e2, k⟩
  | false => exact ⟨O, H0, ρ, f, fl, S.same s, B.same s, e2, k⟩
/-- x += e -/
def mAug (i : Nat) (h : Int → Int → Int) (m : EM) : SM := fun ρ => (mV i ρ).bind fun x => (asInt x).bind fun n => (m ρ).bind fun d => (asInt d).bind fun k => if i < ρ.length then some (.nx (ρ.set i (some (.int (h n k))))) else none
theorem asInt_some {d : D} {i : Int} (h : asInt d = some i) : d = .int i := by
  unfold asInt at h
  split at h
  · cases h; rfl
  · cases h
theorem psm_aug {op : Operator} {hh : Int → Int → Int} {i : Nat} {x : Str} (hop : PIp X op (ipI hh)) (hN : X.N.Nodup) (he : PEa X c e m) (hi : X.N[i]? = some x := by rfl) (hx : Loc X.env.scope x := by first | exact .inl rfl | exact .inr rfl)
    (hf : X.fn x = true ∨ X.env.scope.names.lookup x = some .local := by first | exact .inl rfl | exact .inr rfl | assumption) : PSm X c (.AugAssign (.Name x pos') op e pos) (mAug i hh m) := PSimp (ps_aug hN hi hx he hop hf) fun E σ H h => by
  obtain ⟨O, H0, ρ, f, fl, S, B, e, k⟩ := h
  unfold mAug at e
  obtain ⟨dx, e1, e⟩ := Option.bind_eq_some_iff.mp e
  obtain ⟨n, e2, e⟩ := Option.bind_eq_some_iff.mp e
  obtain ⟨d, e3, e⟩ := Option.bind_eq_some_iff.mp e
  obtain ⟨kk, e4, e⟩ := Option.bind_eq_some_iff.mp e
  have := asInt_some e2
  subst this
  have := asInt_some e4
  subst this
  split at e
  · rename_i hi
    cases e
    obtain ⟨v, f1, hv, r, sub, _⟩ := S.get (mV_some e1)
    refine ⟨v, hv, O, ρ, f, _, S, e3, fun w H' g s r2 w2 => ⟨n, kk, of_int r, of_int r2, ?_⟩⟩
    obtain ⟨f', S', sub'⟩ := S.put (g := []) (v := .int (hh n kk)) s hi rp_int List.nodup_nil fun a q => absurd q (by simp)
    exact k _ _ f' S' ⟨fun a z => (sub' a z).elim (B.fr a) fun q => absurd q (by simp), B.sm.trans s, B.al⟩
  · cases e
/-- a slot is given away: its value is shared from here on -/
def mFrz (i : Nat) (m : SM) : SM := fun ρ => (mV i ρ).bind fun d => m (ρ.set i (some (fz d)))
theorem use_frz {G : Ge} {i : Nat} {E : Ends} {σ : St} {H : Hp} (h : tS G (mFrz i m1) E σ H) : tS G m1 E σ H := by
  obtain ⟨O, H0, ρ, f, fl, S, B, e, k⟩ := h
  unfold mFrz at e
  obtain ⟨d, e1, e2⟩ := Option.bind_eq_some_iff.mp e
  have e3 := mV_some e1
  obtain ⟨v, fa, f1, fb, hv, ha, h1, hb, ee⟩ := S.rp.cut e3
  have hi : i < ρ.length := (List.getElem?_eq_some_iff.mp e3).1
  have hi' : i < σ.length := (List.getElem?_eq_some_iff.mp hv).1
  have sub : ∀ a, uni O (fa ++ ([] ++ fb)) a → uni O f a := fun a z => z.imp id fun z => by
    rw [ee]
    rcases List.mem_append.mp z with z | z
    · exact List.mem_append_left _ z
    · exact List.mem_append_right _ (List.mem_append_right _ z)
  have n := S.nd
  rw [ee] at n
  have n' : (fa ++ ([] ++ fb)).Nodup := nodup_mid n List.nodup_nil fun a z => absurd z (by simp)
  have hσ : σ.set i (some v) = σ := by
    refine List.ext_getElem? fun j => ?_
    by_cases q : i = j
    · subst q; rw [List.getElem?_set_self hi', hv]
    · rw [List.getElem?_set_ne q]
  refine ⟨O, H0, _, fa ++ ([] ++ fb), fl, ⟨?_, n', fun a z => ?_, S.al⟩, B.sub fun a z => ?_, e2, k⟩
  · rw [← hσ, set_cut ρ i _ hi, set_cut σ i _ hi']
    have mono : ∀ {l : Rho} {vs : St} {x : List Addr}, RpS G (uni O f) H l vs x → RpS G (uni O (fa ++ ([] ++ fb))) H l vs x := fun {l vs x} q =>
      RpS.tr (fun a o n e => ⟨e, fun z => n (sub a z)⟩) l vs x (fun _ _ _ e => e) q
    refine (mono ha).app (RpS.cons (f := []) (Rp.fz sub d v f1 (fun a ha z => ?_) h1) (mono hb))
    rcases z with z | z
    · exact S.dis a (by rw [ee]; exact List.mem_append_right _ (List.mem_append_left _ ha)) z
    · rw [List.nodup_append] at n
      obtain ⟨_, n2, n3⟩ := n
      rw [List.nodup_append] at n2
      rcases List.mem_append.mp z with z | z
      · exact n3 a z a (List.mem_append_left _ ha) rfl
      · exact n2.2.2 a ha a z rfl
  · exact (sub a (.inr z)).elim (fun q => by
      have hz : a ∈ f := by
        rw [ee]
        rcases List.mem_append.mp z with z | z
        · exact List.mem_append_left _ z
        · exact List.mem_append_right _ (List.mem_append_right _ z)
      exact fun _ => S.dis a hz q) fun q => S.dis a q
  · have hz : a ∈ f := by
      rw [ee]
      rcases List.mem_append.mp z with z | z
      · exact List.mem_append_left _ z
      · exact List.mem_append_right _ (List.mem_append_right _ z)
    exact B.fr a hz
theorem psm_frz (i : Nat) (h : PSsm X c sts m1) : PSsm X c sts (mFrz i m1) := PSsimp h fun _ _ _ => use_frz
end

/-! ### targets: a shared value is stored where nothing is owned -/
abbrev GM := D → Rho → Option Rho
abbrev GsM := List D → Rho → Option Rho
def slotFrz (ρ : Rho) (i : Nat) : Bool := match ρ.getD i none with
  | none => true
  | some d => frz d
theorem RpS.cutF {G : Ge} {O : Av} {H : Hp} : ∀ {l : Rho} {vs : St} {f : List Addr} {k : Nat}, RpS G O H l vs f → k < l.length → slotFrz l k = true →
    ∃ fa fb, k < vs.length ∧ RpS G O H (l.take k) (vs.take k) fa ∧ RpS G O H (l.drop (k + 1)) (vs.drop (k + 1)) fb ∧ f = fa ++ fb
  | [], vs, f, k, h, e, z => by simp at e
  | some c :: l, vs, f, 0, h, e, z => by
    obtain ⟨v, r, f1, f2, ev, h1, h2, ef⟩ := h
    have e1 : f1 = [] := Rp.nil c v f1 z h1
    subst ev ef e1
    exact ⟨[], f2, by simp, ⟨rfl, rfl⟩, h2, rfl⟩
  | none :: l, vs, f, 0, h, e, z => by
    obtain ⟨x, r, ev, h⟩ := h
    subst ev
    exact ⟨[], f, by simp, ⟨rfl, rfl⟩, h, rfl⟩
  | none :: l, vs, f, k + 1, h, e, z => by
    obtain ⟨x, r, ev, h⟩ := h
    subst ev
    obtain ⟨fa, fb, hw, ha, hb, ee⟩ := RpS.cutF h (by simpa using e) z
    exact ⟨fa, fb, by simpa using hw, ⟨x, r.take k, rfl, ha⟩, hb, ee⟩
  | some c :: l, vs, f, k + 1, h, e, z => by
    obtain ⟨v, r, f1, f2, ev, h1, h2, ef⟩ := h
    subst ev ef
    obtain ⟨fa, fb, hw, ha, hb, ee⟩ := RpS.cutF h2 (by simpa using e) z
    subst ee
    exact ⟨f1 ++ fa, fb, by simpa using hw, RpS.cons h1 ha, hb, by simp⟩
theorem Stt.putF {G : Ge} {O : Av} {H : Hp} {ρ : Rho} {σ : St} {f : List Addr} (S : Stt G O H ρ σ f) {i : Nat} {d : D} {v : V} (hi : i < ρ.length) (z : slotFrz ρ i = true) (h : Rp G (uni O f) H d v []) : Stt G O H (ρ.set i (some d)) (σ.set i (some v)) f := by
  obtain ⟨fa, fb, hv, ha, hb, ee⟩ := S.rp.cutF hi z
  refine ⟨?_, S.nd, S.dis, S.al⟩
  have := ha.app (RpS.cons h hb)
  rw [List.nil_append, ← ee, ← set_cut ρ i _ hi, ← set_cut σ i _ hv] at this
  exact this
/-- the slots at is are stored -/
def Wp (is : List Nat) (σ σ' : St) : Prop := ∀ js : List Nat, (∀ i ∈ is, i ∈ js) → wipe σ' js = wipe σ js
theorem wipe_set {σ : St} {i : Nat} {x : Option V} : ∀ {js : List Nat}, i ∈ js → wipe (σ.set i x) js = wipe σ js
  | [], h => absurd h (by simp)
  | j :: js, h => by
    unfold wipe
    by_cases e : i ∈ js
    · rw [wipe_set e]
    · have ei : i = j := (List.mem_cons.mp h).resolve_right e
      subst ei
      have : ∀ {l : List Nat} {s : St}, i ∉ l → wipe (s.set i x) l = (wipe s l).set i x := by
        intro l
        induction l with
        | nil => intro s _; rfl
        | cons k l ih =>
          intro s hk
          unfold wipe
          rw [ih (fun z => hk (List.mem_cons_of_mem _ z)), List.set_comm _ _ (show i ≠ k from fun z => hk (by rw [z]; exact List.mem_cons_self))]
      rw [this e, List.set_set]
theorem Wp.name {σ : St} {i : Nat} {x : Option V} : Wp [i] σ (σ.set i x) := fun js h => wipe_set (h i (by simp))
def tG (G : Ge) (h : GM) (is : List Nat) : TG := fun v σ H Q => ∃ O ρ f d ρ', Stt G O H ρ σ f ∧ Rp G (uni O f) H d v [] ∧ h d ρ = some ρ' ∧ ∀ σ', Stt G O H ρ' σ' f → Wp is σ σ' → Q σ' H
def tGs (G : Ge) (h : GsM) (is : List Nat) : TGs := fun vs σ H Q => ∃ O ρ f ds ρ', Stt G O H ρ σ f ∧ RpL G (uni O f) H ds vs [] ∧ h ds ρ = some ρ' ∧ ∀ σ', Stt G O H ρ' σ' f → Wp is σ σ' → Q σ' H
abbrev PGm (X : Cx) (c : Str → Option Addr) (t : Expr) (h : GM) (is : List Nat) : Prop := PG X t (tG (gX X c) h is)
abbrev PGsm (X : Cx) (c : Str → Option Addr) (t : List Expr) (h : GsM) (is : List Nat) : Prop := PGs X t (tGs (gX X c) h is)
def gN (i : Nat) : GM := fun d ρ => if i < ρ.length ∧ slotFrz ρ i = true then some (ρ.set i (some d)) else none
def gsN : GsM := fun ds ρ => match ds with | [] => some ρ | _ => none
def gsC (h : GM) (hs : GsM) : GsM := fun ds ρ => match ds with | d :: l => (h d ρ).bind (hs l) | [] => none
def gT (n : Nat) (hs : GsM) : GM := fun d ρ => match d with | .tup l => if l.length = n then hs l ρ else none | _ => none
theorem PGimp {X : Cx} {t : Expr} {g g' : TG} (h : PG X t g) (k : ∀ v σ H Q, g' v σ H Q → g v σ H Q) : PG X t g' := ⟨fun pins s σ H v u Q I r q => h.run pins s σ H v u Q I r (k v σ H Q q)⟩
theorem PGsimp {X : Cx} {t : List Expr} {g g' : TGs} (h : PGs X t g) (k : ∀ v σ H Q, g' v σ H Q → g v σ H Q) : PGs X t g' := ⟨fun pins s σ H v u Q I r q => h.run pins s σ H v u Q I r (k v σ H Q q)⟩
section
variable {X : Cx} {c : Str → Option Addr} {t : Expr} {ts : List Expr} {h : GM} {hs : GsM} {pos pos' : Pos} {e : Expr} {m : EM} {is js : List Nat}
theorem pgm_name (i : Nat) {x : Str} (hN : X.N.Nodup) (hi : X.N[i]? = some x := by rfl) (hx : Loc X.env.scope x := by first | exact .inl rfl | exact .inr rfl)
    (hf : X.fn x = true ∨ X.env.scope.names.lookup x = some .local := by first | exact .inl rfl | exact .inr rfl | assumption) : PGm X c (.Name x pos) (gN i) [i] := PGimp (pg_name hN hi hx hf) fun v σ H Q q => by
  obtain ⟨O, ρ, f, d, ρ', S, r, e, k⟩ := q
  unfold gN at e
  split at e
  · rename_i hi
    cases e
    exact k _ (S.putF hi.1 hi.2 r) Wp.name
  · cases e
theorem pgsm_nil : PGsm X c [] gsN [] := PGsimp pgs_nil fun v σ H Q q => by
  obtain ⟨O, ρ, f, ds, ρ', S, r, e, k⟩ := q
  unfold gsN at e
  split at e
  · cases e
    unfold RpL at r
    exact ⟨r.1, k σ S fun _ _ => rfl⟩
  · cases e
theorem RpL_nil_cons {G : Ge} {O : Av} {H : Hp} {d : D} {l : List D} {vs : List V} (h : RpL G O H (d :: l) vs []) : ∃ v r, vs = v :: r ∧ Rp G O H d v [] ∧ RpL G O H l r [] := by
  unfold RpL at h
  obtain ⟨v, r, f1, f2, e, h1, h2, ef⟩ := h
  obtain ⟨rfl, rfl⟩ := List.append_eq_nil_iff.mp ef.symm
  exact ⟨v, r, e, h1, h2⟩
theorem pgsm_cons (h1 : PGm X c t h is) (h2 : PGsm X c ts hs js)
    (hs' : (assignEach (t :: ts) X.env).map (·.2) = assign t X.env :: (assignEach ts X.env).map (·.2) := by rfl) : PGsm X c (t :: ts) (gsC h hs) (is ++ js) := PGsimp (pgs_cons h1 h2 hs') fun v σ H Q q => by
  obtain ⟨O, ρ, f, ds, ρ', S, r, e, k⟩ := q
  unfold gsC at e
  split at e
  · rename_i d l
    obtain ⟨v', r', rfl, r1, r2⟩ := RpL_nil_cons r
    obtain ⟨ρ1, e1, e2⟩ := Option.bind_eq_some_iff.mp e
    exact ⟨v', r', rfl, O, ρ, f, d, ρ1, S, r1, e1, fun σ1 S1 w1 => ⟨O, ρ1, f, l, ρ', S1, r2, e2, fun σ2 S2 w2 => k σ2 S2 fun ks hk => (w2 ks fun i hi => hk i (List.mem_append_right _ hi)).trans (w1 ks fun i hi => hk i (List.mem_append_left _ hi))⟩⟩
  · cases e
theorem pgm_tup {kk : Nat} {n : Nat} (hc : X.calm = true) (h1 : PGsm X c ts hs is) (hn : (assignEach ts X.env).length = n := by rfl) (hst : (assignEach ts X.env).findIdx? (·.1) = none := by rfl) : PGm X c (.Tuple ts kk pos) (gT n hs) is := PGimp (pg_tup hc h1 hn hst) fun v σ H Q q => by
  obtain ⟨O, ρ, f, d, ρ', S, r, e, k⟩ := q
  unfold gT at e
  split at e
  · split at e
    · rename_i l hl
      obtain ⟨p, vs, rfl, hp, r'⟩ := of_tup r
      exact ⟨p, vs, rfl, hp, by rw [← r'.len]; exact hl, O, ρ, f, l, ρ', S, r', e, k⟩
    · cases e
  · cases e
/-- a, b = e; the value owns nothing -/
def mAsg (h : GM) (m : EM) : SM := fun ρ => (m ρ).bind fun d => if frz d = true then (h d ρ).map .nx else none
theorem psm_asg (he : PEm X c e m) (hg : PGm X c t h is) (hs : swapsWithSole [t] e pos.line X.env = pure false := by rfl) (hw : swappedStores [t] e X.env = pure none := by rfl)
    (h1 : (assignEach [t] X.env).map (·.2) = [assign t X.env] := by rfl) : PSm X c (.Assign [t] e pos) (mAsg h m) := PSimp (ps_asg he hg hs hw h1) fun E σ H q => by
  obtain ⟨O, H0, ρ, f, fl, S, B, e, k⟩ := q
  unfold mAsg at e
  obtain ⟨d, e1, e2⟩ := Option.bind_eq_some_iff.mp e
  split at e2
  · rename_i z
    obtain ⟨ρ', e3, e4⟩ := Option.map_eq_some_iff.mp e2
    subst e4
    refine ⟨O, ρ, f, d, S, e1, fun v H' g s r n w => ?_⟩
    have eg : g = [] := Rp.nil d v g z r
    subst eg
    exact ⟨O, ρ, f, d, ρ', S.same s, r.mono fun a z => .inl z, e3, fun σ' S' _ => k σ' H' f S' (B.same s)⟩
  · cases e2
/-- a, b = x, y: two plain names -/
def mPar (i j : Nat) (m1 m2 : EM) : SM := fun ρ => (m1 ρ).bind fun d1 => (m2 ρ).bind fun d2 => if frz d1 = true ∧ frz d2 = true ∧ i < ρ.length ∧ j < ρ.length then some (.nx ((ρ.set i (some d1)).set j (some d2))) else none
theorem psm_par {i j : Nat} {x y : Str} {a b : Expr} {m1 m2 : EM} {px py pt : Pos} {kt k2 pt2} (hc : X.calm = true) (hN : X.N.Nodup) (ha : PEa X c a m1) (hb : PEa X c b m2) (hi : X.N[i]? = some x := by rfl) (hj : X.N[j]? = some y := by rfl) (hij : i ≠ j := by decide)
    (hx : X.env.scope.names.lookup x = some .local := by rfl) (hy : X.env.scope.names.lookup y = some .local := by rfl)
    (hw : swappedStores [.Tuple [.Name x px, .Name y py] kt pt] (.Tuple [a, b] k2 pt2) X.env = pure (some [x, y]) := by rfl)
    (hs : swapsWithSole [.Tuple [.Name x px, .Name y py] kt pt] (.Tuple [a, b] k2 pt2) pos.line X.env = pure false := by rfl)
    (he : starEach [a, b] X.env = (false, eval a X.env) :: starEach [b] X.env := by rfl) (he2 : starEach [b] X.env = (false, eval b X.env) :: starEach [] X.env := by rfl) :
    PSm X c (.Assign [.Tuple [.Name x px, .Name y py] kt pt] (.Tuple [a, b] k2 pt2) pos) (mPar i j m1 m2) := PSimp (ps_par hc hN hi hj hij hx hy (pa_cons ha (pa_cons hb pa_nil he2) he) hw hs) fun E σ H q => by
  obtain ⟨O, H0, ρ, f, fl, S, B, e, k⟩ := q
  unfold mPar at e
  obtain ⟨d1, e1, e⟩ := Option.bind_eq_some_iff.mp e
  obtain ⟨d2, e2, e⟩ := Option.bind_eq_some_iff.mp e
  split at e
  · rename_i z
    obtain ⟨z1, z2, z3, z4⟩ := z
    cases e
    refine tA2 S e1 e2 fun v w H2 g1 g2 s r1 r2 w1 w2 => ⟨v, w, rfl, ?_⟩
    have eg1 : g1 = [] := Rp.nil _ _ _ z1 r1
    have eg2 : g2 = [] := Rp.nil _ _ _ z2 r2
    subst eg1 eg2
    obtain ⟨f1, S1, sub1⟩ := S.put (g := []) s z3 (r1.mono uni_nil) List.nodup_nil fun a q => absurd q (by simp)
    have sub1' : ∀ a ∈ f1, a ∈ f := fun a z => (sub1 a z).elim id fun q => absurd q (by simp)
    have r2' : Rp (gX X c) (uni O f1) H2 d2 w [] := r2.mono fun a z => z.imp id (sub1' a)
    obtain ⟨f2, S2, sub2⟩ := S1.put (g := []) (Same.refl _) (by rw [List.length_set]; exact z4) (r2'.mono uni_nil) List.nodup_nil fun a q => absurd q (by simp)
    exact k _ _ f2 S2 ⟨fun a z => (sub2 a z).elim (fun q => B.fr a (sub1' a q)) fun q => absurd q (by simp), B.sm.trans s, B.al⟩
  · cases e
end

/-! ### several slots at once, with all that the values own -/
def setAll : List Nat → List D → Rho → Option Rho
  | [], [], ρ => some ρ
  | i :: is, d :: ds, ρ => if i < ρ.length then setAll is ds (ρ.set i (some d)) else none
  | _, _, _ => none
def setV : List Nat → List V → St → St
  | i :: is, v :: vs, σ => setV is vs (σ.set i (some v))
  | _, _, σ => σ
theorem RpS.putL {G : Ge} {L : Av} {H : Hp} {ρ : Rho} {σ : St} {f g : List Addr} {i : Nat} {d : D} {v : V} (R : RpS G L H ρ σ f) (r : Rp G L H d v g) (hi : i < ρ.length) (nf : f.Nodup) (ng : g.Nodup) (dj : ∀ a ∈ g, a ∉ f) :
    ∃ f', RpS G L H (ρ.set i (some d)) (σ.set i (some v)) f' ∧ f'.Nodup ∧ ∀ a ∈ f', a ∈ f ∨ a ∈ g := by
  obtain ⟨fa, f1, fb, hv, ha, hb, ee⟩ := R.cutN hi
  subst ee
  refine ⟨fa ++ (g ++ fb), ?_, nodup_mid nf ng fun a q z => absurd z (dj a q), fun a z => ?_⟩
  · rw [set_cut ρ i _ hi, set_cut σ i _ hv]
    exact ha.app (RpS.cons r hb)
  · rcases List.mem_append.mp z with q | q
    · exact .inl (List.mem_append_left _ q)
    · rcases List.mem_append.mp q with q | q
      · exact .inr q
      · exact .inl (List.mem_append_right _ (List.mem_append_right _ q))
theorem RpS.putAll {G : Ge} {L : Av} {H : Hp} : ∀ {is : List Nat} {ds : List D} {vs : List V} {ρ ρ' : Rho} {σ : St} {f g : List Addr}, RpS G L H ρ σ f → RpL G L H ds vs g → setAll is ds ρ = some ρ' → f.Nodup → g.Nodup → (∀ a ∈ g, a ∉ f) →
    ∃ f', RpS G L H ρ' (setV is vs σ) f' ∧ f'.Nodup ∧ ∀ a ∈ f', a ∈ f ∨ a ∈ g
  | [], [], vs, ρ, ρ', σ, f, g, R, r, e, nf, ng, dj => by
    cases e
    refine ⟨f, ?_, nf, fun a z => .inl z⟩
    cases vs <;> exact R
  | i :: is, d :: ds, vs, ρ, ρ', σ, f, g, R, r, e, nf, ng, dj => by
    unfold setAll at e
    split at e
    · rename_i hi
      unfold RpL at r
      obtain ⟨v, rr, g1, g2, rfl, r1, r2, rfl⟩ := r
      rw [List.nodup_append] at ng
      obtain ⟨f1, R1, n1, sub1⟩ := R.putL r1 hi nf ng.1 fun a z => dj a (List.mem_append_left _ z)
      obtain ⟨f2, R2, n2, sub2⟩ := RpS.putAll R1 r2 e n1 ng.2.1 fun a z q => by
        rcases sub1 a q with w | w
        · exact dj a (List.mem_append_right _ z) w
        · exact ng.2.2 a w a z rfl
      exact ⟨f2, R2, n2, fun a z => by
        rcases sub2 a z with q | q
        · exact (sub1 a q).imp id (List.mem_append_left _)
        · exact .inr (List.mem_append_right _ q)⟩
    · cases e
  | [], d :: ds, vs, ρ, ρ', σ, f, g, R, r, e, nf, ng, dj => by cases e
  | i :: is, [], vs, ρ, ρ', σ, f, g, R, r, e, nf, ng, dj => by cases e
theorem Stt.putAll {G : Ge} {O : Av} {H H' : Hp} {ρ ρ' : Rho} {σ : St} {f g : List Addr} {is : List Nat} {ds : List D} {vs : List V} (S : Stt G O H ρ σ f) (s : Same H H') (h : RpL G (uni (uni O f) g) H' ds vs g) (ng : g.Nodup) (w : ∀ a ∈ g, H a = none) (e : setAll is ds ρ = some ρ') :
    ∃ f', Stt G O H' ρ' (setV is vs σ) f' ∧ ∀ a ∈ f', a ∈ f ∨ a ∈ g := by
  obtain ⟨f', R, n, sub⟩ := RpS.putAll (S.rpadd s w) h e S.nd ng fun a z => (S.fresh_not (w a z)).2
  refine ⟨f', ⟨RpS.tr (fun a o n e => ⟨e, fun z => n ?_⟩) _ _ _ (fun _ _ _ e => e) R, n, fun a z => ?_, (S.same s).al⟩, sub⟩
  · rcases z with z | z
    · exact .inl (.inl z)
    · exact (sub a z).elim (fun q => .inl (.inr q)) .inr
  · exact (sub a z).elim (S.dis a) fun q => (S.fresh_not (w a q)).1
def gAll : List Nat → TGs
  | [] => gNil
  | i :: is => gCons (gName i) (gAll is)
theorem gAll_of : ∀ {is : List Nat} {vs : List V} {σ : St} {H : Hp} {Q : St → Hp → Prop}, is.length = vs.length → Q (setV is vs σ) H → gAll is vs σ H Q
  | [], [], σ, H, Q, _, q => ⟨rfl, q⟩
  | i :: is, v :: vs, σ, H, Q, e, q => ⟨v, vs, rfl, gAll_of (is := is) (by simpa using e) q⟩
  | [], v :: vs, σ, H, Q, e, q => by simp at e
  | i :: is, [], σ, H, Q, e, q => by simp at e
theorem setAll_len : ∀ {is : List Nat} {ds : List D} {ρ ρ' : Rho}, setAll is ds ρ = some ρ' → is.length = ds.length
  | [], [], _, _, _ => rfl
  | i :: is, d :: ds, ρ, ρ', e => by
    unfold setAll at e
    split at e
    · rw [List.length_cons, List.length_cons, setAll_len e]
    · cases e
  | [], d :: ds, _, _, e => by cases e
  | i :: is, [], _, _, e => by cases e
section
variable {X : Cx} {c : Str → Option Addr} {t e : Expr} {ts : List Expr} {pos p2 : Pos} {m : EM}
def mAsgO (is : List Nat) (m : EM) : SM := fun ρ => (m ρ).bind fun d => match d with
  | .tup ds => (setAll is ds ρ).map .nx
  | _ => none
theorem psm_asgO {kk : Nat} {is : List Nat} (hc : X.calm = true) (he : PEm X c e m) (hg : PGs X ts (gAll is)) (hn : (assignEach ts X.env).length = is.length := by rfl) (hst : (assignEach ts X.env).findIdx? (·.1) = none := by rfl)
    (hs : swapsWithSole [.Tuple ts kk p2] e pos.line X.env = pure false := by rfl) (hw : swappedStores [.Tuple ts kk p2] e X.env = pure none := by rfl)
    (h1 : (assignEach [.Tuple ts kk p2] X.env).map (·.2) = [assign (.Tuple ts kk p2) X.env] := by rfl) : PSm X c (.Assign [.Tuple ts kk p2] e pos) (mAsgO is m) := PSimp (ps_asg he (pg_tup hc hg hn hst) hs hw h1) fun E σ H q => by
  obtain ⟨O, H0, ρ, f, fl, S, B, e, k⟩ := q
  unfold mAsgO at e
  obtain ⟨d, e1, e2⟩ := Option.bind_eq_some_iff.mp e
  split at e2
  · rename_i ds
    obtain ⟨ρ', e3, e4⟩ := Option.map_eq_some_iff.mp e2
    subst e4
    refine ⟨O, ρ, f, _, S, e1, fun v H' g s r n w => ?_⟩
    obtain ⟨p, vs, rfl, hp, hl⟩ := of_tup r
    obtain ⟨f', S', sub⟩ := S.putAll s hl n w e3
    have hlen : is.length = vs.length := by rw [setAll_len e3, hl.len]
    exact ⟨p, vs, rfl, hp, hlen.symm, gAll_of hlen (k _ H' f' S' ⟨fun a z => (sub a z).elim (B.fr a) fun q => B.sm.free (w a q), B.sm.trans s, B.al⟩)⟩
  · cases e2
def mParO (is : List Nat) (ms : LM) : SM := fun ρ => (ms ρ).bind fun ds => (setAll is ds ρ).map .nx
theorem psm_parO {i j : Nat} {x y : Str} {a b : Expr} {ms : LM} {px py pt : Pos} {kt k2 pt2} (hc : X.calm = true) (hN : X.N.Nodup) (ha : PAm X c [a, b] ms) (hi : X.N[i]? = some x := by rfl) (hj : X.N[j]? = some y := by rfl) (hij : i ≠ j := by decide)
    (hx : X.env.scope.names.lookup x = some .local := by rfl) (hy : X.env.scope.names.lookup y = some .local := by rfl)
    (hw : swappedStores [.Tuple [.Name x px, .Name y py] kt pt] (.Tuple [a, b] k2 pt2) X.env = pure (some [x, y]) := by rfl)
    (hs : swapsWithSole [.Tuple [.Name x px, .Name y py] kt pt] (.Tuple [a, b] k2 pt2) pos.line X.env = pure false := by rfl) :
    PSm X c (.Assign [.Tuple [.Name x px, .Name y py] kt pt] (.Tuple [a, b] k2 pt2) pos) (mParO [i, j] ms) := PSimp (ps_par hc hN hi hj hij hx hy ha hw hs) fun E σ H q => by
  obtain ⟨O, H0, ρ, f, fl, S, B, e, k⟩ := q
  unfold mParO at e
  obtain ⟨ds, e1, e2⟩ := Option.bind_eq_some_iff.mp e
  obtain ⟨ρ', e3, e4⟩ := Option.map_eq_some_iff.mp e2
  subst e4
  refine ⟨O, ρ, f, ds, S, e1, fun vs H' g s r n w => ?_⟩
  obtain ⟨f', S', sub⟩ := S.putAll s r n w e3
  have hlen : [i, j].length = vs.length := by rw [setAll_len e3, r.len]
  match vs, hlen with
  | [v1, v2], _ => exact ⟨v1, v2, rfl, k _ H' f' S' ⟨fun a z => (sub a z).elim (B.fr a) fun q => B.sm.free (w a q), B.sm.trans s, B.al⟩⟩
theorem psm_par3O {i j l : Nat} {x y z : Str} {a b d : Expr} {ms : LM} {px py pz pt : Pos} {kt k2 pt2} (hc : X.calm = true) (hN : X.N.Nodup) (ha : PAm X c [a, b, d] ms) (hi : X.N[i]? = some x := by rfl) (hj : X.N[j]? = some y := by rfl) (hl : X.N[l]? = some z := by rfl) (hij : i ≠ j := by decide) (hil : i ≠ l := by decide) (hjl : j ≠ l := by decide)
    (hx : X.env.scope.names.lookup x = some .local := by rfl) (hy : X.env.scope.names.lookup y = some .local := by rfl) (hz : X.env.scope.names.lookup z = some .local := by rfl)
    (hw : swappedStores [.Tuple [.Name x px, .Name y py, .Name z pz] kt pt] (.Tuple [a, b, d] k2 pt2) X.env = pure (some [x, y, z]) := by rfl)
    (hs : swapsWithSole [.Tuple [.Name x px, .Name y py, .Name z pz] kt pt] (.Tuple [a, b, d] k2 pt2) pos.line X.env = pure false := by rfl) :
    PSm X c (.Assign [.Tuple [.Name x px, .Name y py, .Name z pz] kt pt] (.Tuple [a, b, d] k2 pt2) pos) (mParO [i, j, l] ms) := PSimp (ps_par3 hc hN hi hj hl hij hil hjl hx hy hz ha hw hs) fun E σ H q => by
  obtain ⟨O, H0, ρ, f, fl, S, B, e, k⟩ := q
  unfold mParO at e
  obtain ⟨ds, e1, e2⟩ := Option.bind_eq_some_iff.mp e
  obtain ⟨ρ', e3, e4⟩ := Option.map_eq_some_iff.mp e2
  subst e4
  refine ⟨O, ρ, f, ds, S, e1, fun vs H' g s r n w => ?_⟩
  obtain ⟨f', S', sub⟩ := S.putAll s r n w e3
  have hlen : [i, j, l].length = vs.length := by rw [setAll_len e3, r.len]
  match vs, hlen with
  | [v1, v2, v3], _ => exact ⟨v1, v2, v3, rfl, k _ H' f' S' ⟨fun a z => (sub a z).elim (B.fr a) fun q => B.sm.free (w a q), B.sm.trans s, B.al⟩⟩
end

/-! ### owned lists by place -/
/-- the owned list at a place of an owned value is changed -/
def updAt : D → List Nat → (List D → Option (List D)) → Option D
  | .lst true l, [], h => (h l).map (.lst true)
  | .lst true l, k :: p, h => (l[k]?).bind fun d => (updAt d p h).map fun d' => .lst true (l.set k d')
  | _, _, _ => none
def nodeAt : D → List Nat → Option (List D)
  | .lst true l, [] => some l
  | .lst true l, k :: p => (l[k]?).bind fun d => nodeAt d p
  | _, _ => none
def At (H : Hp) : D → V → List Nat → Addr → Prop
  | .lst true l, v, [], a => v = .ref a
  | .lst true l, v, k :: p, a => ∃ b vs dk vk, v = .ref b ∧ H b = some (.lst vs) ∧ l[k]? = some dk ∧ vs[k]? = some vk ∧ At H dk vk p a
  | _, _, _, _ => False
theorem At.same {H H' : Hp} (s : Same H H') : ∀ {p : List Nat} {d : D} {v : V} {a : Addr}, At H d v p a → At H' d v p a
  | [], d, v, a, h => by
    cases d with
    | lst o l => cases o with
      | true => exact h
      | false => exact h.elim
    | _ => exact h.elim
  | k :: p, d, v, a, h => by
    cases d with
    | lst o l => cases o with
      | true =>
        obtain ⟨b, vs, dk, vk, h1, h2, h3, h4, h5⟩ := h
        exact ⟨b, vs, dk, vk, h1, s b _ h2, h3, h4, At.same s h5⟩
      | false => exact h.elim
    | _ => exact h.elim
section
variable {G : Ge} {O : Av} {H : Hp}
theorem rp_own {l : List D} {v : V} {f : List Addr} (h : Rp G O H (.lst true l) v f) : ∃ b vs g, v = .ref b ∧ H b = some (.lst vs) ∧ RpL G O H l vs g ∧ f = b :: g := by
  unfold Rp at h
  exact h
theorem set_self {α : Type} {l : List α} {k : Nat} {x : α} (h : l[k]? = some x) : l.take k ++ x :: l.drop (k + 1) = l := by
  have hk := (List.getElem?_eq_some_iff.mp h).1
  rw [← set_cut l k x hk]
  refine List.ext_getElem? fun j => ?_
  by_cases q : k = j
  · subst q; rw [List.getElem?_set_self hk, h]
  · rw [List.getElem?_set_ne q]
theorem upd_path {a : Addr} {h : List D → Option (List D)} : ∀ {p : List Nat} {d d' : D} {v : V} {f : List Addr}, Rp G O H d v f → At H d v p a → f.Nodup → updAt d p h = some d' →
    ∃ l l' vs g fa fb, h l = some l' ∧ nodeAt d p = some l ∧ H a = some (.lst vs) ∧ RpL G O H l vs g ∧ f = fa ++ ((a :: g) ++ fb) ∧
      ∀ (O' : Av) (vs' : List V) (g' : List Addr), (∀ b o, ¬ O b → H b = some o → upd H a (.lst vs') b = some o ∧ ¬ O' b) → RpL G O' (upd H a (.lst vs')) l' vs' g' → Rp G O' (upd H a (.lst vs')) d' v (fa ++ ((a :: g') ++ fb))
  | [], d, d', v, f, r, ha, nd, e => by
    cases d with
    | lst o l =>
      cases o with
      | false => exact ha.elim
      | true =>
        unfold updAt at e
        obtain ⟨l', e1, e2⟩ := Option.map_eq_some_iff.mp e
        subst e2
        obtain ⟨b, vs, g, hv, hb, hl, ef⟩ := rp_own r
        have hva : v = .ref a := ha
        rw [hv] at hva
        cases hva
        refine ⟨l, l', vs, g, [], [], e1, rfl, hb, hl, by simp [ef], fun O' vs' g' k1 hl' => ?_⟩
        unfold Rp
        exact ⟨a, vs', g', hv, upd_same, hl', by simp [Fp]⟩
    | _ => exact ha.elim
  | k :: p, d, d', v, f, r, ha, nd, e => by
    cases d with
    | lst o l =>
      cases o with
      | false => exact ha.elim
      | true =>
        unfold updAt at e
        obtain ⟨dk, e1, e2⟩ := Option.bind_eq_some_iff.mp e
        obtain ⟨dk', e3, e4⟩ := Option.map_eq_some_iff.mp e2
        subst e4
        obtain ⟨b, vs, g, hv, hb, hl, ef⟩ := rp_own r
        obtain ⟨b', vs1, dk1, vk, hv', hb', hk, hvk, hat⟩ := ha
        rw [hv] at hv'
        cases hv'
        rw [hb] at hb'
        cases hb'
        rw [e1] at hk
        cases hk
        obtain ⟨v2, fa, f1, fb, hv2, ra, r1, rb, eg⟩ := hl.cut e1
        rw [hvk] at hv2
        cases hv2
        subst ef eg
        have nd' := nd
        rw [List.nodup_cons, List.nodup_append] at nd'
        obtain ⟨nb, n1, n2, n3⟩ := nd'
        rw [List.nodup_append] at n2
        obtain ⟨l0, l', vs0, g0, fa0, fb0, q1, q1', q2, q3, q4, q5⟩ := upd_path r1 hat n2.1 e3
        subst q4
        have hne : b ≠ a := fun z => nb (by rw [z]; exact List.mem_append_right _ (List.mem_append_left _ (List.mem_append_right _ (List.mem_append_left _ List.mem_cons_self))))
        refine ⟨l0, l', vs0, g0, (b :: fa) ++ fa0, fb0 ++ fb, q1, by unfold nodeAt; rw [e1]; exact q1', q2, q3, by simp, fun O' vs' g' k1 hl' => ?_⟩
        have rk := q5 O' vs' g' k1 hl'
        have hlen : k < l.length := (List.getElem?_eq_some_iff.mp e1).1
        have ra' : RpL G O' (upd H a (.lst vs')) (l.take k) (vs.take k) fa := RpL.tr k1 _ _ _ (fun x hx o ho => by
          rw [upd_ne (show x ≠ a from fun z => n3 x hx x (List.mem_append_left _ (by rw [z]; exact List.mem_append_right _ (List.mem_append_left _ List.mem_cons_self))) rfl)]
          exact ho) ra
        have rb' : RpL G O' (upd H a (.lst vs')) (l.drop (k + 1)) (vs.drop (k + 1)) fb := RpL.tr k1 _ _ _ (fun x hx o ho => by
          rw [upd_ne (show x ≠ a from fun z => n2.2.2 a (List.mem_append_right _ (List.mem_append_left _ List.mem_cons_self)) x hx z.symm)]
          exact ho) rb
        have all := ra'.app (RpL.cons rk rb')
        rw [← set_cut l k _ hlen, set_self hvk] at all
        unfold Rp
        refine ⟨b, vs, _, hv, (by show upd H a _ b = _; rw [upd_ne hne]; exact hb), all, ?_⟩
        simp [Fp]
    | _ => exact ha.elim
/-- .. in a frame; gn: what the new value brings -/
theorem Stt.path {ρ : Rho} {σ : St} {f gn : List Addr} {i : Nat} {d d' : D} {v : V} {p : List Nat} {a : Addr} {h : List D → Option (List D)} (S : Stt G O H ρ σ f) (ext : RpS G (uni (uni O f) gn) H ρ σ f) (e : ρ[i]? = some (some d)) (hv : σ[i]? = some (some v)) (ha : At H d v p a) (eu : updAt d p h = some d') :
    ∃ l l' vs g, h l = some l' ∧ nodeAt d p = some l ∧ H a = some (.lst vs) ∧ RpL G (uni (uni O f) gn) H l vs g ∧ a ∈ f ∧ (∀ b ∈ g, b ∈ f) ∧ (a :: g).Nodup ∧
      ∀ (vs' : List V) (g' : List Addr), RpL G (uni (uni O f) gn) (upd H a (.lst vs')) l' vs' g' → (∀ b ∈ g', b ∈ g ∨ b ∈ gn) → g'.Nodup → (∀ b ∈ gn, b ∉ f ∧ ¬ O b) →
        ∃ f', Stt G O (upd H a (.lst vs')) (ρ.set i (some d')) σ f' ∧ ∀ b ∈ f', b ∈ f ∨ b ∈ gn := by
  obtain ⟨v', fa, f1, fb, hv', ra, r1, rb, ef⟩ := ext.cut e
  rw [hv] at hv'
  cases hv'
  have nd := S.nd
  rw [ef] at nd
  have nd' := nd
  rw [List.nodup_append, List.nodup_append] at nd'
  obtain ⟨n1, ⟨n2, n3, n4⟩, n5⟩ := nd'
  obtain ⟨l, l', vs, g, fa0, fb0, q1, q1', q2, q3, q4, q5⟩ := upd_path r1 ha n2 eu
  subst q4
  have haf : a ∈ f := by rw [ef]; simp
  have ng : (a :: g).Nodup := by
    rw [List.nodup_append] at n2
    obtain ⟨_, n2, _⟩ := n2
    rw [List.nodup_append] at n2
    exact n2.1
  refine ⟨l, l', vs, g, q1, q1', q2, q3, haf, fun b hb => by rw [ef]; simp [hb], ng, fun vs' g' hl' hsub hnd hgn => ?_⟩
  have hi : i < ρ.length := (List.getElem?_eq_some_iff.mp e).1
  have nag : a ∉ g' := fun z => (hsub a z).elim (List.nodup_cons.mp ng).1 fun q => (hgn a q).1 haf
  have loc : ∀ b, b ∈ fa ++ ((fa0 ++ ((a :: g') ++ fb0)) ++ fb) → b ∈ f ∨ b ∈ gn := fun b z => by
    simp only [List.mem_append, List.mem_cons] at z
    rw [ef]
    simp only [List.mem_append, List.mem_cons]
    rcases z with z | (z | (z | z) | z) | z
    · exact .inl (.inl z)
    · exact .inl (.inr (.inl (.inl z)))
    · exact .inl (.inr (.inl (.inr (.inl (.inl z)))))
    · rcases hsub b z with q | q
      · exact .inl (.inr (.inl (.inr (.inl (.inr q)))))
      · exact .inr q
    · exact .inl (.inr (.inl (.inr (.inr z))))
    · exact .inl (.inr (.inr z))
  have sub : ∀ b, uni O (fa ++ ((fa0 ++ ((a :: g') ++ fb0)) ++ fb)) b → uni (uni O f) gn b := fun b z => by
    rcases z with z | z
    · exact .inl (.inl z)
    · rcases loc b z with q | q
      · exact .inl (.inr q)
      · exact .inr q
  have k1 : ∀ b o, ¬ uni (uni O f) gn b → H b = some o → upd H a (.lst vs') b = some o ∧ ¬ uni (uni O f) gn b := fun b o n e =>
    ⟨by rw [upd_ne (show b ≠ a from fun z => n (.inl (.inr (by rw [z]; exact haf))))]; exact e, n⟩
  have rk := (q5 _ vs' g' k1 hl').mono sub
  have ra' : RpS G (uni O (fa ++ ((fa0 ++ ((a :: g') ++ fb0)) ++ fb))) (upd H a (.lst vs')) (ρ.take i) (σ.take i) fa := RpS.tr (fun b o n e => ⟨(k1 b o n e).1, fun z => (k1 b o n e).2 (sub b z)⟩) _ _ _ (fun x hx o ho => by
    rw [upd_ne (show x ≠ a from fun z => n5 x hx a (by simp) z)]
    exact ho) ra
  have rb' : RpS G (uni O (fa ++ ((fa0 ++ ((a :: g') ++ fb0)) ++ fb))) (upd H a (.lst vs')) (ρ.drop (i + 1)) (σ.drop (i + 1)) fb := RpS.tr (fun b o n e => ⟨(k1 b o n e).1, fun z => (k1 b o n e).2 (sub b z)⟩) _ _ _ (fun x hx o ho => by
    rw [upd_ne (show x ≠ a from fun z => n4 a (by simp) x hx z.symm)]
    exact ho) rb
  have all := ra'.app (RpS.cons rk rb')
  rw [← set_cut ρ i _ hi, set_self hv] at all
  have e1 : ∀ gg : List Addr, fa ++ (fa0 ++ (a :: gg ++ fb0) ++ fb) = (fa ++ fa0) ++ ((a :: gg) ++ (fb0 ++ fb)) := fun gg => by simp
  refine ⟨_, ⟨all, ?_, fun b hb z => ?_, fun b z => ?_⟩, loc⟩
  · rw [e1 g']
    refine nodup_mid (f1 := a :: g) (by rw [← e1 g]; exact nd) (List.nodup_cons.mpr ⟨nag, hnd⟩) fun b hb hm => ?_
    rcases List.mem_cons.mp hb with rfl | hb
    · exact List.mem_cons_self
    · rcases hsub b hb with q | q
      · exact List.mem_cons_of_mem _ q
      · refine absurd ?_ (hgn b q).1
        rw [ef, e1 g]; exact hm
  · rcases loc b hb with w | w
    · exact S.dis b w z
    · exact (hgn b w).2 z
  · obtain ⟨o, ho⟩ := S.al b z
    exact ⟨o, by rw [upd_ne (show b ≠ a from fun w => S.dis a haf (by rw [← w]; exact z))]; exact ho⟩
theorem At.node : ∀ {p : List Nat} {d : D} {v : V} {a : Addr} {l : List D} {f : List Addr}, Rp G O H d v f → At H d v p a → nodeAt d p = some l → ∃ vs g, H a = some (.lst vs) ∧ RpL G O H l vs g
  | [], d, v, a, l, f, r, h, e => by
    cases d with
    | lst o m => cases o with
      | true =>
        cases e
        obtain ⟨b, vs, g, hv, hb, hl, _⟩ := rp_own r
        have hva : v = .ref a := h
        rw [hv] at hva
        cases hva
        exact ⟨vs, g, hb, hl⟩
      | false => exact h.elim
    | _ => exact h.elim
  | k :: p, d, v, a, l, f, r, h, e => by
    cases d with
    | lst o m => cases o with
      | true =>
        unfold nodeAt at e
        obtain ⟨dk, e1, e2⟩ := Option.bind_eq_some_iff.mp e
        obtain ⟨b', vs1, dk1, vk, hv', hb', hk, hvk, hat⟩ := h
        obtain ⟨b, vs, g, hv, hb, hl, _⟩ := rp_own r
        rw [hv] at hv'
        cases hv'
        rw [hb] at hb'
        cases hb'
        rw [e1] at hk
        cases hk
        obtain ⟨w, f1, hw, rw1, _⟩ := hl.get e1
        rw [hvk] at hw
        cases hw
        exact At.node rw1 hat e2
      | false => exact h.elim
    | _ => exact h.elim
theorem At.snoc : ∀ {p : List Nat} {d : D} {v : V} {a b : Addr} {l : List D} {vs : List V} {j : Nat} {m : List D}, At H d v p a → nodeAt d p = some l → H a = some (.lst vs) → l[j]? = some (.lst true m) → vs[j]? = some (.ref b) → At H d v (p ++ [j]) b
  | [], d, v, a, b, l, vs, j, m, h, e, ha, e1, e2 => by
    cases d with
    | lst o q => cases o with
      | true =>
        cases e
        exact ⟨a, vs, _, _, h, ha, e1, e2, rfl⟩
      | false => exact h.elim
    | _ => exact h.elim
  | k :: p, d, v, a, b, l, vs, j, m, h, e, ha, e1, e2 => by
    cases d with
    | lst o q => cases o with
      | true =>
        unfold nodeAt at e
        obtain ⟨dk, e3, e4⟩ := Option.bind_eq_some_iff.mp e
        obtain ⟨b', vs1, dk1, vk, hv', hb', hk, hvk, hat⟩ := h
        rw [e3] at hk
        cases hk
        exact ⟨b', vs1, dk, vk, hv', hb', e3, hvk, At.snoc hat e4 ha e1 e2⟩
      | false => exact h.elim
    | _ => exact h.elim
end
end R

set_option Elab.async false
set_option linter.all false
set_option maxRecDepth 100000
set_option maxHeartbeats 4000000
/-! RF: receivers, append, x[i] = e, loops, comprehensions. -/
namespace R
open PySem L2

/-! ### receivers -/
abbrev RM := Rho → Option (Nat × List Nat)
def tR (G : Ge) (m : RM) : TE := fun σ H Q => ∃ O ρ f ip, Stt G O H ρ σ f ∧ m ρ = some ip ∧ ∀ a H', Same H H' → (∃ d v0, ρ[ip.1]? = some (some d) ∧ σ[ip.1]? = some (some v0) ∧ At H' d v0 ip.2 a) → Q (.ref a) H'
abbrev PRm (X : Cx) (c : Str → Option Addr) (e : Expr) (m : RM) : Prop := PE X e (tR (gX X c) m)
def rV (i : Nat) : RM := fun ρ => match mV i ρ with
  | some (.lst true _) => some (i, [])
  | _ => none
def ownAt (l : List D) (j : Nat) : Bool := match l[j]? with
  | some (.lst true _) => true
  | _ => false
def rIx (r : RM) (m : EM) : RM := fun ρ => (r ρ).bind fun ip => (m ρ).bind fun d => (asInt d).bind fun k => (mV ip.1 ρ).bind fun d0 => (nodeAt d0 ip.2).bind fun l => (ixN l.length k).bind fun j =>
  if ownAt l j = true then some (ip.1, ip.2 ++ [j]) else none
section
variable {X : Cx} {c : Str → Option Addr} {a b e : Expr} {es : List Expr} {pos pos' apos : Pos} {r : RM} {m mi : EM}
theorem prm_var (i : Nat) {x : Str} (hN : X.N[i]? = some x := by rfl) (hv : Vis X.env.scope x := by first | exact Or.inl rfl | exact Or.inr (Or.inl rfl) | exact Or.inr (Or.inr rfl)) (hd : (x == ("__debug__" : Str)) = false := by decide)
    (hcd : (x == ("__classdict__" : Str)) = false := by decide) : PRm X c (.Name x pos) (rV i) := PEimp (pe_var hN hv hd hcd) fun σ H Q h => by
  obtain ⟨O, ρ, f, ip, S, e, k⟩ := h
  unfold rV at e
  split at e
  · rename_i l hl
    cases e
    have e1 := mV_some hl
    obtain ⟨v, f1, hv, r, sub, _⟩ := S.get e1
    obtain ⟨q, vs, g, rfl, _⟩ := rp_own r
    exact ⟨_, hv, k q H (Same.refl _) ⟨_, _, e1, hv, rfl⟩⟩
  · cases e
theorem ixN_lt {n : Nat} {k : Int} {j : Nat} (h : ixN n k = some j) : j < n := (ixN_seq h).2.1
theorem prm_ix (ha : PRm X c a r) (hb : PEa X c b mi) (hs : PlainIx b := by first | exact fun _ _ => rfl | (intro _ _; rfl)) : PRm X c (.Subscript a b pos) (rIx r mi) := PEimp (pe_ix ix_list ha hb hs) fun σ H Q h => by
  obtain ⟨O, ρ, f, ip, S, e, k⟩ := h
  unfold rIx at e
  obtain ⟨ip0, e1, e⟩ := Option.bind_eq_some_iff.mp e
  obtain ⟨di, e2, e⟩ := Option.bind_eq_some_iff.mp e
  obtain ⟨kk, e3, e⟩ := Option.bind_eq_some_iff.mp e
  obtain ⟨d0, e4, e⟩ := Option.bind_eq_some_iff.mp e
  obtain ⟨l, e5, e⟩ := Option.bind_eq_some_iff.mp e
  obtain ⟨j, e6, eZ⟩ := Option.bind_eq_some_iff.mp e
  have := asInt_some e3
  subst this
  split at eZ
  · rename_i hown
    cases eZ
    refine ⟨O, ρ, f, ip0, S, e1, fun p H1 s1 ⟨d, v0, q1, q2, q3⟩ => ⟨O, ρ, f, _, S.same s1, e2, fun y H2 g2 s2 r2 w2 => ?_⟩⟩
    have e4' := mV_some e4
    rw [q1] at e4'
    cases e4'
    have S2 := S.same (s1.trans s2)
    have q3' := q3.same s2
    obtain ⟨v', f1, hv', r1, sub, _⟩ := S2.get q1
    rw [q2] at hv'
    cases hv'
    obtain ⟨vs, g, hp, hl⟩ := At.node r1 q3' e5
    have hj := ixN_lt e6
    unfold ownAt at hown
    split at hown
    · rename_i m hm
      obtain ⟨w, gw, hw, rw1, _⟩ := hl.get hm
      obtain ⟨q, vs1, g1, rfl, _⟩ := rp_own rw1
      refine ⟨p, vs, kk, .ref q, rfl, of_int r2, .of hp, ?_, k q H2 (s1.trans s2) ⟨_, v0, q1, q2, At.snoc q3' e5 hp hm hw⟩⟩
      unfold atI
      rw [← hl.len, e6]
      exact hw
    · cases hown
  · cases eZ
/-! ### x.append(e), x[i] = e -/
def mApp (r : RM) (m : EM) : SM := fun ρ => (r ρ).bind fun ip => (m ρ).bind fun d => (mV ip.1 ρ).bind fun d0 => (updAt d0 ip.2 fun l => if l.length < sizeLine then some (l ++ [d]) else none).bind fun d1 => some (.nx (ρ.set ip.1 (some d1)))
theorem psm_app (hr : PRm X c a r) (he : PEm X c e m) (hbase : attributeBase a "append" X.env (eval a X.env) = eval a X.env := by rfl)
    (hfew : ((backTo pos (starEach [e] X.env)).all (fun x => !x.1) && (backToKw pos (keywordEach [] X.env)).all (fun x => x.1.isSome)
      && decide ([e].length + ([] : List Keyword).length + (if ([] : List Keyword).isEmpty then 0 else 1) < 30)) = true := by rfl)
    (hline : (apos.endLine == pos.line) = true := by rfl) (hs : starEach [e] X.env = (false, eval e X.env) :: starEach [] X.env := by rfl) (hplain : (backTo pos (starEach [] X.env)).any (·.1) = false := by rfl)
    (hsw : swapsWith (.Call (.Attribute a "append" apos) [e] [] pos) none pos'.line X.env = pure false := by rfl) : PSm X c (.Expr (.Call (.Attribute a "append" apos) [e] [] pos) pos') (mApp r m) :=
  PSimp (ps_expr (pe_bm PySem.F.plainAttrs_list PySem.F.slot_list_append PySem.F.type_list_append mt_append hr (pa_cons he pa_nil hs) hbase hfew hline hs hplain) hsw) fun E σ H h => by
  obtain ⟨O, H0, ρ, f, fl, S, B, e, k⟩ := h
  unfold mApp at e
  obtain ⟨ip, e1, e⟩ := Option.bind_eq_some_iff.mp e
  obtain ⟨d, e2, e⟩ := Option.bind_eq_some_iff.mp e
  obtain ⟨d0, e3, e⟩ := Option.bind_eq_some_iff.mp e
  obtain ⟨d1, e4, e⟩ := Option.bind_eq_some_iff.mp e
  cases e
  have e3' := mV_some e3
  refine ⟨O, ρ, f, ip, S, e1, fun p H1 s1 ⟨d', v0, q1, q2, q3⟩ => ?_⟩
  rw [e3'] at q1
  cases q1
  have S1 := S.same s1
  obtain ⟨v', f1, hv', r1, sub, _⟩ := S1.get e3'
  rw [q2] at hv'
  cases hv'
  refine ⟨?_, O, ρ, f, d, S1, e2, fun v H2 g s2 rv nv wv => ?_⟩
  · obtain ⟨l, l', vs, g, _, hn, hp, _⟩ := Stt.path (gn := []) S1 (S1.rpadd (Same.refl _) fun a q => absurd q (by simp)) e3' q2 q3 e4
    exact .inl ⟨rfl, vs, .of hp⟩
  · have S2 := S1.same s2
    obtain ⟨l, l', vs, gl, hl, hn, hp, hrl, haf, hsub, hnd, fin⟩ := Stt.path S2 (S1.rpadd s2 wv) e3' q2 (q3.same s2) e4
    split at hl
    · rename_i hlen
      cases hl
      refine ⟨p, vs, v, rfl, rfl, hp, by rw [← hrl.len]; exact hlen, ?_⟩
      have fr : ∀ b ∈ g, b ∉ f ∧ ¬ O b := fun b hb => ⟨(S1.fresh_not (wv b hb)).2, (S1.fresh_not (wv b hb)).1⟩
      have t1 : RpL (gX X c) (uni (uni O f) g) (upd H2 p (.lst (vs ++ [v]))) (l ++ [d]) (vs ++ [v]) (gl ++ g) :=
        (RpL.upd (.inl (.inr haf)) (List.nodup_cons.mp hnd).1 hrl).app (RpL.one (Rp.upd (.inl (.inr haf)) (fun z => (fr p z).1 haf) rv))
      have t2 : (gl ++ g).Nodup := by
        rw [List.nodup_append]
        refine ⟨(List.nodup_cons.mp hnd).2, nv, fun x hx y hy => ?_⟩
        rintro rfl
        exact (fr x hy).1 (hsub x hx)
      obtain ⟨f', S', sub'⟩ := fin (vs ++ [v]) (gl ++ g) t1 (fun b hb => List.mem_append.mp hb) t2 fr
      exact k σ _ f' S' ⟨fun b hb => (sub' b hb).elim (B.fr b) fun q => B.sm.free (s1.free (wv b q)), fun b o ho => by
        rw [upd_ne (show b ≠ p from fun z => by rw [z, B.fr p haf] at ho; cases ho)]
        exact s2 b o (s1 b o (B.sm b o ho)), B.al⟩
    · cases hl
def mSto (r : RM) (mi me : EM) : SM := fun ρ => (me ρ).bind fun d => (r ρ).bind fun ip => (mi ρ).bind fun di => (asInt di).bind fun k => (mV ip.1 ρ).bind fun d0 =>
  (updAt d0 ip.2 fun l => (ixN l.length k).map fun j => l.set j d).bind fun d1 => some (.nx (ρ.set ip.1 (some d1)))
theorem psm_sto (he : PEm X c e m) (hr : PRm X c a r) (hi : PEa X c b mi)
    (ha : ∀ v, assign (.Subscript a b pos') X.env v = (do
      let ov ← holding [v] (eval a X.env)
      let iv ← holding [v, ov] (eval b X.env)
      standAt pos'
      holding [v, ov, iv] (setItem ov iv v)
      release [v, ov, iv] []) := by intro _; rfl)
    (hs : swapsWithSole [.Subscript a b pos'] e pos.line X.env = pure false := by rfl) (hw : swappedStores [.Subscript a b pos'] e X.env = pure none := by rfl)
    (h1 : (assignEach [.Subscript a b pos'] X.env).map (·.2) = [assign (.Subscript a b pos') X.env] := by rfl) : PSm X c (.Assign [.Subscript a b pos'] e pos) (mSto r mi m) :=
  PSimp (ps_asg he (pg_sub hr hi set_list ha) hs hw h1) fun E σ H h => by
  obtain ⟨O, H0, ρ, f, fl, S, B, e, k⟩ := h
  unfold mSto at e
  obtain ⟨d, e2, e⟩ := Option.bind_eq_some_iff.mp e
  obtain ⟨ip, e1, e⟩ := Option.bind_eq_some_iff.mp e
  obtain ⟨di, e5, e⟩ := Option.bind_eq_some_iff.mp e
  obtain ⟨kk, e6, e⟩ := Option.bind_eq_some_iff.mp e
  obtain ⟨d0, e3, e⟩ := Option.bind_eq_some_iff.mp e
  obtain ⟨d1, e4, e⟩ := Option.bind_eq_some_iff.mp e
  cases e
  have := asInt_some e6
  subst this
  have e3' := mV_some e3
  refine ⟨O, ρ, f, d, S, e2, fun v H1 g s1 rv nv wv => ?_⟩
  have S1 := S.same s1
  refine ⟨O, ρ, f, ip, S1, e1, fun p H2 s2 ⟨d', v0, q1, q2, q3⟩ => ?_⟩
  rw [e3'] at q1
  cases q1
  have S2 := S1.same s2
  refine ⟨O, ρ, f, _, S2, e5, fun y H3 g3 s3 r3 w3 => ?_⟩
  have s23 := s2.trans s3
  have S3 := S2.same s3
  obtain ⟨l, l', vs, gl, hl, hn, hp, hrl, haf, hsub, hnd, fin⟩ := Stt.path (gn := g) S3 (S.rpadd (s1.trans s23) wv) e3' q2 (q3.same s3) e4
  obtain ⟨j, hj, hl⟩ := Option.map_eq_some_iff.mp hl
  subst hl
  have hjl := ixN_lt hj
  have fr : ∀ b ∈ g, b ∉ f ∧ ¬ O b := fun b hb => ⟨(S.fresh_not (wv b hb)).2, (S.fresh_not (wv b hb)).1⟩
  refine ⟨p, vs, kk, j, rfl, of_int r3, hp, by rw [← hrl.len]; exact hj, ?_⟩
  obtain ⟨w, fa, f1, fb, hw, ra, r1, rb, eg⟩ := hrl.cut (List.getElem?_eq_getElem hjl)
  have hjv : j < vs.length := by rw [← hrl.len]; exact hjl
  have up : ∀ {l : List D} {vv : List V} {x : List Addr} {vs' : List V}, (∀ b ∈ x, b ∈ gl) → RpL (gX X c) (uni (uni O f) g) H3 l vv x → RpL (gX X c) (uni (uni O f) g) (upd H3 p (.lst vs')) l vv x := fun {l vv x vs'} hx q =>
    RpL.upd (.inl (.inr haf)) (fun z => (List.nodup_cons.mp hnd).1 (hx p z)) q
  have t1 : RpL (gX X c) (uni (uni O f) g) (upd H3 p (.lst (vs.set j v))) (l.set j d) (vs.set j v) (fa ++ (g ++ fb)) := by
    rw [set_cut l j _ hjl, set_cut vs j _ hjv]
    exact (up (fun b hb => by rw [eg]; exact List.mem_append_left _ hb) ra).app (RpL.cons (Rp.upd (.inl (.inr haf)) (fun z => (fr p z).1 haf) (rv.same s23)) (up (fun b hb => by rw [eg]; exact List.mem_append_right _ (List.mem_append_right _ hb)) rb))
  have t2 : ∀ b ∈ fa ++ (g ++ fb), b ∈ gl ∨ b ∈ g := by
    intro b hb
    rcases List.mem_append.mp hb with q | q
    · exact .inl (by rw [eg]; exact List.mem_append_left _ q)
    · rcases List.mem_append.mp q with q | q
      · exact .inr q
      · exact .inl (by rw [eg]; exact List.mem_append_right _ (List.mem_append_right _ q))
  have t3 : (fa ++ (g ++ fb)).Nodup := by
    have n := (List.nodup_cons.mp hnd).2
    rw [eg] at n
    exact nodup_mid n nv fun b hb hm => absurd (hsub b (by rw [eg]; exact hm)) (fr b hb).1
  obtain ⟨f', S', sub'⟩ := fin (vs.set j v) (fa ++ (g ++ fb)) t1 t2 t3 fr
  exact k σ _ f' S' ⟨fun b hb => (sub' b hb).elim (B.fr b) fun q => B.sm.free (wv b q), fun b o ho => by
    rw [upd_ne (show b ≠ p from fun z => by rw [z, B.fr p haf] at ho; cases ho)]
    exact s23 b o (s1 b o (B.sm b o ho)), B.al⟩
end

/-! ### what loops walk over -/
def forL (h : GM) (body : SM) : List D → SM
  | [], ρ => some (.nx ρ)
  | d :: l, ρ => (h d ρ).bind fun ρ1 => (body ρ1).bind fun fl => match fl with
    | .nx ρ2 => forL h body l ρ2
    | .ct ρ2 => forL h body l ρ2
    | .bk ρ2 => some (.nx ρ2)
    | .rt d => some (.rt d)
def mFor (src : LM) (h : GM) (body : SM) : SM := fun ρ => (src ρ).bind fun l => forL h body l ρ
def rngD (lo : Int) (n : Nat) : List D := (List.range n).map fun (i : Nat) => D.int (lo + (i : Int))
theorem rngD_get {lo : Int} {n i : Nat} (h : i < n) : (rngD lo n)[i]? = some (.int (lo + (i : Int))) := by
  unfold rngD
  rw [List.getElem?_map, List.getElem?_range h]
  rfl
theorem rngD_len {lo : Int} {n : Nat} : (rngD lo n).length = n := by unfold rngD; simp
theorem drop_get {α : Type} {l : List α} {i : Nat} {x : α} (h : l[i]? = some x) : l.drop i = x :: l.drop (i + 1) := by
  obtain ⟨hi, e⟩ := List.getElem?_eq_some_iff.mp h
  rw [List.drop_eq_getElem_cons hi, e]
section
variable {X : Cx} {c : Str → Option Addr} {t iter a b e : Expr} {es : List Expr} {sts : List Stmt} {pos p : Pos} {h : GM} {body : SM} {ms : LM} {m : EM} {is : List Nat}
/-- between two turns: the rest of the items brings the end -/
def Pv (G : Ge) (O : Av) (H0 : Hp) (h : GM) (body : SM) (items : List D) (fl : Fl) (i : Nat) (σ : St) (H : Hp) : Prop := ∃ ρ f, Stt G O H ρ σ f ∧ Bs O H0 H f ∧ forL h body (items.drop i) ρ = some fl
theorem turn_of {G : Ge} {O : Av} {H0 : Hp} {items : List D} {fl : Fl} {E : Ends} (k : Fin G O H0 E fl) {i : Nat} {σ : St} {H : Hp} {d : D} {v : V} (hd : items[i]? = some d) (hp : Pv G O H0 h body items fl i σ H) (hv : ∀ f, Bs O H0 H f → Rp G (uni O f) H d v []) :
    tG G h is v σ H fun σ2 H2 => tS G body { E with nx := Pv G O H0 h body items fl (i + 1), ct := Pv G O H0 h body items fl (i + 1), bk := E.nx } σ2 H2 := by
  obtain ⟨ρ, f, S, B, e⟩ := hp
  rw [drop_get hd] at e
  unfold forL at e
  obtain ⟨ρ1, e1, e2⟩ := Option.bind_eq_some_iff.mp e
  obtain ⟨fl1, e3, e4⟩ := Option.bind_eq_some_iff.mp e2
  refine ⟨O, ρ, f, d, ρ1, S, hv f B, e1, fun σ2 S2 _ => ⟨O, H0, ρ1, f, fl1, S2, B, e3, ?_⟩⟩
  cases fl1 with
  | nx ρ2 => exact fun σ' H' f' S' B' => ⟨ρ2, f', S', B', e4⟩
  | ct ρ2 => exact fun σ' H' f' S' B' => ⟨ρ2, f', S', B', e4⟩
  | bk ρ2 => cases e4; exact k
  | rt d => cases e4; exact k
theorem end_of {G : Ge} {O : Av} {H0 : Hp} {items : List D} {fl : Fl} {E : Ends} (k : Fin G O H0 E fl) {n : Nat} (hn : items.length ≤ n) {σ : St} {H : Hp} (hp : Pv G O H0 h body items fl n σ H) : E.nx σ H := by
  obtain ⟨ρ, f, S, B, e⟩ := hp
  rw [List.drop_of_length_le hn] at e
  cases e
  exact k σ H f S B
def mRng1 (ms : LM) : LM := fun ρ => (ms ρ).bind fun ds => match ds with
  | [.int n] => if n < 2 ^ 62 ∧ -(2 ^ 62) ≤ n then some (rngD 0 n.toNat) else none
  | _ => none
def mRng2 (ms : LM) : LM := fun ρ => (ms ρ).bind fun ds => match ds with
  | [.int lo, .int n] => if (-(2 ^ 62) ≤ lo ∧ lo < 2 ^ 62) ∧ -(2 ^ 62) ≤ n ∧ n < 2 ^ 62 then some (rngD lo (n - lo).toNat) else none
  | _ => none
theorem psm_forR1 {px : Pos} (hN : PassesOwn (model X.prog X.w) X.A X.env X.xe) (hc : X.calm = true) (hg : Gl X "range") (hm : X.mg "range" = none) (ht : PGm X c t h is) (ha : PAa X c [a] ms) (hb : PSsm X c sts body)
    (hs : starEach [a] X.env = [(false, eval a X.env)] := by rfl) (hf : ∀ y, foldedSetIterable (.Call (.Name "range" px) [a] [] p) X.env y = pure y := by intro _; rfl) : PSm X c (.For t (.Call (.Name "range" px) [a] [] p) sts [] pos) (mFor (mRng1 ms) h body) := by
  refine PSimp (ps_for hN hc (pi_range1 hg hm ha hs) ht hb hf) fun E σ H q => ?_
  obtain ⟨O, H0, ρ, f, fl, S, B, e, k⟩ := q
  unfold mFor mRng1 at e
  obtain ⟨l, e1, e2⟩ := Option.bind_eq_some_iff.mp e
  obtain ⟨ds, e3, e4⟩ := Option.bind_eq_some_iff.mp e1
  refine ⟨O, ρ, f, ds, S, e3, fun vs H1 g s r w => ?_⟩
  split at e4
  · split at e4
    · rename_i n z
      cases e4
      obtain ⟨v, rfl, hv⟩ := of_one r
      refine ⟨n, by rw [of_int hv], z.2, z.1, for_range (lo := 0) (n := n.toNat) (Pv (gX X c) O H0 h body (rngD 0 n.toNat) fl) ⟨ρ, f, S.same s, B.same s, e2⟩ (fun i σ' H' hi hp => ?_) (fun σ' H' hp => end_of k (by rw [rngD_len]; exact Nat.le_refl _) hp)⟩
      exact turn_of k (rngD_get hi) hp fun f _ => rp_int
    · cases e4
  · cases e4
theorem psm_forR2 {px : Pos} (hN : PassesOwn (model X.prog X.w) X.A X.env X.xe) (hc : X.calm = true) (hg : Gl X "range") (hm : X.mg "range" = none) (ht : PGm X c t h is) (ha : PAa X c [a, b] ms) (hb : PSsm X c sts body)
    (hs : starEach [a, b] X.env = [(false, eval a X.env), (false, eval b X.env)] := by rfl) (hs2 : starEach [b] X.env = [(false, eval b X.env)] := by rfl) (hf : ∀ y, foldedSetIterable (.Call (.Name "range" px) [a, b] [] p) X.env y = pure y := by intro _; rfl) :
    PSm X c (.For t (.Call (.Name "range" px) [a, b] [] p) sts [] pos) (mFor (mRng2 ms) h body) := by
  refine PSimp (ps_for hN hc (pi_range2 hg hm ha hs hs2) ht hb hf) fun E σ H q => ?_
  obtain ⟨O, H0, ρ, f, fl, S, B, e, k⟩ := q
  unfold mFor mRng2 at e
  obtain ⟨l, e1, e2⟩ := Option.bind_eq_some_iff.mp e
  obtain ⟨ds, e3, e4⟩ := Option.bind_eq_some_iff.mp e1
  refine ⟨O, ρ, f, ds, S, e3, fun vs H1 g s r w => ?_⟩
  split at e4
  · split at e4
    · rename_i lo n z
      cases e4
      obtain ⟨v, w', f1, f2, rfl, hv, hw⟩ := of_two r
      refine ⟨lo, n, by rw [of_int hv, of_int hw], ⟨z.1.1, z.1.2, z.2.1, z.2.2⟩, for_range (lo := lo) (n := (n - lo).toNat) (Pv (gX X c) O H0 h body (rngD lo (n - lo).toNat) fl) ⟨ρ, f, S.same s, B.same s, e2⟩ (fun i σ' H' hi hp => ?_) (fun σ' H' hp => end_of k (by rw [rngD_len]; exact Nat.le_refl _) hp)⟩
      exact turn_of k (rngD_get hi) hp fun f _ => rp_int
    · cases e4
  · cases e4
/-! ### over a list or a tuple that is shared -/
def iSeq (K : PySem.W.Frag) (tl : TE) : TI := fun σ H R => tl σ H fun x H1 => ∃ a, x = .ref a ∧ (((∃ xs, SqL K H1 a xs) ∧ R (Itl K a) H1) ∨ ((∃ xs, SqT K H1 a xs) ∧ R (Itt K a) H1))
theorem pi_seq {l : Expr} {tl : TE} (hl : PE X l tl) : PI X t l (iSeq X.K tl) := by
  refine ⟨fun pins s σ H R I h => ?_⟩
  refine thn (hl.run pins s σ H _ I h) fun v s1 ⟨x, H1, I1, r1, q1⟩ => ?_
  obtain ⟨a, e, q⟩ := q1
  subst e
  cases r1
  rcases q with ⟨⟨xs, hq⟩, q⟩ | ⟨⟨xs, hq⟩, q⟩
  · obtain ⟨its, rv, p, hz⟩ := I1.list hq
    refine wpAny_pyIter_list p.isList ?_
    refine ⟨s1.heap.objs.size, [s1.heap.objs.size], _, _, H1, rfl, I1.kept (t' := s1.toks) fun b o e => Heap.get?_push_of_some _ e, turn_list a _, ⟨_, Heap.get?_push_size _ rfl, rfl, rfl⟩, fun b hb => ?_, q⟩
    have e : b = s1.heap.objs.size := by simpa using hb
    subst e
    exact I1.fpOk (Nat.le_refl _) (I1.hok.fresh (Nat.le_refl _))
  · obtain ⟨its, rv, p, hz⟩ := I1.tuple hq
    refine wpAny_pyIter_tuple (show s1.heap.IsTuple a its.toArray from p) ?_
    refine ⟨s1.heap.objs.size, [s1.heap.objs.size], _, _, H1, rfl, I1.kept (t' := s1.toks) fun b o e => Heap.get?_push_of_some _ e, turn_tuple a _, ⟨_, Heap.get?_push_size _ rfl, rfl, rfl⟩, fun b hb => ?_, q⟩
    have e : b = s1.heap.objs.size := by simpa using hb
    subst e
    exact I1.fpOk (Nat.le_refl _) (I1.hok.fresh (Nat.le_refl _))
/-- what is shared at one heap, seen from any later one -/
def wo (H : Hp) (f : List Addr) : Hp := fun a => if a ∈ f then none else H a
theorem wo_some {H : Hp} {f : List Addr} {a : Addr} {o : HO} (h : wo H f a = some o) : a ∉ f ∧ H a = some o := by
  unfold wo at h
  split at h
  · cases h
  · rename_i z; exact ⟨z, h⟩
theorem wo_of {H : Hp} {f : List Addr} {a : Addr} {o : HO} (z : a ∉ f) (h : H a = some o) : wo H f a = some o := by
  unfold wo
  rw [if_neg z]; exact h
theorem wo_in {H : Hp} {f : List Addr} {a : Addr} (z : a ∈ f) : wo H f a = none := by
  unfold wo
  rw [if_pos z]
theorem Bs.wo {G : Ge} {O : Av} {H0 H : Hp} {ρ : Rho} {σ : St} {f : List Addr} (S : Stt G O H ρ σ f) : Bs O (wo H f) H f :=
  ⟨fun a z => wo_in z, fun a o h => (wo_some h).2, fun a z => let ⟨o, ho⟩ := S.al a z; ⟨o, wo_of (fun q => S.dis a q z) ho⟩⟩
theorem Bs.back {O : Av} {H0 H H' : Hp} {f f' : List Addr} (B : Bs O H0 H f) (B' : Bs O (R.wo H f) H' f') : Bs O H0 H' f' :=
  have s : Same H0 (R.wo H f) := fun a o h => wo_of (fun z => by rw [B.fr a z] at h; cases h) (B.sm a o h)
  ⟨fun a z => s.free (B'.fr a z), s.trans B'.sm, B.al⟩
theorem Fin.back {G : Ge} {O : Av} {H0 H : Hp} {f : List Addr} {E : Ends} {fl : Fl} (B : Bs O H0 H f) (k : Fin G O H0 E fl) : Fin G O (R.wo H f) E fl := by
  have s : Same H0 (R.wo H f) := fun a o h => wo_of (fun z => by rw [B.fr a z] at h; cases h) (B.sm a o h)
  cases fl with
  | nx ρ => exact fun σ' H' f' S' B' => k σ' H' f' S' (B.back B')
  | bk ρ => exact fun σ' H' f' S' B' => k σ' H' f' S' (B.back B')
  | ct ρ => exact fun σ' H' f' S' B' => k σ' H' f' S' (B.back B')
  | rt d => exact fun v H' g s' r n w => k v H' g (s.trans s') r n fun a z => s.free (w a z)
theorem RpL.wo {G : Ge} {O : Av} {H : Hp} {f : List Addr} {l : List D} {vs : List V} (h : RpL G (uni O f) H l vs []) : RpL G O (R.wo H f) l vs [] :=
  RpL.tr (fun a o n e => ⟨wo_of (fun z => n (.inr z)) e, fun z => n (.inl z)⟩) l vs [] (fun a q => absurd q (by simp)) h
theorem RpL.ow {G : Ge} {O : Av} {H0 H : Hp} {f : List Addr} {l : List D} {vs : List V} (B : Bs O H0 H f) (h : RpL G O H0 l vs []) : RpL G (uni O f) H l vs [] :=
  RpL.tr (fun a o n e => ⟨B.sm a o e, fun z => z.elim n fun z => by rw [B.fr a z] at e; cases e⟩) l vs [] (fun a q => absurd q (by simp)) h
/-- the sequence stands, seen from any later heap -/
theorem seq_wo {G : Ge} {O : Av} {H : Hp} {f : List Addr} {d : D} {l : List D} {v : V} (e : sOf d = some l) (h : Rp G (uni O f) H d v []) : ∃ a vs, v = .ref a ∧ ((∀ H', Same (R.wo H f) H' → SqL G.K H' a vs) ∨ (∀ H', Same (R.wo H f) H' → SqT G.K H' a vs)) ∧ RpL G O (R.wo H f) l vs [] ∧ Same (R.wo H f) H := by
  have sw : Same (R.wo H f) H := fun a o h => (wo_some h).2
  have nat : ∀ {a : Addr} {u : HO}, NAt (uni O f) H false a u → ∀ H', Same (R.wo H f) H' → Rd H' a u := fun {a u} n H' s => by
    obtain ⟨n, r⟩ := n
    rcases r with r | ⟨o, r⟩
    · exact .inl (s a _ (wo_of (fun z => n (.inr z)) r))
    · exact .inr ⟨o, s a _ (wo_of (fun z => n (.inr z)) r)⟩
  cases d with
  | lst o m =>
    cases e
    unfold Rp at h
    obtain ⟨a, vs, g, rfl, ha, hl, hf⟩ := h
    cases o with
    | true => cases hf
    | false =>
      obtain ⟨rfl, _⟩ := hf
      exact ⟨a, vs, rfl, .inl fun H' s => .of (s a _ (wo_of (fun z => ha.1 (.inr z)) ha.2)), hl.wo, sw⟩
  | scr m =>
    cases e
    unfold Rp at h
    obtain ⟨a, vs, rfl, ha, hl, _⟩ := h
    refine ⟨a, vs, rfl, .inl fun H' s => ?_, hl.wo, sw⟩
    rcases ha with ha | (ha | ⟨_, ha⟩) | ha
    · exact .inl (nat ha H' s)
    · cases ha
    · cases ha
    · exact .inr ha
  | tup m =>
    cases e
    unfold Rp at h
    obtain ⟨a, vs, rfl, ha, hl⟩ := h
    refine ⟨a, vs, rfl, .inr fun H' s => ?_, hl.wo, sw⟩
    rcases ha with ha | (ha | ⟨_, ha⟩) | ha
    · exact .inl (nat ha H' s)
    · cases ha
    · cases ha
    · exact .inr ha
  | non => cases e
  | bl _ => cases e
  | int _ => cases e
  | str _ => cases e
  | obj _ _ _ _ => cases e
  | dK _ _ _ => cases e
  | dT _ _ _ => cases e
def mSeqOf (m : EM) : LM := fun ρ => (m ρ).bind fun d => if frz d = true then sOf d else none
theorem psm_forS (hN : PassesOwn (model X.prog X.w) X.A X.env X.xe) (hc : X.calm = true) (ht : PGm X c t h is) (ha : PEm X c iter m) (hb : PSsm X c sts body)
    (hf : ∀ y, foldedSetIterable iter X.env y = pure y := by intro _; rfl) : PSm X c (.For t iter sts [] pos) (mFor (mSeqOf m) h body) := by
  refine PSimp (ps_for hN hc (pi_seq ha) ht hb hf) fun E σ H q => ?_
  obtain ⟨O, H0, ρ, f, fl, S, B, e, k⟩ := q
  unfold mFor mSeqOf at e
  obtain ⟨l, e1, e2⟩ := Option.bind_eq_some_iff.mp e
  obtain ⟨d, e3, e4⟩ := Option.bind_eq_some_iff.mp e1
  split at e4
  · rename_i hz
    refine ⟨O, ρ, f, d, S, e3, fun v H1 g s r n w => ?_⟩
    have eg : g = [] := Rp.nil d v g hz r
    subst eg
    have S1 := S.same s
    have B1 := B.same s
    obtain ⟨a, vs, rfl, hsq, hl, sw⟩ := seq_wo e4 (r.mono fun a z => .inl z)
    have k' := k.back B1
    have BW : Bs O (R.wo H1 f) H1 f := Bs.wo (H0 := H0) S1
    have item : ∀ (i : Nat) (x : V), vs[i]? = some x → ∃ dd, l[i]? = some dd ∧ ∀ f' H', Bs O (R.wo H1 f) H' f' → Rp (gX X c) (uni O f') H' dd x [] := fun i x hx => by
      have hi : i < l.length := by rw [hl.len]; exact (List.getElem?_eq_some_iff.mp hx).1
      refine ⟨l[i], List.getElem?_eq_getElem hi, fun f' H' B' => ?_⟩
      obtain ⟨v', f1, hv', r', sub, _⟩ := (hl.ow B').get (List.getElem?_eq_getElem hi)
      rw [hx] at hv'
      cases hv'
      have : f1 = [] := List.eq_nil_iff_forall_not_mem.mpr fun a z => absurd (sub a z) (by simp)
      subst this
      exact r'
    refine ⟨a, rfl, ?_⟩
    rcases hsq with hsq | hsq
    · refine .inl ⟨⟨vs, hsq H1 sw⟩, for_list (xs := vs) (Pv (gX X c) O (R.wo H1 f) h body l fl) ⟨ρ, f, S1, BW, e2⟩ (fun i σ' H' _ ⟨_, _, _, B', _⟩ => hsq H' B'.sm) (fun i x σ' H' hx hp => ?_) (fun σ' H' hp => end_of k' (by rw [hl.len]; exact Nat.le_refl _) hp)⟩
      obtain ⟨dd, hd, hr⟩ := item i x hx
      exact turn_of k' hd hp fun f' B' => hr f' H' B'
    · refine .inr ⟨⟨vs, hsq H1 sw⟩, for_tup (xs := vs) (Pv (gX X c) O (R.wo H1 f) h body l fl) ⟨ρ, f, S1, BW, e2⟩ (fun i σ' H' _ ⟨_, _, _, B', _⟩ => hsq H' B'.sm) (fun i x σ' H' hx hp => ?_) (fun σ' H' hp => end_of k' (by rw [hl.len]; exact Nat.le_refl _) hp)⟩
      obtain ⟨dd, hd, hr⟩ := item i x hx
      exact turn_of k' hd hp fun f' B' => hr f' H' B'
  · cases e4
end
end R

set_option Elab.async false
set_option linter.all false
set_option maxRecDepth 100000
set_option maxHeartbeats 4000000
/-! RG: comprehensions, calls of defs, the promise of a def. -/
namespace R
open PySem L2

/-! ### comprehensions -/
def wipeO : List Nat → Rho → Option Rho
  | [], ρ => some ρ
  | v :: vs, ρ => (wipeO vs ρ).bind fun ρ' => if slotFrz ρ' v = true then some (ρ'.set v none) else none
def lcL (h : GM) (bt : BM) (m : EM) (ρ0 : Rho) : List D → Option (List D)
  | [] => some []
  | d :: l => (h d ρ0).bind fun ρ1 => (bt ρ1).bind fun b => if b = true then (m ρ1).bind fun y => (lcL h bt m ρ0 l).map (y :: ·) else lcL h bt m ρ0 l
def mLc (src : LM) (vs : List Nat) (h : GM) (bt : BM) (m : EM) : EM := fun ρ => (src ρ).bind fun l => (wipeO vs ρ).bind fun ρ0 => if l.length ≤ sizeLine then (lcL h bt m ρ0 l).map (.lst true) else none
def mYes : BM := fun _ => some true
theorem set_none_same {α : Type} {l : List α} {k : Nat} (h : ¬ k < l.length) (x : α) : l.set k x = l := List.set_eq_of_length_le (by omega)
theorem Stt.unset {G : Ge} {O : Av} {H : Hp} {ρ : Rho} {σ : St} {f : List Addr} (S : Stt G O H ρ σ f) {i : Nat} (z : slotFrz ρ i = true) : Stt G O H (ρ.set i none) (σ.set i none) f := by
  by_cases hi : i < ρ.length
  · obtain ⟨fa, fb, hv, ha, hb, ee⟩ := S.rp.cutF hi z
    refine ⟨?_, S.nd, S.dis, S.al⟩
    have q : RpS G (uni O f) H (none :: ρ.drop (i + 1)) (none :: σ.drop (i + 1)) fb := ⟨none, _, rfl, hb⟩
    have := ha.app q
    rw [← ee, ← set_cut ρ i _ hi, ← set_cut σ i _ hv] at this
    exact this
  · rw [set_none_same hi, set_none_same (by rw [← S.rp.len]; exact hi)]
    exact S
theorem Stt.wipe {G : Ge} {O : Av} {H : Hp} {σ : St} {f : List Addr} : ∀ {vs : List Nat} {ρ ρ0 : Rho}, Stt G O H ρ σ f → wipeO vs ρ = some ρ0 → Stt G O H ρ0 (L2.wipe σ vs) f
  | [], ρ, ρ0, S, e => by cases e; exact S
  | v :: vs, ρ, ρ0, S, e => by
    unfold wipeO at e
    obtain ⟨ρ', e1, e2⟩ := Option.bind_eq_some_iff.mp e
    split at e2
    · rename_i z
      cases e2
      exact (Stt.wipe S e1).unset z
    · cases e2
abbrev PTsm (X : Cx) (c : Str → Option Addr) (es : List Expr) (m : BM) : Prop := PTs X es (tT (gX X c) m)
section
variable {X : Cx} {c : Str → Option Addr} {t iter a b e elt : Expr} {es ifs : List Expr} {pos p : Pos} {h : GM} {bt : BM} {ms : LM} {m mi : EM} {is : List Nat}
theorem ptsm_nil : PTsm X c [] mYes := ⟨fun pins s σ H Q I q => by
  obtain ⟨O, ρ, f, b, S, e, k⟩ := q
  cases e
  exact pts_nil.run pins s σ H Q I (k H (Same.refl _))⟩
theorem ptsm_one (ht : PTm X c e bt) : PTsm X c [e] bt := pts_one ht
/-- between two turns of a comprehension -/
def Lv (G : Ge) (O : Av) (f : List Addr) (Hs : Hp) (dst : Addr) (h : GM) (bt : BM) (m : EM) (ρ0 : Rho) (items ys : List D) (i : Nat) (H : Hp) : Prop :=
  ∃ accD accV g, Same Hs H ∧ H dst = some (.lst accV) ∧ RpL G (uni (uni O f) (dst :: g)) H accD accV g ∧ (dst :: g).Nodup ∧ (∀ a ∈ g, Hs a = none) ∧ accD.length ≤ i ∧ (lcL h bt m ρ0 (items.drop i)).map (accD ++ ·) = some ys
theorem lturn {G : Ge} {O : Av} {Hs H : Hp} {ρ ρ0 : Rho} {σ : St} {f : List Addr} {dst : Addr} {items ys : List D} {vs : List Nat} {i : Nat} {d : D} {v : V} (S : Stt G O Hs ρ σ f) (hw : wipeO vs ρ = some ρ0) (hdst : Hs dst = none) (hd : items[i]? = some d) (hlen : items.length ≤ sizeLine)
    (hp : Lv G O f Hs dst h bt m ρ0 items ys i H) (hv : Rp G (uni O f) Hs d v []) (his : ∀ j ∈ is, j ∈ vs) :
    tG G h is v (wipe σ vs) H fun σ2 H2 => wipe σ2 vs = wipe σ vs ∧ tT G bt σ2 H2 fun b H3 => if b = true then tM G m σ2 H3 fun y H4 => ∃ acc, H4 dst = some (.lst acc) ∧ acc.length < sizeLine ∧ Lv G O f Hs dst h bt m ρ0 items ys (i + 1) (upd H4 dst (.lst (acc ++ [y]))) else Lv G O f Hs dst h bt m ρ0 items ys (i + 1) H3 := by
  obtain ⟨accD, accV, g, s, ha, hl, nd, fr, hle, e⟩ := hp
  rw [drop_get hd] at e
  obtain ⟨l1, e, eacc⟩ := Option.map_eq_some_iff.mp e
  unfold lcL at e
  obtain ⟨ρ1, e1, e⟩ := Option.bind_eq_some_iff.mp e
  obtain ⟨b, e2, e⟩ := Option.bind_eq_some_iff.mp e
  have hil : i < items.length := (List.getElem?_eq_some_iff.mp hd).1
  have mem : ∀ a ∈ g, ∃ o, H a = some o := fun a z => let ⟨u, e, _⟩ := RpL.mem _ _ _ hl a z; ⟨u, e⟩
  have SE := (S.wipe hw).ext (P := fun a => a = dst ∨ a ∈ g) s fun a z => by
    rcases z with rfl | z
    · exact ⟨hdst, _, ha⟩
    · exact ⟨fr a z, mem a z⟩
  have hv' : Rp G (uni (fun a => O a ∨ (a = dst ∨ a ∈ g)) f) H d v [] := Rp.tr (fun a o n e => ⟨s a o e, fun z => by
    rcases z with (z | (rfl | z)) | z
    · exact n (.inl z)
    · rw [hdst] at e; cases e
    · rw [fr a z] at e; cases e
    · exact n (.inr z)⟩) d v [] (fun a q => absurd q (by simp)) hv
  refine ⟨_, ρ0, f, d, ρ1, SE, hv', e1, fun σ2 S2 wp => ⟨wp vs his ▸ ?_, ?_⟩⟩
  · have : ∀ js : List Nat, wipe (wipe σ js) js = wipe σ js := by
      intro js
      have idem : ∀ (l : List Nat) (s : St), (∀ j ∈ l, j ∈ js) → wipe (wipe s l) js = wipe s js := by
        intro l
        induction l with
        | nil => intro s _; rfl
        | cons k l ih =>
          intro s hk
          have e : wipe s (k :: l) = (wipe s l).set k none := rfl
          rw [e, wipe_set (hk k List.mem_cons_self), ih s fun j hj => hk j (List.mem_cons_of_mem _ hj)]
      exact idem js σ fun j hj => hj
    exact this vs
  refine ⟨_, ρ1, f, b, S2, e2, fun H3 s3 => ?_⟩
  cases b with
  | false =>
    rw [if_neg Bool.false_ne_true] at e ⊢
    exact ⟨accD, accV, g, s.trans s3, s3 _ _ ha, hl.same s3, nd, fr, by omega, by rw [e]; exact congrArg some eacc⟩
  | true =>
    rw [if_pos rfl] at e ⊢
    obtain ⟨y, e3, e⟩ := Option.bind_eq_some_iff.mp e
    obtain ⟨l2, e4, e5⟩ := Option.map_eq_some_iff.mp e
    refine ⟨_, ρ1, f, y, S2.same s3, e3, fun yv H4 gy s4 ry ny wy => ?_⟩
    have s34 := s3.trans s4
    have ndst : dst ∉ gy := fun z => by
      have := wy dst z
      rw [s3 _ _ ha] at this; cases this
    refine ⟨accV, s34 _ _ ha, by rw [← hl.len]; omega, accD ++ [y], accV ++ [yv], g ++ gy, ?_, upd_same, ?_, ?_, ?_, ?_, ?_⟩
    · intro a o ho
      rw [upd_ne (show a ≠ dst from fun z => by rw [z, hdst] at ho; cases ho)]
      exact s34 a o (s a o ho)
    · refine RpL.app ?_ (RpL.one ?_)
      · refine RpL.tr (fun a o n e => ⟨?_, fun z => ?_⟩) accD accV g (fun a hag o ho => ?_) hl
        · rw [upd_ne (show a ≠ dst from fun z => n (.inr (by rw [z]; exact List.mem_cons_self)))]
          exact s34 a o e
        · rcases z with z | z
          · exact n (.inl z)
          · rcases List.mem_cons.mp z with z | z
            · exact n (.inr (by rw [z]; exact List.mem_cons_self))
            · rcases List.mem_append.mp z with z | z
              · exact n (.inr (List.mem_cons_of_mem _ z))
              · have := wy a z
                rw [s3 _ _ e] at this; cases this
        · rw [upd_ne (show a ≠ dst from fun z => (List.nodup_cons.mp nd).1 (by rw [← z]; exact hag))]
          exact s34 a o ho
      · refine Rp.upd (.inr List.mem_cons_self) ndst (ry.mono fun a z => ?_)
        rcases z with (z | z) | z
        · exact .inl (.inl (.inl z))
        · exact .inl (.inr z)
        · rcases List.mem_cons.mp z with z | z
          · exact .inl (.inl (.inr (.inl z)))
          · rcases List.mem_append.mp z with z | z
            · exact .inl (.inl (.inr (.inr z)))
            · exact .inr z
    · rw [List.nodup_cons] at nd ⊢
      refine ⟨fun z => (List.mem_append.mp z).elim nd.1 ndst, ?_⟩
      rw [List.nodup_append]
      refine ⟨nd.2, ny, fun x hx z hz => ?_⟩
      rintro rfl
      obtain ⟨o, ho⟩ := mem x hx
      have := wy x hz
      rw [s3 _ _ ho] at this; cases this
    · intro a z
      rcases List.mem_append.mp z with z | z
      · exact fr a z
      · exact (s.trans s3).free (wy a z)
    · rw [List.length_append, List.length_singleton]; omega
    · rw [e4]
      show some (accD ++ [y] ++ l2) = some ys
      rw [← eacc, ← e5, List.append_assoc]
      rfl
theorem lstart {G : Ge} {O : Av} {Hs : Hp} {f : List Addr} {ρ0 : Rho} {dst : Addr} {items ys : List D} (hdst : Hs dst = none) (e : lcL h bt m ρ0 items = some ys) : Lv G O f Hs dst h bt m ρ0 items ys 0 (upd Hs dst (.lst [])) :=
  ⟨[], [], [], same_new hdst, upd_same, RpL.nil', by simp, fun a q => absurd q (by simp), Nat.le_refl _, by rw [List.drop_zero, e]; rfl⟩
theorem lend {G : Ge} {O : Av} {H0 Hs H : Hp} {f : List Addr} {ρ0 : Rho} {dst : Addr} {items ys : List D} {n : Nat} {Q : VK} (hn : items.length ≤ n) (hdst : Hs dst = none) (s0 : Same H0 Hs) (hp : Lv G O f Hs dst h bt m ρ0 items ys n H)
    (k : ∀ v H' g, Same H0 H' → Rp G (uni (uni O f) g) H' (.lst true ys) v g → g.Nodup → (∀ a ∈ g, H0 a = none) → Q v H') : Q (.ref dst) H := by
  obtain ⟨accD, accV, g, s, ha, hl, nd, fr, hle, e⟩ := hp
  rw [List.drop_of_length_le hn] at e
  have e' : accD ++ [] = ys := by
    unfold lcL at e
    exact Option.some.inj e
  rw [List.append_nil] at e'
  subst e'
  refine k (.ref dst) H (dst :: g) (s0.trans s) ?_ nd fun a z => ?_
  · unfold Rp
    exact ⟨dst, accV, g, rfl, ha, hl, rfl⟩
  · rcases List.mem_cons.mp z with rfl | z
    · exact s0.free hdst
    · exact s0.free (fr a z)
def mSeqA (m : EM) : LM := fun ρ => (m ρ).bind fun d => (sOf d).bind fun l => if frzL l = true then some l else none
theorem use_lcS {vs : List Nat} (his : ∀ j ∈ is, j ∈ vs) {σ : St} {H : Hp} {Q : VK} (q : tM (gX X c) (mLc (mSeqA mi) vs h bt m) σ H Q) : tLc (iSeq X.K (tA (gX X c) mi)) (tG (gX X c) h is) (tT (gX X c) bt) (tM (gX X c) m) vs σ H Q := by
  obtain ⟨O, ρ, f, d, S, e, k⟩ := q
  unfold mLc mSeqA at e
  obtain ⟨l, e1, e2⟩ := Option.bind_eq_some_iff.mp e
  obtain ⟨dd, e3, e4⟩ := Option.bind_eq_some_iff.mp e1
  obtain ⟨l', e5, e6⟩ := Option.bind_eq_some_iff.mp e4
  obtain ⟨ρ0, e7, e8⟩ := Option.bind_eq_some_iff.mp e2
  split at e6
  · rename_i hz
    cases e6
    split at e8
    · rename_i hlen
      obtain ⟨ys, e9, e10⟩ := Option.map_eq_some_iff.mp e8
      subst e10
      refine ⟨O, ρ, f, dd, S, e3, fun v H1 g s r w => ?_⟩
      have S1 := S.same s
      obtain ⟨p, xs, g', rfl, hsq, hl, _⟩ := sOf_rp e5 r
      have hl' := frz_rp hz hl
      have item : ∀ (i : Nat) (x : V), xs[i]? = some x → ∃ dd, l[i]? = some dd ∧ Rp (gX X c) (uni O f) H1 dd x [] := fun i x hx => by
        have hi : i < l.length := by rw [hl.len]; exact (List.getElem?_eq_some_iff.mp hx).1
        refine ⟨l[i], List.getElem?_eq_getElem hi, ?_⟩
        obtain ⟨v', f1, hv', r', sub, _⟩ := hl'.get (List.getElem?_eq_getElem hi)
        rw [hx] at hv'
        cases hv'
        have : f1 = [] := List.eq_nil_iff_forall_not_mem.mpr fun a z => absurd (sub a z) (by simp)
        subst this
        exact r'
      have stL : ∀ H', Same H1 H' → ∀ {a : Addr} {u : List V}, SqL X.K H1 a u → SqL X.K H' a u := fun H' s' {a u} q => s'.seq q
      have stT : ∀ H', Same H1 H' → ∀ {a : Addr} {u : List V}, SqT X.K H1 a u → SqT X.K H' a u := fun H' s' {a u} q => by
        rcases q with (q | ⟨o, q⟩) | q
        · exact .inl (.inl (s' _ _ q))
        · exact .inl (.inr ⟨o, s' _ _ q⟩)
        · exact .inr q
      refine ⟨p, rfl, ?_⟩
      rcases hsq with hsq | hsq
      · refine .inl ⟨⟨xs, hsq⟩, fun dst hdst => lc_list (xs := xs) (Lv (gX X c) O f H1 dst h bt m ρ0 l ys) (lstart hdst e9) (fun i H' _ ⟨_, _, _, s', _⟩ => stL H' s' hsq) (fun i x H' hx hp => ?_) (fun H' hp => lend (by rw [hl.len]; exact Nat.le_refl _) hdst s hp k)⟩
        obtain ⟨d1, hd1, hr1⟩ := item i x hx
        exact lturn S1 e7 hdst hd1 hlen hp hr1 his
      · refine .inr ⟨⟨xs, hsq⟩, fun dst hdst => lc_tup (xs := xs) (Lv (gX X c) O f H1 dst h bt m ρ0 l ys) (lstart hdst e9) (fun i H' _ ⟨_, _, _, s', _⟩ => stT H' s' hsq) (fun i x H' hx hp => ?_) (fun H' hp => lend (by rw [hl.len]; exact Nat.le_refl _) hdst s hp k)⟩
        obtain ⟨d1, hd1, hr1⟩ := item i x hx
        exact lturn S1 e7 hdst hd1 hlen hp hr1 his
    · cases e8
  · cases e6
theorem use_lcR1 {vs : List Nat} (his : ∀ j ∈ is, j ∈ vs) {σ : St} {H : Hp} {Q : VK} (q : tM (gX X c) (mLc (mRng1 ms) vs h bt m) σ H Q) : tLc (iRng1 (tAs (gX X c) ms)) (tG (gX X c) h is) (tT (gX X c) bt) (tM (gX X c) m) vs σ H Q := by
  obtain ⟨O, ρ, f, d, S, e, k⟩ := q
  unfold mLc mRng1 at e
  obtain ⟨l, e1, e2⟩ := Option.bind_eq_some_iff.mp e
  obtain ⟨dd, e3, e4⟩ := Option.bind_eq_some_iff.mp e1
  obtain ⟨ρ0, e7, e8⟩ := Option.bind_eq_some_iff.mp e2
  split at e8
  · rename_i hlen
    obtain ⟨ys, e9, e10⟩ := Option.map_eq_some_iff.mp e8
    subst e10
    refine ⟨O, ρ, f, dd, S, e3, fun vs' H1 g s r w => ?_⟩
    split at e4
    · split at e4
      · rename_i n z
        cases e4
        obtain ⟨v, rfl, hv⟩ := of_one r
        refine ⟨n, by rw [of_int hv], z.2, z.1, fun dst hdst => lc_range (lo := 0) (n := n.toNat) (Lv (gX X c) O f H1 dst h bt m ρ0 (rngD 0 n.toNat) ys) (lstart hdst e9) (fun i H' hi hp => ?_) (fun H' hp => lend (by rw [rngD_len]; exact Nat.le_refl _) hdst s hp k)⟩
        exact lturn (S.same s) e7 hdst (rngD_get hi) hlen hp rp_int his
      · cases e4
    · cases e4
  · cases e8
theorem use_lcR2 {vs : List Nat} (his : ∀ j ∈ is, j ∈ vs) {σ : St} {H : Hp} {Q : VK} (q : tM (gX X c) (mLc (mRng2 ms) vs h bt m) σ H Q) : tLc (iRng2 (tAs (gX X c) ms)) (tG (gX X c) h is) (tT (gX X c) bt) (tM (gX X c) m) vs σ H Q := by
  obtain ⟨O, ρ, f, d, S, e, k⟩ := q
  unfold mLc mRng2 at e
  obtain ⟨l, e1, e2⟩ := Option.bind_eq_some_iff.mp e
  obtain ⟨dd, e3, e4⟩ := Option.bind_eq_some_iff.mp e1
  obtain ⟨ρ0, e7, e8⟩ := Option.bind_eq_some_iff.mp e2
  split at e8
  · rename_i hlen
    obtain ⟨ys, e9, e10⟩ := Option.map_eq_some_iff.mp e8
    subst e10
    refine ⟨O, ρ, f, dd, S, e3, fun vs' H1 g s r w => ?_⟩
    split at e4
    · split at e4
      · rename_i lo n z
        cases e4
        obtain ⟨v, v2, f1, f2, rfl, hv, hv2⟩ := of_two r
        refine ⟨lo, n, by rw [of_int hv, of_int hv2], ⟨z.1.1, z.1.2, z.2.1, z.2.2⟩, fun dst hdst => lc_range (lo := lo) (n := (n - lo).toNat) (Lv (gX X c) O f H1 dst h bt m ρ0 (rngD lo (n - lo).toNat) ys) (lstart hdst e9) (fun i H' hi hp => ?_) (fun H' hp => lend (by rw [rngD_len]; exact Nat.le_refl _) hdst s hp k)⟩
        exact lturn (S.same s) e7 hdst (rngD_get hi) hlen hp rp_int his
      · cases e4
    · cases e4
  · cases e8
/-- what a comprehension walks over -/
structure PSrc (X : Cx) (c : Str → Option Addr) (t iter : Expr) (src : LM) (wi : TI) : Prop where
  pi : PI X t iter wi
  use : ∀ {vs is : List Nat} {h : GM} {bt : BM} {m : EM}, (∀ j ∈ is, j ∈ vs) → ∀ {σ : St} {H : Hp} {Q : VK}, tM (gX X c) (mLc src vs h bt m) σ H Q → tLc wi (tG (gX X c) h is) (tT (gX X c) bt) (tM (gX X c) m) vs σ H Q
theorem src_seq (ha : PEa X c iter mi) : PSrc X c t iter (mSeqA mi) (iSeq X.K (tA (gX X c) mi)) := ⟨pi_seq ha, fun h => use_lcS h⟩
theorem src_r1 {px : Pos} (hg : Gl X "range") (hm : X.mg "range" = none) (ha : PAa X c [a] ms) (hs : starEach [a] X.env = [(false, eval a X.env)] := by rfl) : PSrc X c t (.Call (.Name "range" px) [a] [] p) (mRng1 ms) (iRng1 (tAs (gX X c) ms)) := ⟨pi_range1 hg hm ha hs, fun h => use_lcR1 h⟩
theorem src_r2 {px : Pos} (hg : Gl X "range") (hm : X.mg "range" = none) (ha : PAa X c [a, b] ms) (hs : starEach [a, b] X.env = [(false, eval a X.env), (false, eval b X.env)] := by rfl) (hs2 : starEach [b] X.env = [(false, eval b X.env)] := by rfl) :
    PSrc X c t (.Call (.Name "range" px) [a, b] [] p) (mRng2 ms) (iRng2 (tAs (gX X c) ms)) := ⟨pi_range2 hg hm ha hs hs2, fun h => use_lcR2 h⟩
theorem pm_lc {src : LM} {wi : TI} {scope : Scope} (own : List (Str × Nat)) (hc : X.calm = true) (hN : X.N.Nodup) (ok : BlkOk X.N X.env.scope scope own) (hi : PSrc X c t iter src wi)
    (hg : ∀ (s : Shared) (H : Hp) (C : Addr) (cl : List (Str × Addr)) (fp : List Addr), PGm (X.blk s H scope (compEnvC scope cl C X.env) fp) c t h is) (ht : ∀ (s : Shared) (H : Hp) (C : Addr) (cl : List (Str × Addr)) (fp : List Addr), PTsm (X.blk s H scope (compEnvC scope cl C X.env) fp) c ifs bt)
    (he : ∀ (s : Shared) (H : Hp) (C : Addr) (cl : List (Str × Addr)) (fp : List Addr), PEm (X.blk s H scope (compEnvC scope cl C X.env) fp) c elt m) (his : ∀ j ∈ is, j ∈ own.map (·.2) := by decide) (hs : ∀ x, foldedSetIterable iter X.env x = pure x := by intro _; rfl) :
    PEm X c (.ListComp elt [⟨t, iter, ifs, 0⟩] scope pos) (mLc src (own.map (·.2)) h bt m) := PEimp (pe_lc hc hN hi.pi ok hg ht he hs) fun _ _ _ q => hi.use his q
/-- name = [..] on one line, the name a local -/
theorem psm_setLc {i : Nat} {y : Str} {py spos : Pos} {src : LM} {wi : TI} {scope : Scope} (own : List (Str × Nat)) (hc : X.calm = true) (hN : X.N.Nodup) (ok : BlkOk X.N X.env.scope scope own) (hi : PSrc X c t iter src wi)
    (hg : ∀ (s : Shared) (H : Hp) (C : Addr) (cl : List (Str × Addr)) (fp : List Addr), PGm (X.blk s H scope (compEnvC scope cl C X.env) fp) c t h is) (ht : ∀ (s : Shared) (H : Hp) (C : Addr) (cl : List (Str × Addr)) (fp : List Addr), PTsm (X.blk s H scope (compEnvC scope cl C X.env) fp) c ifs bt)
    (he : ∀ (s : Shared) (H : Hp) (C : Addr) (cl : List (Str × Addr)) (fp : List Addr), PEm (X.blk s H scope (compEnvC scope cl C X.env) fp) c elt m) (hsw : swapsWith (.ListComp elt [⟨t, iter, ifs, 0⟩] scope pos) (some (.Name y py)) spos.line X.env = pure true)
    (hy : X.N[i]? = some y := by rfl) (hyl : X.env.scope.names.lookup y = some .local := by rfl) (his : ∀ j ∈ is, j ∈ own.map (·.2) := by decide) (hs : ∀ x, foldedSetIterable iter X.env x = pure x := by intro _; rfl) :
    PSm X c (.Assign [.Name y py] (.ListComp elt [⟨t, iter, ifs, 0⟩] scope pos) spos) (mSet i (mLc src (own.map (·.2)) h bt m)) := PSimp (ps_setLc hc hN hy hyl hsw hi.pi ok hg ht he hs) fun E σ H q => hi.use his (use_set q)
end

/-! ### calls -/
/-- the promise of a def whose meaning is g -/
def spF (K : PySem.W.Frag) (c : Str → Option Addr) (n : Nat) (g : List D → Option D) : Sp := fun vs H Q _ => ∃ O ds d, ds.length = n ∧ (∀ a, O a → ∃ o, H a = some o) ∧ RpL ⟨K, c⟩ O H ds vs [] ∧ g ds = some d ∧
  ∀ v H' fp, Same H H' → Rp ⟨K, c⟩ (uni O fp) H' d v fp → fp.Nodup → (∀ a ∈ fp, H a = none) → Q v H'
/-- a def of the text that keeps such a promise -/
structure Fn (P : Program) (w : World) (K : PySem.W.Frag) (mg : Str → Option Value) (base : Heap) (c : Str → Option Addr) (x : Str) (n k : Nat) (g : List D → Option D) : Prop where
  ex : ∃ (f : Addr) (fd : FuncData) (ps : List Str), mg x = some (.ref f) ∧ PySem.W.keepIn K (.ref f) = true ∧ Binds K fd ps [] ∧ FnOk P w K mg base CX0 k f fd ps (spF K c n g)
  len : ∀ ds, frzL ds = true → g ds ≠ none → ds.length = n
theorem Fn.mono {P : Program} {w : World} {K : PySem.W.Frag} {mg : Str → Option Value} {base : Heap} {c : Str → Option Addr} {x : Str} {n j k : Nat} {g : List D → Option D} (F : Fn P w K mg base c x n j g) (h : j ≤ k) : Fn P w K mg base c x n k g := by
  obtain ⟨f, fd, ps, h1, h2, h3, h4⟩ := F.ex
  exact ⟨⟨f, fd, ps, h1, h2, h3, h4.mono h⟩, F.len⟩
/-- all arguments shared -/
def mCall (g : List D → Option D) (ms : LM) : EM := fun ρ => (ms ρ).bind fun ds => if frzL ds = true then g ds else none
/-- arguments only looked at; the result holds tuples and its own new things alone -/
def mCallB (g : List D → Option D) (ms : LM) : EM := fun ρ => (ms ρ).bind fun ds => (g (fzL ds)).bind fun d => if tf d = true then some d else none
section
variable {X : Cx} {c : Str → Option Addr} {e : Expr} {es : List Expr} {pos p : Pos} {x : Str} {n k : Nat} {g : List D → Option D} {ms : LM}
theorem fzL_len : ∀ l : List D, (fzL l).length = l.length
  | [] => rfl
  | d :: l => by unfold fzL; rw [List.length_cons, List.length_cons, fzL_len l]
theorem pm_call (F : Fn X.prog X.w X.K X.mg X.base c x n k g) (hr : Room k X.A) (hg : Gl X x) (ha : PAa X c (e :: es) ms) (hdb : (x == ("__debug__" : Str)) = false := by decide)
    (he : starEach (e :: es) X.env = (false, eval e X.env) :: starEach es X.env := by rfl) (hpl : (backTo pos (starEach es X.env)).any (·.1) = false := by rfl) : PEm X c (.Call (.Name x p) (e :: es) [] pos) (mCall g ms) := by
  obtain ⟨f, fd, ps, h1, h2, h3, h4⟩ := F.ex
  refine PEimp (pe_call h4 hr hg h1 h2 h3 .nil pass0 ha hdb he hpl) fun σ H Q q => ?_
  obtain ⟨O, ρ, f, d, S, e, kk⟩ := q
  unfold mCall at e
  obtain ⟨ds, e1, e2⟩ := Option.bind_eq_some_iff.mp e
  split at e2
  · rename_i hz
    refine ⟨O, ρ, f, ds, S, e1, fun vs H1 g1 s r w => ?_⟩
    refine ⟨uni O f, ds, d, F.len ds hz (by rw [e2]; simp), (S.same s).alf, by rw [List.append_nil]; exact frz_rp hz r, e2, fun v H' fp s' rv nv wv => kk v H' fp (s.trans s') rv nv fun a z => s.free (wv a z)⟩
  · cases e2
theorem pm_callB_ (F : Fn X.prog X.w X.K X.mg X.base c x n k g) (hr : Room k X.A) (hg : Gl X x) (ha : PAa X c (e :: es) ms) (hdb : (x == ("__debug__" : Str)) = false := by decide)
    (he : starEach (e :: es) X.env = (false, eval e X.env) :: starEach es X.env := by rfl) (hpl : (backTo pos (starEach es X.env)).any (·.1) = false := by rfl) : PEm X c (.Call (.Name x p) (e :: es) [] pos) (mCallB g ms) := by
  obtain ⟨f, fd, ps, h1, h2, h3, h4⟩ := F.ex
  refine PEimp (pe_call h4 hr hg h1 h2 h3 .nil pass0 ha hdb he hpl) fun σ H Q q => ?_
  obtain ⟨O, ρ, f, d, S, e, kk⟩ := q
  unfold mCallB at e
  obtain ⟨ds, e1, e2⟩ := Option.bind_eq_some_iff.mp e
  obtain ⟨d', e3, e4⟩ := Option.bind_eq_some_iff.mp e2
  split at e4
  · rename_i ht
    cases e4
    refine ⟨O, ρ, f, ds, S, e1, fun vs H1 g1 s r w => ?_⟩
    have S1 := S.same s
    refine ⟨O, fzL ds, d, by rw [F.len (fzL ds) (frzL_fz ds) (by rw [e3]; simp)], S1.al, by rw [List.append_nil]; exact RpL.fz (fun a z => .inl z) ds vs g1 (S.gO w) r, e3, fun v H' fp s' rv nv wv => ?_⟩
    refine kk v H' fp (s.trans s') (Rp.up (fun a z => ?_) d v fp ht rv) nv fun a z => s.free (wv a z)
    rcases z with (z | z) | z
    · exact .inl (.inl z)
    · obtain ⟨u, hu, ou⟩ := S1.mem a z
      exact .inr ⟨u, s' _ _ hu, ou⟩
    · exact .inl (.inr z)
  · cases e4
end
/-! ### a def -/
def rtOf : Option Fl → Option D
  | some (.rt d) => some d
  | some (.nx _) => some .non
  | _ => none
/-- the meaning of a def: its body from its arguments -/
def run (N n : Nat) (m : SM) (ds : List D) : Option D := if ds.length = n then rtOf (m (ds.map some ++ List.replicate (N - n) none)) else none
theorem RpS_start {G : Ge} {O : Av} {H : Hp} : ∀ {ds : List D} {vs : List V} (k : Nat), RpL G O H ds vs [] → RpS G O H (ds.map some ++ List.replicate k none) (vs.map some ++ List.replicate k none) []
  | [], vs, k, h => by
    unfold RpL at h
    rw [h.1]
    show RpS G O H (List.replicate k none) (List.replicate k none) []
    induction k with
    | zero => exact ⟨rfl, rfl⟩
    | succ k ih => exact ⟨none, _, rfl, ih⟩
  | d :: l, vs, k, h => by
    obtain ⟨v, r, rfl, h1, h2⟩ := RpL_nil_cons h
    exact RpS.cons h1 (RpS_start k h2)
section
variable {P : Program} {w : World} {K : PySem.W.Frag} {mg : Str → Option Value} {base : Heap} {c : Str → Option Addr}
theorem fn_ok {x qual : Str} {st : Stmt} {f : Addr} {fd : FuncData} {N ps : List Str} {k : Nat} {m : SM} (F : Fun K x qual st f fd) (S : FnScope N ps (defScope st))
    (body : ∀ (cdv : Value) (A : Around) (outer : List Env) (s : Shared) (H : Hp) (E : XK), Room k (A.deeper (PyProof.Rows.envOfC qual (defScope st) s.heap.objs.size f cdv)) →
      PSsm (cxOf CX0 P w K mg base N qual (defScope st) f cdv A outer s H E).nox c (defBody st) m) : FnOk P w K mg base CX0 (k + 1) f fd ps (spF K c ps.length (run N.length ps.length m)) := by
  refine F.ok S (fun vs H Q E h => ?_) (fun cdv A outer s H vs Q E hr h => ?_)
  · obtain ⟨O, ds, d, h1, h2, h3, _⟩ := h
    rw [← h3.len, h1]
  · obtain ⟨O, ds, d, h1, h2, h3, h4, kk⟩ := h
    refine ⟨_, body cdv A outer s H E hr, ?_⟩
    unfold run at h4
    rw [if_pos h1] at h4
    unfold rtOf at h4
    have hS : Stt ⟨K, c⟩ O H (ds.map some ++ List.replicate (N.length - ps.length) none) (L2.start N vs) [] := by
      refine ⟨?_, List.nodup_nil, fun a z => absurd z (by simp), h2⟩
      unfold L2.start
      rw [← h3.len, h1]
      exact RpS.tr (fun a o n e => ⟨e, fun z => n (uni_nil a z)⟩) _ _ _ (fun a z => absurd z (by simp)) (RpS_start _ h3)
    have hB : Bs O H H [] := ⟨fun a z => absurd z (by simp), Same.refl _, h2⟩
    split at h4
    · rename_i d' e
      cases h4
      exact ⟨O, H, _, [], _, hS, hB, e, fun v H' g s' r n w => kk v H' g s' r n w⟩
    · rename_i ρ' e
      cases h4
      exact ⟨O, H, _, [], _, hS, hB, e, fun σ' H' f' S' B' => kk .non H' [] B'.sm rp_non List.nodup_nil fun a z => absurd z (by simp)⟩
    · cases h4
theorem run_len {N n : Nat} {m : SM} : ∀ ds, frzL ds = true → run N n m ds ≠ none → ds.length = n := fun ds _ h => by
  unfold run at h
  split at h
  · assumption
  · exact absurd rfl h
theorem fn_mk {x qual : Str} {st : Stmt} {f : Addr} {fd : FuncData} {N ps : List Str} {k : Nat} {m : SM} (F : Fun K x qual st f fd) (hm : mg x = some (.ref f)) (b : Binds K fd ps []) (S : FnScope N ps (defScope st))
    (body : ∀ (cdv : Value) (A : Around) (outer : List Env) (s : Shared) (H : Hp) (E : XK), Room k (A.deeper (PyProof.Rows.envOfC qual (defScope st) s.heap.objs.size f cdv)) →
      PSsm (cxOf CX0 P w K mg base N qual (defScope st) f cdv A outer s H E).nox c (defBody st) m) : Fn P w K mg base c x ps.length (k + 1) (run N.length ps.length m) :=
  ⟨⟨f, fd, ps, hm, F.kp, b, fn_ok F S body⟩, run_len⟩
/-- a def of which nothing is said -/
theorem fn_none {x qual : Str} {st : Stmt} {f : Addr} {fd : FuncData} {ps : List Str} {k : Nat} (F : Fun K x qual st f fd) (hm : mg x = some (.ref f)) (b : Binds K fd ps []) : Fn P w K mg base c x ps.length k (fun _ => none) :=
  ⟨⟨f, fd, ps, hm, F.kp, b, ⟨fun vs H Q E h => (by obtain ⟨O, ds, d, h1, h2, h3, h4, _⟩ := h; cases h4), fun A outer s H args us vs Q E hr he hb hv h => (by obtain ⟨O, ds, d, h1, h2, h3, h4, _⟩ := h; cases h4)⟩⟩, fun ds _ h => absurd rfl h⟩
end
end R

set_option Elab.async false
set_option linter.all false
set_option maxRecDepth 100000
set_option maxHeartbeats 4000000
/-! RH: built-ins by their names; methods of values. -/
namespace R
open PySem L2
theorem bb_len : bootBuiltins "len" = some (.builtin "len") := by decide +kernel
theorem bb_abs : bootBuiltins "abs" = some (.builtin "abs") := by decide +kernel
theorem bb_max : bootBuiltins "max" = some (.builtin "max") := by decide +kernel
theorem bb_min : bootBuiltins "min" = some (.builtin "min") := by decide +kernel
theorem bb_sum : bootBuiltins "sum" = some (.builtin "sum") := by decide +kernel
theorem bb_all : bootBuiltins "all" = some (.builtin "all") := by decide +kernel
theorem bb_any : bootBuiltins "any" = some (.builtin "any") := by decide +kernel
theorem bb_sorted : bootBuiltins "sorted" = some (.builtin "sorted") := by decide +kernel
theorem bb_isinstance : bootBuiltins "isinstance" = some (.builtin "isinstance") := by decide +kernel
theorem bb_int : bootBuiltins "int" = some (.type "int") := by decide +kernel
theorem bb_bool : bootBuiltins "bool" = some (.type "bool") := by decide +kernel
theorem bb_str : bootBuiltins "str" = some (.type "str") := by decide +kernel
theorem bb_list : bootBuiltins "list" = some (.type "list") := by decide +kernel
theorem bb_tuple : bootBuiltins "tuple" = some (.type "tuple") := by decide +kernel
section
variable {X : Cx} {c : Str → Option Addr} {a b e : Expr} {pos p p1 p2 : Pos} {m ma mb : EM} {ms : LM}
theorem pm_len (hm : X.mg "len" = none) (ha : PAa X c [e] ms) (hg : Gl X "len" := by rfl) (he : starEach [e] X.env = (false, eval e X.env) :: starEach [] X.env := by rfl) (hpl : (backTo pos (starEach [] X.env)).any (·.1) = false := by rfl) : PEm X c (.Call (.Name "len" p) [e] [] pos) (mL dLen ms) :=
  pm_callB (rc := rLenA X.K) call_len cal_len hg hm bb_len ha (by decide) (by decide) he hpl
theorem pm_absI (hm : X.mg "abs" = none) (ha : PAa X c [e] ms) (hg : Gl X "abs" := by rfl) (he : starEach [e] X.env = (false, eval e X.env) :: starEach [] X.env := by rfl) (hpl : (backTo pos (starEach [] X.env)).any (·.1) = false := by rfl) : PEm X c (.Call (.Name "abs" p) [e] [] pos) (mL dAbs ms) :=
  pm_callB (rc := rAbs) call_abs cal_abs hg hm bb_abs ha (by decide) (by decide) he hpl
theorem pm_sum (hc : X.calm = true) (hm : X.mg "sum" = none) (ha : PAa X c [e] ms) (hg : Gl X "sum" := by rfl) (he : starEach [e] X.env = (false, eval e X.env) :: starEach [] X.env := by rfl) (hpl : (backTo pos (starEach [] X.env)).any (·.1) = false := by rfl) : PEm X c (.Call (.Name "sum" p) [e] [] pos) (mL dSum ms) :=
  pm_callB (rc := rSum X.K) (cr_sum hc) cal_sum hg hm bb_sum ha (by decide) (by decide) he hpl
theorem pm_all (hc : X.calm = true) (hm : X.mg "all" = none) (ha : PAa X c [e] ms) (hg : Gl X "all" := by rfl) (he : starEach [e] X.env = (false, eval e X.env) :: starEach [] X.env := by rfl) (hpl : (backTo pos (starEach [] X.env)).any (·.1) = false := by rfl) : PEm X c (.Call (.Name "all" p) [e] [] pos) (mL dAll ms) :=
  pm_callB (rc := rAll X.K) (cr_all hc) cal_all hg hm bb_all ha (by decide) (by decide) he hpl
theorem pm_any (hc : X.calm = true) (hm : X.mg "any" = none) (ha : PAa X c [e] ms) (hg : Gl X "any" := by rfl) (he : starEach [e] X.env = (false, eval e X.env) :: starEach [] X.env := by rfl) (hpl : (backTo pos (starEach [] X.env)).any (·.1) = false := by rfl) : PEm X c (.Call (.Name "any" p) [e] [] pos) (mL dAny ms) :=
  pm_callB (rc := rAny X.K) (cr_any hc) cal_any hg hm bb_any ha (by decide) (by decide) he hpl
theorem pm_sorted (hm : X.mg "sorted" = none) (ha : PAa X c [e] ms) (hg : Gl X "sorted" := by rfl) (he : starEach [e] X.env = (false, eval e X.env) :: starEach [] X.env := by rfl) (hpl : (backTo pos (starEach [] X.env)).any (·.1) = false := by rfl) : PEm X c (.Call (.Name "sorted" p) [e] [] pos) (mL dSorted ms) :=
  pm_callB (rc := rSortedI X.K) cr_sortedI cal_sorted hg hm bb_sorted ha (by decide) (by decide) he hpl
theorem pm_max1 (hc : X.calm = true) (hm : X.mg "max" = none) (ha : PAa X c [e] ms) (hg : Gl X "max" := by rfl) (he : starEach [e] X.env = (false, eval e X.env) :: starEach [] X.env := by rfl) (hpl : (backTo pos (starEach [] X.env)).any (·.1) = false := by rfl) : PEm X c (.Call (.Name "max" p) [e] [] pos) (mL dMaxL ms) :=
  pm_callB (rc := rMax X.K) (cr_max hc) cal_maxL hg hm bb_max ha (by decide) (by decide) he hpl
theorem pm_min1 (hc : X.calm = true) (hm : X.mg "min" = none) (ha : PAa X c [e] ms) (hg : Gl X "min" := by rfl) (he : starEach [e] X.env = (false, eval e X.env) :: starEach [] X.env := by rfl) (hpl : (backTo pos (starEach [] X.env)).any (·.1) = false := by rfl) : PEm X c (.Call (.Name "min" p) [e] [] pos) (mL dMinL ms) :=
  pm_callB (rc := rMin X.K) (cr_min hc) cal_minL hg hm bb_min ha (by decide) (by decide) he hpl
theorem pm_max2 (hc : X.calm = true) (hm : X.mg "max" = none) (ha : PAa X c [a, b] ms) (hg : Gl X "max" := by rfl) (he : starEach [a, b] X.env = (false, eval a X.env) :: starEach [b] X.env := by rfl) (hpl : (backTo pos (starEach [b] X.env)).any (·.1) = false := by rfl) : PEm X c (.Call (.Name "max" p) [a, b] [] pos) (mL (dII hMax) ms) :=
  pm_callB (rc := rII hMax) (call_max2 hc) cal_II hg hm bb_max ha (by decide) (by decide) he hpl
theorem pm_min2 (hc : X.calm = true) (hm : X.mg "min" = none) (ha : PAa X c [a, b] ms) (hg : Gl X "min" := by rfl) (he : starEach [a, b] X.env = (false, eval a X.env) :: starEach [b] X.env := by rfl) (hpl : (backTo pos (starEach [b] X.env)).any (·.1) = false := by rfl) : PEm X c (.Call (.Name "min" p) [a, b] [] pos) (mL (dII hMin) ms) :=
  pm_callB (rc := rII hMin) (call_min2 hc) cal_II hg hm bb_min ha (by decide) (by decide) he hpl
theorem pm_intC (hm : X.mg "int" = none) (ha : PAa X c [e] ms) (hg : Gl X "int" := by rfl) (he : starEach [e] X.env = (false, eval e X.env) :: starEach [] X.env := by rfl) (hpl : (backTo pos (starEach [] X.env)).any (·.1) = false := by rfl) : PEm X c (.Call (.Name "int" p) [e] [] pos) (mL dInt ms) :=
  pm_callTy (rc := rInt1) call_int1 cal_int hg hm bb_int ha (by decide) (by decide) he hpl
theorem pm_strC (hm : X.mg "str" = none) (ha : PAa X c [e] ms) (hg : Gl X "str" := by rfl) (he : starEach [e] X.env = (false, eval e X.env) :: starEach [] X.env := by rfl) (hpl : (backTo pos (starEach [] X.env)).any (·.1) = false := by rfl) : PEm X c (.Call (.Name "str" p) [e] [] pos) (mL dStr ms) :=
  pm_callTy (rc := rStr) call_str_int cal_str hg hm bb_str ha (by decide) (by decide) he hpl
theorem pm_listC (hm : X.mg "list" = none) (ha : PAa X c [e] ms) (hg : Gl X "list" := by rfl) (he : starEach [e] X.env = (false, eval e X.env) :: starEach [] X.env := by rfl) (hpl : (backTo pos (starEach [] X.env)).any (·.1) = false := by rfl) : PEm X c (.Call (.Name "list" p) [e] [] pos) (mL dList ms) :=
  pm_callTy (rc := rListA X.K) call_list_of cal_list hg hm bb_list ha (by decide) (by decide) he hpl
theorem pm_tupleC (hm : X.mg "tuple" = none) (ha : PAa X c [e] ms) (hg : Gl X "tuple" := by rfl) (he : starEach [e] X.env = (false, eval e X.env) :: starEach [] X.env := by rfl) (hpl : (backTo pos (starEach [] X.env)).any (·.1) = false := by rfl) : PEm X c (.Call (.Name "tuple" p) [e] [] pos) (mL dTuple ms) :=
  pm_callTy (rc := rTupleA X.K) call_tuple_of cal_tuple hg hm bb_tuple ha (by decide) (by decide) he hpl
theorem pm_gcd {x : Str} (hm : X.mg x = some (.builtin "math.gcd")) (ha : PAa X c [a, b] ms) (hg : Gl X x := by rfl) (hdb : (x == ("__debug__" : Str)) = false := by decide) (he : starEach [a, b] X.env = (false, eval a X.env) :: starEach [b] X.env := by rfl) (hpl : (backTo pos (starEach [b] X.env)).any (·.1) = false := by rfl) : PEm X c (.Call (.Name x p) [a, b] [] pos) (mL (dII hGcd) ms) :=
  pm_callF (rc := rII hGcd) cr_gcd cal_II hg hm ha hdb he hpl
theorem pm_lcm {x : Str} (hm : X.mg x = some (.builtin "math.lcm")) (ha : PAa X c [a, b] ms) (hg : Gl X x := by rfl) (hdb : (x == ("__debug__" : Str)) = false := by decide) (he : starEach [a, b] X.env = (false, eval a X.env) :: starEach [b] X.env := by rfl) (hpl : (backTo pos (starEach [b] X.env)).any (·.1) = false := by rfl) : PEm X c (.Call (.Name x p) [a, b] [] pos) (mL dLcm ms) :=
  pm_callF (rc := rLcm) cr_lcm cal_lcm hg hm ha hdb he hpl
theorem pt_ty {T : String} {x : Str} (hm : X.mg x = none) (hv : bootBuiltins x = some (.type T)) (hg : Gl X x := by rfl) (hn : x ≠ "__name__" := by decide) (hd : (x == ("__debug__" : Str)) = false := by decide) : PE X (.Name x p) (tC (.ty T)) := pe_bltn hg hm hv rfl hn hd
theorem pm_isiB {T : String} (hm : X.mg "isinstance" = none) (ha : PEa X c a ma) (hb : PE X b (tC (.ty T))) (hg : Gl X "isinstance" := by rfl) (he : starEach [a, b] X.env = (false, eval a X.env) :: starEach [b] X.env := by rfl) (he2 : starEach [b] X.env = (false, eval b X.env) :: starEach [] X.env := by rfl)
    (hpl : (backTo pos (starEach [b] X.env)).any (·.1) = false := by rfl) : PEm X c (.Call (.Name "isinstance" p) [a, b] [] pos) (mL (dIsi T) (mCons ma mNil)) := pm_isi (x2 := "isinstance") hg hm bb_isinstance ha hb (by decide) (by decide) he he2 hpl

/-! ### methods of lists that only look -/
def flatD : D → Bool
  | .non => true
  | .bl _ => true
  | .int _ => true
  | .str _ => true
  | _ => false
theorem flat_rp {G : Ge} {O : Av} {H : Hp} {d : D} {v : V} {f : List Addr} (z : flatD d = true) (h : Rp G O H d v f) : flatV v = true := by
  unfold flatD at z
  split at z
  · rw [of_non h]; rfl
  · rw [of_bl h]; rfl
  · rw [of_int h]; rfl
  · rw [of_str h]; rfl
  · cases z
/-- == of flat data -/
def eqF : D → D → Bool
  | .non, .non => true
  | .bl a, .bl b => a == b
  | .bl a, .int b => (if a then 1 else 0) == b
  | .int a, .bl b => a == (if b then 1 else 0)
  | .int a, .int b => a == b
  | .str a, .str b => a == b
  | _, _ => false
theorem eqF_rp {G : Ge} {O : Av} {H : Hp} {d d2 : D} {v v2 : V} {f f2 : List Addr} (z : flatD d = true) (z2 : flatD d2 = true) (h : Rp G O H d v f) (h2 : Rp G O H d2 v2 f2) : eqV v v2 = eqF d d2 := by
  unfold flatD at z z2
  split at z <;> split at z2 <;> first
    | (cases z; done)
    | (cases z2; done)
    | (first | rw [of_non h] | rw [of_bl h] | rw [of_int h] | rw [of_str h]) <;> (first | rw [of_non h2] | rw [of_bl h2] | rw [of_int h2] | rw [of_str h2]) <;> rfl
theorem flats_rp {G : Ge} {O : Av} {H : Hp} : ∀ {l : List D} {vs : List V} {f : List Addr}, l.all flatD = true → RpL G O H l vs f → vs.all flatV = true
  | [], vs, f, z, h => by unfold RpL at h; rw [h.1]; rfl
  | d :: l, vs, f, z, h => by
    unfold RpL at h
    obtain ⟨v, r, f1, f2, rfl, h1, h2, _⟩ := h
    rw [List.all_cons, Bool.and_eq_true] at z ⊢
    exact ⟨flat_rp z.1 h1, flats_rp z.2 h2⟩
/-- the first place -/
def firstAt (y : D) : List D → Option Nat
  | [] => none
  | x :: l => if eqF x y = true then some 0 else (firstAt y l).map (· + 1)
theorem firstAt_some {y : D} : ∀ {l : List D} {j : Nat}, firstAt y l = some j → (∃ x, l[j]? = some x ∧ eqF x y = true) ∧ ∀ m x, m < j → l[m]? = some x → eqF x y = false
  | [], j, h => by cases h
  | x :: l, j, h => by
    unfold firstAt at h
    split at h
    · cases h
      exact ⟨⟨x, rfl, by assumption⟩, fun m _ hm => absurd hm (by omega)⟩
    · rename_i hx
      obtain ⟨k, e1, e2⟩ := Option.map_eq_some_iff.mp h
      subst e2
      obtain ⟨⟨z, h1, h2⟩, h3⟩ := firstAt_some e1
      refine ⟨⟨z, by simpa using h1, h2⟩, fun m w hm hw => ?_⟩
      cases m with
      | zero =>
        have : x = w := by simpa using hw
        subst this
        simpa using hx
      | succ m => exact h3 m w (by omega) (by simpa using hw)
def dIndex (x : D) (ys : List D) : Option D := match ys with
  | [y] => (lOf x).bind fun l => if flatD y = true ∧ l.all flatD = true then (firstAt y l).map fun (j : Nat) => D.int (j : Int) else none
  | _ => none
def mM (dop : D → List D → Option D) (m : EM) (ms : LM) : EM := fun ρ => (m ρ).bind fun d => (ms ρ).bind fun ds => dop d ds
theorem pm_index (ho : PEa X c a m) (he : PEa X c e ma) {apos : Pos} (hbase : attributeBase a "index" X.env (eval a X.env) = eval a X.env := by rfl)
    (hfew : ((backTo pos (starEach [e] X.env)).all (fun x => !x.1) && (backToKw pos (keywordEach [] X.env)).all (fun x => x.1.isSome)
      && decide ([e].length + ([] : List Keyword).length + (if ([] : List Keyword).isEmpty then 0 else 1) < 30)) = true := by rfl)
    (hline : (apos.endLine == pos.line) = true := by rfl) (hs : starEach [e] X.env = (false, eval e X.env) :: starEach [] X.env := by rfl) (hplain : (backTo pos (starEach [] X.env)).any (·.1) = false := by rfl) :
    PEm X c (.Call (.Attribute a "index" apos) [e] [] pos) (mM dIndex m (mCons ma mNil)) :=
  PEimp (pe_bm PySem.F.plainAttrs_list PySem.F.slot_list_index PySem.F.type_list_index mt_index ho (pa_cons he pa_nil hs) hbase hfew hline hs hplain) fun σ H Q h => by
  obtain ⟨O, ρ, f, d, S, e, k⟩ := h
  unfold mM mCons at e
  obtain ⟨dx, e1, e⟩ := Option.bind_eq_some_iff.mp e
  obtain ⟨ds, e2, e⟩ := Option.bind_eq_some_iff.mp e
  obtain ⟨dy, e3, e2⟩ := Option.bind_eq_some_iff.mp e2
  cases e2
  have e : (lOf dx).bind (fun l => if flatD dy = true ∧ l.all flatD = true then (firstAt dy l).map fun (j : Nat) => D.int (j : Int) else none) = some d := e
  obtain ⟨l, e4, e⟩ := Option.bind_eq_some_iff.mp e
  split at e
  · rename_i z
    obtain ⟨j, e5, e6⟩ := Option.map_eq_some_iff.mp e
    subst e6
    obtain ⟨⟨x, hx, hxe⟩, hnone⟩ := firstAt_some e5
    refine ⟨O, ρ, f, dx, S, e1, fun v H1 g s r w => ?_⟩
    obtain ⟨q, vs, g', rfl, hsq, hl, _⟩ := lOf_rp e4 r
    refine ⟨.inl ⟨rfl, vs, hsq⟩, O, ρ, f, dy, S.same s, e3, fun y H2 g2 s2 r2 w2 => ?_⟩
    have hl2 := hl.same s2
    obtain ⟨xv, g3, hxv, rx, _⟩ := hl2.get hx
    refine ⟨q, vs, y, j, xv, rfl, rfl, s2.seq hsq, flat_rp z.1 r2, flats_rp z.2 hl2, hxv, ?_, fun m zz hm hz => ?_, ?_⟩
    · rw [eqF_rp (List.all_eq_true.mp z.2 x (List.mem_of_getElem? hx)) z.1 rx r2]; exact hxe
    · have hml : m < l.length := by rw [hl2.len]; exact (List.getElem?_eq_some_iff.mp hz).1
      obtain ⟨mv, g4, hmv, rm, _⟩ := hl2.get (List.getElem?_eq_getElem hml)
      rw [hz] at hmv
      cases hmv
      rw [eqF_rp (List.all_eq_true.mp z.2 _ (List.getElem_mem hml)) z.1 rm r2]
      exact hnone m _ hm (List.getElem?_eq_getElem hml)
    · exact k (.int j) H2 [] (s.trans s2) rp_int List.nodup_nil fun a q => absurd q (by simp)
  · cases e
/-! ### x in xs -/
def dIn (x y : D) : Option D := (sOf y).bind fun l => if flatD x = true ∧ l.all flatD = true then some (.bl (l.any fun z => eqF z x)) else none
def dNotIn (x y : D) : Option D := (sOf y).bind fun l => if flatD x = true ∧ l.all flatD = true then some (.bl (!l.any fun z => eqF z x)) else none
theorem inV_rp {G : Ge} {O : Av} {H : Hp} {x : D} {v : V} {g : List Addr} (z : flatD x = true) (h : Rp G O H x v g) : ∀ {l : List D} {vs : List V} {f : List Addr}, l.all flatD = true → RpL G O H l vs f → inV v vs = l.any fun y => eqF y x
  | [], vs, f, _, h2 => by unfold RpL at h2; rw [h2.1]; rfl
  | d :: l, vs, f, z2, h2 => by
    unfold RpL at h2
    obtain ⟨w, r, f1, f2, rfl, h3, h4, _⟩ := h2
    rw [List.all_cons, Bool.and_eq_true] at z2
    have ih := inV_rp z h z2.2 h4
    unfold inV at ih ⊢
    rw [List.any_cons, List.any_cons, ih, eqF_rp z2.1 z h3 h]
theorem bin_in {G : Ge} : BinOk G (rIn G.K false) dIn := by
  intro O H x y dx dy d gx gy Q hO hx hy e k
  unfold dIn at e
  obtain ⟨l, e1, e2⟩ := Option.bind_eq_some_iff.mp e
  split at e2
  · rename_i z
    cases e2
    obtain ⟨q, vs, g', rfl, hsq, hl, _⟩ := sOf_rp e1 hy
    refine ⟨q, vs, rfl, hsq, flat_rp z.1 hx, flats_rp z.2 hl, ?_⟩
    rw [inV_rp z.1 hx z.2 hl]
    exact k.bl
  · cases e2
theorem bin_notIn {G : Ge} : BinOk G (rIn G.K true) dNotIn := by
  intro O H x y dx dy d gx gy Q hO hx hy e k
  unfold dNotIn at e
  obtain ⟨l, e1, e2⟩ := Option.bind_eq_some_iff.mp e
  split at e2
  · rename_i z
    cases e2
    obtain ⟨q, vs, g', rfl, hsq, hl, _⟩ := sOf_rp e1 hy
    refine ⟨q, vs, rfl, hsq, flat_rp z.1 hx, flats_rp z.2 hl, ?_⟩
    rw [inV_rp z.1 hx z.2 hl]
    exact k.bl
  · cases e2
theorem pm_in (ha : PEa X c a ma) (hb : PEa X c b mb) (hm : behindInMarks .In b = false := by first | rfl | (with_unfolding_all rfl)) : PEm X c (.Compare a [.In] [b] pos) (mB dIn ma mb) := pm_cmp op_in_seq bin_in ha hb hm
theorem pm_notIn (ha : PEa X c a ma) (hb : PEa X c b mb) (hm : behindInMarks .NotIn b = false := by first | rfl | (with_unfolding_all rfl)) : PEm X c (.Compare a [.NotIn] [b] pos) (mB dNotIn ma mb) := pm_cmp op_notIn_seq bin_notIn ha hb hm
theorem ptm_in (ha : PEa X c a ma) (hb : PEa X c b mb) (hm : behindInMarks .In b = false := by first | rfl | (with_unfolding_all rfl)) : PTm X c (.Compare a [.In] [b] pos) (mT (mB dIn ma mb)) := pt_cmp op_in_seq bin_in ha hb hm
theorem ptm_notIn (ha : PEa X c a ma) (hb : PEa X c b mb) (hm : behindInMarks .NotIn b = false := by first | rfl | (with_unfolding_all rfl)) : PTm X c (.Compare a [.NotIn] [b] pos) (mT (mB dNotIn ma mb)) := pt_cmp op_notIn_seq bin_notIn ha hb hm
end
end R

set_option Elab.async false
set_option linter.all false
set_option maxRecDepth 100000
set_option maxHeartbeats 4000000
/-! RI: the end: what the top has left, the law's own promise. -/
namespace R
open PySem L2
def spLaw (K : PySem.W.Frag) : Sp := fun vs H Q _ => ∃ (a : Addr) (ns : List Int), vs = [.ref a] ∧ SqL K H a (ns.map V.int) ∧ ns.length ≤ 63 ∧ ∀ H', Q (.bl true) H'
theorem law_imp {K : PySem.W.Frag} {c : Str → Option Addr} {g : List D → Option D} (hg : ∀ ns : List Int, ns.length ≤ 63 → g [.scr (ns.map D.int)] = some (.bl true)) (vs : List V) (H : Hp) (Q : VK) (E : XK) (h : spLaw K vs H Q E) : spF K c 1 g vs H Q E := by
  obtain ⟨a, ns, rfl, hS, hl, k⟩ := h
  refine ⟨fun _ => False, [.scr (ns.map D.int)], .bl true, rfl, fun a z => z.elim, RpL.one ?_, hg ns hl, fun v H' fp s r n w => ?_⟩
  · unfold Rp
    refine ⟨a, ns.map V.int, rfl, ?_, rp_ints ns, rfl⟩
    rcases hS with h | h
    · exact .inl ⟨fun z => z, h⟩
    · exact .inr (.inr h)
  · rw [of_bl r]; exact k H'
/-- a def of the top's -/
theorem df_mk {K : PySem.W.Frag} {h : Heap} {mg : Str → Option Value} {x : Str} {st : Stmt} {f : Addr} {oc : Value} {od an : Option Addr} {osl : Array (Option Value)} {kV doc pm cdv ct : Value} (X : K.In h) (G : h.Ns mainGlobals mg)
    (a : PySem.W.nsIn K mainGlobals x = some (some (.ref f))) (l : K.lookup f = some ⟨oc, od, .func (PySem.W.fnOf x x (defArgs st) (defBody st) (defScope st) .none kV doc pm an cdv ct), osl⟩)
    (c : PySem.W.codeIn K cdv x = true) (k : PySem.W.keepIn K (.ref f) = true) : ∃ f fd, Fun K x x st f fd ∧ mg x = some (.ref f) := ⟨_, _, fun_mk l c k, PySem.W.mg_of X G a⟩
end R

set_option Elab.async false
set_option linter.all false
set_option maxRecDepth 100000
set_option maxHeartbeats 4000000
/-! RP: how meanings are computed (simp lemmas). -/
namespace R
open PySem L2
/-! ### flow: steps that the kernel need not unfold (a test on a number that is not known would be counted down) -/
@[simp high] theorem bindS {α β : Type} {a : α} {f : α → Option β} : (some a).bind f = f a := (rfl)
@[simp high] theorem mapS {α β : Type} {a : α} {f : α → β} : (some a).map f = some (f a) := (rfl)
def seqK (m2 : SM) : Fl → Option Fl
  | .nx ρ' => m2 ρ'
  | .rt d => some (.rt d)
  | .bk ρ' => some (.bk ρ')
  | .ct ρ' => some (.ct ρ')
@[simp] theorem mSeq_def {m1 m2 : SM} {ρ : Rho} : mSeq m1 m2 ρ = (m1 ρ).bind (seqK m2) := by
  unfold mSeq
  congr 1
@[simp] theorem seqK_nx {m2 : SM} {ρ : Rho} : seqK m2 (.nx ρ) = m2 ρ := (rfl)
@[simp] theorem seqK_rt {m2 : SM} {d : D} : seqK m2 (.rt d) = some (.rt d) := (rfl)
@[simp] theorem seqK_bk {m2 : SM} {ρ : Rho} : seqK m2 (.bk ρ) = some (.bk ρ) := (rfl)
@[simp] theorem seqK_ct {m2 : SM} {ρ : Rho} : seqK m2 (.ct ρ) = some (.ct ρ) := (rfl)
@[simp] theorem mNx_def {ρ : Rho} : mNx ρ = some (.nx ρ) := (rfl)
@[simp] theorem mBk_def {ρ : Rho} : mBk ρ = some (.bk ρ) := (rfl)
@[simp] theorem mCt_def {ρ : Rho} : mCt ρ = some (.ct ρ) := (rfl)
@[simp] theorem mNo__def {ρ : Rho} : mNo_ ρ = none := (rfl)
def setK (i : Nat) (ρ : Rho) (d : D) : Option Fl := if i < ρ.length then some (.nx (ρ.set i (some d))) else none
@[simp] theorem mSet_def {i : Nat} {m : EM} {ρ : Rho} : mSet i m ρ = (m ρ).bind (setK i ρ) := (rfl)
@[simp] theorem setK_def {i : Nat} {ρ : Rho} {d : D} : setK i ρ d = if i < ρ.length then some (.nx (ρ.set i (some d))) else none := (rfl)
@[simp] theorem mRet_def {m : EM} {ρ : Rho} : mRet m ρ = (m ρ).map .rt := (rfl)
@[simp] theorem mDrop_def {m : EM} {ρ : Rho} : mDrop m ρ = (m ρ).bind fun _ => some (.nx ρ) := (rfl)
def iteO (b : Option Bool) (m1 m2 : SM) (ρ : Rho) : Option Fl := b.bind fun b => if b = true then m1 ρ else m2 ρ
@[simp] theorem mIte_def {bt : BM} {m1 m2 : SM} {ρ : Rho} : mIte bt m1 m2 ρ = iteO (bt ρ) m1 m2 ρ := (rfl)
@[simp] theorem iteO_true {m1 m2 : SM} {ρ : Rho} : iteO (some true) m1 m2 ρ = m1 ρ := (rfl)
@[simp] theorem iteO_false {m1 m2 : SM} {ρ : Rho} : iteO (some false) m1 m2 ρ = m2 ρ := (rfl)
theorem iteO_some {b : Bool} {m1 m2 : SM} {ρ : Rho} : iteO (some b) m1 m2 ρ = if b = true then m1 ρ else m2 ρ := rfl
@[simp] theorem mAug_def {i : Nat} {h : Int → Int → Int} {m : EM} {ρ : Rho} : mAug i h m ρ = (mV i ρ).bind fun x => (asInt x).bind fun n => (m ρ).bind fun d => (asInt d).bind fun k => if i < ρ.length then some (.nx (ρ.set i (some (.int (h n k))))) else none := (rfl)
@[simp] theorem mFrz_def {i : Nat} {m : SM} {ρ : Rho} : mFrz i m ρ = (mV i ρ).bind fun d => m (ρ.set i (some (fz d))) := (rfl)
@[simp] theorem mPar_def {i j : Nat} {m1 m2 : EM} {ρ : Rho} : mPar i j m1 m2 ρ = (m1 ρ).bind fun d1 => (m2 ρ).bind fun d2 => if frz d1 = true ∧ frz d2 = true ∧ i < ρ.length ∧ j < ρ.length then some (.nx ((ρ.set i (some d1)).set j (some d2))) else none := (rfl)
@[simp] theorem mParO_def {is : List Nat} {ms : LM} {ρ : Rho} : mParO is ms ρ = (ms ρ).bind fun ds => (setAll is ds ρ).map .nx := (rfl)
@[simp] theorem mAsgO_def {is : List Nat} {m : EM} {ρ : Rho} : mAsgO is m ρ = (m ρ).bind fun d => match d with | .tup ds => (setAll is ds ρ).map .nx | _ => none := (rfl)
@[simp] theorem setAll_nil {ρ : Rho} : setAll [] [] ρ = some ρ := (rfl)
@[simp] theorem setAll_cons {i : Nat} {is : List Nat} {d : D} {ds : List D} {ρ : Rho} : setAll (i :: is) (d :: ds) ρ = if i < ρ.length then setAll is ds (ρ.set i (some d)) else none := (rfl)
@[simp] theorem mAsg_def {h : GM} {m : EM} {ρ : Rho} : mAsg h m ρ = (m ρ).bind fun d => if frz d = true then (h d ρ).map .nx else none := (rfl)
@[simp] theorem gN_def {i : Nat} {d : D} {ρ : Rho} : gN i d ρ = if i < ρ.length ∧ slotFrz ρ i = true then some (ρ.set i (some d)) else none := (rfl)
@[simp] theorem gsN_def {ρ : Rho} : gsN [] ρ = some ρ := (rfl)
@[simp] theorem gsC_def {h : GM} {hs : GsM} {d : D} {l : List D} {ρ : Rho} : gsC h hs (d :: l) ρ = (h d ρ).bind (hs l) := (rfl)
@[simp] theorem gT_def {n : Nat} {hs : GsM} {l : List D} {ρ : Rho} : gT n hs (.tup l) ρ = if l.length = n then hs l ρ else none := (rfl)
def jk : Option D → Bool
  | none => true
  | some d => frz d
@[simp] theorem jk_none : jk none = true := (rfl)
@[simp] theorem jk_some {d : D} : jk (some d) = frz d := (rfl)
@[simp] theorem slotFrz_def {ρ : Rho} {i : Nat} : slotFrz ρ i = jk (ρ.getD i none) := by unfold slotFrz jk; rfl
/-! ### values -/
@[simp] theorem mV_def {i : Nat} {ρ : Rho} : mV i ρ = ρ.getD i none := (rfl)
@[simp] theorem mC_def {d : D} {ρ : Rho} : mC d ρ = some d := (rfl)
def pO (d : D) : Option D := if frz d = true then some d else none
@[simp] theorem mP_def {m : EM} {ρ : Rho} : mP m ρ = (m ρ).bind pO := (rfl)
@[simp] theorem pO_def {d : D} : pO d = if frz d = true then some d else none := (rfl)
@[simp] theorem mF_def {m : EM} {ρ : Rho} : mF m ρ = (m ρ).map fz := (rfl)
def op2 (dop : D → D → Option D) (a b : Option D) : Option D := a.bind fun x => b.bind fun y => dop x y
@[simp] theorem mB_def {dop : D → D → Option D} {ma mb : EM} {ρ : Rho} : mB dop ma mb ρ = op2 dop (ma ρ) (mb ρ) := (rfl)
@[simp] theorem op2_some {dop : D → D → Option D} {x y : D} : op2 dop (some x) (some y) = dop x y := (rfl)
@[simp] theorem mU_def {dop : D → Option D} {m : EM} {ρ : Rho} : mU dop m ρ = (m ρ).bind dop := (rfl)
@[simp] theorem mL_def {dop : List D → Option D} {m : LM} {ρ : Rho} : mL dop m ρ = (m ρ).bind dop := (rfl)
def consO (a : Option D) (l : Option (List D)) : Option (List D) := a.bind fun d => l.bind fun ds => some (d :: ds)
@[simp] theorem mCons_def {m : EM} {ms : LM} {ρ : Rho} : mCons m ms ρ = consO (m ρ) (ms ρ) := (rfl)
@[simp] theorem consO_some {d : D} {ds : List D} : consO (some d) (some ds) = some (d :: ds) := (rfl)
@[simp] theorem mNil_def {ρ : Rho} : mNil ρ = some [] := (rfl)
def tupO (ds : List D) : Option D := if ds.length ≤ sizeLine then some (.tup ds) else none
def lstO (ds : List D) : Option D := if ds.length ≤ sizeLine then some (.lst true ds) else none
@[simp] theorem mTup_def {ms : LM} {ρ : Rho} : mTup ms ρ = (ms ρ).bind tupO := (rfl)
@[simp] theorem mLst_def {ms : LM} {ρ : Rho} : mLst ms ρ = (ms ρ).bind lstO := (rfl)
theorem few {n : Nat} (h : n ≤ 100000 := by simp) : n ≤ sizeLine := Nat.le_trans h (by decide)
@[simp] theorem tupO_0 : tupO [] = some (.tup []) := by unfold tupO; rw [if_pos (few)]
@[simp] theorem tupO_1 {a : D} : tupO [a] = some (.tup [a]) := by unfold tupO; rw [if_pos (few)]
@[simp] theorem tupO_2 {a b : D} : tupO [a, b] = some (.tup [a, b]) := by unfold tupO; rw [if_pos (few)]
@[simp] theorem tupO_3 {a b c : D} : tupO [a, b, c] = some (.tup [a, b, c]) := by unfold tupO; rw [if_pos (few)]
@[simp] theorem tupO_4 {a b c d : D} : tupO [a, b, c, d] = some (.tup [a, b, c, d]) := by unfold tupO; rw [if_pos (few)]
@[simp] theorem lstO_0 : lstO [] = some (.lst true []) := by unfold lstO; rw [if_pos (few)]
@[simp] theorem lstO_1 {a : D} : lstO [a] = some (.lst true [a]) := by unfold lstO; rw [if_pos (few)]
@[simp] theorem lstO_2 {a b : D} : lstO [a, b] = some (.lst true [a, b]) := by unfold lstO; rw [if_pos (few)]
@[simp] theorem lstO_3 {a b c : D} : lstO [a, b, c] = some (.lst true [a, b, c]) := by unfold lstO; rw [if_pos (few)]
@[simp] theorem lstO_4 {a b c d : D} : lstO [a, b, c, d] = some (.lst true [a, b, c, d]) := by unfold lstO; rw [if_pos (few)]
@[simp] theorem lstO_6 {a b c d e f : D} : lstO [a, b, c, d, e, f] = some (.lst true [a, b, c, d, e, f]) := by unfold lstO; rw [if_pos (few)]
@[simp] theorem lstO_7 {a b c d e f g : D} : lstO [a, b, c, d, e, f, g] = some (.lst true [a, b, c, d, e, f, g]) := by unfold lstO; rw [if_pos (few)]
@[simp] theorem mM_def {dop : D → List D → Option D} {m : EM} {ms : LM} {ρ : Rho} : mM dop m ms ρ = (m ρ).bind fun d => (ms ρ).bind fun ds => dop d ds := (rfl)
@[simp] theorem mSl_def {m : EM} {lo hi : OM} {ρ : Rho} : mSl m lo hi ρ = (m ρ).bind fun d => (lo ρ).bind fun l => (hi ρ).bind fun h => dSl d l h := (rfl)
@[simp] theorem mNo_def {ρ : Rho} : mNo ρ = some none := (rfl)
@[simp] theorem mSo_def {m : EM} {ρ : Rho} : mSo m ρ = (m ρ).bind fun d => (asInt d).map some := (rfl)
@[simp] theorem asInt_def {i : Int} : asInt (.int i) = some i := (rfl)
@[simp] theorem asB_def {b : Bool} : asB (.bl b) = some b := (rfl)
/-! ### tests -/
@[simp] theorem mT_def {m : EM} {ρ : Rho} : mT m ρ = (m ρ).bind asB := (rfl)
@[simp] theorem mTr_def {m : EM} {ρ : Rho} : mTr m ρ = (m ρ).bind dTru := (rfl)
@[simp] theorem mYes_def {ρ : Rho} : mYes ρ = some true := (rfl)
def andO (a : Option Bool) (b2 : BM) (ρ : Rho) : Option Bool := a.bind fun x => if x = true then b2 ρ else some false
def orO (a : Option Bool) (b2 : BM) (ρ : Rho) : Option Bool := a.bind fun x => if x = true then some true else b2 ρ
@[simp] theorem mAndB_def {b1 b2 : BM} {ρ : Rho} : mAndB b1 b2 ρ = andO (b1 ρ) b2 ρ := (rfl)
@[simp] theorem mOrB_def {b1 b2 : BM} {ρ : Rho} : mOrB b1 b2 ρ = orO (b1 ρ) b2 ρ := (rfl)
@[simp] theorem andO_true {b2 : BM} {ρ : Rho} : andO (some true) b2 ρ = b2 ρ := (rfl)
@[simp] theorem andO_false {b2 : BM} {ρ : Rho} : andO (some false) b2 ρ = some false := (rfl)
@[simp] theorem orO_true {b2 : BM} {ρ : Rho} : orO (some true) b2 ρ = some true := (rfl)
@[simp] theorem orO_false {b2 : BM} {ρ : Rho} : orO (some false) b2 ρ = b2 ρ := (rfl)
theorem andO_some {a : Bool} {b2 : BM} {ρ : Rho} : andO (some a) b2 ρ = if a = true then b2 ρ else some false := rfl
theorem orO_some {a : Bool} {b2 : BM} {ρ : Rho} : orO (some a) b2 ρ = if a = true then some true else b2 ρ := rfl
@[simp] theorem mNotB_def {b1 : BM} {ρ : Rho} : mNotB b1 ρ = (b1 ρ).map (!·) := (rfl)
@[simp] theorem mChain_def {dop dop' : D → D → Option D} {ma mb mc : EM} {ρ : Rho} : mChain dop dop' ma mb mc ρ = (ma ρ).bind fun x => (mb ρ).bind fun y => (dop x y).bind fun z => (asB z).bind fun k => if k = true then (mc ρ).bind fun w => dop' y w else some (.bl false) := (rfl)
@[simp] theorem mIf_def {bt : BM} {ma mb : EM} {ρ : Rho} : mIf bt ma mb ρ = (bt ρ).bind fun x => if x = true then ma ρ else mb ρ := (rfl)
def andV (a : Option D) (mb : EM) (ρ : Rho) : Option D := a.bind fun x => (asB x).bind fun k => if k = true then mb ρ else some (.bl false)
def orV (a : Option D) (mb : EM) (ρ : Rho) : Option D := a.bind fun x => (asB x).bind fun k => if k = true then some (.bl true) else mb ρ
@[simp] theorem mAndV_def {ma mb : EM} {ρ : Rho} : mAndV ma mb ρ = andV (ma ρ) mb ρ := (rfl)
@[simp] theorem mOrV_def {ma mb : EM} {ρ : Rho} : mOrV ma mb ρ = orV (ma ρ) mb ρ := (rfl)
@[simp] theorem andV_true {mb : EM} {ρ : Rho} : andV (some (.bl true)) mb ρ = mb ρ := (rfl)
@[simp] theorem andV_false {mb : EM} {ρ : Rho} : andV (some (.bl false)) mb ρ = some (.bl false) := (rfl)
@[simp] theorem orV_true {mb : EM} {ρ : Rho} : orV (some (.bl true)) mb ρ = some (.bl true) := (rfl)
@[simp] theorem orV_false {mb : EM} {ρ : Rho} : orV (some (.bl false)) mb ρ = mb ρ := (rfl)
@[simp] theorem dNot_def {b : Bool} : dNot (.bl b) = some (.bl (!b)) := (rfl)
@[simp] theorem dTru_non : dTru .non = some false := (rfl)
@[simp] theorem dTru_bl {b : Bool} : dTru (.bl b) = some b := (rfl)
@[simp] theorem dTru_int {i : Int} : dTru (.int i) = some (i != 0) := (rfl)
@[simp] theorem dTru_lst {o : Bool} {l : List D} : dTru (.lst o l) = some (!l.isEmpty) := (rfl)
@[simp] theorem dTru_tup {l : List D} : dTru (.tup l) = some (!l.isEmpty) := (rfl)
/-! ### operators -/
@[simp] theorem dAdd_int {i j : Int} : dAdd (.int i) (.int j) = some (.int (i + j)) := (rfl)
@[simp] theorem dAdd_str {x y : Str} : dAdd (.str x) (.str y) = if x.length + y.length ≤ sizeLine then some (.str (x ++ y)) else none := (rfl)
@[simp] theorem dAdd_lst {o p : Bool} {l m : List D} : dAdd (.lst o l) (.lst p m) = if frzL l = true ∧ frzL m = true ∧ l.length + m.length ≤ sizeLine then some (.lst true (l ++ m)) else none := (rfl)
@[simp] theorem dAdd_tup {l m : List D} : dAdd (.tup l) (.tup m) = if frzL l = true ∧ frzL m = true ∧ l ≠ [] ∧ l.length + m.length ≤ sizeLine then some (.tup (l ++ m)) else none := (rfl)
@[simp] theorem dSub_int {i j : Int} : dSub (.int i) (.int j) = some (.int (i - j)) := (rfl)
theorem dMul_int {i j : Int} : dMul (.int i) (.int j) = if mulOk i j then some (.int (i * j)) else none := rfl
@[simp] theorem dMul_ok {i j : Int} (h : mulOk i j) : dMul (.int i) (.int j) = some (.int (i * j)) := by rw [dMul_int, if_pos h]
@[simp] theorem dMul_lst {o : Bool} {l : List D} {k : Int} : dMul (.lst o l) (.int k) = if frzL l = true ∧ -(2 ^ 63) ≤ k ∧ k < 2 ^ 63 ∧ l.length * k.toNat ≤ sizeLine then some (.lst true (List.replicate k.toNat l).flatten) else none := (rfl)
theorem dDiv_int {i j : Int} : dDiv (.int i) (.int j) = if divOk j then some (.int (i / j)) else none := rfl
@[simp] theorem dDiv_ok {i j : Int} (h : divOk j) : dDiv (.int i) (.int j) = some (.int (i / j)) := by rw [dDiv_int, if_pos h]
theorem dMod_int {i j : Int} : dMod (.int i) (.int j) = if 0 < j then some (.int (i % j)) else none := rfl
@[simp] theorem dMod_ok {i j : Int} (h : 0 < j) : dMod (.int i) (.int j) = some (.int (i % j)) := by rw [dMod_int, if_pos h]
@[simp] theorem dAnd_int {i j : Int} : dAnd (.int i) (.int j) = some (.int (Builtin.bitAnd i j)) := (rfl)
@[simp] theorem dNeg_int {i : Int} : dNeg (.int i) = some (.int (-i)) := (rfl)
@[simp] theorem dCmp_int {h : Int → Int → Bool} {i j : Int} : dCmp h (.int i) (.int j) = some (.bl (h i j)) := (rfl)
@[simp] theorem dEqB_int {i j : Int} : dEqB (.int i) (.int j) = some (decide (i = j)) := (rfl)
@[simp] theorem dEqB_bl {i j : Bool} : dEqB (.bl i) (.bl j) = some (decide (i = j)) := (rfl)
@[simp] theorem dEqB_str {i j : Str} : dEqB (.str i) (.str j) = some (decide (i = j)) := (rfl)
@[simp] theorem dEq_def {x y : D} : dEq x y = (dEqB x y).map .bl := (rfl)
@[simp] theorem dNe_def {x y : D} : dNe x y = (dEqB x y).map fun b => .bl (!b) := (rfl)
@[simp] theorem dIsN_non : dIsN .non .non = some (.bl true) := (rfl)
@[simp] theorem dIsN_int {i : Int} : dIsN (.int i) .non = some (.bl false) := (rfl)
@[simp] theorem dIsN_bl {i : Bool} : dIsN (.bl i) .non = some (.bl false) := (rfl)
@[simp] theorem dIsN_str {i : Str} : dIsN (.str i) .non = some (.bl false) := (rfl)
@[simp] theorem dIsN_tup {l : List D} : dIsN (.tup l) .non = some (.bl false) := (rfl)
@[simp] theorem dIsN_lst {o : Bool} {l : List D} : dIsN (.lst o l) .non = some (.bl false) := (rfl)
@[simp] theorem dNotN_non : dNotN .non .non = some (.bl false) := (rfl)
@[simp] theorem dNotN_int {i : Int} : dNotN (.int i) .non = some (.bl true) := (rfl)
@[simp] theorem dNotN_tup {l : List D} : dNotN (.tup l) .non = some (.bl true) := (rfl)
/-! ### places -/
theorem atI_ofNat {α : Type} {l : List α} {n : Nat} : atI l (n : Int) = l[n]? := by
  unfold atI ixN
  rw [if_pos (by omega)]
  by_cases h : n < l.length
  · rw [if_pos (by omega)]; simp
  · rw [if_neg (by omega)]; simp; omega
@[simp] theorem atI_0 {α : Type} {l : List α} : atI l 0 = l[0]? := atI_ofNat (n := 0)
@[simp] theorem atI_lit {α : Type} {l : List α} {n : Nat} : atI l (no_index (OfNat.ofNat n : Int)) = l[n]? := atI_ofNat (n := n)
@[simp] theorem atI_1 {α : Type} {l : List α} : atI l 1 = l[1]? := atI_ofNat (n := 1)
@[simp] theorem atI_cast {α : Type} {l : List α} {n : Nat} : atI l (n : Int) = l[n]? := atI_ofNat
theorem atI_pos {α : Type} {l : List α} {i : Int} (h : 0 ≤ i) : atI l i = l[i.toNat]? := by
  obtain ⟨n, rfl⟩ := Int.eq_ofNat_of_zero_le h
  rw [atI_ofNat, Int.toNat_natCast]
theorem ixN_nat' {n : Nat} {i : Int} (h : 0 ≤ i) (h2 : i < n) : ixN n i = some i.toNat := by
  unfold ixN
  rw [if_pos h, if_pos h2]
@[simp] theorem dIx_lst {o : Bool} {l : List D} {i : Int} : dIx (.lst o l) (.int i) = atI l i := (rfl)
@[simp] theorem dIx_tup {l : List D} {i : Int} : dIx (.tup l) (.int i) = atI l i := (rfl)
@[simp] theorem dIx_scr {l : List D} {i : Int} : dIx (.scr l) (.int i) = atI l i := (rfl)
/-! ### built-ins -/
@[simp] theorem dLen_lst {o : Bool} {l : List D} : dLen [.lst o l] = some (.int l.length) := (rfl)
@[simp] theorem dLen_tup {l : List D} : dLen [.tup l] = some (.int l.length) := (rfl)
@[simp] theorem dLen_scr {l : List D} : dLen [.scr l] = some (.int l.length) := (rfl)
@[simp] theorem dInt_int {i : Int} : dInt [.int i] = some (.int i) := (rfl)
@[simp] theorem dInt_bl {b : Bool} : dInt [.bl b] = some (.int (if b then 1 else 0)) := (rfl)
@[simp] theorem dAbs_int {i : Int} : dAbs [.int i] = some (.int (if i < 0 then -i else i)) := (rfl)
@[simp] theorem dII_int {h : Int → Int → Int} {i j : Int} : dII h [.int i, .int j] = some (.int (h i j)) := (rfl)
theorem dLcm_int {i j : Int} : dLcm [.int i, .int j] = if i.natAbs.log2 < 13000 ∧ j.natAbs.log2 < 13000 then some (.int ((Nat.lcm i.natAbs j.natAbs : Nat) : Int)) else none := rfl
@[simp] theorem lOf_lst {o : Bool} {l : List D} : lOf (.lst o l) = some l := (rfl)
@[simp] theorem sOf_lst {o : Bool} {l : List D} : sOf (.lst o l) = some l := (rfl)
@[simp] theorem sOf_tup {l : List D} : sOf (.tup l) = some l := (rfl)
@[simp] theorem sOf_scr {l : List D} : sOf (.scr l) = some l := (rfl)
@[simp] theorem d1_def {h : D → Option D} {x : D} : d1 h [x] = h x := (rfl)
@[simp] theorem dSum_ints {o : Bool} {l : List Int} : dSum [.lst o (l.map D.int)] = some (.int l.sum) := by simp [dSum, intsD_map]
@[simp] theorem dMaxL_ints {o : Bool} {n : Int} {l : List Int} : dMaxL [.lst o (.int n :: l.map D.int)] = some (.int (maxL n l)) := by
  have := intsD_map (n :: l)
  rw [List.map_cons] at this
  simp [dMaxL, this, most]
@[simp] theorem dIsi_def {T : String} {x : D} : dIsi T [x] = (tyD x).bind fun t => (kitB t T).map .bl := (rfl)
@[simp] theorem tyD_non : tyD .non = some "NoneType" := (rfl)
@[simp] theorem tyD_bl {b : Bool} : tyD (.bl b) = some "bool" := (rfl)
@[simp] theorem tyD_int {b : Int} : tyD (.int b) = some "int" := (rfl)
@[simp] theorem tyD_str {b : Str} : tyD (.str b) = some "str" := (rfl)
@[simp] theorem tyD_tup {l : List D} : tyD (.tup l) = some "tuple" := (rfl)
@[simp] theorem tyD_lst {o : Bool} {l : List D} : tyD (.lst o l) = some "list" := (rfl)
@[simp] theorem kit_bb : kitB "bool" "bool" = some true := by decide +kernel
@[simp] theorem kit_ib : kitB "int" "bool" = some false := by decide +kernel
@[simp] theorem kit_sb : kitB "str" "bool" = some false := by decide +kernel
@[simp] theorem kit_tb : kitB "tuple" "bool" = some false := by decide +kernel
@[simp] theorem kit_nb : kitB "NoneType" "bool" = some false := by decide +kernel
@[simp] theorem kit_bi : kitB "bool" "int" = some true := by decide +kernel
@[simp] theorem kit_ii : kitB "int" "int" = some true := by decide +kernel
@[simp] theorem kit_si : kitB "str" "int" = some false := by decide +kernel
@[simp] theorem kit_ti : kitB "tuple" "int" = some false := by decide +kernel
@[simp] theorem kit_ni : kitB "NoneType" "int" = some false := by decide +kernel
@[simp] theorem kit_bs : kitB "bool" "str" = some false := by decide +kernel
@[simp] theorem kit_is : kitB "int" "str" = some false := by decide +kernel
@[simp] theorem kit_ss : kitB "str" "str" = some true := by decide +kernel
@[simp] theorem kit_ts : kitB "tuple" "str" = some false := by decide +kernel
@[simp] theorem kit_ns : kitB "NoneType" "str" = some false := by decide +kernel
@[simp] theorem kit_bt : kitB "bool" "tuple" = some false := by decide +kernel
@[simp] theorem kit_it : kitB "int" "tuple" = some false := by decide +kernel
@[simp] theorem kit_st : kitB "str" "tuple" = some false := by decide +kernel
@[simp] theorem kit_tt : kitB "tuple" "tuple" = some true := by decide +kernel
@[simp] theorem kit_nt : kitB "NoneType" "tuple" = some false := by decide +kernel
@[simp] theorem dList_def {d : D} : dList [d] = (sOf d).bind fun l => if frzL l = true then some (.lst true l) else none := (rfl)
@[simp] theorem dTuple_def {d : D} : dTuple [d] = (sOf d).bind fun l => if frzL l = true then some (.tup l) else none := (rfl)
@[simp] theorem dRev_lst {o : Bool} {l : List D} : dRev (.lst o l) = if frzL l = true then some (.lst true l.reverse) else none := (rfl)
/-! ### what is owned -/
@[simp] theorem frz_non : frz .non = true := (rfl)
@[simp] theorem frz_bl {b : Bool} : frz (.bl b) = true := (rfl)
@[simp] theorem frz_int {i : Int} : frz (.int i) = true := (rfl)
@[simp] theorem frz_str {i : Str} : frz (.str i) = true := (rfl)
@[simp] theorem frz_tup {l : List D} : frz (.tup l) = frzL l := by rw [frz]
@[simp] theorem frz_lst {o : Bool} {l : List D} : frz (.lst o l) = (!o && frzL l) := by rw [frz]
@[simp] theorem frz_scr {l : List D} : frz (.scr l) = frzL l := by rw [frz]
@[simp] theorem frzL_nil : frzL [] = true := (rfl)
@[simp] theorem frzL_cons {d : D} {l : List D} : frzL (d :: l) = (frz d && frzL l) := by rw [frzL]
@[simp] theorem frzL_app : ∀ {l m : List D}, frzL (l ++ m) = (frzL l && frzL m)
  | [], m => by simp
  | d :: l, m => by simp [frzL_app (l := l), Bool.and_assoc]
theorem frzL_all : ∀ {l : List D}, frzL l = l.all frz
  | [] => rfl
  | d :: l => by rw [frzL_cons, List.all_cons, frzL_all]
theorem frzL_of {l : List D} (h : ∀ d ∈ l, frz d = true) : frzL l = true := by
  rw [frzL_all, List.all_eq_true]; exact h
@[simp] theorem frzL_map {α : Type} {f : α → D} (h : ∀ a, frz (f a) = true) {l : List α} : frzL (l.map f) = true := frzL_of fun d hd => by
  obtain ⟨a, _, rfl⟩ := List.mem_map.mp hd; exact h a
@[simp] theorem frzL_ints {l : List Int} : frzL (l.map D.int) = true := frzL_map fun _ => rfl
@[simp] theorem fz_non : fz .non = .non := (rfl)
@[simp] theorem fz_bl {b : Bool} : fz (.bl b) = .bl b := (rfl)
@[simp] theorem fz_int {i : Int} : fz (.int i) = .int i := (rfl)
@[simp] theorem fz_str {i : Str} : fz (.str i) = .str i := (rfl)
@[simp] theorem fz_tup {l : List D} : fz (.tup l) = .tup (fzL l) := by rw [fz]
@[simp] theorem fz_lst {o : Bool} {l : List D} : fz (.lst o l) = .lst false (fzL l) := by rw [fz]
@[simp] theorem fz_scr {l : List D} : fz (.scr l) = .scr (fzL l) := by rw [fz]
@[simp] theorem fzL_nil : fzL [] = [] := (rfl)
@[simp] theorem fzL_cons {d : D} {l : List D} : fzL (d :: l) = fz d :: fzL l := by rw [fzL]
theorem fzL_map' : ∀ {l : List D}, fzL l = l.map fz
  | [] => rfl
  | d :: l => by rw [fzL_cons, List.map_cons, fzL_map']
theorem fzL_mapf {α : Type} {f : α → D} (h : ∀ a, frz (f a) = true) {l : List α} : fzL (l.map f) = l.map f := fzL_frz _ (frzL_map h)
@[simp] theorem fzL_ints {l : List Int} : fzL (l.map D.int) = l.map D.int := fzL_mapf fun _ => rfl
@[simp] theorem tf_non : tf .non = true := (rfl)
@[simp] theorem tf_bl {b : Bool} : tf (.bl b) = true := (rfl)
@[simp] theorem tf_int {i : Int} : tf (.int i) = true := (rfl)
@[simp] theorem tf_str {i : Str} : tf (.str i) = true := (rfl)
@[simp] theorem tf_tup {l : List D} : tf (.tup l) = tfL l := by rw [tf]
@[simp] theorem tf_lst {o : Bool} {l : List D} : tf (.lst o l) = (o && tfL l) := by rw [tf]
@[simp] theorem tfL_nil : tfL [] = true := (rfl)
@[simp] theorem tfL_cons {d : D} {l : List D} : tfL (d :: l) = (tf d && tfL l) := by rw [tfL]
theorem tfL_all : ∀ {l : List D}, tfL l = l.all tf
  | [] => rfl
  | d :: l => by rw [tfL_cons, List.all_cons, tfL_all]
@[simp] theorem tfL_map {α : Type} {f : α → D} (h : ∀ a, tf (f a) = true) {l : List α} : tfL (l.map f) = true := by
  rw [tfL_all, List.all_eq_true]
  intro d hd
  obtain ⟨a, _, rfl⟩ := List.mem_map.mp hd; exact h a
@[simp] theorem tfL_ints {l : List Int} : tfL (l.map D.int) = true := tfL_map fun _ => rfl
/-! ### calls -/
def callB (g : List D → Option D) (ds : List D) : Option D := (g (fzL ds)).bind fun d => if tf d = true then some d else none
@[simp] theorem mCallB_def {g : List D → Option D} {ms : LM} {ρ : Rho} : mCallB g ms ρ = (ms ρ).bind (callB g) := (rfl)
theorem callB_of {g : List D → Option D} {ds : List D} {d : D} (h : g (fzL ds) = some d) (t : tf d = true) : callB g ds = some d := by
  unfold callB
  rw [h]
  show (if tf d = true then some d else none) = some d
  rw [if_pos t]
def callM (g : List D → Option D) (ds : List D) : Option D := if frzL ds = true then g ds else none
@[simp] theorem mCall_def {g : List D → Option D} {ms : LM} {ρ : Rho} : mCall g ms ρ = (ms ρ).bind (callM g) := (rfl)
theorem callM_of {g : List D → Option D} {ds : List D} {d : D} (f : frzL ds = true) (h : g ds = some d) : callM g ds = some d := by
  unfold callM
  rw [if_pos f, h]
/-- the meaning of a def, opened -/
theorem run_def {N n : Nat} {m : SM} {ds : List D} (h : ds.length = n := by rfl) : run N n m ds = rtOf (m (ds.map some ++ List.replicate (N - n) none)) := by
  unfold run; rw [if_pos h]
@[simp] theorem rtOf_rt {d : D} : rtOf (some (.rt d)) = some d := (rfl)
@[simp] theorem rtOf_nx {ρ : Rho} : rtOf (some (.nx ρ)) = some .non := (rfl)
/-! ### owned lists by place -/
@[simp] theorem rV_def {i : Nat} {ρ : Rho} : rV i ρ = match ρ.getD i none with | some (.lst true _) => some (i, []) | _ => none := (rfl)
@[simp] theorem mApp_def {r : RM} {m : EM} {ρ : Rho} : mApp r m ρ = (r ρ).bind fun ip => (m ρ).bind fun d => (mV ip.1 ρ).bind fun d0 => (updAt d0 ip.2 fun l => if l.length < sizeLine then some (l ++ [d]) else none).bind fun d1 => some (.nx (ρ.set ip.1 (some d1))) := (rfl)
@[simp] theorem mSto_def {r : RM} {mi me : EM} {ρ : Rho} : mSto r mi me ρ = (me ρ).bind fun d => (r ρ).bind fun ip => (mi ρ).bind fun di => (asInt di).bind fun k => (mV ip.1 ρ).bind fun d0 =>
  (updAt d0 ip.2 fun l => (ixN l.length k).map fun j => l.set j d).bind fun d1 => some (.nx (ρ.set ip.1 (some d1))) := rfl
@[simp] theorem updAt_nil {l : List D} {h : List D → Option (List D)} : updAt (.lst true l) [] h = (h l).map (.lst true) := (rfl)
@[simp] theorem updAt_cons {l : List D} {k : Nat} {p : List Nat} {h : List D → Option (List D)} : updAt (.lst true l) (k :: p) h = (l[k]?).bind fun d => (updAt d p h).map fun d' => .lst true (l.set k d') := (rfl)
/-! ### loops -/
@[simp] theorem mFor_def {src : LM} {h : GM} {body : SM} {ρ : Rho} : mFor src h body ρ = (src ρ).bind fun l => forL h body l ρ := (rfl)
@[simp] theorem mSeqOf_def {m : EM} {ρ : Rho} : mSeqOf m ρ = (m ρ).bind fun d => if frz d = true then sOf d else none := (rfl)
@[simp] theorem mSeqA_def {m : EM} {ρ : Rho} : mSeqA m ρ = (m ρ).bind fun d => (sOf d).bind fun l => if frzL l = true then some l else none := (rfl)
def rng1 (ds : List D) : Option (List D) := match ds with
  | [.int n] => if n < 2 ^ 62 ∧ -(2 ^ 62) ≤ n then some (rngD 0 n.toNat) else none
  | _ => none
def rng2 (ds : List D) : Option (List D) := match ds with
  | [.int lo, .int n] => if (-(2 ^ 62) ≤ lo ∧ lo < 2 ^ 62) ∧ -(2 ^ 62) ≤ n ∧ n < 2 ^ 62 then some (rngD lo (n - lo).toNat) else none
  | _ => none
@[simp] theorem mRng1_def {ms : LM} {ρ : Rho} : mRng1 ms ρ = (ms ρ).bind rng1 := (rfl)
@[simp] theorem mRng2_def {ms : LM} {ρ : Rho} : mRng2 ms ρ = (ms ρ).bind rng2 := (rfl)
theorem rng1_int {n : Int} (h : n < 2 ^ 62 ∧ -(2 ^ 62) ≤ n) : rng1 [.int n] = some (rngD 0 n.toNat) := by
  show (if n < 2 ^ 62 ∧ -(2 ^ 62) ≤ n then some (rngD 0 n.toNat) else none) = _
  rw [if_pos h]
theorem rng2_int {lo n : Int} (h : (-(2 ^ 62) ≤ lo ∧ lo < 2 ^ 62) ∧ -(2 ^ 62) ≤ n ∧ n < 2 ^ 62) : rng2 [.int lo, .int n] = some (rngD lo (n - lo).toNat) := by
  show (if (-(2 ^ 62) ≤ lo ∧ lo < 2 ^ 62) ∧ -(2 ^ 62) ≤ n ∧ n < 2 ^ 62 then some (rngD lo (n - lo).toNat) else none) = _
  rw [if_pos h]
@[simp] theorem rng1_lit {n : Nat} (h : n < 2 ^ 62 := by decide) : rng1 [.int (no_index (OfNat.ofNat n : Int))] = some (rngD 0 n) := by
  have e := rng1_int (n := (OfNat.ofNat n : Int)) (by have : ((OfNat.ofNat n : Int)) = (n : Int) := rfl; omega)
  exact e
/-- what one turn brings -/
def turnK (h : GM) (body : SM) (d : D) (ρ : Rho) : Option Fl := (h d ρ).bind body
theorem forL_nil {h : GM} {body : SM} {ρ : Rho} : forL h body [] ρ = some (.nx ρ) := rfl
theorem forL_cons {h : GM} {body : SM} {d : D} {l : List D} {ρ : Rho} : forL h body (d :: l) ρ = (turnK h body d ρ).bind fun fl => match fl with
    | .nx ρ2 => forL h body l ρ2
    | .ct ρ2 => forL h body l ρ2
    | .bk ρ2 => some (.nx ρ2)
    | .rt d => some (.rt d) := by
  unfold turnK
  rw [Option.bind_assoc]
  rfl
/-- a turn that goes on -/
theorem forL_step {h : GM} {body : SM} {d : D} {l : List D} {ρ ρ2 : Rho} (e : turnK h body d ρ = some (.nx ρ2)) : forL h body (d :: l) ρ = forL h body l ρ2 := by rw [forL_cons, e]; rfl
theorem forL_ct {h : GM} {body : SM} {d : D} {l : List D} {ρ ρ2 : Rho} (e : turnK h body d ρ = some (.ct ρ2)) : forL h body (d :: l) ρ = forL h body l ρ2 := by rw [forL_cons, e]; rfl
theorem forL_bk {h : GM} {body : SM} {d : D} {l : List D} {ρ ρ2 : Rho} (e : turnK h body d ρ = some (.bk ρ2)) : forL h body (d :: l) ρ = some (.nx ρ2) := by rw [forL_cons, e]; rfl
theorem forL_rt {h : GM} {body : SM} {d x : D} {l : List D} {ρ : Rho} (e : turnK h body d ρ = some (.rt x)) : forL h body (d :: l) ρ = some (.rt x) := by rw [forL_cons, e]; rfl
/-- a loop that goes through, by what holds between the turns -/
theorem forL_inv {h : GM} {body : SM} (I : Nat → Rho → Prop) : ∀ {l : List D} {k : Nat} {ρ : Rho}, I k ρ → (∀ i d ρ, l[i]? = some d → I (k + i) ρ → ∃ ρ', turnK h body d ρ = some (.nx ρ') ∧ I (k + i + 1) ρ') → ∃ ρ', forL h body l ρ = some (.nx ρ') ∧ I (k + l.length) ρ'
  | [], k, ρ, i0, _ => ⟨ρ, rfl, i0⟩
  | d :: l, k, ρ, i0, hs => by
    obtain ⟨ρ1, e1, i1⟩ := hs 0 d ρ rfl i0
    obtain ⟨ρ2, e2, i2⟩ := forL_inv I (l := l) (k := k + 1) i1 (fun i x ρ' hx hi => by
      have := hs (i + 1) x ρ' (by simpa using hx) (by rw [show k + (i + 1) = k + 1 + i by omega]; exact hi)
      rw [show k + (i + 1) + 1 = k + 1 + i + 1 by omega] at this
      exact this)
    refine ⟨ρ2, by rw [forL_step e1, e2], ?_⟩
    rw [List.length_cons, show k + (l.length + 1) = k + 1 + l.length by omega]
    exact i2
/-- a loop as a fold of what the frame stands for -/
theorem forL_fold {α β : Type} {h : GM} {body : SM} {enc : α → Rho} {item : β → D} {step : α → β → α} {ok : α → β → Prop} (hs : ∀ a b, ok a b → turnK h body (item b) (enc a) = some (.nx (enc (step a b)))) :
    ∀ {l : List β} {a : α}, (∀ i b, l[i]? = some b → ok ((l.take i).foldl step a) b) → forL h body (l.map item) (enc a) = some (.nx (enc (l.foldl step a)))
  | [], a, _ => rfl
  | b :: l, a, hok => by
    rw [List.map_cons, forL_step (hs a b (hok 0 b rfl)), List.foldl_cons]
    exact forL_fold hs fun i c hc => by
      have := hok (i + 1) c (by simpa using hc)
      simpa using this
/-! ### comprehensions -/
@[simp] theorem mLc_def {src : LM} {vs : List Nat} {h : GM} {bt : BM} {m : EM} {ρ : Rho} : mLc src vs h bt m ρ = (src ρ).bind fun l => (wipeO vs ρ).bind fun ρ0 => if l.length ≤ sizeLine then (lcL h bt m ρ0 l).map (.lst true) else none := (rfl)
@[simp] theorem wipeO_nil {ρ : Rho} : wipeO [] ρ = some ρ := (rfl)
@[simp] theorem wipeO_cons {v : Nat} {vs : List Nat} {ρ : Rho} : wipeO (v :: vs) ρ = (wipeO vs ρ).bind fun ρ' => if slotFrz ρ' v = true then some (ρ'.set v none) else none := (rfl)
theorem lcL_map {β : Type} {h : GM} {bt : BM} {m : EM} {ρ0 : Rho} {item out : β → D} (hs : ∀ b : β, ∃ ρ1, h (item b) ρ0 = some ρ1 ∧ bt ρ1 = some true ∧ m ρ1 = some (out b)) : ∀ l : List β, lcL h bt m ρ0 (l.map item) = some (l.map out)
  | [] => rfl
  | b :: l => by
    obtain ⟨ρ1, e1, e2, e3⟩ := hs b
    rw [List.map_cons]
    unfold lcL
    rw [e1]
    simp [e2, e3, lcL_map hs l]
theorem lcL_mapOn {β : Type} {h : GM} {bt : BM} {m : EM} {ρ0 : Rho} {item out : β → D} : ∀ {l : List β} (hs : ∀ b ∈ l, ∃ ρ1, h (item b) ρ0 = some ρ1 ∧ bt ρ1 = some true ∧ m ρ1 = some (out b)), lcL h bt m ρ0 (l.map item) = some (l.map out)
  | [], _ => rfl
  | b :: l, hs => by
    obtain ⟨ρ1, e1, e2, e3⟩ := hs b List.mem_cons_self
    rw [List.map_cons]
    unfold lcL
    rw [e1]
    simp [e2, e3, lcL_mapOn fun b hb => hs b (List.mem_cons_of_mem _ hb)]
/-- with a test -/
theorem lcL_filterOn {β : Type} {h : GM} {bt : BM} {m : EM} {ρ0 : Rho} {item out : β → D} {p : β → Bool} : ∀ {l : List β} (hs : ∀ b ∈ l, ∃ ρ1, h (item b) ρ0 = some ρ1 ∧ bt ρ1 = some (p b) ∧ (p b = true → m ρ1 = some (out b))), lcL h bt m ρ0 (l.map item) = some ((l.filter p).map out)
  | [], _ => rfl
  | b :: l, hs => by
    obtain ⟨ρ1, e1, e2, e3⟩ := hs b List.mem_cons_self
    rw [List.map_cons]
    unfold lcL
    rw [e1]
    have ih := lcL_filterOn (l := l) fun b hb => hs b (List.mem_cons_of_mem _ hb)
    cases e : p b with
    | true => simp [e2, e, e3 e, ih]
    | false => simp [e2, e, ih]
theorem rngD_eq {lo : Int} {n : Nat} : rngD lo n = (List.range n).map fun (i : Nat) => D.int (lo + (i : Int)) := rfl
theorem rngD0 {n : Nat} : rngD 0 n = (List.range n).map fun (i : Nat) => D.int (i : Int) := by
  unfold rngD
  refine List.map_congr_left fun i _ => ?_
  rw [Int.zero_add]
end R

set_option Elab.async false
set_option linter.all false
set_option maxRecDepth 100000
set_option maxHeartbeats 4000000
/-! RQ: the small defs that each law has: fractions, Euclid's way, the drawn numbers, the comparison. -/
namespace R
open PySem L2
namespace Q
def m_ratio : SM :=
  (mSeq (mIte (mT (mB dEq (mV 1) (mC (.int 0)))) mNo_ mNx)
  (mSeq (mIte (mT (mB dLt (mV 1) (mC (.int 0)))) (mPar 0 1 (mU dNeg (mV 0)) (mU dNeg (mV 1))) mNx)
  (mSeq (mSet 2 (mL (dII hGcd) (mCons (mV 0) (mCons (mV 1) mNil))))
  (mRet (mTup (mCons (mB dDiv (mV 0) (mV 2)) (mCons (mB dDiv (mV 1) (mV 2)) mNil)))))))
abbrev g_ratio : List D → Option D := run 3 2 m_ratio
def m_plus : SM :=
  (mSeq (mIte (mT (mB dEq (mB dIx (mV 0) (mC (.int 1))) (mB dIx (mV 1) (mC (.int 1))))) (mRet (mCallB g_ratio (mCons (mB dAdd (mB dIx (mV 0) (mC (.int 0))) (mB dIx (mV 1) (mC (.int 0)))) (mCons (mB dIx (mV 0) (mC (.int 1))) mNil)))) mNx)
  (mRet (mCallB g_ratio (mCons (mB dAdd (mB dMul (mB dIx (mV 0) (mC (.int 0))) (mB dIx (mV 1) (mC (.int 1)))) (mB dMul (mB dIx (mV 1) (mC (.int 0))) (mB dIx (mV 0) (mC (.int 1))))) (mCons (mB dMul (mB dIx (mV 0) (mC (.int 1))) (mB dIx (mV 1) (mC (.int 1)))) mNil)))))
abbrev g_plus : List D → Option D := run 2 2 m_plus
def m_minus : SM :=
  (mRet (mCallB g_plus (mCons (mV 0) (mCons (mTup (mCons (mU dNeg (mB dIx (mV 1) (mC (.int 0)))) (mCons (mP (mB dIx (mV 1) (mC (.int 1)))) mNil))) mNil))))
abbrev g_minus : List D → Option D := run 2 2 m_minus
def m_law_numbers : SM :=
  (mSeq (mSet 2 (mLst mNil))
  (mSeq (mSet 3 (mC (.int 7)))
  (mSeq (mFor (mRng1 (mCons (mL dLen (mCons (mV 0) mNil)) mNil)) (gN 4) (mSeq (mSet 5 (mL dInt (mCons (mB dIx (mV 0) (mV 4)) mNil)))
    (mSeq (mSet 3 (mB dMod (mL dInt (mCons (mB dAdd (mB dAdd (mB dMul (mV 3) (mC (.int 69621))) (mB dMod (mV 5) (mC (.int 2147483647)))) (mV 4)) mNil)) (mC (.int 2147483647))))
    (mIte (mT (mB dGe (mV 5) (mC (.int 1000000000000000000)))) (mFor (mRng1 (mCons (mC (.int 60)) mNil)) (gN 6) (mIte (mT (mB dGt (mV 5) (mC (.int 0)))) (mSeq (mApp (rV 2) (mB dMod (mL dInt (mCons (mV 5) mNil)) (mC (.int 60))))
          (mSet 5 (mB dDiv (mV 5) (mC (.int 60))))) mNx)) mNx))))
  (mSeq (mFor (mRng1 (mCons (mV 1) mNil)) (gN 6) (mSeq (mSet 3 (mB dMod (mL dInt (mCons (mB dAdd (mB dMul (mV 3) (mC (.int 48271))) (mC (.int 12345))) mNil)) (mC (.int 2147483647))))
    (mApp (rV 2) (mB dMod (mL dInt (mCons (mB dMod (mL dInt (mCons (mB dAdd (mB dMul (mV 3) (mV 3)) (mC (.int 17))) mNil)) (mC (.int 1000003))) mNil)) (mC (.int 60))))))
  (mRet (mV 2))))))
abbrev g_law_numbers : List D → Option D := run 7 2 m_law_numbers
def m_law_lowest : SM :=
  (mSeq (mSet 2 (mL dAbs (mCons (mV 0) mNil)))
  (mSeq (mSet 3 (mP (mV 1)))
  (mSeq (mFor (mRng1 (mCons (mC (.int 4000)) mNil)) (gN 4) (mSeq (mIte (mT (mB dEq (mV 3) (mC (.int 0)))) mBk mNx)
    (mPar 2 3 (mV 3) (mB dMod (mL dInt (mCons (mV 2) mNil)) (mV 3)))))
  (mRet (mTup (mCons (mB dDiv (mV 0) (mV 2)) (mCons (mB dDiv (mV 1) (mV 2)) mNil)))))))
abbrev g_law_lowest : List D → Option D := run 5 2 m_law_lowest
def m_law_common : SM :=
  (mSeq (mFor (mRng1 (mCons (mC (.int 4000)) mNil)) (gN 2) (mSeq (mIte (mT (mB dEq (mV 1) (mC (.int 0)))) mBk mNx)
    (mPar 0 1 (mV 1) (mB dMod (mL dInt (mCons (mV 0) mNil)) (mV 1)))))
  (mRet (mV 0)))
abbrev g_law_common : List D → Option D := run 3 2 m_law_common
def m_law_same (g : List D → Option D) : SM :=
  (mSeq (mIte (mT (mB dIsN (mV 1) (mC .non))) (mRet (mB dIsN (mV 0) (mC .non))) mNx)
  (mSeq (mIte (mT (mL (dIsi "bool") (mCons (mV 1) mNil))) (mRet (mAndV (mL (dIsi "bool") (mCons (mV 0) mNil)) (mB dEq (mV 0) (mV 1)))) mNx)
  (mSeq (mIte (mT (mL (dIsi "int") (mCons (mV 1) mNil))) (mRet (mAndV (mL (dIsi "int") (mCons (mV 0) mNil)) (mAndV (mU dNot (mL (dIsi "bool") (mCons (mV 0) mNil))) (mB dEq (mV 0) (mV 1))))) mNx)
  (mSeq (mIte (mT (mL (dIsi "str") (mCons (mV 1) mNil))) (mRet (mAndV (mL (dIsi "str") (mCons (mV 0) mNil)) (mB dEq (mV 0) (mV 1)))) mNx)
  (mSeq (mIte (mOrB (mNotB (mT (mL (dIsi "tuple") (mCons (mV 0) mNil)))) (mT (mB dNe (mL dLen (mCons (mV 0) mNil)) (mL dLen (mCons (mV 1) mNil))))) (mRet (mC (.bl false))) mNx)
  (mSeq (mFor (mRng1 (mCons (mL dLen (mCons (mV 1) mNil)) mNil)) (gN 2) (mIte (mNotB (mT (mCallB g (mCons (mB dIx (mV 0) (mV 2)) (mCons (mB dIx (mV 1) (mV 2)) mNil))))) (mRet (mC (.bl false))) mNx))
  (mRet (mC (.bl true)))))))))
def g_law_same : Nat → List D → Option D
  | 0 => fun _ => none
  | k + 1 => run 3 2 (m_law_same (g_law_same k))
def m_law_sum : SM :=
  (mRet (mCallB g_law_lowest (mCons (mB dAdd (mB dMul (mB dIx (mV 0) (mC (.int 0))) (mB dIx (mV 1) (mC (.int 1)))) (mB dMul (mB dIx (mV 1) (mC (.int 0))) (mB dIx (mV 0) (mC (.int 1))))) (mCons (mB dMul (mB dIx (mV 0) (mC (.int 1))) (mB dIx (mV 1) (mC (.int 1)))) mNil))))
abbrev g_law_sum : List D → Option D := run 2 2 m_law_sum
def m_law_product : SM :=
  (mRet (mCallB g_law_lowest (mCons (mB dMul (mB dIx (mV 0) (mC (.int 0))) (mB dIx (mV 1) (mC (.int 0)))) (mCons (mB dMul (mB dIx (mV 0) (mC (.int 1))) (mB dIx (mV 1) (mC (.int 1)))) mNil))))
abbrev g_law_product : List D → Option D := run 2 2 m_law_product
def m_law_below : SM :=
  (mRet (mB dLt (mB dMul (mB dIx (mV 0) (mC (.int 0))) (mB dIx (mV 1) (mC (.int 1)))) (mB dMul (mB dIx (mV 1) (mC (.int 0))) (mB dIx (mV 0) (mC (.int 1))))))
abbrev g_law_below : List D → Option D := run 2 2 m_law_below

end Q
/-! ### bits -/
theorem lg_of {n k : Nat} (h : n < 2 ^ k) (hk : 0 < k := by decide) : n.log2 < k := by
  rcases Nat.eq_zero_or_pos n with rfl | h0
  · exact hk
  · exact (Nat.log2_lt (by omega)).mpr h
theorem lt_of_lg {n k : Nat} (h : n.log2 < k) : n < 2 ^ k := by
  rcases Nat.eq_zero_or_pos n with rfl | h0
  · exact Nat.two_pow_pos k
  · exact (Nat.log2_lt (by omega)).mp h
theorem lg_le {n k : Nat} (h : n < 2 ^ k) : n.log2 ≤ k := by
  rcases Nat.eq_zero_or_pos n with rfl | h0
  · exact Nat.zero_le _
  · exact Nat.le_of_lt ((Nat.log2_lt (by omega)).mpr h)
theorem mulOk_of {i j : Int} {a b : Nat} (h1 : i.natAbs < 2 ^ a) (h2 : j.natAbs < 2 ^ b) (h : a + b < 1000000) : mulOk i j := by
  have := lg_le h1
  have := lg_le h2
  unfold mulOk
  omega
theorem divOk_of {j : Int} {a : Nat} (h0 : 0 < j) (h1 : j.natAbs < 2 ^ a) (h : a < 9000) : divOk j := ⟨h0, Nat.lt_of_le_of_lt (lg_le h1) h⟩
/-! ### a fraction -/
def fr (q : Rat) : D := .tup [.int q.num, .int (q.den : Int)]
@[simp] theorem tf_fr {q : Rat} : tf (fr q) = true := by simp [fr]
@[simp] theorem fz_fr {q : Rat} : fz (fr q) = fr q := by simp [fr]
@[simp] theorem frz_fr {q : Rat} : frz (fr q) = true := by simp [fr]
@[simp] theorem dIx_fr0 {q : Rat} : dIx (fr q) (.int 0) = some (.int q.num) := by simp [fr]
@[simp] theorem dIx_fr1 {q : Rat} : dIx (fr q) (.int 1) = some (.int (q.den : Int)) := by simp [fr]
theorem fr_mk {n : Int} {d : Nat} (h : 0 < d) : fr (mkRat n d) = .tup [.int (n / (Nat.gcd n.natAbs d : Nat)), .int ((d : Int) / (Nat.gcd n.natAbs d : Nat))] := by
  have hn : d ≠ 0 := by omega
  rw [Rat.mkRat_def, dif_neg hn, Rat.normalize_eq]
  simp [fr]
theorem mk_gcd_pos {n : Int} {d : Nat} (h : 0 < d) : 0 < Nat.gcd n.natAbs d := Nat.gcd_pos_of_pos_right _ h
/-- what has small numbers -/
def Sz (q : Rat) : Prop := q.num.natAbs < 2 ^ 100000 ∧ q.den < 2 ^ 990
theorem ratio_v {n : Int} {d : Nat} (h : 0 < d) (hd : d < 2 ^ 8999) : Q.g_ratio [.int n, .int (d : Int)] = some (fr (mkRat n d)) := by
  have h0 : (d : Int) ≠ 0 := by omega
  have h1 : ¬ (d : Int) < 0 := by omega
  have hn : d ≠ 0 := by omega
  have hg : (0 : Int) < (Nat.gcd n.natAbs d : Nat) := by have := mk_gcd_pos (n := n) h; omega
  have hl : Nat.gcd n.natAbs d ≤ d := Nat.gcd_le_right _ h
  have hk : divOk ((Nat.gcd n.natAbs d : Nat) : Int) := divOk_of (a := 8999) hg (by rw [Int.natAbs_natCast]; omega) (by decide)
  rw [fr_mk h]
  simp [Q.g_ratio, run_def, Q.m_ratio, hn, h1, hGcd, dDiv_ok, hk]
/-! ### Euclid's way -/
theorem rngD_ints {lo : Int} {n : Nat} : rngD lo n = ((List.range n).map fun (i : Nat) => lo + (i : Int)).map D.int := by
  unfold rngD
  rw [List.map_map]
  rfl
def euS : SM := (mSeq (mIte (mT (mB dEq (mV 1) (mC (.int 0)))) mBk mNx) (mPar 0 1 (mV 1) (mB dMod (mL dInt (mCons (mV 0) mNil)) (mV 1))))
def euL : SM := (mSeq (mIte (mT (mB dEq (mV 3) (mC (.int 0)))) mBk mNx) (mPar 2 3 (mV 3) (mB dMod (mL dInt (mCons (mV 2) mNil)) (mV 3))))
theorem euL_bk {x y z : Option D} {a : Int} : euL [x, y, some (.int a), some (.int 0), z] = some (.bk [x, y, some (.int a), some (.int 0), z]) := by
  simp [euL]
theorem euL_nx {x y z : Option D} {a b : Int} (h : 0 < b) : euL [x, y, some (.int a), some (.int b), z] = some (.nx [x, y, some (.int b), some (.int (a % b)), z]) := by
  have h0 : b ≠ 0 := by omega
  simp [euL, h0, dMod_ok, h]
theorem euS_bk {z : Option D} {a : Int} : euS [some (.int a), some (.int 0), z] = some (.bk [some (.int a), some (.int 0), z]) := by
  simp [euS]
theorem euS_nx {z : Option D} {a b : Int} (h : 0 < b) : euS [some (.int a), some (.int b), z] = some (.nx [some (.int b), some (.int (a % b)), z]) := by
  have h0 : b ≠ 0 := by omega
  simp [euS, h0, dMod_ok, h]
/-- two turns bring the smaller one to less than its half -/
theorem eu_half {a b : Nat} (h : 0 < a % b) (hb : 0 < b) : 2 * (b % (a % b)) < b := by
  have h1 := Nat.mod_lt b h
  have h2 := Nat.mod_lt a hb
  have h3 := Nat.mod_add_div b (a % b)
  have h4 : 1 ≤ b / (a % b) := (Nat.one_le_div_iff h).mpr (by omega)
  have h5 : a % b * 1 ≤ a % b * (b / (a % b)) := Nat.mul_le_mul_left _ h4
  omega
/-- a way through pairs that ends at the greatest common divisor -/
theorem eu_loop {h : GM} {body : SM} {enc : Nat → Nat → Option Int → Rho} (hk : ∀ d a b z, h (.int d) (enc a b z) = some (enc a b (some d)))
    (hb0 : ∀ a z, body (enc a 0 z) = some (.bk (enc a 0 z))) (hb1 : ∀ a b z, 0 < b → body (enc a b z) = some (.nx (enc b (a % b) z))) :
    ∀ (k : Nat) (l : List Int) (a b : Nat) (z : Option Int), b < 2 ^ k → 2 * k + 1 ≤ l.length → ∃ z', forL h body (l.map D.int) (enc a b z) = some (.nx (enc (Nat.gcd a b) 0 z'))
  | k, [], a, b, z, _, hl => by simp at hl
  | k, d :: l, a, 0, z, hb, hl => by
    refine ⟨some d, ?_⟩
    rw [List.map_cons, forL_bk (ρ2 := enc a 0 (some d)) (by unfold turnK; rw [hk]; exact hb0 _ _), Nat.gcd_zero_right]
  | 0, d :: l, a, b + 1, z, hb, hl => by simp at hb
  | k + 1, d :: l, a, b + 1, z, hb, hl => by
    have e1 : forL h body ((d :: l).map D.int) (enc a (b + 1) z) = forL h body (l.map D.int) (enc (b + 1) (a % (b + 1)) (some d)) := forL_step (by unfold turnK; rw [hk]; exact hb1 _ _ _ (by omega))
    rw [e1]
    cases l with
    | nil => simp at hl
    | cons d2 l =>
      rcases Nat.eq_zero_or_pos (a % (b + 1)) with h0 | h0
      · refine ⟨some d2, ?_⟩
        rw [h0, List.map_cons, forL_bk (ρ2 := enc (b + 1) 0 (some d2)) (by unfold turnK; rw [hk]; exact hb0 _ _), Nat.gcd_comm, Nat.gcd_rec, h0, Nat.gcd_zero_left]
      · have e2 : forL h body ((d2 :: l).map D.int) (enc (b + 1) (a % (b + 1)) (some d)) = forL h body (l.map D.int) (enc (a % (b + 1)) ((b + 1) % (a % (b + 1))) (some d2)) := forL_step (by unfold turnK; rw [hk]; exact hb1 _ _ _ h0)
        rw [e2]
        have hh := eu_half h0 (Nat.succ_pos b)
        obtain ⟨z', e⟩ := eu_loop hk hb0 hb1 k l (a % (b + 1)) ((b + 1) % (a % (b + 1))) (some d2) (by rw [Nat.pow_succ] at hb; omega) (by simp at hl; omega)
        refine ⟨z', ?_⟩
        rw [e]
        have e3 : Nat.gcd (a % (b + 1)) ((b + 1) % (a % (b + 1))) = Nat.gcd a (b + 1) := by
          rw [Nat.gcd_comm, ← Nat.gcd_rec, Nat.gcd_comm (a % (b+1)), Nat.gcd_comm a, Nat.gcd_rec (b + 1) a, Nat.gcd_comm (b + 1)]
        rw [e3]
theorem lowest_v {n : Int} {d : Nat} (h : 0 < d) (hd : d < 2 ^ 1990) : Q.g_law_lowest [.int n, .int (d : Int)] = some (fr (mkRat n d)) := by
  have hg : (0 : Int) < (Nat.gcd n.natAbs d : Nat) := by have := mk_gcd_pos (n := n) h; omega
  have hl : Nat.gcd n.natAbs d ≤ d := Nat.gcd_le_right _ h
  have hk : divOk ((Nat.gcd n.natAbs d : Nat) : Int) := divOk_of (a := 1990) hg (by rw [Int.natAbs_natCast]; omega) (by decide)
  have ha : (if n < 0 then -n else n) = ((n.natAbs : Nat) : Int) := by split <;> omega
  obtain ⟨z, e⟩ := eu_loop (h := gN 4) (body := euL) (enc := fun a b z => [some (D.int n), some (D.int (d : Int)), some (D.int (a : Int)), some (D.int (b : Int)), z.map D.int])
    (fun d a b z => by cases z <;> simp) (fun a z => euL_bk) (fun a b z hb => by have := euL_nx (x := some (D.int n)) (y := some (D.int (d : Int))) (z := z.map D.int) (a := (a : Int)) (b := (b : Int)) (by omega); rw [this]; simp) 1990 ((List.range 4000).map fun (i : Nat) => (0 : Int) + (i : Int)) n.natAbs d none hd (by rw [List.length_map, List.length_range]; decide)
  rw [← rngD_ints] at e
  simp only [Option.map_none] at e
  rw [fr_mk h]
  unfold Q.g_law_lowest
  rw [run_def]
  have em : Q.m_law_lowest = (mSeq (mSet 2 (mL dAbs (mCons (mV 0) mNil))) (mSeq (mSet 3 (mP (mV 1))) (mSeq (mFor (mRng1 (mCons (mC (.int 4000)) mNil)) (gN 4) euL) (mRet (mTup (mCons (mB dDiv (mV 0) (mV 2)) (mCons (mB dDiv (mV 1) (mV 2)) mNil))))))) := rfl
  rw [em]
  simp [ha, e, dDiv_ok, hk]
theorem common_v {a b : Nat} (hb : b < 2 ^ 1990) : Q.g_law_common [.int (a : Int), .int (b : Int)] = some (.int ((Nat.gcd a b : Nat) : Int)) := by
  obtain ⟨z, e⟩ := eu_loop (h := gN 2) (body := euS) (enc := fun a b z => [some (D.int (a : Int)), some (D.int (b : Int)), z.map D.int])
    (fun d a b z => by cases z <;> simp) (fun a z => euS_bk) (fun a b z hb => by have := euS_nx (z := z.map D.int) (a := (a : Int)) (b := (b : Int)) (by omega); rw [this]; simp) 1990 ((List.range 4000).map fun (i : Nat) => (0 : Int) + (i : Int)) a b none hb (by rw [List.length_map, List.length_range]; decide)
  rw [← rngD_ints] at e
  simp only [Option.map_none] at e
  unfold Q.g_law_common
  rw [run_def]
  have em : Q.m_law_common = (mSeq (mFor (mRng1 (mCons (mC (.int 4000)) mNil)) (gN 2) euS) (mRet (mV 0))) := rfl
  rw [em]
  simp [e]
/-! ### in fractions -/
theorem ratio_i {n d : Int} (h : 0 < d) (hd : d.natAbs < 2 ^ 8999) : Q.g_ratio [.int n, .int d] = some (fr (Rat.divInt n d)) := by
  obtain ⟨m, rfl⟩ := Int.eq_ofNat_of_zero_le (Int.le_of_lt h)
  rw [Rat.divInt_ofNat, ratio_v (by omega) (by simpa using hd)]
theorem lowest_i {n d : Int} (h : 0 < d) (hd : d.natAbs < 2 ^ 1990) : Q.g_law_lowest [.int n, .int d] = some (fr (Rat.divInt n d)) := by
  obtain ⟨m, rfl⟩ := Int.eq_ofNat_of_zero_le (Int.le_of_lt h)
  rw [Rat.divInt_ofNat, lowest_v (by omega) (by simpa using hd)]
theorem c_ratio {n d : Int} {q : Rat} (h : 0 < d) (hd : d.natAbs < 2 ^ 8999) (e : Rat.divInt n d = q) : callB Q.g_ratio [.int n, .int d] = some (fr q) := callB_of (by simp [ratio_i h hd, e]) tf_fr
theorem c_lowest {n d : Int} {q : Rat} (h : 0 < d) (hd : d.natAbs < 2 ^ 1990) (e : Rat.divInt n d = q) : callB Q.g_law_lowest [.int n, .int d] = some (fr q) := callB_of (by simp [lowest_i h hd, e]) tf_fr
theorem den_pos' (a : Rat) : 0 < (a.den : Int) := by have := a.den_pos; omega
theorem nn_of {a b : Rat} (ha : Sz a) (hb : Sz b) : mulOk a.num b.den := mulOk_of (a := 100000) (b := 990) ha.1 (by rw [Int.natAbs_natCast]; exact hb.2) (by decide)
theorem nd_of {a b : Rat} (ha : Sz a) (hb : Sz b) : mulOk (a.den : Int) b.den := mulOk_of (a := 990) (b := 990) (by rw [Int.natAbs_natCast]; exact ha.2) (by rw [Int.natAbs_natCast]; exact hb.2) (by decide)
theorem nm_of {a b : Rat} (ha : Sz a) (hb : Sz b) : mulOk a.num b.num := mulOk_of (a := 100000) (b := 100000) ha.1 hb.1 (by decide)
theorem dd_of {a b : Rat} (ha : Sz a) (hb : Sz b) : 0 < (a.den : Int) * b.den ∧ ((a.den : Int) * b.den).natAbs < 2 ^ 1980 := by
  refine ⟨Int.mul_pos (den_pos' a) (den_pos' b), ?_⟩
  rw [Int.natAbs_mul, Int.natAbs_natCast, Int.natAbs_natCast, show 1980 = 990 + 990 by rfl, Nat.pow_add]
  exact Nat.mul_lt_mul'' ha.2 hb.2
theorem lt_2 {n a b : Nat} (h : n < 2 ^ a) (hab : a ≤ b := by decide) : n < 2 ^ b := Nat.lt_of_lt_of_le h (Nat.pow_le_pow_right (by decide) hab)
theorem add_div (a b : Rat) : Rat.divInt (a.num * b.den + b.num * a.den) ((a.den : Int) * b.den) = a + b := by
  rw [Rat.add_def', ← Rat.divInt_ofNat, Int.natCast_mul]
theorem mul_div (a b : Rat) : Rat.divInt (a.num * b.num) ((a.den : Int) * b.den) = a * b := by
  rw [Rat.mul_def', ← Rat.divInt_ofNat, Int.natCast_mul]
theorem add_same {a b : Rat} (h : (a.den : Int) = b.den) : Rat.divInt (a.num + b.num) (a.den : Int) = a + b := by
  rw [← add_div, ← h, ← Int.add_mul, Rat.divInt_mul_right (by have := den_pos' a; omega)]
theorem sum_v {a b : Rat} (ha : Sz a) (hb : Sz b) : Q.g_law_sum [fr a, fr b] = some (fr (a + b)) := by
  have hd := dd_of ha hb
  simp [Q.g_law_sum, run_def, Q.m_law_sum, dMul_ok, nn_of ha hb, nn_of hb ha, nd_of ha hb, c_lowest hd.1 (lt_2 hd.2) (add_div a b)]
theorem product_v {a b : Rat} (ha : Sz a) (hb : Sz b) : Q.g_law_product [fr a, fr b] = some (fr (a * b)) := by
  have hd := dd_of ha hb
  simp [Q.g_law_product, run_def, Q.m_law_product, dMul_ok, nm_of ha hb, nd_of ha hb, c_lowest hd.1 (lt_2 hd.2) (mul_div a b)]
theorem below_v {a b : Rat} (ha : Sz a) (hb : Sz b) : Q.g_law_below [fr a, fr b] = some (.bl (decide (a < b))) := by
  simp [Q.g_law_below, run_def, Q.m_law_below, dMul_ok, nn_of ha hb, nn_of hb ha, Rat.lt_iff]
theorem plus_v {a b : Rat} (ha : Sz a) (hb : Sz b) : Q.g_plus [fr a, fr b] = some (fr (a + b)) := by
  have hd := dd_of ha hb
  have hd' : (a.den : Int).natAbs < 2 ^ 8999 := lt_2 (a := 990) (by rw [Int.natAbs_natCast]; exact ha.2)
  by_cases h : (a.den : Int) = b.den
  · have h' : a.den = b.den := by omega
    simp [Q.g_plus, run_def, Q.m_plus, h', ← h, c_ratio (den_pos' a) hd' (add_same h)]
  · have h' : ¬ a.den = b.den := by omega
    simp [Q.g_plus, run_def, Q.m_plus, dMul_ok, h, nn_of ha hb, nn_of hb ha, nd_of ha hb, c_ratio hd.1 (lt_2 hd.2) (add_div a b)]
theorem Sz.neg {a : Rat} (h : Sz a) : Sz (-a) := by
  refine ⟨?_, h.2⟩
  rw [Rat.neg_num, Int.natAbs_neg]; exact h.1
theorem c_of {g : List D → Option D} {ds : List D} {q : Rat} (h : g ds = some (fr q)) (e : fzL ds = ds) : callB g ds = some (fr q) := callB_of (by rw [e, h]) tf_fr
theorem fr_neg {a : Rat} : D.tup [.int (-a.num), .int (a.den : Int)] = fr (-a) := rfl
theorem minus_v {a b : Rat} (ha : Sz a) (hb : Sz b) : Q.g_minus [fr a, fr b] = some (fr (a - b)) := by
  simp [Q.g_minus, run_def, Q.m_minus, fr_neg, c_of (plus_v ha hb.neg), Rat.sub_eq_add_neg]
end R

set_option Elab.async false
set_option linter.all false
set_option maxRecDepth 100000
set_option maxHeartbeats 4000000
/-! RS: the drawn numbers, and the comparison. -/
namespace R
open PySem L2
/-- the items of the drawn row -/
def Row (l : List Int) : Prop := ∀ x ∈ l, 0 ≤ x ∧ x < 60
theorem Row.nil : Row [] := fun _ h => by simp at h
theorem Row.app {l : List Int} {x : Int} (h : Row l) (h0 : 0 ≤ x) (h1 : x < 60) : Row (l ++ [x]) := fun y hy => by
  rcases List.mem_append.mp hy with h' | h'
  · exact h y h'
  · have : y = x := by simpa using h'
    omega
theorem mul_small {a b : Int} (h0 : 0 ≤ a) (h1 : a < 2147483647) (h2 : 0 ≤ b) (h3 : b < 2147483647) : mulOk a b := mulOk_of (a := 32) (b := 32) (by omega) (by omega) (by decide)
def nuT : SM := (mIte (mT (mB dGt (mV 5) (mC (.int 0)))) (mSeq (mApp (rV 2) (mB dMod (mL dInt (mCons (mV 5) mNil)) (mC (.int 60)))) (mSet 5 (mB dDiv (mV 5) (mC (.int 60))))) mNx)
def nuF : SM := (mIte (mT (mB dGe (mV 5) (mC (.int 1000000000000000000)))) (mFor (mRng1 (mCons (mC (.int 60)) mNil)) (gN 6) nuT) mNx)
def nuA : SM := (mSeq (mSet 5 (mL dInt (mCons (mB dIx (mV 0) (mV 4)) mNil)))
    (mSeq (mSet 3 (mB dMod (mL dInt (mCons (mB dAdd (mB dAdd (mB dMul (mV 3) (mC (.int 69621))) (mB dMod (mV 5) (mC (.int 2147483647)))) (mV 4)) mNil)) (mC (.int 2147483647)))) nuF))
def nuB : SM := (mSeq (mSet 3 (mB dMod (mL dInt (mCons (mB dAdd (mB dMul (mV 3) (mC (.int 48271))) (mC (.int 12345))) mNil)) (mC (.int 2147483647))))
    (mApp (rV 2) (mB dMod (mL dInt (mCons (mB dMod (mL dInt (mCons (mB dAdd (mB dMul (mV 3) (mV 3)) (mC (.int 17))) mNil)) (mC (.int 1000003))) mNil)) (mC (.int 60)))))
def nuS (ns : List Int) (many : Int) (row : List Int) (seed : Int) (k r t : Option Int) : Rho := [some (.scr (ns.map D.int)), some (.int many), some (.lst true (row.map D.int)), some (.int seed), k.map D.int, r.map D.int, t.map D.int]
theorem nuT_v {ns row : List Int} {many seed rest : Int} {k t : Option Int} (hr : Row row) (hl : row.length < sizeLine) : ∃ row' rest', nuT (nuS ns many row seed k (some rest) t) = some (.nx (nuS ns many row' seed k (some rest') t)) ∧ Row row' ∧ row.length ≤ row'.length ∧ row'.length ≤ row.length + 1 := by
  by_cases h : 0 < rest
  · refine ⟨row ++ [rest % 60], rest / 60, ?_, hr.app (by omega) (by omega), by simp, by simp⟩
    have hd : divOk 60 := divOk_of (a := 6) (by decide) (by decide) (by decide)
    simp [nuT, nuS, h, dMod_ok, dDiv_ok, hd, hl]
  · refine ⟨row, rest, ?_, hr, by omega, by omega⟩
    have h' : decide (rest > 0) = false := by simp; omega
    simp [nuT, nuS, h]
theorem nuF_v {ns row : List Int} {many seed rest : Int} {k t : Option Int} (hr : Row row) (hl : row.length + 60 ≤ sizeLine) : ∃ row' rest' t', nuF (nuS ns many row seed k (some rest) t) = some (.nx (nuS ns many row' seed k (some rest') t')) ∧ Row row' ∧ row.length ≤ row'.length ∧ row'.length ≤ row.length + 60 := by
  by_cases h : 1000000000000000000 ≤ rest
  · have hI := forL_inv (h := gN 6) (body := nuT) (l := rngD 0 60) (k := 0) (ρ := nuS ns many row seed k (some rest) t) (fun n ρ => ∃ row' rest' t', ρ = nuS ns many row' seed k (some rest') t' ∧ Row row' ∧ row.length ≤ row'.length ∧ row'.length ≤ row.length + n)
      ⟨row, rest, t, rfl, hr, by omega, by omega⟩ (fun i d ρ hi => by
        rintro ⟨row', rest', t', rfl, h1, h2, h3⟩
        have hi60 : i < 60 := by
          have := (List.getElem?_eq_some_iff.mp hi).1
          rw [rngD, List.length_map, List.length_range] at this; exact this
        have hd : ∃ j : Int, d = .int j := by
          rw [rngD_ints, List.getElem?_map] at hi
          cases h : ((List.range 60).map fun (i : Nat) => (0 : Int) + (i : Int))[i]? with
          | none => rw [h] at hi; simp at hi
          | some j => rw [h] at hi; exact ⟨j, by simpa using hi.symm⟩
        obtain ⟨j, rfl⟩ := hd
        obtain ⟨row2, rest2, e, a1, a2, a3⟩ := nuT_v (ns := ns) (many := many) (seed := seed) (k := k) (t := some j) (rest := rest') h1 (by omega)
        refine ⟨_, ?_, row2, rest2, some j, rfl, a1, by omega, by omega⟩
        unfold turnK
        have : gN 6 (.int j) (nuS ns many row' seed k (some rest') t') = some (nuS ns many row' seed k (some rest') (some j)) := by cases t' <;> simp [nuS]
        rw [this]
        exact e)
    obtain ⟨ρ', e, row', rest', t', rfl, h1, h2, h3⟩ := hI
    refine ⟨row', rest', t', ?_, h1, h2, ?_⟩
    · have hv : mV 5 (nuS ns many row seed k (some rest) t) = some (.int rest) := by simp [nuS]
      have hk : rng1 [.int 60] = some (rngD 0 60) := rng1_int (by decide)
      simp [nuF, h, nuS, hk] at e ⊢
      exact e
    · rw [rngD, List.length_map, List.length_range] at h3; omega
  · refine ⟨row, rest, t, ?_, hr, by omega, by omega⟩
    simp [nuF, nuS, h]
theorem rngD_at {lo : Int} {n i : Nat} {d : D} (h : (rngD lo n)[i]? = some d) : i < n ∧ d = .int (lo + (i : Int)) := by
  have hi := (List.getElem?_eq_some_iff.mp h).1
  rw [rngD, List.length_map, List.length_range] at hi
  refine ⟨hi, ?_⟩
  rw [rngD, List.getElem?_map, List.getElem?_range hi] at h
  simpa using h.symm
theorem nuA_v {ns row : List Int} {many seed : Int} {k : Nat} {r t : Option Int} (hk : k < ns.length) (hr : Row row) (hs : 0 ≤ seed ∧ seed < 2147483647) (hl : row.length + 60 ≤ sizeLine) :
    ∃ row' seed' rest' t', nuA (nuS ns many row seed (some (k : Int)) r t) = some (.nx (nuS ns many row' seed' (some (k : Int)) (some rest') t')) ∧ Row row' ∧ (0 ≤ seed' ∧ seed' < 2147483647) ∧ row.length ≤ row'.length ∧ row'.length ≤ row.length + 60 := by
  obtain ⟨row', rest', t', e, h1, h2, h3⟩ := nuF_v (ns := ns) (many := many) (seed := (seed * 69621 + ns[k] % 2147483647 + (k : Int)) % 2147483647) (k := some (k : Int)) (rest := ns[k]) (t := t) hr hl
  refine ⟨row', (seed * 69621 + ns[k] % 2147483647 + (k : Int)) % 2147483647, rest', t', ?_, h1, ⟨by omega, by omega⟩, h2, h3⟩
  have hm : mulOk seed 69621 := mul_small hs.1 hs.2 (by decide) (by decide)
  have hx : ns[k]? = some ns[k] := List.getElem?_eq_getElem hk
  simp [nuA, nuS, hm, hx, dMul_ok, dMod_ok] at e ⊢
  exact e
theorem nuB_v {ns row : List Int} {many seed : Int} {k r t : Option Int} (hr : Row row) (hs : 0 ≤ seed ∧ seed < 2147483647) (hl : row.length < sizeLine) :
    ∃ row' seed', nuB (nuS ns many row seed k r t) = some (.nx (nuS ns many row' seed' k r t)) ∧ Row row' ∧ (0 ≤ seed' ∧ seed' < 2147483647) ∧ row'.length = row.length + 1 := by
  have hm : mulOk seed 48271 := mul_small hs.1 hs.2 (by decide) (by decide)
  have hs2 : 0 ≤ (seed * 48271 + 12345) % 2147483647 ∧ (seed * 48271 + 12345) % 2147483647 < 2147483647 := ⟨by omega, by omega⟩
  have hm2 : mulOk ((seed * 48271 + 12345) % 2147483647) ((seed * 48271 + 12345) % 2147483647) := mul_small hs2.1 hs2.2 hs2.1 hs2.2
  refine ⟨row ++ [(((seed * 48271 + 12345) % 2147483647) * ((seed * 48271 + 12345) % 2147483647) + 17) % 1000003 % 60], (seed * 48271 + 12345) % 2147483647, ?_, hr.app (by omega) (by omega), hs2, by simp⟩
  simp [nuB, nuS, hm, hm2, dMul_ok, dMod_ok, hl]
/-- one statement after another -/
theorem seq_nx {m1 m2 : SM} {ρ ρ' : Rho} (h : m1 ρ = some (.nx ρ')) : mSeq m1 m2 ρ = m2 ρ' := by rw [mSeq_def, h]; rfl
theorem seq_rt {m1 m2 : SM} {ρ : Rho} {d : D} (h : m1 ρ = some (.rt d)) : mSeq m1 m2 ρ = some (.rt d) := by rw [mSeq_def, h]; rfl
theorem line_many : 100000 ≤ sizeLine := few (Nat.le_refl _)
/-- the drawn numbers -/
theorem numbers_v {ns : List Int} {many : Nat} (hn : ns.length ≤ 63) (hm : many ≤ 50000) : ∃ row : List Int, Q.g_law_numbers [.scr (ns.map D.int), .int (many : Int)] = some (.lst true (row.map D.int)) ∧ Row row ∧ many ≤ row.length ∧ row.length ≤ many + 63 * 60 := by
  have hL := line_many
  obtain ⟨ρ1, e1, row1, seed1, k1, r1, t1, rfl, a1, a2, a3⟩ := forL_inv (h := gN 4) (body := nuA) (l := rngD 0 ns.length) (k := 0) (ρ := nuS ns many [] 7 none none none)
    (fun n ρ => ∃ row seed k r t, ρ = nuS ns many row seed k r t ∧ Row row ∧ (0 ≤ seed ∧ seed < 2147483647) ∧ row.length ≤ 60 * n)
    ⟨[], 7, none, none, none, rfl, Row.nil, by decide, by decide⟩ (fun i d ρ hi => by
      rintro ⟨row, seed, k, r, t, rfl, h1, h2, h3⟩
      obtain ⟨hi', rfl⟩ := rngD_at hi
      obtain ⟨row', seed', rest', t', e, b1, b2, b3, b4⟩ := nuA_v (ns := ns) (many := many) (r := r) (t := t) hi' h1 h2 (by omega)
      refine ⟨_, ?_, row', seed', some (i : Int), some rest', t', rfl, b1, b2, by omega⟩
      unfold turnK
      have : gN 4 (.int (0 + (i : Int))) (nuS ns many row seed k r t) = some (nuS ns many row seed (some (i : Int)) r t) := by cases k <;> simp [nuS]
      rw [this]
      exact e)
  obtain ⟨ρ2, e2, row2, seed2, t2, rfl, c1, c2, c3⟩ := forL_inv (h := gN 6) (body := nuB) (l := rngD 0 many) (k := 0) (ρ := nuS ns many row1 seed1 k1 r1 t1)
    (fun n ρ => ∃ row seed t, ρ = nuS ns many row seed k1 r1 t ∧ Row row ∧ (0 ≤ seed ∧ seed < 2147483647) ∧ row.length = row1.length + n)
    ⟨row1, seed1, t1, rfl, a1, a2, rfl⟩ (fun i d ρ hi => by
      rintro ⟨row, seed, t, rfl, h1, h2, h3⟩
      obtain ⟨hi', rfl⟩ := rngD_at hi
      have a3' := a3
      rw [rngD_len] at a3'
      obtain ⟨row', seed', e, b1, b2, b3⟩ := nuB_v (ns := ns) (many := many) (k := k1) (r := r1) (t := some (i : Int)) h1 h2 (by omega)
      refine ⟨_, ?_, row', seed', some (i : Int), rfl, b1, b2, by omega⟩
      unfold turnK
      have : gN 6 (.int (0 + (i : Int))) (nuS ns many row seed k1 r1 t) = some (nuS ns many row seed k1 r1 (some (i : Int))) := by cases t <;> simp [nuS]
      rw [this]
      exact e)
  rw [rngD_len] at a3 c3
  refine ⟨row2, ?_, c1, by omega, by omega⟩
  have em : Q.m_law_numbers = (mSeq (mSet 2 (mLst mNil)) (mSeq (mSet 3 (mC (.int 7))) (mSeq (mFor (mRng1 (mCons (mL dLen (mCons (mV 0) mNil)) mNil)) (gN 4) nuA) (mSeq (mFor (mRng1 (mCons (mV 1) mNil)) (gN 6) nuB) (mRet (mV 2)))))) := rfl
  have k1' : rng1 [.int (ns.length : Int)] = some (rngD 0 ns.length) := rng1_int (by omega)
  have k2' : rng1 [.int (many : Int)] = some (rngD 0 many) := rng1_int (by omega)
  unfold Q.g_law_numbers
  rw [run_def, em]
  have s1 : mSet 2 (mLst mNil) ((([D.scr (ns.map D.int), D.int (many : Int)] : List D).map some) ++ List.replicate (7 - 2) none) = some (.nx [some (.scr (ns.map D.int)), some (.int (many : Int)), some (.lst true []), none, none, none, none]) := by simp
  have s2 : mSet 3 (mC (.int 7)) [some (.scr (ns.map D.int)), some (.int (many : Int)), some (.lst true []), none, none, none, none] = some (.nx (nuS ns many [] 7 none none none)) := by simp [nuS]
  have s3 : mFor (mRng1 (mCons (mL dLen (mCons (mV 0) mNil)) mNil)) (gN 4) nuA (nuS ns many [] 7 none none none) = some (.nx (nuS ns many row1 seed1 k1 r1 t1)) := by
    have : mRng1 (mCons (mL dLen (mCons (mV 0) mNil)) mNil) (nuS ns many [] 7 none none none) = some (rngD 0 ns.length) := by simp [nuS, k1']
    rw [mFor_def, this]
    exact e1
  have s4 : mFor (mRng1 (mCons (mV 1) mNil)) (gN 6) nuB (nuS ns many row1 seed1 k1 r1 t1) = some (.nx (nuS ns many row2 seed2 k1 r1 t2)) := by
    have : mRng1 (mCons (mV 1) mNil) (nuS ns many row1 seed1 k1 r1 t1) = some (rngD 0 many) := by simp [nuS, k2']
    rw [mFor_def, this]
    exact e2
  rw [seq_nx s1, seq_nx s2, seq_nx s3, seq_nx s4]
  simp [nuS]

/-! ### the comparison -/
def pla : Nat → D → Bool
  | 0, _ => false
  | _ + 1, .non => true
  | _ + 1, .bl _ => true
  | _ + 1, .int _ => true
  | _ + 1, .str _ => true
  | k + 1, .tup l => l.all (pla k) && decide (l.length < 4611686018427387904)
  | _ + 1, _ => false
theorem pla_fz : ∀ {k : Nat} {d : D}, pla k d = true → frz d = true
  | _ + 1, .non, _ => rfl
  | _ + 1, .bl _, _ => rfl
  | _ + 1, .int _, _ => rfl
  | _ + 1, .str _, _ => rfl
  | k + 1, .tup l, h => by
    rw [frz_tup]
    simp [pla] at h
    exact frzL_of fun d hd => pla_fz (h.1 d hd)
def smB (k : Nat) : SM := (mIte (mNotB (mT (mCallB (Q.g_law_same k) (mCons (mB dIx (mV 0) (mV 2)) (mCons (mB dIx (mV 1) (mV 2)) mNil))))) (mRet (mC (.bl false))) mNx)
theorem same_v : ∀ {k : Nat} {d : D}, pla k d = true → Q.g_law_same k [d, d] = some (.bl true)
  | _ + 1, .non, _ => by simp [Q.g_law_same, run_def, Q.m_law_same]
  | _ + 1, .bl _, _ => by simp [Q.g_law_same, run_def, Q.m_law_same]
  | _ + 1, .int _, _ => by simp [Q.g_law_same, run_def, Q.m_law_same]
  | _ + 1, .str _, _ => by simp [Q.g_law_same, run_def, Q.m_law_same]
  | k + 1, .tup l, h => by
    simp [pla] at h
    obtain ⟨ρ1, e1, z, rfl⟩ := forL_inv (h := gN 2) (body := smB k) (l := rngD 0 l.length) (k := 0) (ρ := [some (.tup l), some (.tup l), none])
      (fun n ρ => ∃ z : Option Int, ρ = [some (.tup l), some (.tup l), z.map D.int]) ⟨none, rfl⟩ (fun i d ρ hi => by
        rintro ⟨z, rfl⟩
        obtain ⟨hi', rfl⟩ := rngD_at hi
        refine ⟨_, ?_, some (i : Int), rfl⟩
        unfold turnK
        have : gN 2 (.int (0 + (i : Int))) [some (.tup l), some (.tup l), z.map D.int] = some [some (.tup l), some (.tup l), some (.int (i : Int))] := by cases z <;> simp
        rw [this]
        have hp := h.1 l[i] (List.getElem_mem hi')
        have hf := fz_frz _ (pla_fz hp)
        have hc : callB (Q.g_law_same k) [l[i], l[i]] = some (.bl true) := callB_of (by simp [hf, same_v hp]) rfl
        have hx : l[i]? = some l[i] := List.getElem?_eq_getElem hi'
        simp [smB, hx, hc])
    have hk : rng1 [.int (l.length : Int)] = some (rngD 0 l.length) := rng1_int ⟨by have := h.2; omega, by omega⟩
    have e0 : mFor (mRng1 (mCons (mL dLen (mCons (mV 1) mNil)) mNil)) (gN 2) (smB k) [some (.tup l), some (.tup l), none] = some (.nx [some (.tup l), some (.tup l), z.map D.int]) := by
      rw [mFor_def]
      have : mRng1 (mCons (mL dLen (mCons (mV 1) mNil)) mNil) [some (.tup l), some (.tup l), none] = some (rngD 0 l.length) := by simp [hk]
      rw [this]
      exact e1
    unfold smB at e0
    rw [Q.g_law_same, run_def]
    unfold Q.m_law_same
    rw [seq_nx (ρ' := [some (.tup l), some (.tup l), none]) (by simp), seq_nx (ρ' := [some (.tup l), some (.tup l), none]) (by simp), seq_nx (ρ' := [some (.tup l), some (.tup l), none]) (by simp), seq_nx (ρ' := [some (.tup l), some (.tup l), none]) (by simp), seq_nx (ρ' := [some (.tup l), some (.tup l), none]) (by simp), seq_nx (ρ' := [some (.tup l), some (.tup l), z.map D.int]) e0]
    simp
end R

set_option Elab.async false
set_option linter.all false
set_option maxRecDepth 100000
set_option maxHeartbeats 4000000
/-! RT: fractions of a bounded kind; loops that look for the first; weighted sums. -/
namespace R
open PySem L2
/-! ### fractions with denominators of a kind -/
def PB : Nat := 9690712164777231700912800
theorem PB_pos : 0 < PB := by decide
theorem PB_lt : PB < 2 ^ 84 := by decide
theorem PB_dvd : ∀ d : Nat, d < 61 → 0 < d → d ∣ PB := by decide +kernel
theorem PB_200 : 200 ∣ PB := by decide +kernel
theorem PBk_pos (k : Nat) : 0 < PB ^ k := Nat.pow_pos PB_pos
theorem PBk_ne (k : Nat) : PB ^ k ≠ 0 := by have := PBk_pos k; omega
theorem PBk_lt (k : Nat) : PB ^ k ≤ 2 ^ (84 * k) := by
  rw [Nat.pow_mul]; exact Nat.pow_le_pow_left (Nat.le_of_lt PB_lt) k
def Lvl (k b : Nat) (q : Rat) : Prop := ∃ n : Int, q = mkRat n (PB ^ k) ∧ n.natAbs < 2 ^ b
theorem abs_add_lt {m n : Int} {a b : Nat} (h1 : m.natAbs < 2 ^ a) (h2 : n.natAbs < 2 ^ b) : (m + n).natAbs < 2 ^ (max a b + 1) := by
  have e1 := Nat.pow_le_pow_right (n := 2) (by decide) (Nat.le_max_left a b)
  have e2 := Nat.pow_le_pow_right (n := 2) (by decide) (Nat.le_max_right a b)
  rw [Nat.pow_succ]
  omega
theorem abs_mul_lt {m n : Int} {a b : Nat} (h1 : m.natAbs < 2 ^ a) (h2 : n.natAbs < 2 ^ b) : (m * n).natAbs < 2 ^ (a + b) := by
  rw [Int.natAbs_mul, Nat.pow_add]
  exact Nat.mul_lt_mul'' h1 h2
theorem Lvl.add {k b c : Nat} {p q : Rat} : Lvl k b p → Lvl k c q → Lvl k (max b c + 1) (p + q) := by
  rintro ⟨m, rfl, h1⟩ ⟨n, rfl, h2⟩
  refine ⟨m + n, ?_, abs_add_lt h1 h2⟩
  rw [Rat.mkRat_add_mkRat _ _ (PBk_ne k) (PBk_ne k), ← Int.add_mul, Rat.mkRat_mul_right (PBk_ne k)]
theorem Lvl.neg {k b : Nat} {p : Rat} : Lvl k b p → Lvl k b (-p) := by
  rintro ⟨m, rfl, h1⟩
  exact ⟨-m, Rat.neg_mkRat _ _, by rw [Int.natAbs_neg]; exact h1⟩
theorem Lvl.sub {k b c : Nat} {p q : Rat} (h1 : Lvl k b p) (h2 : Lvl k c q) : Lvl k (max b c + 1) (p - q) := by
  rw [Rat.sub_eq_add_neg]; exact h1.add h2.neg
theorem Lvl.mul {k l b c : Nat} {p q : Rat} : Lvl k b p → Lvl l c q → Lvl (k + l) (b + c) (p * q) := by
  rintro ⟨m, rfl, h1⟩ ⟨n, rfl, h2⟩
  refine ⟨m * n, ?_, abs_mul_lt h1 h2⟩
  rw [Rat.mkRat_mul_mkRat, Nat.pow_add]
theorem Lvl.le {k b c : Nat} {p : Rat} (h : b ≤ c) : Lvl k b p → Lvl k c p := by
  rintro ⟨m, rfl, h1⟩
  exact ⟨m, rfl, Nat.lt_of_lt_of_le h1 (Nat.pow_le_pow_right (by decide) h)⟩
theorem Lvl.up {k l b : Nat} {p : Rat} (h : k ≤ l) : Lvl k b p → Lvl l (b + 84 * (l - k)) p := by
  rintro ⟨m, rfl, h1⟩
  refine ⟨m * ((PB ^ (l - k) : Nat) : Int), ?_, ?_⟩
  · rw [show PB ^ l = PB ^ k * PB ^ (l - k) by rw [← Nat.pow_add]; congr 1; omega, Rat.mkRat_mul_right (PBk_ne _)]
  · rw [Int.natAbs_mul, Int.natAbs_natCast, Nat.pow_add]
    exact Nat.lt_of_le_of_lt (Nat.mul_le_mul_left _ (PBk_lt _)) (Nat.mul_lt_mul_of_pos_right h1 (Nat.two_pow_pos _))
/-- to one kind -/
theorem Lvl.to {k l b c : Nat} {p : Rat} (h : Lvl k b p) (hk : k ≤ l := by decide) (hb : b + 84 * (l - k) ≤ c := by decide) : Lvl l c p := (h.up hk).le hb
theorem Lvl.frac {n : Int} {d b : Nat} (h0 : 0 < d) (hd : d < 61) (hn : n.natAbs < 2 ^ b) : Lvl 1 (b + 84) (mkRat n d) := by
  obtain ⟨c, hc⟩ := PB_dvd d hd h0
  have h0c : c ≠ 0 := by rintro rfl; rw [Nat.mul_zero] at hc; exact absurd hc (by decide)
  refine ⟨n * (c : Int), ?_, ?_⟩
  · rw [Nat.pow_one, hc, Rat.mkRat_mul_right h0c]
  · rw [Int.natAbs_mul, Int.natAbs_natCast, Nat.pow_add]
    have : c ≤ 2 ^ 84 := Nat.le_trans (Nat.le_of_dvd PB_pos ⟨d, by rw [hc, Nat.mul_comm]⟩) (Nat.le_of_lt PB_lt)
    exact Nat.lt_of_le_of_lt (Nat.mul_le_mul_left _ this) (Nat.mul_lt_mul_of_pos_right hn (Nat.two_pow_pos _))
theorem Lvl.frac200 {n : Int} {b : Nat} (hn : n.natAbs < 2 ^ b) : Lvl 1 (b + 84) (mkRat n 200) := by
  obtain ⟨c, hc⟩ := PB_200
  have h0c : c ≠ 0 := by rintro rfl; exact absurd hc (by decide)
  refine ⟨n * (c : Int), ?_, ?_⟩
  · rw [Nat.pow_one, hc, Rat.mkRat_mul_right h0c]
  · rw [Int.natAbs_mul, Int.natAbs_natCast, Nat.pow_add]
    have : c ≤ 2 ^ 84 := Nat.le_trans (Nat.le_of_dvd PB_pos ⟨200, by rw [hc, Nat.mul_comm]⟩) (Nat.le_of_lt PB_lt)
    exact Nat.lt_of_le_of_lt (Nat.mul_le_mul_left _ this) (Nat.mul_lt_mul_of_pos_right hn (Nat.two_pow_pos _))
theorem Lvl.int {n : Int} {b : Nat} (hn : n.natAbs < 2 ^ b) : Lvl 0 b (n : Rat) := ⟨n, (Rat.mkRat_self (n : Rat)).symm, hn⟩
theorem mk_den {n : Int} {d : Nat} (h : d ≠ 0) : (mkRat n d).den ∣ d := by
  rw [Rat.mkRat_def, dif_neg h, Rat.normalize_eq]
  exact Nat.div_dvd_of_dvd (Nat.gcd_dvd_right _ _)
theorem mk_num {n : Int} {d : Nat} (h : d ≠ 0) : (mkRat n d).num.natAbs ≤ n.natAbs := by
  rw [Rat.mkRat_def, dif_neg h, Rat.normalize_eq]
  show (n / ((Nat.gcd n.natAbs d : Nat) : Int)).natAbs ≤ _
  obtain ⟨c, hc⟩ := Int.natCast_dvd_natCast.mpr (Nat.gcd_dvd_left n.natAbs d)
  have hg : (0 : Int) < ((Nat.gcd n.natAbs d : Nat) : Int) := by have := Nat.gcd_pos_of_pos_right n.natAbs (Nat.pos_of_ne_zero h); omega
  have hd : ((Nat.gcd n.natAbs d : Nat) : Int) ∣ n := by
    rcases Int.natAbs_eq n with e | e
    · rw [hc] at e; exact ⟨c, e⟩
    · rw [hc] at e; exact ⟨-c, by rw [Int.mul_neg]; exact e⟩
  obtain ⟨m, hm⟩ := hd
  have e1 : n / ((Nat.gcd n.natAbs d : Nat) : Int) = m := by
    conv => lhs; lhs; rw [hm]
    exact Int.mul_ediv_cancel_left _ (by omega)
  rw [e1]
  have e2 : n.natAbs = (Nat.gcd n.natAbs d) * m.natAbs := by
    have := congrArg Int.natAbs hm
    rwa [Int.natAbs_mul, Int.natAbs_natCast] at this
  rw [e2]
  exact Nat.le_mul_of_pos_left _ (by omega)
theorem Lvl.den {k b : Nat} {q : Rat} : Lvl k b q → q.den ∣ PB ^ k := by
  rintro ⟨n, rfl, _⟩; exact mk_den (PBk_ne k)
theorem Lvl.num {k b : Nat} {q : Rat} : Lvl k b q → q.num.natAbs < 2 ^ b := by
  rintro ⟨n, rfl, h⟩; exact Nat.lt_of_le_of_lt (mk_num (PBk_ne k)) h
theorem Lvl.sz {k b : Nat} {q : Rat} (h : Lvl k b q) (hk : k ≤ 10 := by decide) (hb : b ≤ 100000 := by decide) : Sz q := by
  refine ⟨Nat.lt_of_lt_of_le h.num (Nat.pow_le_pow_right (by decide) hb), ?_⟩
  refine Nat.lt_of_le_of_lt (Nat.le_of_dvd (PBk_pos k) h.den) (Nat.lt_of_le_of_lt (PBk_lt k) ?_)
  exact Nat.pow_lt_pow_right (by decide) (by omega)
/-! ### loops that look for the first -/
theorem rngD_succ {lo : Int} {n : Nat} : rngD lo (n + 1) = .int lo :: rngD (lo + 1) n := by
  unfold rngD
  rw [List.range_succ_eq_map, List.map_cons, List.map_map]
  congr 1
  · simp
  · refine List.map_congr_left fun i _ => ?_
    simp; omega
def find (f : Nat → Option D) : Nat → Nat → Option D
  | _, 0 => none
  | k, n + 1 => match f k with
    | some d => some d
    | none => find f (k + 1) n
/-- a loop that gives the first answer, or goes through -/
theorem forL_find {h : GM} {body : SM} {f : Nat → Option D} (I : Rho → Prop) : ∀ {n k : Nat} {ρ : Rho}, I ρ →
    (∀ i, k ≤ i → i < k + n → ∀ ρ, I ρ → match f i with
      | some d => turnK h body (.int (i : Int)) ρ = some (.rt d)
      | none => ∃ ρ', (turnK h body (.int (i : Int)) ρ = some (.nx ρ') ∨ turnK h body (.int (i : Int)) ρ = some (.ct ρ')) ∧ I ρ') →
    match find f k n with
      | some d => forL h body (rngD (k : Int) n) ρ = some (.rt d)
      | none => ∃ ρ', forL h body (rngD (k : Int) n) ρ = some (.nx ρ') ∧ I ρ'
  | 0, k, ρ, i0, _ => ⟨ρ, rfl, i0⟩
  | n + 1, k, ρ, i0, hs => by
    have h0 := hs k (Nat.le_refl _) (by omega) ρ i0
    unfold find
    rw [rngD_succ]
    cases e : f k with
    | some d =>
      rw [e] at h0
      exact forL_rt h0
    | none =>
      rw [e] at h0
      obtain ⟨ρ1, e1, i1⟩ := h0
      have ih := forL_find (f := f) I (n := n) (k := k + 1) i1 (fun i hi hj ρ hr => hs i (by omega) (by omega) ρ hr)
      have ec : ((k : Int) + 1) = ((k + 1 : Nat) : Int) := by omega
      have es : forL h body (.int (k : Int) :: rngD ((k + 1 : Nat) : Int) n) ρ = forL h body (rngD ((k + 1 : Nat) : Int) n) ρ1 := by
        rcases e1 with e1 | e1
        · exact forL_step e1
        · exact forL_ct e1
      rw [ec, es]
      exact ih
theorem find_congr {f g : Nat → Option D} : ∀ {n k : Nat}, (∀ i, k ≤ i → i < k + n → f i = g i) → find f k n = find g k n
  | 0, _, _ => rfl
  | n + 1, k, h => by
    unfold find
    rw [h k (Nat.le_refl _) (by omega), find_congr fun i hi hj => h i (by omega) (by omega)]
theorem find_none {f : Nat → Option D} : ∀ {n k : Nat}, (∀ i, k ≤ i → i < k + n → f i = none) → find f k n = none
  | 0, _, _ => rfl
  | n + 1, k, h => by
    unfold find
    rw [h k (Nat.le_refl _) (by omega)]
    exact find_none fun i hi hj => h i (by omega) (by omega)
theorem find_at {f : Nat → Option D} : ∀ {n k m : Nat}, k ≤ m → m < k + n → (∀ i, k ≤ i → i < m → f i = none) → (f m).isSome = true → find f k n = f m
  | 0, k, m, h1, h2, _, _ => by omega
  | n + 1, k, m, h1, h2, h, hs => by
    unfold find
    by_cases e : k = m
    · subst e
      cases hf : f k with
      | some d => rfl
      | none => rw [hf] at hs; exact absurd hs (by decide)
    · rw [h k (Nat.le_refl _) (by omega)]
      exact find_at (by omega) (by omega) (fun i hi hj => h i (by omega) hj) hs
/-! ### sums over places -/
def sumR : Nat → (Nat → Rat) → Rat
  | 0, _ => 0
  | n + 1, f => sumR n f + f n
def sumI : Nat → (Nat → Int) → Int
  | 0, _ => 0
  | n + 1, f => sumI n f + f n
theorem sumR_s {n : Nat} {f : Nat → Rat} : sumR (n + 1) f = sumR n f + f n := rfl
theorem sumI_s {n : Nat} {f : Nat → Int} : sumI (n + 1) f = sumI n f + f n := rfl
theorem sumI_list {f : Nat → Int} : ∀ {n : Nat}, ((List.range n).map f).sum = sumI n f
  | 0 => rfl
  | n + 1 => by rw [List.range_succ, List.map_append, List.sum_append, sumI_list]; simp [sumI]
theorem sumR_congr {f g : Nat → Rat} : ∀ {n : Nat}, (∀ i, i < n → f i = g i) → sumR n f = sumR n g
  | 0, _ => rfl
  | n + 1, h => by unfold sumR; rw [sumR_congr fun i hi => h i (by omega), h n (by omega)]
theorem sumI_congr {f g : Nat → Int} : ∀ {n : Nat}, (∀ i, i < n → f i = g i) → sumI n f = sumI n g
  | 0, _ => rfl
  | n + 1, h => by unfold sumI; rw [sumI_congr fun i hi => h i (by omega), h n (by omega)]
theorem sumR_cast {f : Nat → Int} : ∀ {n : Nat}, ((sumI n f : Int) : Rat) = sumR n fun i => ((f i : Int) : Rat)
  | 0 => rfl
  | n + 1 => by unfold sumI sumR; rw [Rat.intCast_add, sumR_cast]
theorem sumR_mul {c : Rat} {f : Nat → Rat} : ∀ {n : Nat}, sumR n (fun i => c * f i) = c * sumR n f
  | 0 => by simp [sumR]
  | n + 1 => by unfold sumR; rw [sumR_mul]; grind
theorem sumR_add {f g : Nat → Rat} : ∀ {n : Nat}, sumR n (fun i => f i + g i) = sumR n f + sumR n g
  | 0 => (Rat.add_zero 0).symm
  | n + 1 => by rw [sumR_s, sumR_s, sumR_s, sumR_add]; grind
theorem sumR_zero {f : Nat → Rat} : ∀ {n : Nat}, (∀ i, i < n → f i = 0) → sumR n f = 0
  | 0, _ => rfl
  | n + 1, h => by rw [sumR_s, sumR_zero fun i hi => h i (by omega), h n (by omega), Rat.add_zero]
theorem sumR_nonneg {f : Nat → Rat} : ∀ {n : Nat}, (∀ i, i < n → 0 ≤ f i) → 0 ≤ sumR n f
  | 0, _ => by simp [sumR]
  | n + 1, h => by
    unfold sumR
    have h1 := sumR_nonneg (n := n) fun i hi => h i (by omega)
    have h2 := h n (by omega)
    grind
theorem sumR_le {f g : Nat → Rat} : ∀ {n : Nat}, (∀ i, i < n → f i ≤ g i) → sumR n f ≤ sumR n g
  | 0, _ => by simp [sumR]
  | n + 1, h => by
    unfold sumR
    have h1 := sumR_le (n := n) fun i hi => h i (by omega)
    have h2 := h n (by omega)
    grind
theorem sumI_add {f g : Nat → Int} : ∀ {n : Nat}, sumI n (fun i => f i + g i) = sumI n f + sumI n g
  | 0 => rfl
  | n + 1 => by rw [sumI_s, sumI_s, sumI_s, sumI_add]; omega
theorem sumI_zero {f : Nat → Int} : ∀ {n : Nat}, (∀ i, i < n → f i = 0) → sumI n f = 0
  | 0, _ => rfl
  | n + 1, h => by unfold sumI; rw [sumI_zero fun i hi => h i (by omega), h n (by omega)]; rfl
theorem sumI_one {c : Int} {j : Nat} : ∀ {n : Nat}, j < n → sumI n (fun i => if i = j then c else 0) = c
  | 0, h => by omega
  | n + 1, h => by
    rw [sumI_s]
    by_cases e : j = n
    · subst e
      rw [sumI_zero fun i hi => by rw [if_neg (by omega)]]
      simp
    · have e' : ¬ n = j := fun h => e h.symm
      rw [sumI_one (by omega), if_neg e']; omega
/-- what is in the filtered places only -/
theorem sumR_filter {p : Nat → Bool} {f : Nat → Rat} : ∀ {n : Nat}, (((List.range n).filter p).map f).sum = sumR n fun i => if p i = true then f i else 0
  | 0 => rfl
  | n + 1 => by
    rw [List.range_succ, List.filter_append, List.map_append, List.sum_append, sumR_filter, sumR_s]
    cases h : p n <;> simp [h, Rat.add_zero]
theorem Lvl.sum {k b : Nat} {f : Nat → Rat} : ∀ {n : Nat}, (∀ i, i < n → Lvl k b (f i)) → Lvl k (b + n) (sumR n f)
  | 0, _ => ⟨0, by simp [sumR], Nat.two_pow_pos _⟩
  | n + 1, h => by
    unfold sumR
    have h1 := (Lvl.sum (n := n) fun i hi => h i (by omega)).add (h n (by omega))
    exact h1.le (by omega)
/-- what lies at a place -/
def vAt (v : List Rat) (t : Nat) : Rat := v.getD t 0
def lAt (l : List Int) (t : Nat) : Int := l.getD t 0
theorem vAt_some {v : List Rat} {t : Nat} (h : t < v.length) : v[t]? = some (vAt v t) := by
  unfold vAt
  rw [List.getD_eq_getElem?_getD, List.getElem?_eq_getElem h]; rfl
theorem lAt_some {v : List Int} {t : Nat} (h : t < v.length) : v[t]? = some (lAt v t) := by
  unfold lAt
  rw [List.getD_eq_getElem?_getD, List.getElem?_eq_getElem h]; rfl
theorem vAt_of {v : List Rat} {t : Nat} {x : Rat} (h : v[t]? = some x) : vAt v t = x := by
  unfold vAt
  rw [List.getD_eq_getElem?_getD, h]; rfl
theorem lAt_of {v : List Int} {t : Nat} {x : Int} (h : v[t]? = some x) : lAt v t = x := by
  unfold lAt
  rw [List.getD_eq_getElem?_getD, h]; rfl
theorem vAt_mem {v : List Rat} {t : Nat} (h : t < v.length) : vAt v t ∈ v := List.mem_of_getElem? (vAt_some h)
theorem lAt_mem {v : List Int} {t : Nat} (h : t < v.length) : lAt v t ∈ v := List.mem_of_getElem? (lAt_some h)
theorem lAt_off {v : List Int} {t : Nat} (h : v.length ≤ t) : lAt v t = 0 := by
  unfold lAt
  rw [List.getD_eq_getElem?_getD, List.getElem?_eq_none h]; rfl
theorem lAt_set {v : List Int} {t j : Nat} {x : Int} (h : j < v.length) : lAt (v.set j x) t = if j = t then x else lAt v t := by
  unfold lAt
  rw [List.getD_eq_getElem?_getD, List.getD_eq_getElem?_getD, List.getElem?_set]
  split
  · next e => subst e; simp [h]
  · rfl
/-- a weighted sum of a row -/
def dot (l : List Int) (v : List Rat) : Rat := sumR l.length fun t => ((lAt l t : Int) : Rat) * vAt v t
end R

set_option Elab.async false
set_option linter.all false
set_option maxRecDepth 100000
set_option maxHeartbeats 16000000
/-! The defs of the text: what each means, and that it does so. Printed by gen.py. -/
namespace K64
open PySem L2 R
def topS (i : Nat) : Stmt := PySem.Challenge.pw_partsthatwear_k64_starts_certified.main.body.getD i (.Pass ⟨0, 0, 0, 0⟩)
structure Txt (mg : Str → Option Value) : Prop where
  abs : mg "abs" = none
  bool : mg "bool" = none
  gcd : mg "gcd" = some (.builtin "math.gcd")
  int : mg "int" = none
  isinstance : mg "isinstance" = none
  lcm : mg "lcm" = some (.builtin "math.lcm")
  len : mg "len" = none
  list : mg "list" = none
  max : mg "max" = none
  min : mg "min" = none
  range : mg "range" = none
  str : mg "str" = none
  sum : mg "sum" = none
  tuple : mg "tuple" = none
section
variable {P : Program} {w : World} {K : PySem.W.Frag} {mg : Str → Option Value} {base : Heap} {c : Str → Option Addr}
abbrev s_ratio : Stmt := topS 5
theorem sc_ratio : FnScope ["n", "d", "common"] ["n", "d"] (defScope s_ratio) := ⟨rfl, rfl, rfl, by decide +kernel, rfl, by decide +kernel, by decide +kernel⟩
def m_ratio : SM :=
  (mSeq (mIte (mT (mB dEq (mV 1) (mC (.int 0)))) mNo_ mNx)
  (mSeq (mIte (mT (mB dLt (mV 1) (mC (.int 0)))) (mPar 0 1 (mU dNeg (mV 0)) (mU dNeg (mV 1))) mNx)
  (mSeq (mSet 2 (mL (dII hGcd) (mCons (mV 0) (mCons (mV 1) mNil))))
  (mRet (mTup (mCons (mB dDiv (mV 0) (mV 2)) (mCons (mB dDiv (mV 1) (mV 2)) mNil)))))))
abbrev g_ratio : List D → Option D := run 3 2 m_ratio
theorem fn_ratio {f : Addr} {fd : FuncData} (F : Fun K "ratio" "ratio" s_ratio f fd) (hm : mg "ratio" = some (.ref f)) (T : Txt mg) : Fn P w K mg base c "ratio" 2 1 g_ratio :=
  fn_mk F hm (F.binds (ps := ["n", "d"]) fun _ _ _ _ _ _ us hl => match us, hl with | [_, _], _ => rfl) sc_ratio fun cdv A outer s H E hr =>
  (psm_cons (psm_if (ptm_eq hr.units (pa_var 1) (toA pm_int)) (psm_one psm_never) psm_nil)
  (psm_cons (psm_if (ptm_lt (pa_var 1) (toA pm_int)) (psm_one (psm_par (i := 0) (j := 1) rfl sc_ratio.nd (toA (pm_neg (pa_var 0))) (toA (pm_neg (pa_var 1))))) psm_nil)
  (psm_cons (psm_set (i := 2) sc_ratio.nd (pm_gcd T.gcd (paa_cons (pa_var 0) (paa_cons (pa_var 1) paa_nil))))
  (psm_one (psm_ret (pm_tup (pam_cons (pm_div (pa_var 0) (pa_var 2)) (pam_cons (pm_div (pa_var 1) (pa_var 2)) pam_nil))))))))
abbrev s_plus : Stmt := topS 6
theorem sc_plus : FnScope ["a", "b"] ["a", "b"] (defScope s_plus) := ⟨rfl, rfl, rfl, by decide +kernel, rfl, by decide +kernel, by decide +kernel⟩
def m_plus : SM :=
  (mSeq (mIte (mT (mB dEq (mB dIx (mV 0) (mC (.int 1))) (mB dIx (mV 1) (mC (.int 1))))) (mRet (mCallB g_ratio (mCons (mB dAdd (mB dIx (mV 0) (mC (.int 0))) (mB dIx (mV 1) (mC (.int 0)))) (mCons (mB dIx (mV 0) (mC (.int 1))) mNil)))) mNx)
  (mRet (mCallB g_ratio (mCons (mB dAdd (mB dMul (mB dIx (mV 0) (mC (.int 0))) (mB dIx (mV 1) (mC (.int 1)))) (mB dMul (mB dIx (mV 1) (mC (.int 0))) (mB dIx (mV 0) (mC (.int 1))))) (mCons (mB dMul (mB dIx (mV 0) (mC (.int 1))) (mB dIx (mV 1) (mC (.int 1)))) mNil)))))
abbrev g_plus : List D → Option D := run 2 2 m_plus
theorem fn_plus {f : Addr} {fd : FuncData} (F : Fun K "plus" "plus" s_plus f fd) (hm : mg "plus" = some (.ref f)) (T : Txt mg) (F_ratio : Fn P w K mg base c "ratio" 2 1 g_ratio) : Fn P w K mg base c "plus" 2 2 g_plus :=
  fn_mk F hm (F.binds (ps := ["a", "b"]) fun _ _ _ _ _ _ us hl => match us, hl with | [_, _], _ => rfl) sc_plus fun cdv A outer s H E hr =>
  (psm_cons (psm_if (ptm_eq hr.units (pa_ix (pa_var 0) (toA pm_int)) (pa_ix (pa_var 1) (toA pm_int))) (psm_one (psm_ret (pm_callB_ F_ratio (hr.mono (by decide)) (by rfl) (paa_cons (toA (pm_add (pa_ix (pa_var 0) (toA pm_int)) (pa_ix (pa_var 1) (toA pm_int)))) (paa_cons (pa_ix (pa_var 0) (toA pm_int)) paa_nil))))) psm_nil)
  (psm_one (psm_ret (pm_callB_ F_ratio (hr.mono (by decide)) (by rfl) (paa_cons (toA (pm_add (toA (pm_mul (pa_ix (pa_var 0) (toA pm_int)) (pa_ix (pa_var 1) (toA pm_int)))) (toA (pm_mul (pa_ix (pa_var 1) (toA pm_int)) (pa_ix (pa_var 0) (toA pm_int)))))) (paa_cons (toA (pm_mul (pa_ix (pa_var 0) (toA pm_int)) (pa_ix (pa_var 1) (toA pm_int)))) paa_nil))))))
abbrev s_minus : Stmt := topS 7
theorem sc_minus : FnScope ["a", "b"] ["a", "b"] (defScope s_minus) := ⟨rfl, rfl, rfl, by decide +kernel, rfl, by decide +kernel, by decide +kernel⟩
def m_minus : SM :=
  (mRet (mCallB g_plus (mCons (mV 0) (mCons (mTup (mCons (mU dNeg (mB dIx (mV 1) (mC (.int 0)))) (mCons (mP (mB dIx (mV 1) (mC (.int 1)))) mNil))) mNil))))
abbrev g_minus : List D → Option D := run 2 2 m_minus
theorem fn_minus {f : Addr} {fd : FuncData} (F : Fun K "minus" "minus" s_minus f fd) (hm : mg "minus" = some (.ref f)) (T : Txt mg) (F_plus : Fn P w K mg base c "plus" 2 2 g_plus) : Fn P w K mg base c "minus" 2 3 g_minus :=
  fn_mk F hm (F.binds (ps := ["a", "b"]) fun _ _ _ _ _ _ us hl => match us, hl with | [_, _], _ => rfl) sc_minus fun cdv A outer s H E hr =>
  (psm_one (psm_ret (pm_callB_ F_plus (hr.mono (by decide)) (by rfl) (paa_cons (pa_var 0) (paa_cons (toA (pm_tup (pam_cons (pm_neg (pa_ix (pa_var 1) (toA pm_int))) (pam_cons (toM (pa_ix (pa_var 1) (toA pm_int))) pam_nil)))) paa_nil)))))
abbrev s_mean_of : Stmt := topS 8
theorem sc_mean_of : FnScope ["row", "values", "common", "index", "share", "total"] ["row", "values"] (defScope s_mean_of) := ⟨rfl, rfl, rfl, by decide +kernel, rfl, by decide +kernel, by decide +kernel⟩
def m_mean_of : SM :=
  (mSeq (mSet 2 (mC (.int 1)))
  (mSeq (mFor (mSeqOf (mP (mV 0))) (gT 2 (gsC (gN 3) (gsC (gN 4) gsN))) (mSet 2 (mL dLcm (mCons (mV 2) (mCons (mB dMul (mB dIx (mV 4) (mC (.int 1))) (mB dIx (mB dIx (mV 1) (mV 3)) (mC (.int 1)))) mNil)))))
  (mSeq (mSet 5 (mC (.int 0)))
  (mSeq (mFor (mSeqOf (mP (mV 0))) (gT 2 (gsC (gN 3) (gsC (gN 4) gsN))) (mAug 5 (fun i j => i + j) (mB dMul (mB dMul (mB dIx (mV 4) (mC (.int 0))) (mB dIx (mB dIx (mV 1) (mV 3)) (mC (.int 0)))) (mB dDiv (mV 2) (mB dMul (mB dIx (mV 4) (mC (.int 1))) (mB dIx (mB dIx (mV 1) (mV 3)) (mC (.int 1))))))))
  (mRet (mCallB g_ratio (mCons (mV 5) (mCons (mV 2) mNil))))))))
abbrev g_mean_of : List D → Option D := run 6 2 m_mean_of
theorem fn_mean_of {f : Addr} {fd : FuncData} (F : Fun K "mean_of" "mean_of" s_mean_of f fd) (hm : mg "mean_of" = some (.ref f)) (T : Txt mg) (F_ratio : Fn P w K mg base c "ratio" 2 1 g_ratio) : Fn P w K mg base c "mean_of" 2 2 g_mean_of :=
  fn_mk F hm (F.binds (ps := ["row", "values"]) fun _ _ _ _ _ _ us hl => match us, hl with | [_, _], _ => rfl) sc_mean_of fun cdv A outer s H E hr =>
  (psm_cons (psm_set (i := 2) sc_mean_of.nd pm_int)
  (psm_cons (psm_forS PassesOwn.never rfl (pgm_tup rfl (pgsm_cons (pgm_name 3 sc_mean_of.nd) (pgsm_cons (pgm_name 4 sc_mean_of.nd) pgsm_nil))) (toM (pa_var 0)) (psm_one (psm_set (i := 2) sc_mean_of.nd (pm_lcm T.lcm (paa_cons (pa_var 2) (paa_cons (toA (pm_mul (pa_ix (pa_var 4) (toA pm_int)) (pa_ix (pa_ix (pa_var 1) (pa_var 3)) (toA pm_int)))) paa_nil))))))
  (psm_cons (psm_set (i := 5) sc_mean_of.nd pm_int)
  (psm_cons (psm_forS PassesOwn.never rfl (pgm_tup rfl (pgsm_cons (pgm_name 3 sc_mean_of.nd) (pgsm_cons (pgm_name 4 sc_mean_of.nd) pgsm_nil))) (toM (pa_var 0)) (psm_one (psm_aug (i := 5) ip_add sc_mean_of.nd (toA (pm_mul (toA (pm_mul (pa_ix (pa_var 4) (toA pm_int)) (pa_ix (pa_ix (pa_var 1) (pa_var 3)) (toA pm_int)))) (toA (pm_div (pa_var 2) (toA (pm_mul (pa_ix (pa_var 4) (toA pm_int)) (pa_ix (pa_ix (pa_var 1) (pa_var 3)) (toA pm_int)))))))))))
  (psm_one (psm_ret (pm_callB_ F_ratio (hr.mono (by decide)) (by rfl) (paa_cons (pa_var 5) (paa_cons (pa_var 2) paa_nil)))))))))
abbrev s_drift_of : Stmt := topS 10
theorem sc_drift_of : FnScope ["action", "state", "costs", "name", "price", "row"] ["action", "state", "costs"] (defScope s_drift_of) := ⟨rfl, rfl, rfl, by decide +kernel, rfl, by decide +kernel, by decide +kernel⟩
def m_drift_of : SM :=
  (mSeq (mAsg (gT 3 (gsC (gN 3) (gsC (gN 4) (gsC (gN 5) gsN)))) (mP (mV 0)))
  (mRet (mCallB g_minus (mCons (mCallB g_mean_of (mCons (mV 5) (mCons (mV 2) mNil))) (mCons (mB dIx (mV 2) (mV 1)) mNil)))))
abbrev g_drift_of : List D → Option D := run 6 3 m_drift_of
theorem fn_drift_of {f : Addr} {fd : FuncData} (F : Fun K "drift_of" "drift_of" s_drift_of f fd) (hm : mg "drift_of" = some (.ref f)) (T : Txt mg) (F_minus : Fn P w K mg base c "minus" 2 3 g_minus) (F_mean_of : Fn P w K mg base c "mean_of" 2 2 g_mean_of) : Fn P w K mg base c "drift_of" 3 4 g_drift_of :=
  fn_mk F hm (F.binds (ps := ["action", "state", "costs"]) fun _ _ _ _ _ _ us hl => match us, hl with | [_, _, _], _ => rfl) sc_drift_of fun cdv A outer s H E hr =>
  (psm_cons (psm_asg (toM (pa_var 0)) (pgm_tup rfl (pgsm_cons (pgm_name 3 sc_drift_of.nd) (pgsm_cons (pgm_name 4 sc_drift_of.nd) (pgsm_cons (pgm_name 5 sc_drift_of.nd) pgsm_nil)))))
  (psm_one (psm_ret (pm_callB_ F_minus (hr.mono (by decide)) (by rfl) (paa_cons (toA (pm_callB_ F_mean_of (hr.mono (by decide)) (by rfl) (paa_cons (pa_var 5) (paa_cons (pa_var 2) paa_nil)))) (paa_cons (pa_ix (pa_var 2) (pa_var 1)) paa_nil))))))
abbrev s_surplus_of : Stmt := topS 11
theorem sc_surplus_of : FnScope ["action", "state", "costs", "bias", "name", "price", "row"] ["action", "state", "costs", "bias"] (defScope s_surplus_of) := ⟨rfl, rfl, rfl, by decide +kernel, rfl, by decide +kernel, by decide +kernel⟩
def m_surplus_of : SM :=
  (mSeq (mAsg (gT 3 (gsC (gN 4) (gsC (gN 5) (gsC (gN 6) gsN)))) (mP (mV 0)))
  (mRet (mCallB g_minus (mCons (mCallB g_plus (mCons (mV 5) (mCons (mCallB g_mean_of (mCons (mV 6) (mCons (mV 3) mNil))) mNil))) (mCons (mCallB g_plus (mCons (mB dIx (mV 2) (mV 1)) (mCons (mB dIx (mV 3) (mV 1)) mNil))) mNil)))))
abbrev g_surplus_of : List D → Option D := run 7 4 m_surplus_of
theorem fn_surplus_of {f : Addr} {fd : FuncData} (F : Fun K "surplus_of" "surplus_of" s_surplus_of f fd) (hm : mg "surplus_of" = some (.ref f)) (T : Txt mg) (F_plus : Fn P w K mg base c "plus" 2 2 g_plus) (F_minus : Fn P w K mg base c "minus" 2 3 g_minus) (F_mean_of : Fn P w K mg base c "mean_of" 2 2 g_mean_of) : Fn P w K mg base c "surplus_of" 4 4 g_surplus_of :=
  fn_mk F hm (F.binds (ps := ["action", "state", "costs", "bias"]) fun _ _ _ _ _ _ us hl => match us, hl with | [_, _, _, _], _ => rfl) sc_surplus_of fun cdv A outer s H E hr =>
  (psm_cons (psm_asg (toM (pa_var 0)) (pgm_tup rfl (pgsm_cons (pgm_name 4 sc_surplus_of.nd) (pgsm_cons (pgm_name 5 sc_surplus_of.nd) (pgsm_cons (pgm_name 6 sc_surplus_of.nd) pgsm_nil)))))
  (psm_one (psm_ret (pm_callB_ F_minus (hr.mono (by decide)) (by rfl) (paa_cons (toA (pm_callB_ F_plus (hr.mono (by decide)) (by rfl) (paa_cons (pa_var 5) (paa_cons (toA (pm_callB_ F_mean_of (hr.mono (by decide)) (by rfl) (paa_cons (pa_var 6) (paa_cons (pa_var 3) paa_nil)))) paa_nil)))) (paa_cons (toA (pm_callB_ F_plus (hr.mono (by decide)) (by rfl) (paa_cons (pa_ix (pa_var 2) (pa_var 1)) (paa_cons (pa_ix (pa_var 3) (pa_var 1)) paa_nil)))) paa_nil))))))
abbrev s_starts_fault : Stmt := topS 12
theorem sc_starts_fault : FnScope ["table", "costs", "policy", "bias", "state", "action", "drift", "surplus"] ["table", "costs", "policy", "bias"] (defScope s_starts_fault) := ⟨rfl, rfl, rfl, by decide +kernel, rfl, by decide +kernel, by decide +kernel⟩
def m_starts_fault : SM :=
  (mSeq (mFor (mRng1 (mCons (mL dLen (mCons (mV 0) mNil)) mNil)) (gN 4) (mFor (mRng1 (mCons (mL dLen (mCons (mB dIx (mV 0) (mV 4)) mNil)) mNil)) (gN 5) (mSeq (mSet 6 (mP (mB dIx (mCallB g_drift_of (mCons (mB dIx (mB dIx (mV 0) (mV 4)) (mV 5)) (mCons (mV 4) (mCons (mV 1) mNil)))) (mC (.int 0)))))
      (mSeq (mSet 7 (mP (mB dIx (mCallB g_surplus_of (mCons (mB dIx (mB dIx (mV 0) (mV 4)) (mV 5)) (mCons (mV 4) (mCons (mV 1) (mCons (mV 3) mNil))))) (mC (.int 0)))))
      (mSeq (mIte (mOrB (mT (mB dLt (mV 6) (mC (.int 0)))) (mT (mB dLt (mV 7) (mC (.int 0))))) (mRet (mTup (mCons (mP (mV 4)) (mCons (mP (mV 5)) mNil)))) mNx)
      (mIte (mAndB (mT (mB dEq (mB dIx (mV 2) (mV 4)) (mV 5))) (mOrB (mT (mB dGt (mV 6) (mC (.int 0)))) (mT (mB dGt (mV 7) (mC (.int 0)))))) (mRet (mTup (mCons (mP (mV 4)) (mCons (mP (mV 5)) mNil)))) mNx))))))
  (mRet (mC .non)))
abbrev g_starts_fault : List D → Option D := run 8 4 m_starts_fault
theorem fn_starts_fault {f : Addr} {fd : FuncData} (F : Fun K "starts_fault" "starts_fault" s_starts_fault f fd) (hm : mg "starts_fault" = some (.ref f)) (T : Txt mg) (F_drift_of : Fn P w K mg base c "drift_of" 3 4 g_drift_of) (F_surplus_of : Fn P w K mg base c "surplus_of" 4 4 g_surplus_of) : Fn P w K mg base c "starts_fault" 4 5 g_starts_fault :=
  fn_mk F hm (F.binds (ps := ["table", "costs", "policy", "bias"]) fun _ _ _ _ _ _ us hl => match us, hl with | [_, _, _, _], _ => rfl) sc_starts_fault fun cdv A outer s H E hr =>
  (psm_cons (psm_forR1 PassesOwn.never rfl (by rfl) T.range (pgm_name 4 sc_starts_fault.nd) (paa_cons (toA (pm_len T.len (paa_cons (pa_var 0) paa_nil))) paa_nil) (psm_one (psm_forR1 PassesOwn.never rfl (by rfl) T.range (pgm_name 5 sc_starts_fault.nd) (paa_cons (toA (pm_len T.len (paa_cons (pa_ix (pa_var 0) (pa_var 4)) paa_nil))) paa_nil) (psm_cons (psm_set (i := 6) sc_starts_fault.nd (toM (pa_ix (toA (pm_callB_ F_drift_of (hr.mono (by decide)) (by rfl) (paa_cons (pa_ix (pa_ix (pa_var 0) (pa_var 4)) (pa_var 5)) (paa_cons (pa_var 4) (paa_cons (pa_var 1) paa_nil))))) (toA pm_int))))
      (psm_cons (psm_set (i := 7) sc_starts_fault.nd (toM (pa_ix (toA (pm_callB_ F_surplus_of (hr.mono (by decide)) (by rfl) (paa_cons (pa_ix (pa_ix (pa_var 0) (pa_var 4)) (pa_var 5)) (paa_cons (pa_var 4) (paa_cons (pa_var 1) (paa_cons (pa_var 3) paa_nil)))))) (toA pm_int))))
      (psm_cons (psm_if (ptm_pw (pwm_or (ptm_lt (pa_var 6) (toA pm_int)) (pwm_or1 (ptm_lt (pa_var 7) (toA pm_int))))) (psm_one (psm_ret (pm_tup (pam_cons (toM (pa_var 4)) (pam_cons (toM (pa_var 5)) pam_nil))))) psm_nil)
      (psm_one (psm_if (ptm_pw (pwm_and (ptm_eq hr.units (pa_ix (pa_var 2) (pa_var 4)) (pa_var 5)) (pwm_and1 (ptm_pw (pwm_or (ptm_gt (pa_var 6) (toA pm_int)) (pwm_or1 (ptm_gt (pa_var 7) (toA pm_int)))))))) (psm_one (psm_ret (pm_tup (pam_cons (toM (pa_var 4)) (pam_cons (toM (pa_var 5)) pam_nil))))) psm_nil))))))))
  (psm_one (psm_ret pm_non)))
abbrev s_law_numbers : Stmt := topS 14
theorem sc_law_numbers : FnScope ["script", "many", "row", "seed", "k", "rest", "turn"] ["script", "many"] (defScope s_law_numbers) := ⟨rfl, rfl, rfl, by decide +kernel, rfl, by decide +kernel, by decide +kernel⟩
def m_law_numbers : SM :=
  (mSeq (mSet 2 (mLst mNil))
  (mSeq (mSet 3 (mC (.int 7)))
  (mSeq (mFor (mRng1 (mCons (mL dLen (mCons (mV 0) mNil)) mNil)) (gN 4) (mSeq (mSet 5 (mL dInt (mCons (mB dIx (mV 0) (mV 4)) mNil)))
    (mSeq (mSet 3 (mB dMod (mL dInt (mCons (mB dAdd (mB dAdd (mB dMul (mV 3) (mC (.int 69621))) (mB dMod (mV 5) (mC (.int 2147483647)))) (mV 4)) mNil)) (mC (.int 2147483647))))
    (mIte (mT (mB dGe (mV 5) (mC (.int 1000000000000000000)))) (mFor (mRng1 (mCons (mC (.int 60)) mNil)) (gN 6) (mIte (mT (mB dGt (mV 5) (mC (.int 0)))) (mSeq (mApp (rV 2) (mB dMod (mL dInt (mCons (mV 5) mNil)) (mC (.int 60))))
          (mSet 5 (mB dDiv (mV 5) (mC (.int 60))))) mNx)) mNx))))
  (mSeq (mFor (mRng1 (mCons (mV 1) mNil)) (gN 6) (mSeq (mSet 3 (mB dMod (mL dInt (mCons (mB dAdd (mB dMul (mV 3) (mC (.int 48271))) (mC (.int 12345))) mNil)) (mC (.int 2147483647))))
    (mApp (rV 2) (mB dMod (mL dInt (mCons (mB dMod (mL dInt (mCons (mB dAdd (mB dMul (mV 3) (mV 3)) (mC (.int 17))) mNil)) (mC (.int 1000003))) mNil)) (mC (.int 60))))))
  (mRet (mV 2))))))
abbrev g_law_numbers : List D → Option D := run 7 2 m_law_numbers
theorem fn_law_numbers {f : Addr} {fd : FuncData} (F : Fun K "_law_numbers" "_law_numbers" s_law_numbers f fd) (hm : mg "_law_numbers" = some (.ref f)) (T : Txt mg) : Fn P w K mg base c "_law_numbers" 2 1 g_law_numbers :=
  fn_mk F hm (F.binds (ps := ["script", "many"]) fun _ _ _ _ _ _ us hl => match us, hl with | [_, _], _ => rfl) sc_law_numbers fun cdv A outer s H E hr =>
  (psm_cons (psm_set (i := 2) sc_law_numbers.nd (pm_lst pam_nil))
  (psm_cons (psm_set (i := 3) sc_law_numbers.nd pm_int)
  (psm_cons (psm_forR1 PassesOwn.never rfl (by rfl) T.range (pgm_name 4 sc_law_numbers.nd) (paa_cons (toA (pm_len T.len (paa_cons (pa_var 0) paa_nil))) paa_nil) (psm_cons (psm_set (i := 5) sc_law_numbers.nd (pm_intC T.int (paa_cons (pa_ix (pa_var 0) (pa_var 4)) paa_nil)))
    (psm_cons (psm_set (i := 3) sc_law_numbers.nd (pm_mod (toA (pm_intC T.int (paa_cons (toA (pm_add (toA (pm_add (toA (pm_mul (pa_var 3) (toA pm_int))) (toA (pm_mod (pa_var 5) (toA pm_int))))) (pa_var 4))) paa_nil))) (toA pm_int)))
    (psm_one (psm_if (ptm_ge (pa_var 5) (toA pm_int)) (psm_one (psm_forR1 PassesOwn.never rfl (by rfl) T.range (pgm_name 6 sc_law_numbers.nd) (paa_cons (toA pm_int) paa_nil) (psm_one (psm_if (ptm_gt (pa_var 5) (toA pm_int)) (psm_cons (psm_app (prm_var 2) (pm_mod (toA (pm_intC T.int (paa_cons (pa_var 5) paa_nil))) (toA pm_int)))
          (psm_one (psm_set (i := 5) sc_law_numbers.nd (pm_div (pa_var 5) (toA pm_int))))) psm_nil)))) psm_nil)))))
  (psm_cons (psm_forR1 PassesOwn.never rfl (by rfl) T.range (pgm_name 6 sc_law_numbers.nd) (paa_cons (pa_var 1) paa_nil) (psm_cons (psm_set (i := 3) sc_law_numbers.nd (pm_mod (toA (pm_intC T.int (paa_cons (toA (pm_add (toA (pm_mul (pa_var 3) (toA pm_int))) (toA pm_int))) paa_nil))) (toA pm_int)))
    (psm_one (psm_app (prm_var 2) (pm_mod (toA (pm_intC T.int (paa_cons (toA (pm_mod (toA (pm_intC T.int (paa_cons (toA (pm_add (toA (pm_mul (pa_var 3) (pa_var 3))) (toA pm_int))) paa_nil))) (toA pm_int))) paa_nil))) (toA pm_int))))))
  (psm_one (psm_retV (i := 2)))))))
abbrev s_law_lowest : Stmt := topS 15
theorem sc_law_lowest : FnScope ["n", "d", "a", "b", "turn"] ["n", "d"] (defScope s_law_lowest) := ⟨rfl, rfl, rfl, by decide +kernel, rfl, by decide +kernel, by decide +kernel⟩
def m_law_lowest : SM :=
  (mSeq (mSet 2 (mL dAbs (mCons (mV 0) mNil)))
  (mSeq (mSet 3 (mP (mV 1)))
  (mSeq (mFor (mRng1 (mCons (mC (.int 4000)) mNil)) (gN 4) (mSeq (mIte (mT (mB dEq (mV 3) (mC (.int 0)))) mBk mNx)
    (mPar 2 3 (mV 3) (mB dMod (mL dInt (mCons (mV 2) mNil)) (mV 3)))))
  (mRet (mTup (mCons (mB dDiv (mV 0) (mV 2)) (mCons (mB dDiv (mV 1) (mV 2)) mNil)))))))
abbrev g_law_lowest : List D → Option D := run 5 2 m_law_lowest
theorem fn_law_lowest {f : Addr} {fd : FuncData} (F : Fun K "_law_lowest" "_law_lowest" s_law_lowest f fd) (hm : mg "_law_lowest" = some (.ref f)) (T : Txt mg) : Fn P w K mg base c "_law_lowest" 2 1 g_law_lowest :=
  fn_mk F hm (F.binds (ps := ["n", "d"]) fun _ _ _ _ _ _ us hl => match us, hl with | [_, _], _ => rfl) sc_law_lowest fun cdv A outer s H E hr =>
  (psm_cons (psm_set (i := 2) sc_law_lowest.nd (pm_absI T.abs (paa_cons (pa_var 0) paa_nil)))
  (psm_cons (psm_set (i := 3) sc_law_lowest.nd (toM (pa_var 1)))
  (psm_cons (psm_forR1 PassesOwn.never rfl (by rfl) T.range (pgm_name 4 sc_law_lowest.nd) (paa_cons (toA pm_int) paa_nil) (psm_cons (psm_if (ptm_eq hr.units (pa_var 3) (toA pm_int)) (psm_one psm_break) psm_nil)
    (psm_one (psm_par (i := 2) (j := 3) rfl sc_law_lowest.nd (pa_var 3) (toA (pm_mod (toA (pm_intC T.int (paa_cons (pa_var 2) paa_nil))) (pa_var 3)))))))
  (psm_one (psm_ret (pm_tup (pam_cons (pm_div (pa_var 0) (pa_var 2)) (pam_cons (pm_div (pa_var 1) (pa_var 2)) pam_nil))))))))
abbrev s_law_common : Stmt := topS 16
theorem sc_law_common : FnScope ["a", "b", "turn"] ["a", "b"] (defScope s_law_common) := ⟨rfl, rfl, rfl, by decide +kernel, rfl, by decide +kernel, by decide +kernel⟩
def m_law_common : SM :=
  (mSeq (mFor (mRng1 (mCons (mC (.int 4000)) mNil)) (gN 2) (mSeq (mIte (mT (mB dEq (mV 1) (mC (.int 0)))) mBk mNx)
    (mPar 0 1 (mV 1) (mB dMod (mL dInt (mCons (mV 0) mNil)) (mV 1)))))
  (mRet (mV 0)))
abbrev g_law_common : List D → Option D := run 3 2 m_law_common
theorem fn_law_common {f : Addr} {fd : FuncData} (F : Fun K "_law_common" "_law_common" s_law_common f fd) (hm : mg "_law_common" = some (.ref f)) (T : Txt mg) : Fn P w K mg base c "_law_common" 2 1 g_law_common :=
  fn_mk F hm (F.binds (ps := ["a", "b"]) fun _ _ _ _ _ _ us hl => match us, hl with | [_, _], _ => rfl) sc_law_common fun cdv A outer s H E hr =>
  (psm_cons (psm_forR1 PassesOwn.never rfl (by rfl) T.range (pgm_name 2 sc_law_common.nd) (paa_cons (toA pm_int) paa_nil) (psm_cons (psm_if (ptm_eq hr.units (pa_var 1) (toA pm_int)) (psm_one psm_break) psm_nil)
    (psm_one (psm_par (i := 0) (j := 1) rfl sc_law_common.nd (pa_var 1) (toA (pm_mod (toA (pm_intC T.int (paa_cons (pa_var 0) paa_nil))) (pa_var 1)))))))
  (psm_one (psm_retV (i := 0))))
abbrev s_law_same : Stmt := topS 17
theorem sc_law_same : FnScope ["told", "due", "k"] ["told", "due"] (defScope s_law_same) := ⟨rfl, rfl, rfl, by decide +kernel, rfl, by decide +kernel, by decide +kernel⟩
def m_law_same (g : List D → Option D) : SM :=
  (mSeq (mIte (mT (mB dIsN (mV 1) (mC .non))) (mRet (mB dIsN (mV 0) (mC .non))) mNx)
  (mSeq (mIte (mT (mL (dIsi "bool") (mCons (mV 1) mNil))) (mRet (mAndV (mL (dIsi "bool") (mCons (mV 0) mNil)) (mB dEq (mV 0) (mV 1)))) mNx)
  (mSeq (mIte (mT (mL (dIsi "int") (mCons (mV 1) mNil))) (mRet (mAndV (mL (dIsi "int") (mCons (mV 0) mNil)) (mAndV (mU dNot (mL (dIsi "bool") (mCons (mV 0) mNil))) (mB dEq (mV 0) (mV 1))))) mNx)
  (mSeq (mIte (mT (mL (dIsi "str") (mCons (mV 1) mNil))) (mRet (mAndV (mL (dIsi "str") (mCons (mV 0) mNil)) (mB dEq (mV 0) (mV 1)))) mNx)
  (mSeq (mIte (mOrB (mNotB (mT (mL (dIsi "tuple") (mCons (mV 0) mNil)))) (mT (mB dNe (mL dLen (mCons (mV 0) mNil)) (mL dLen (mCons (mV 1) mNil))))) (mRet (mC (.bl false))) mNx)
  (mSeq (mFor (mRng1 (mCons (mL dLen (mCons (mV 1) mNil)) mNil)) (gN 2) (mIte (mNotB (mT (mCallB g (mCons (mB dIx (mV 0) (mV 2)) (mCons (mB dIx (mV 1) (mV 2)) mNil))))) (mRet (mC (.bl false))) mNx))
  (mRet (mC (.bl true)))))))))
def g_law_same : Nat → List D → Option D
  | 0 => fun _ => none
  | k + 1 => run 3 2 (m_law_same (g_law_same k))
theorem fn_law_same {f : Addr} {fd : FuncData} (F : Fun K "_law_same" "_law_same" s_law_same f fd) (hm : mg "_law_same" = some (.ref f)) (T : Txt mg) : ∀ k, Fn P w K mg base c "_law_same" 2 (k + 0) (g_law_same k)
  | 0 => fn_none F hm (F.binds (ps := ["told", "due"]) fun _ _ _ _ _ _ us hl => match us, hl with | [_, _], _ => rfl)
  | j + 1 => by
    have ih := fn_law_same F hm T j
    exact fn_mk F hm (F.binds (ps := ["told", "due"]) fun _ _ _ _ _ _ us hl => match us, hl with | [_, _], _ => rfl) sc_law_same fun cdv A outer s H E hr =>
  (psm_cons (psm_if (ptm_isN (pa_var 1) (toA pm_non)) (psm_one (psm_ret (pm_isN (pa_var 0) (toA pm_non)))) psm_nil)
  (psm_cons (psm_if (ptm_val (pm_isiB T.isinstance (pa_var 1) (pt_ty T.bool bb_bool))) (psm_one (psm_ret (pm_andV (pm_isiB T.isinstance (pa_var 0) (pt_ty T.bool bb_bool)) (pm_one (pm_eq hr.units (pa_var 0) (pa_var 1)))))) psm_nil)
  (psm_cons (psm_if (ptm_val (pm_isiB T.isinstance (pa_var 1) (pt_ty T.int bb_int))) (psm_one (psm_ret (pm_andV (pm_isiB T.isinstance (pa_var 0) (pt_ty T.int bb_int)) (pm_andV (pm_not (pm_isiB T.isinstance (pa_var 0) (pt_ty T.bool bb_bool))) (pm_one (pm_eq hr.units (pa_var 0) (pa_var 1))))))) psm_nil)
  (psm_cons (psm_if (ptm_val (pm_isiB T.isinstance (pa_var 1) (pt_ty T.str bb_str))) (psm_one (psm_ret (pm_andV (pm_isiB T.isinstance (pa_var 0) (pt_ty T.str bb_str)) (pm_one (pm_eq hr.units (pa_var 0) (pa_var 1)))))) psm_nil)
  (psm_cons (psm_if (ptm_pw (pwm_or (ptm_not (ptm_val (pm_isiB T.isinstance (pa_var 0) (pt_ty T.tuple bb_tuple)))) (pwm_or1 (ptm_ne hr.units (toA (pm_len T.len (paa_cons (pa_var 0) paa_nil))) (toA (pm_len T.len (paa_cons (pa_var 1) paa_nil))))))) (psm_one (psm_ret pm_bl)) psm_nil)
  (psm_cons (psm_forR1 PassesOwn.never rfl (by rfl) T.range (pgm_name 2 sc_law_same.nd) (paa_cons (toA (pm_len T.len (paa_cons (pa_var 1) paa_nil))) paa_nil) (psm_one (psm_if (ptm_not (ptm_val (pm_callB_ ih (hr.mono (Nat.le_refl _)) (by rfl) (paa_cons (pa_ix (pa_var 0) (pa_var 2)) (paa_cons (pa_ix (pa_var 1) (pa_var 2)) paa_nil))))) (psm_one (psm_ret pm_bl)) psm_nil)))
  (psm_one (psm_ret pm_bl))))))))
abbrev s_law_sum : Stmt := topS 18
theorem sc_law_sum : FnScope ["a", "b"] ["a", "b"] (defScope s_law_sum) := ⟨rfl, rfl, rfl, by decide +kernel, rfl, by decide +kernel, by decide +kernel⟩
def m_law_sum : SM :=
  (mRet (mCallB g_law_lowest (mCons (mB dAdd (mB dMul (mB dIx (mV 0) (mC (.int 0))) (mB dIx (mV 1) (mC (.int 1)))) (mB dMul (mB dIx (mV 1) (mC (.int 0))) (mB dIx (mV 0) (mC (.int 1))))) (mCons (mB dMul (mB dIx (mV 0) (mC (.int 1))) (mB dIx (mV 1) (mC (.int 1)))) mNil))))
abbrev g_law_sum : List D → Option D := run 2 2 m_law_sum
theorem fn_law_sum {f : Addr} {fd : FuncData} (F : Fun K "_law_sum" "_law_sum" s_law_sum f fd) (hm : mg "_law_sum" = some (.ref f)) (T : Txt mg) (F_law_lowest : Fn P w K mg base c "_law_lowest" 2 1 g_law_lowest) : Fn P w K mg base c "_law_sum" 2 2 g_law_sum :=
  fn_mk F hm (F.binds (ps := ["a", "b"]) fun _ _ _ _ _ _ us hl => match us, hl with | [_, _], _ => rfl) sc_law_sum fun cdv A outer s H E hr =>
  (psm_one (psm_ret (pm_callB_ F_law_lowest (hr.mono (by decide)) (by rfl) (paa_cons (toA (pm_add (toA (pm_mul (pa_ix (pa_var 0) (toA pm_int)) (pa_ix (pa_var 1) (toA pm_int)))) (toA (pm_mul (pa_ix (pa_var 1) (toA pm_int)) (pa_ix (pa_var 0) (toA pm_int)))))) (paa_cons (toA (pm_mul (pa_ix (pa_var 0) (toA pm_int)) (pa_ix (pa_var 1) (toA pm_int)))) paa_nil)))))
abbrev s_law_product : Stmt := topS 19
theorem sc_law_product : FnScope ["a", "b"] ["a", "b"] (defScope s_law_product) := ⟨rfl, rfl, rfl, by decide +kernel, rfl, by decide +kernel, by decide +kernel⟩
def m_law_product : SM :=
  (mRet (mCallB g_law_lowest (mCons (mB dMul (mB dIx (mV 0) (mC (.int 0))) (mB dIx (mV 1) (mC (.int 0)))) (mCons (mB dMul (mB dIx (mV 0) (mC (.int 1))) (mB dIx (mV 1) (mC (.int 1)))) mNil))))
abbrev g_law_product : List D → Option D := run 2 2 m_law_product
theorem fn_law_product {f : Addr} {fd : FuncData} (F : Fun K "_law_product" "_law_product" s_law_product f fd) (hm : mg "_law_product" = some (.ref f)) (T : Txt mg) (F_law_lowest : Fn P w K mg base c "_law_lowest" 2 1 g_law_lowest) : Fn P w K mg base c "_law_product" 2 2 g_law_product :=
  fn_mk F hm (F.binds (ps := ["a", "b"]) fun _ _ _ _ _ _ us hl => match us, hl with | [_, _], _ => rfl) sc_law_product fun cdv A outer s H E hr =>
  (psm_one (psm_ret (pm_callB_ F_law_lowest (hr.mono (by decide)) (by rfl) (paa_cons (toA (pm_mul (pa_ix (pa_var 0) (toA pm_int)) (pa_ix (pa_var 1) (toA pm_int)))) (paa_cons (toA (pm_mul (pa_ix (pa_var 0) (toA pm_int)) (pa_ix (pa_var 1) (toA pm_int)))) paa_nil)))))
abbrev s_law_below : Stmt := topS 20
theorem sc_law_below : FnScope ["a", "b"] ["a", "b"] (defScope s_law_below) := ⟨rfl, rfl, rfl, by decide +kernel, rfl, by decide +kernel, by decide +kernel⟩
def m_law_below : SM :=
  (mRet (mB dLt (mB dMul (mB dIx (mV 0) (mC (.int 0))) (mB dIx (mV 1) (mC (.int 1)))) (mB dMul (mB dIx (mV 1) (mC (.int 0))) (mB dIx (mV 0) (mC (.int 1))))))
abbrev g_law_below : List D → Option D := run 2 2 m_law_below
theorem fn_law_below {f : Addr} {fd : FuncData} (F : Fun K "_law_below" "_law_below" s_law_below f fd) (hm : mg "_law_below" = some (.ref f)) (T : Txt mg) : Fn P w K mg base c "_law_below" 2 1 g_law_below :=
  fn_mk F hm (F.binds (ps := ["a", "b"]) fun _ _ _ _ _ _ us hl => match us, hl with | [_, _], _ => rfl) sc_law_below fun cdv A outer s H E hr =>
  (psm_one (psm_ret (pm_lt (toA (pm_mul (pa_ix (pa_var 0) (toA pm_int)) (pa_ix (pa_var 1) (toA pm_int)))) (toA (pm_mul (pa_ix (pa_var 1) (toA pm_int)) (pa_ix (pa_var 0) (toA pm_int)))))))
abbrev s_law_weights : Stmt := topS 21
theorem sc_law_weights : FnScope ["row", "at", "size", "total", "line", "rest", "turn", "weight", "target"] ["row", "at", "size", "total"] (defScope s_law_weights) := ⟨rfl, rfl, rfl, by decide +kernel, rfl, by decide +kernel, by decide +kernel⟩
def m_law_weights : SM :=
  (mSeq (mSet 4 (mB dMul (mLst (mCons (mC (.int 0)) mNil)) (mV 2)))
  (mSeq (mSet 5 (mP (mV 3)))
  (mSeq (mFor (mRng1 (mCons (mC (.int 3)) mNil)) (gN 6) (mSeq (mSet 7 (mL (dII hMin) (mCons (mV 5) (mCons (mB dMod (mL dInt (mCons (mB dIx (mV 0) (mB dAdd (mV 1) (mV 6))) mNil)) (mB dAdd (mV 3) (mC (.int 1)))) mNil))))
    (mSeq (mSet 8 (mB dMod (mL dInt (mCons (mB dIx (mV 0) (mB dAdd (mB dAdd (mV 1) (mC (.int 3))) (mV 6))) mNil)) (mV 2)))
    (mSeq (mSto (rV 4) (mV 8) (mB dAdd (mB dIx (mV 4) (mV 8)) (mV 7)))
    (mSet 5 (mB dSub (mV 5) (mV 7)))))))
  (mSeq (mSet 8 (mB dMod (mL dInt (mCons (mB dIx (mV 0) (mB dAdd (mV 1) (mC (.int 6)))) mNil)) (mV 2)))
  (mSeq (mSto (rV 4) (mV 8) (mB dAdd (mB dIx (mV 4) (mV 8)) (mV 5)))
  (mRet (mV 4)))))))
abbrev g_law_weights : List D → Option D := run 9 4 m_law_weights
theorem fn_law_weights {f : Addr} {fd : FuncData} (F : Fun K "_law_weights" "_law_weights" s_law_weights f fd) (hm : mg "_law_weights" = some (.ref f)) (T : Txt mg) : Fn P w K mg base c "_law_weights" 4 1 g_law_weights :=
  fn_mk F hm (F.binds (ps := ["row", "at", "size", "total"]) fun _ _ _ _ _ _ us hl => match us, hl with | [_, _, _, _], _ => rfl) sc_law_weights fun cdv A outer s H E hr =>
  (psm_cons (psm_set (i := 4) sc_law_weights.nd (pm_mul (toA (pm_lst (pam_cons pm_int pam_nil))) (pa_var 2)))
  (psm_cons (psm_set (i := 5) sc_law_weights.nd (toM (pa_var 3)))
  (psm_cons (psm_forR1 PassesOwn.never rfl (by rfl) T.range (pgm_name 6 sc_law_weights.nd) (paa_cons (toA pm_int) paa_nil) (psm_cons (psm_set (i := 7) sc_law_weights.nd (pm_min2 rfl T.min (paa_cons (pa_var 5) (paa_cons (toA (pm_mod (toA (pm_intC T.int (paa_cons (pa_ix (pa_var 0) (toA (pm_add (pa_var 1) (pa_var 6)))) paa_nil))) (toA (pm_add (pa_var 3) (toA pm_int))))) paa_nil))))
    (psm_cons (psm_set (i := 8) sc_law_weights.nd (pm_mod (toA (pm_intC T.int (paa_cons (pa_ix (pa_var 0) (toA (pm_add (toA (pm_add (pa_var 1) (toA pm_int))) (pa_var 6)))) paa_nil))) (pa_var 2)))
    (psm_cons (psm_sto (pm_add (pa_ix (pa_var 4) (pa_var 8)) (pa_var 7)) (prm_var 4) (pa_var 8))
    (psm_one (psm_set (i := 5) sc_law_weights.nd (pm_sub (pa_var 5) (pa_var 7))))))))
  (psm_cons (psm_set (i := 8) sc_law_weights.nd (pm_mod (toA (pm_intC T.int (paa_cons (pa_ix (pa_var 0) (toA (pm_add (pa_var 1) (toA pm_int)))) paa_nil))) (pa_var 2)))
  (psm_cons (psm_sto (pm_add (pa_ix (pa_var 4) (pa_var 8)) (pa_var 5)) (prm_var 4) (pa_var 8))
  (psm_one (psm_retV (i := 4))))))))
abbrev s_law_plain : Stmt := topS 22
theorem sc_law_plain : FnScope ["row", "at", "size", "most", "total", "ring", "table", "s", "actions", "after", "a", "here", "line", "big"] ["row", "at", "size", "most", "total", "ring"] (defScope s_law_plain) := ⟨rfl, rfl, rfl, by decide +kernel, rfl, by decide +kernel, by decide +kernel⟩
def m_law_plain : SM :=
  (mSeq (mSet 6 (mLst mNil))
  (mSeq (mFor (mRng1 (mCons (mV 2) mNil)) (gN 7) (mSeq (mSet 8 (mLst mNil))
    (mSeq (mSet 9 (mB dMod (mL dInt (mCons (mB dAdd (mV 7) (mC (.int 1))) mNil)) (mV 2)))
    (mSeq (mFor (mRng1 (mCons (mB dAdd (mC (.int 1)) (mB dMod (mL dInt (mCons (mB dIx (mV 0) (mB dAdd (mV 1) (mV 7))) mNil)) (mV 3))) mNil)) (gN 10) (mSeq (mSet 11 (mB dAdd (mB dAdd (mV 1) (mV 2)) (mB dMul (mC (.int 9)) (mB dAdd (mB dMul (mV 3) (mV 7)) (mV 10)))))
      (mSeq (mSet 12 (mCallB g_law_weights (mCons (mV 0) (mCons (mV 11) (mCons (mV 2) (mCons (mV 4) mNil))))))
      (mSeq (mIte (mAndB (mTr (mV 5)) (mAndB (mT (mB dEq (mV 10) (mC (.int 0)))) (mT (mB dEq (mB dIx (mV 12) (mV 9)) (mC (.int 0)))))) (mSeq (mSet 13 (mM dIndex (mV 12) (mCons (mL dMaxL (mCons (mV 12) mNil)) mNil)))
        (mSeq (mSto (rV 12) (mV 13) (mB dSub (mB dIx (mV 12) (mV 13)) (mC (.int 1))))
        (mSto (rV 12) (mV 9) (mC (.int 1))))) mNx)
      (mFrz 12 (mApp (rV 8) (mTup (mCons (mB dSub (mB dMod (mL dInt (mCons (mB dIx (mV 0) (mB dAdd (mV 11) (mC (.int 7)))) mNil)) (mC (.int 19))) (mC (.int 6))) (mCons (mB dAdd (mC (.int 1)) (mB dMod (mL dInt (mCons (mB dIx (mV 0) (mB dAdd (mV 11) (mC (.int 8)))) mNil)) (mC (.int 3)))) (mCons (mP (mV 12)) mNil))))))))))
    (mFrz 8 (mApp (rV 6) (mP (mV 8))))))))
  (mRet (mV 6))))
abbrev g_law_plain : List D → Option D := run 14 6 m_law_plain
theorem fn_law_plain {f : Addr} {fd : FuncData} (F : Fun K "_law_plain" "_law_plain" s_law_plain f fd) (hm : mg "_law_plain" = some (.ref f)) (T : Txt mg) (F_law_weights : Fn P w K mg base c "_law_weights" 4 1 g_law_weights) : Fn P w K mg base c "_law_plain" 6 2 g_law_plain :=
  fn_mk F hm (F.binds (ps := ["row", "at", "size", "most", "total", "ring"]) fun _ _ _ _ _ _ us hl => match us, hl with | [_, _, _, _, _, _], _ => rfl) sc_law_plain fun cdv A outer s H E hr =>
  (psm_cons (psm_set (i := 6) sc_law_plain.nd (pm_lst pam_nil))
  (psm_cons (psm_forR1 PassesOwn.never rfl (by rfl) T.range (pgm_name 7 sc_law_plain.nd) (paa_cons (pa_var 2) paa_nil) (psm_cons (psm_set (i := 8) sc_law_plain.nd (pm_lst pam_nil))
    (psm_cons (psm_set (i := 9) sc_law_plain.nd (pm_mod (toA (pm_intC T.int (paa_cons (toA (pm_add (pa_var 7) (toA pm_int))) paa_nil))) (pa_var 2)))
    (psm_cons (psm_forR1 PassesOwn.never rfl (by rfl) T.range (pgm_name 10 sc_law_plain.nd) (paa_cons (toA (pm_add (toA pm_int) (toA (pm_mod (toA (pm_intC T.int (paa_cons (pa_ix (pa_var 0) (toA (pm_add (pa_var 1) (pa_var 7)))) paa_nil))) (pa_var 3))))) paa_nil) (psm_cons (psm_set (i := 11) sc_law_plain.nd (pm_add (toA (pm_add (pa_var 1) (pa_var 2))) (toA (pm_mul (toA pm_int) (toA (pm_add (toA (pm_mul (pa_var 3) (pa_var 7))) (pa_var 10)))))))
      (psm_cons (psm_set (i := 12) sc_law_plain.nd (pm_callB_ F_law_weights (hr.mono (by decide)) (by rfl) (paa_cons (pa_var 0) (paa_cons (pa_var 11) (paa_cons (pa_var 2) (paa_cons (pa_var 4) paa_nil))))))
      (psm_cons (psm_if (ptm_pw (pwm_and (ptm_tru (pa_var 5)) (pwm_and (ptm_eq hr.units (pa_var 10) (toA pm_int)) (pwm_and1 (ptm_eq hr.units (pa_ix (pa_var 12) (pa_var 9)) (toA pm_int)))))) (psm_cons (psm_set (i := 13) sc_law_plain.nd (pm_index (pa_var 12) (toA (pm_max1 rfl T.max (paa_cons (pa_var 12) paa_nil)))))
        (psm_cons (psm_sto (pm_sub (pa_ix (pa_var 12) (pa_var 13)) (toA pm_int)) (prm_var 12) (pa_var 13))
        (psm_one (psm_sto pm_int (prm_var 12) (pa_var 9))))) psm_nil)
      (psm_frz 12 (psm_one (psm_app (prm_var 8) (pm_tup (pam_cons (pm_sub (toA (pm_mod (toA (pm_intC T.int (paa_cons (pa_ix (pa_var 0) (toA (pm_add (pa_var 11) (toA pm_int)))) paa_nil))) (toA pm_int))) (toA pm_int)) (pam_cons (pm_add (toA pm_int) (toA (pm_mod (toA (pm_intC T.int (paa_cons (pa_ix (pa_var 0) (toA (pm_add (pa_var 11) (toA pm_int)))) paa_nil))) (toA pm_int)))) (pam_cons (toM (pa_var 12)) pam_nil)))))))))))
    (psm_frz 8 (psm_one (psm_app (prm_var 6) (toM (pa_var 8)))))))))
  (psm_one (psm_retV (i := 6)))))
abbrev s_law_made : Stmt := topS 23
theorem sc_law_made : FnScope ["table", "total", "made", "actions", "told", "a", "line", "pairs", "t"] ["table", "total"] (defScope s_law_made) := ⟨rfl, rfl, rfl, by decide +kernel, rfl, by decide +kernel, by decide +kernel⟩
def m_law_made : SM :=
  (mSeq (mSet 2 (mLst mNil))
  (mSeq (mFor (mSeqOf (mP (mV 0))) (gN 3) (mSeq (mSet 4 (mLst mNil))
    (mSeq (mFor (mRng1 (mCons (mL dLen (mCons (mV 3) mNil)) mNil)) (gN 5) (mSeq (mSet 6 (mP (mB dIx (mB dIx (mV 3) (mV 5)) (mC (.int 2)))))
      (mSeq (mSet 7 (mLc (mRng1 (mCons (mL dLen (mCons (mV 6) mNil)) mNil)) [8] (gN 8) (mT (mB dGt (mB dIx (mV 6) (mV 8)) (mC (.int 0)))) (mTup (mCons (mP (mV 8)) (mCons (mCallB g_law_lowest (mCons (mB dIx (mV 6) (mV 8)) (mCons (mV 1) mNil))) mNil)))))
      (mApp (rV 4) (mTup (mCons (mB dAdd (mC (.str "a")) (mL dStr (mCons (mV 5) mNil))) (mCons (mCallB g_law_lowest (mCons (mB dIx (mB dIx (mV 3) (mV 5)) (mC (.int 0))) (mCons (mB dIx (mB dIx (mV 3) (mV 5)) (mC (.int 1))) mNil))) (mCons (mL dTuple (mCons (mV 7) mNil)) mNil))))))))
    (mApp (rV 2) (mL dTuple (mCons (mV 4) mNil))))))
  (mRet (mL dTuple (mCons (mV 2) mNil)))))
abbrev g_law_made : List D → Option D := run 9 2 m_law_made
theorem fn_law_made {f : Addr} {fd : FuncData} (F : Fun K "_law_made" "_law_made" s_law_made f fd) (hm : mg "_law_made" = some (.ref f)) (T : Txt mg) (F_law_lowest : Fn P w K mg base c "_law_lowest" 2 1 g_law_lowest) : Fn P w K mg base c "_law_made" 2 2 g_law_made :=
  fn_mk F hm (F.binds (ps := ["table", "total"]) fun _ _ _ _ _ _ us hl => match us, hl with | [_, _], _ => rfl) sc_law_made fun cdv A outer s H E hr =>
  (psm_cons (psm_set (i := 2) sc_law_made.nd (pm_lst pam_nil))
  (psm_cons (psm_forS PassesOwn.never rfl (pgm_name 3 sc_law_made.nd) (toM (pa_var 0)) (psm_cons (psm_set (i := 4) sc_law_made.nd (pm_lst pam_nil))
    (psm_cons (psm_forR1 PassesOwn.never rfl (by rfl) T.range (pgm_name 5 sc_law_made.nd) (paa_cons (toA (pm_len T.len (paa_cons (pa_var 3) paa_nil))) paa_nil) (psm_cons (psm_set (i := 6) sc_law_made.nd (toM (pa_ix (pa_ix (pa_var 3) (pa_var 5)) (toA pm_int))))
      (psm_cons (psm_setLc (i := 7) [("t", 8)] rfl sc_law_made.nd (blkOk_by (by rfl)) (src_r1 (by rfl) T.range (paa_cons (toA (pm_len T.len (paa_cons (pa_var 6) paa_nil))) paa_nil)) (fun _ _ _ _ _ => (pgm_name 8 sc_law_made.nd)) (fun _ _ _ _ _ => (ptsm_one (ptm_gt (pa_ix (pa_var 6) (pa_var 8)) (toA pm_int)))) (fun _ _ _ _ _ => (pm_tup (pam_cons (toM (pa_var 8)) (pam_cons (pm_callB_ F_law_lowest (hr.mono (by decide)) (by rfl) (paa_cons (pa_ix (pa_var 6) (pa_var 8)) (paa_cons (pa_var 1) paa_nil))) pam_nil)))) (sw_true rfl rfl rfl (by decide +kernel)))
      (psm_one (psm_app (prm_var 4) (pm_tup (pam_cons (pm_add (toA pm_str) (toA (pm_strC T.str (paa_cons (pa_var 5) paa_nil)))) (pam_cons (pm_callB_ F_law_lowest (hr.mono (by decide)) (by rfl) (paa_cons (pa_ix (pa_ix (pa_var 3) (pa_var 5)) (toA pm_int)) (paa_cons (pa_ix (pa_ix (pa_var 3) (pa_var 5)) (toA pm_int)) paa_nil))) (pam_cons (pm_tupleC T.tuple (paa_cons (pa_var 7) paa_nil)) pam_nil)))))))))
    (psm_one (psm_app (prm_var 2) (pm_tupleC T.tuple (paa_cons (pa_var 4) paa_nil)))))))
  (psm_one (psm_ret (pm_tupleC T.tuple (paa_cons (pa_var 2) paa_nil))))))
abbrev s_law_kept : Stmt := topS 24
theorem sc_law_kept : FnScope ["line", "inside", "kept", "t", "at"] ["line", "inside"] (defScope s_law_kept) := ⟨rfl, rfl, rfl, by decide +kernel, rfl, by decide +kernel, by decide +kernel⟩
def m_law_kept : SM :=
  (mSeq (mSet 2 (mB dMul (mLst (mCons (mC (.int 0)) mNil)) (mL dLen (mCons (mV 0) mNil))))
  (mSeq (mFor (mRng1 (mCons (mL dLen (mCons (mV 0) mNil)) mNil)) (gN 3) (mSeq (mSet 4 (mP (mB dIx (mV 1) (mB dMod (mL dInt (mCons (mV 3) mNil)) (mL dLen (mCons (mV 1) mNil))))))
    (mSto (rV 2) (mV 4) (mB dAdd (mB dIx (mV 2) (mV 4)) (mB dIx (mV 0) (mV 3))))))
  (mRet (mV 2))))
abbrev g_law_kept : List D → Option D := run 5 2 m_law_kept
theorem fn_law_kept {f : Addr} {fd : FuncData} (F : Fun K "_law_kept" "_law_kept" s_law_kept f fd) (hm : mg "_law_kept" = some (.ref f)) (T : Txt mg) : Fn P w K mg base c "_law_kept" 2 1 g_law_kept :=
  fn_mk F hm (F.binds (ps := ["line", "inside"]) fun _ _ _ _ _ _ us hl => match us, hl with | [_, _], _ => rfl) sc_law_kept fun cdv A outer s H E hr =>
  (psm_cons (psm_set (i := 2) sc_law_kept.nd (pm_mul (toA (pm_lst (pam_cons pm_int pam_nil))) (toA (pm_len T.len (paa_cons (pa_var 0) paa_nil)))))
  (psm_cons (psm_forR1 PassesOwn.never rfl (by rfl) T.range (pgm_name 3 sc_law_kept.nd) (paa_cons (toA (pm_len T.len (paa_cons (pa_var 0) paa_nil))) paa_nil) (psm_cons (psm_set (i := 4) sc_law_kept.nd (toM (pa_ix (pa_var 1) (toA (pm_mod (toA (pm_intC T.int (paa_cons (pa_var 3) paa_nil))) (toA (pm_len T.len (paa_cons (pa_var 1) paa_nil))))))))
    (psm_one (psm_sto (pm_add (pa_ix (pa_var 2) (pa_var 4)) (pa_ix (pa_var 0) (pa_var 3))) (prm_var 2) (pa_var 4)))))
  (psm_one (psm_retV (i := 2)))))
abbrev s_law_starts_fault : Stmt := topS 25
theorem sc_law_starts_fault : FnScope ["table", "total", "costs", "policy", "bias", "whole", "value", "low", "high", "s", "a", "n", "d", "line", "drift", "t", "mean", "surplus"] ["table", "total", "costs", "policy", "bias"] (defScope s_law_starts_fault) := ⟨rfl, rfl, rfl, by decide +kernel, rfl, by decide +kernel, by decide +kernel⟩
def m_law_starts_fault : SM :=
  (mSeq (mSet 5 (mC (.int 1)))
  (mSeq (mFor (mSeqOf (mF (mB dAdd (mL dList (mCons (mV 2) mNil)) (mL dList (mCons (mV 4) mNil))))) (gN 6) (mSet 5 (mB dDiv (mB dMul (mV 5) (mB dIx (mV 6) (mC (.int 1)))) (mCallB g_law_common (mCons (mV 5) (mCons (mB dIx (mV 6) (mC (.int 1))) mNil))))))
  (mSeq (mSet 7 (mLc (mSeqA (mV 2)) [6] (gN 6) mYes (mB dMul (mB dIx (mV 6) (mC (.int 0))) (mB dDiv (mV 5) (mB dIx (mV 6) (mC (.int 1)))))))
  (mSeq (mSet 8 (mLc (mSeqA (mV 4)) [6] (gN 6) mYes (mB dMul (mB dIx (mV 6) (mC (.int 0))) (mB dDiv (mV 5) (mB dIx (mV 6) (mC (.int 1)))))))
  (mSeq (mFor (mRng1 (mCons (mL dLen (mCons (mV 0) mNil)) mNil)) (gN 9) (mFor (mRng1 (mCons (mL dLen (mCons (mB dIx (mV 0) (mV 9)) mNil)) mNil)) (gN 10) (mSeq (mAsg (gT 3 (gsC (gN 11) (gsC (gN 12) (gsC (gN 13) gsN)))) (mP (mB dIx (mB dIx (mV 0) (mV 9)) (mV 10))))
      (mSeq (mSet 14 (mB dSub (mL dSum (mCons (mLc (mRng1 (mCons (mL dLen (mCons (mV 13) mNil)) mNil)) [15] (gN 15) mYes (mB dMul (mB dIx (mV 13) (mV 15)) (mB dIx (mV 7) (mV 15)))) mNil)) (mB dMul (mV 1) (mB dIx (mV 7) (mV 9)))))
      (mSeq (mSet 16 (mL dSum (mCons (mLc (mRng1 (mCons (mL dLen (mCons (mV 13) mNil)) mNil)) [15] (gN 15) mYes (mB dMul (mB dIx (mV 13) (mV 15)) (mB dIx (mV 8) (mV 15)))) mNil)))
      (mSeq (mSet 17 (mB dSub (mB dAdd (mB dMul (mB dMul (mV 11) (mV 5)) (mV 1)) (mB dMul (mV 12) (mV 16))) (mB dMul (mB dMul (mV 12) (mV 1)) (mB dAdd (mB dIx (mV 7) (mV 9)) (mB dIx (mV 8) (mV 9))))))
      (mIte (mOrB (mT (mB dLt (mV 14) (mC (.int 0)))) (mOrB (mT (mB dLt (mV 17) (mC (.int 0)))) (mAndB (mT (mB dEq (mB dIx (mV 3) (mV 9)) (mV 10))) (mOrB (mT (mB dGt (mV 14) (mC (.int 0)))) (mT (mB dGt (mV 17) (mC (.int 0)))))))) (mRet (mTup (mCons (mP (mV 9)) (mCons (mP (mV 10)) mNil)))) mNx)))))))
  (mRet (mC .non)))))))
abbrev g_law_starts_fault : List D → Option D := run 18 5 m_law_starts_fault
theorem fn_law_starts_fault {f : Addr} {fd : FuncData} (F : Fun K "_law_starts_fault" "_law_starts_fault" s_law_starts_fault f fd) (hm : mg "_law_starts_fault" = some (.ref f)) (T : Txt mg) (F_law_common : Fn P w K mg base c "_law_common" 2 1 g_law_common) : Fn P w K mg base c "_law_starts_fault" 5 2 g_law_starts_fault :=
  fn_mk F hm (F.binds (ps := ["table", "total", "costs", "policy", "bias"]) fun _ _ _ _ _ _ us hl => match us, hl with | [_, _, _, _, _], _ => rfl) sc_law_starts_fault fun cdv A outer s H E hr =>
  (psm_cons (psm_set (i := 5) sc_law_starts_fault.nd pm_int)
  (psm_cons (psm_forS PassesOwn.never rfl (pgm_name 6 sc_law_starts_fault.nd) (toF (pm_add (toA (pm_listC T.list (paa_cons (pa_var 2) paa_nil))) (toA (pm_listC T.list (paa_cons (pa_var 4) paa_nil))))) (psm_one (psm_set (i := 5) sc_law_starts_fault.nd (pm_div (toA (pm_mul (pa_var 5) (pa_ix (pa_var 6) (toA pm_int)))) (toA (pm_callB_ F_law_common (hr.mono (by decide)) (by rfl) (paa_cons (pa_var 5) (paa_cons (pa_ix (pa_var 6) (toA pm_int)) paa_nil))))))))
  (psm_cons (psm_set (i := 7) sc_law_starts_fault.nd (pm_lc [("value", 6)] rfl sc_law_starts_fault.nd (blkOk_by (by rfl)) (src_seq (pa_var 2)) (fun _ _ _ _ _ => (pgm_name 6 sc_law_starts_fault.nd)) (fun _ _ _ _ _ => ptsm_nil) (fun _ _ _ _ _ => (pm_mul (pa_ix (pa_var 6) (toA pm_int)) (toA (pm_div (pa_var 5) (pa_ix (pa_var 6) (toA pm_int))))))))
  (psm_cons (psm_set (i := 8) sc_law_starts_fault.nd (pm_lc [("value", 6)] rfl sc_law_starts_fault.nd (blkOk_by (by rfl)) (src_seq (pa_var 4)) (fun _ _ _ _ _ => (pgm_name 6 sc_law_starts_fault.nd)) (fun _ _ _ _ _ => ptsm_nil) (fun _ _ _ _ _ => (pm_mul (pa_ix (pa_var 6) (toA pm_int)) (toA (pm_div (pa_var 5) (pa_ix (pa_var 6) (toA pm_int))))))))
  (psm_cons (psm_forR1 PassesOwn.never rfl (by rfl) T.range (pgm_name 9 sc_law_starts_fault.nd) (paa_cons (toA (pm_len T.len (paa_cons (pa_var 0) paa_nil))) paa_nil) (psm_one (psm_forR1 PassesOwn.never rfl (by rfl) T.range (pgm_name 10 sc_law_starts_fault.nd) (paa_cons (toA (pm_len T.len (paa_cons (pa_ix (pa_var 0) (pa_var 9)) paa_nil))) paa_nil) (psm_cons (psm_asg (toM (pa_ix (pa_ix (pa_var 0) (pa_var 9)) (pa_var 10))) (pgm_tup rfl (pgsm_cons (pgm_name 11 sc_law_starts_fault.nd) (pgsm_cons (pgm_name 12 sc_law_starts_fault.nd) (pgsm_cons (pgm_name 13 sc_law_starts_fault.nd) pgsm_nil)))))
      (psm_cons (psm_set (i := 14) sc_law_starts_fault.nd (pm_sub (toA (pm_sum rfl T.sum (paa_cons (toA (pm_lc [("t", 15)] rfl sc_law_starts_fault.nd (blkOk_by (by rfl)) (src_r1 (by rfl) T.range (paa_cons (toA (pm_len T.len (paa_cons (pa_var 13) paa_nil))) paa_nil)) (fun _ _ _ _ _ => (pgm_name 15 sc_law_starts_fault.nd)) (fun _ _ _ _ _ => ptsm_nil) (fun _ _ _ _ _ => (pm_mul (pa_ix (pa_var 13) (pa_var 15)) (pa_ix (pa_var 7) (pa_var 15)))))) paa_nil))) (toA (pm_mul (pa_var 1) (pa_ix (pa_var 7) (pa_var 9))))))
      (psm_cons (psm_set (i := 16) sc_law_starts_fault.nd (pm_sum rfl T.sum (paa_cons (toA (pm_lc [("t", 15)] rfl sc_law_starts_fault.nd (blkOk_by (by rfl)) (src_r1 (by rfl) T.range (paa_cons (toA (pm_len T.len (paa_cons (pa_var 13) paa_nil))) paa_nil)) (fun _ _ _ _ _ => (pgm_name 15 sc_law_starts_fault.nd)) (fun _ _ _ _ _ => ptsm_nil) (fun _ _ _ _ _ => (pm_mul (pa_ix (pa_var 13) (pa_var 15)) (pa_ix (pa_var 8) (pa_var 15)))))) paa_nil)))
      (psm_cons (psm_set (i := 17) sc_law_starts_fault.nd (pm_sub (toA (pm_add (toA (pm_mul (toA (pm_mul (pa_var 11) (pa_var 5))) (pa_var 1))) (toA (pm_mul (pa_var 12) (pa_var 16))))) (toA (pm_mul (toA (pm_mul (pa_var 12) (pa_var 1))) (toA (pm_add (pa_ix (pa_var 7) (pa_var 9)) (pa_ix (pa_var 8) (pa_var 9))))))))
      (psm_one (psm_if (ptm_pw (pwm_or (ptm_lt (pa_var 14) (toA pm_int)) (pwm_or (ptm_lt (pa_var 17) (toA pm_int)) (pwm_or1 (ptm_pw (pwm_and (ptm_eq hr.units (pa_ix (pa_var 3) (pa_var 9)) (pa_var 10)) (pwm_and1 (ptm_pw (pwm_or (ptm_gt (pa_var 14) (toA pm_int)) (pwm_or1 (ptm_gt (pa_var 17) (toA pm_int)))))))))))) (psm_one (psm_ret (pm_tup (pam_cons (toM (pa_var 9)) (pam_cons (toM (pa_var 10)) pam_nil))))) psm_nil)))))))))
  (psm_one (psm_ret pm_non)))))))
abbrev s_law_mean : Stmt := topS 26
theorem sc_law_mean : FnScope ["line", "values", "total", "mean", "t"] ["line", "values", "total"] (defScope s_law_mean) := ⟨rfl, rfl, rfl, by decide +kernel, rfl, by decide +kernel, by decide +kernel⟩
def m_law_mean : SM :=
  (mSeq (mSet 3 (mTup (mCons (mC (.int 0)) (mCons (mC (.int 1)) mNil))))
  (mSeq (mFor (mRng1 (mCons (mL dLen (mCons (mV 0) mNil)) mNil)) (gN 4) (mIte (mT (mB dGt (mB dIx (mV 0) (mV 4)) (mC (.int 0)))) (mSet 3 (mCallB g_law_sum (mCons (mV 3) (mCons (mCallB g_law_product (mCons (mCallB g_law_lowest (mCons (mB dIx (mV 0) (mV 4)) (mCons (mV 2) mNil))) (mCons (mB dIx (mV 1) (mV 4)) mNil))) mNil)))) mNx))
  (mRet (mV 3))))
abbrev g_law_mean : List D → Option D := run 5 3 m_law_mean
theorem fn_law_mean {f : Addr} {fd : FuncData} (F : Fun K "_law_mean" "_law_mean" s_law_mean f fd) (hm : mg "_law_mean" = some (.ref f)) (T : Txt mg) (F_law_lowest : Fn P w K mg base c "_law_lowest" 2 1 g_law_lowest) (F_law_sum : Fn P w K mg base c "_law_sum" 2 2 g_law_sum) (F_law_product : Fn P w K mg base c "_law_product" 2 2 g_law_product) : Fn P w K mg base c "_law_mean" 3 3 g_law_mean :=
  fn_mk F hm (F.binds (ps := ["line", "values", "total"]) fun _ _ _ _ _ _ us hl => match us, hl with | [_, _, _], _ => rfl) sc_law_mean fun cdv A outer s H E hr =>
  (psm_cons (psm_set (i := 3) sc_law_mean.nd (pm_tup (pam_cons pm_int (pam_cons pm_int pam_nil))))
  (psm_cons (psm_forR1 PassesOwn.never rfl (by rfl) T.range (pgm_name 4 sc_law_mean.nd) (paa_cons (toA (pm_len T.len (paa_cons (pa_var 0) paa_nil))) paa_nil) (psm_one (psm_if (ptm_gt (pa_ix (pa_var 0) (pa_var 4)) (toA pm_int)) (psm_one (psm_set (i := 3) sc_law_mean.nd (pm_callB_ F_law_sum (hr.mono (by decide)) (by rfl) (paa_cons (pa_var 3) (paa_cons (toA (pm_callB_ F_law_product (hr.mono (by decide)) (by rfl) (paa_cons (toA (pm_callB_ F_law_lowest (hr.mono (by decide)) (by rfl) (paa_cons (pa_ix (pa_var 0) (pa_var 4)) (paa_cons (pa_var 2) paa_nil)))) (paa_cons (pa_ix (pa_var 1) (pa_var 4)) paa_nil)))) paa_nil))))) psm_nil)))
  (psm_one (psm_retV (i := 3)))))
abbrev s_law_chosen : Stmt := topS 27
theorem sc_law_chosen : FnScope ["table", "block", "policy", "lows", "total", "size", "costs", "s", "lines", "inside", "t", "line"] ["table", "block", "policy", "lows", "total"] (defScope s_law_chosen) := ⟨rfl, rfl, rfl, by decide +kernel, rfl, by decide +kernel, by decide +kernel⟩
def m_law_chosen : SM :=
  (mSeq (mSet 5 (mL dLen (mCons (mV 0) mNil)))
  (mSeq (mSet 6 (mLc (mRng1 (mCons (mV 5) mNil)) [7] (gN 7) mYes (mP (mB dIx (mV 3) (mB dMod (mL dInt (mCons (mB dIx (mV 1) (mV 7)) mNil)) (mC (.int 2)))))))
  (mSeq (mSet 8 (mLst mNil))
  (mSeq (mFor (mRng1 (mCons (mV 5) mNil)) (gN 7) (mSeq (mSet 9 (mLc (mRng1 (mCons (mV 5) mNil)) [10] (gN 10) (mT (mB dEq (mB dIx (mV 1) (mV 10)) (mB dIx (mV 1) (mV 7)))) (mP (mV 10))))
    (mSeq (mIte (mT (mB dEq (mB dIx (mV 1) (mV 7)) (mC (.int 2)))) (mSet 9 (mLc (mRng1 (mCons (mV 5) mNil)) [10] (gN 10) (mOrB (mT (mB dLt (mB dIx (mV 1) (mV 10)) (mC (.int 2)))) (mT (mB dLt (mV 10) (mV 7)))) (mP (mV 10)))) mNx)
    (mSeq (mSet 11 (mCallB g_law_kept (mCons (mB dIx (mB dIx (mB dIx (mV 0) (mV 7)) (mB dIx (mV 2) (mV 7))) (mC (.int 2))) (mCons (mV 9) mNil))))
    (mSeq (mIte (mT (mB dEq (mB dIx (mV 1) (mV 7)) (mC (.int 2)))) (mSto (rV 6) (mV 7) (mCallB g_law_mean (mCons (mV 11) (mCons (mV 6) (mCons (mV 4) mNil))))) mNx)
    (mFrz 11 (mApp (rV 8) (mP (mV 11)))))))))
  (mFrz 8 (mFrz 6 (mRet (mTup (mCons (mP (mV 8)) (mCons (mP (mV 6)) mNil))))))))))
abbrev g_law_chosen : List D → Option D := run 12 5 m_law_chosen
theorem fn_law_chosen {f : Addr} {fd : FuncData} (F : Fun K "_law_chosen" "_law_chosen" s_law_chosen f fd) (hm : mg "_law_chosen" = some (.ref f)) (T : Txt mg) (F_law_kept : Fn P w K mg base c "_law_kept" 2 1 g_law_kept) (F_law_mean : Fn P w K mg base c "_law_mean" 3 3 g_law_mean) : Fn P w K mg base c "_law_chosen" 5 4 g_law_chosen :=
  fn_mk F hm (F.binds (ps := ["table", "block", "policy", "lows", "total"]) fun _ _ _ _ _ _ us hl => match us, hl with | [_, _, _, _, _], _ => rfl) sc_law_chosen fun cdv A outer s H E hr =>
  (psm_cons (psm_set (i := 5) sc_law_chosen.nd (pm_len T.len (paa_cons (pa_var 0) paa_nil)))
  (psm_cons (psm_setLc (i := 6) [("s", 7)] rfl sc_law_chosen.nd (blkOk_by (by rfl)) (src_r1 (by rfl) T.range (paa_cons (pa_var 5) paa_nil)) (fun _ _ _ _ _ => (pgm_name 7 sc_law_chosen.nd)) (fun _ _ _ _ _ => ptsm_nil) (fun _ _ _ _ _ => (toM (pa_ix (pa_var 3) (toA (pm_mod (toA (pm_intC T.int (paa_cons (pa_ix (pa_var 1) (pa_var 7)) paa_nil))) (toA pm_int)))))) (sw_true rfl rfl rfl (by decide +kernel)))
  (psm_cons (psm_set (i := 8) sc_law_chosen.nd (pm_lst pam_nil))
  (psm_cons (psm_forR1 PassesOwn.never rfl (by rfl) T.range (pgm_name 7 sc_law_chosen.nd) (paa_cons (pa_var 5) paa_nil) (psm_cons (psm_setLc (i := 9) [("t", 10)] rfl sc_law_chosen.nd (blkOk_by (by rfl)) (src_r1 (by rfl) T.range (paa_cons (pa_var 5) paa_nil)) (fun _ _ _ _ _ => (pgm_name 10 sc_law_chosen.nd)) (fun _ _ _ _ _ => (ptsm_one (ptm_eq hr.units (pa_ix (pa_var 1) (pa_var 10)) (pa_ix (pa_var 1) (pa_var 7))))) (fun _ _ _ _ _ => (toM (pa_var 10))) (sw_true rfl rfl rfl (by decide +kernel)))
    (psm_cons (psm_if (ptm_eq hr.units (pa_ix (pa_var 1) (pa_var 7)) (toA pm_int)) (psm_one (psm_setLc (i := 9) [("t", 10)] rfl sc_law_chosen.nd (blkOk_by (by rfl)) (src_r1 (by rfl) T.range (paa_cons (pa_var 5) paa_nil)) (fun _ _ _ _ _ => (pgm_name 10 sc_law_chosen.nd)) (fun _ _ _ _ _ => (ptsm_one (ptm_pw (pwm_or (ptm_lt (pa_ix (pa_var 1) (pa_var 10)) (toA pm_int)) (pwm_or1 (ptm_lt (pa_var 10) (pa_var 7))))))) (fun _ _ _ _ _ => (toM (pa_var 10))) (sw_true rfl rfl rfl (by decide +kernel)))) psm_nil)
    (psm_cons (psm_set (i := 11) sc_law_chosen.nd (pm_callB_ F_law_kept (hr.mono (by decide)) (by rfl) (paa_cons (pa_ix (pa_ix (pa_ix (pa_var 0) (pa_var 7)) (pa_ix (pa_var 2) (pa_var 7))) (toA pm_int)) (paa_cons (pa_var 9) paa_nil))))
    (psm_cons (psm_if (ptm_eq hr.units (pa_ix (pa_var 1) (pa_var 7)) (toA pm_int)) (psm_one (psm_sto (pm_callB_ F_law_mean (hr.mono (by decide)) (by rfl) (paa_cons (pa_var 11) (paa_cons (pa_var 6) (paa_cons (pa_var 4) paa_nil)))) (prm_var 6) (pa_var 7))) psm_nil)
    (psm_frz 11 (psm_one (psm_app (prm_var 8) (toM (pa_var 11))))))))))
  (psm_frz 8 (psm_frz 6 (psm_one (psm_ret (pm_tup (pam_cons (toM (pa_var 8)) (pam_cons (toM (pa_var 6)) pam_nil)))))))))))
abbrev s_law_fitted : Stmt := topS 28
theorem sc_law_fitted : FnScope ["row", "table", "block", "policy", "lows", "bias", "total", "size", "chosen", "costs", "dear", "s", "fitted", "inside", "t", "actions", "a", "line", "extra", "n", "price"] ["row", "table", "block", "policy", "lows", "bias", "total"] (defScope s_law_fitted) := ⟨rfl, rfl, rfl, by decide +kernel, rfl, by decide +kernel, by decide +kernel⟩
def m_law_fitted : SM :=
  (mSeq (mSet 7 (mL dLen (mCons (mV 1) mNil)))
  (mSeq (mAsg (gT 2 (gsC (gN 8) (gsC (gN 9) gsN))) (mF (mCall g_law_chosen (mCons (mV 1) (mCons (mV 2) (mCons (mV 3) (mCons (mV 4) (mCons (mV 6) mNil))))))))
  (mSeq (mSet 10 (mC (.int 0)))
  (mSeq (mFor (mRng1 (mCons (mV 7) mNil)) (gN 11) (mIte (mT (mCallB g_law_below (mCons (mB dIx (mV 9) (mV 10)) (mCons (mB dIx (mV 9) (mV 11)) mNil)))) (mSet 10 (mP (mV 11))) mNx))
  (mSeq (mSet 12 (mLst mNil))
  (mSeq (mFor (mRng1 (mCons (mV 7) mNil)) (gN 11) (mSeq (mSet 13 (mLc (mRng1 (mCons (mV 7) mNil)) [14] (gN 14) (mT (mB dEq (mB dIx (mV 2) (mV 14)) (mB dIx (mV 2) (mV 11)))) (mP (mV 14))))
    (mSeq (mSet 15 (mLst mNil))
    (mSeq (mFor (mRng1 (mCons (mL dLen (mCons (mB dIx (mV 1) (mV 11)) mNil)) mNil)) (gN 16) (mSeq (mSet 17 (mP (mB dIx (mB dIx (mB dIx (mV 1) (mV 11)) (mV 16)) (mC (.int 2)))))
      (mSeq (mSet 18 (mC (.int 0)))
      (mSeq (mIte (mT (mB dEq (mV 16) (mB dIx (mV 3) (mV 11)))) (mSet 17 (mP (mB dIx (mV 8) (mV 11)))) (mIte (mT (mCallB g_law_below (mCons (mCallB g_law_mean (mCons (mV 17) (mCons (mV 9) (mCons (mV 6) mNil)))) (mCons (mB dIx (mV 9) (mV 11)) mNil)))) (mSeq (mSet 17 (mLc (mRng1 (mCons (mV 7) mNil)) [14] (gN 14) mYes (mB dMul (mV 6) (mL dInt (mCons (mB dEq (mV 14) (mV 10)) mNil)))))
          (mIte (mT (mB dLt (mB dIx (mV 2) (mV 11)) (mC (.int 2)))) (mSet 17 (mCallB g_law_kept (mCons (mB dIx (mB dIx (mB dIx (mV 1) (mV 11)) (mV 16)) (mC (.int 2))) (mCons (mV 13) mNil)))) mNx)) mNx))
      (mSeq (mIte (mAndB (mT (mB dNe (mV 16) (mB dIx (mV 3) (mV 11)))) (mT (mB dGt (mB dMod (mB dIx (mV 0) (mB dAdd (mB dAdd (mC (.int 180)) (mB dMul (mC (.int 3)) (mV 11))) (mV 16))) (mC (.int 3))) (mC (.int 0))))) (mSet 18 (mB dMod (mL dInt (mCons (mB dIx (mV 0) (mB dAdd (mB dAdd (mC (.int 195)) (mB dMul (mC (.int 3)) (mV 11))) (mV 16))) mNil)) (mC (.int 13)))) mNx)
      (mSeq (mSet 19 (mB dSub (mB dMul (mV 6) (mB dAdd (mB dIx (mV 5) (mV 11)) (mV 18))) (mL dSum (mCons (mLc (mRng1 (mCons (mV 7) mNil)) [14] (gN 14) mYes (mB dMul (mB dIx (mV 17) (mV 14)) (mB dIx (mV 5) (mV 14)))) mNil))))
      (mSeq (mSet 20 (mCallB g_law_sum (mCons (mB dIx (mV 9) (mV 11)) (mCons (mCallB g_law_lowest (mCons (mV 19) (mCons (mB dMul (mC (.int 6)) (mV 6)) mNil))) mNil))))
      (mFrz 17 (mApp (rV 15) (mTup (mCons (mP (mB dIx (mV 20) (mC (.int 0)))) (mCons (mP (mB dIx (mV 20) (mC (.int 1)))) (mCons (mP (mV 17)) mNil)))))))))))))
    (mFrz 15 (mApp (rV 12) (mP (mV 15))))))))
  (mFrz 12 (mRet (mTup (mCons (mP (mV 12)) (mCons (mP (mV 9)) mNil)))))))))))
abbrev g_law_fitted : List D → Option D := run 21 7 m_law_fitted
theorem fn_law_fitted {f : Addr} {fd : FuncData} (F : Fun K "_law_fitted" "_law_fitted" s_law_fitted f fd) (hm : mg "_law_fitted" = some (.ref f)) (T : Txt mg) (F_law_lowest : Fn P w K mg base c "_law_lowest" 2 1 g_law_lowest) (F_law_sum : Fn P w K mg base c "_law_sum" 2 2 g_law_sum) (F_law_below : Fn P w K mg base c "_law_below" 2 1 g_law_below) (F_law_kept : Fn P w K mg base c "_law_kept" 2 1 g_law_kept) (F_law_mean : Fn P w K mg base c "_law_mean" 3 3 g_law_mean) (F_law_chosen : Fn P w K mg base c "_law_chosen" 5 4 g_law_chosen) : Fn P w K mg base c "_law_fitted" 7 5 g_law_fitted :=
  fn_mk F hm (F.binds (ps := ["row", "table", "block", "policy", "lows", "bias", "total"]) fun _ _ _ _ _ _ us hl => match us, hl with | [_, _, _, _, _, _, _], _ => rfl) sc_law_fitted fun cdv A outer s H E hr =>
  (psm_cons (psm_set (i := 7) sc_law_fitted.nd (pm_len T.len (paa_cons (pa_var 1) paa_nil)))
  (psm_cons (psm_asg (toF (pm_call F_law_chosen (hr.mono (by decide)) (by rfl) (paa_cons (pa_var 1) (paa_cons (pa_var 2) (paa_cons (pa_var 3) (paa_cons (pa_var 4) (paa_cons (pa_var 6) paa_nil))))))) (pgm_tup rfl (pgsm_cons (pgm_name 8 sc_law_fitted.nd) (pgsm_cons (pgm_name 9 sc_law_fitted.nd) pgsm_nil))))
  (psm_cons (psm_set (i := 10) sc_law_fitted.nd pm_int)
  (psm_cons (psm_forR1 PassesOwn.never rfl (by rfl) T.range (pgm_name 11 sc_law_fitted.nd) (paa_cons (pa_var 7) paa_nil) (psm_one (psm_if (ptm_val (pm_callB_ F_law_below (hr.mono (by decide)) (by rfl) (paa_cons (pa_ix (pa_var 9) (pa_var 10)) (paa_cons (pa_ix (pa_var 9) (pa_var 11)) paa_nil)))) (psm_one (psm_set (i := 10) sc_law_fitted.nd (toM (pa_var 11)))) psm_nil)))
  (psm_cons (psm_set (i := 12) sc_law_fitted.nd (pm_lst pam_nil))
  (psm_cons (psm_forR1 PassesOwn.never rfl (by rfl) T.range (pgm_name 11 sc_law_fitted.nd) (paa_cons (pa_var 7) paa_nil) (psm_cons (psm_setLc (i := 13) [("t", 14)] rfl sc_law_fitted.nd (blkOk_by (by rfl)) (src_r1 (by rfl) T.range (paa_cons (pa_var 7) paa_nil)) (fun _ _ _ _ _ => (pgm_name 14 sc_law_fitted.nd)) (fun _ _ _ _ _ => (ptsm_one (ptm_eq hr.units (pa_ix (pa_var 2) (pa_var 14)) (pa_ix (pa_var 2) (pa_var 11))))) (fun _ _ _ _ _ => (toM (pa_var 14))) (sw_true rfl rfl rfl (by decide +kernel)))
    (psm_cons (psm_set (i := 15) sc_law_fitted.nd (pm_lst pam_nil))
    (psm_cons (psm_forR1 PassesOwn.never rfl (by rfl) T.range (pgm_name 16 sc_law_fitted.nd) (paa_cons (toA (pm_len T.len (paa_cons (pa_ix (pa_var 1) (pa_var 11)) paa_nil))) paa_nil) (psm_cons (psm_set (i := 17) sc_law_fitted.nd (toM (pa_ix (pa_ix (pa_ix (pa_var 1) (pa_var 11)) (pa_var 16)) (toA pm_int))))
      (psm_cons (psm_set (i := 18) sc_law_fitted.nd pm_int)
      (psm_cons (psm_if (ptm_eq hr.units (pa_var 16) (pa_ix (pa_var 3) (pa_var 11))) (psm_one (psm_set (i := 17) sc_law_fitted.nd (toM (pa_ix (pa_var 8) (pa_var 11))))) (psm_one (psm_if (ptm_val (pm_callB_ F_law_below (hr.mono (by decide)) (by rfl) (paa_cons (toA (pm_callB_ F_law_mean (hr.mono (by decide)) (by rfl) (paa_cons (pa_var 17) (paa_cons (pa_var 9) (paa_cons (pa_var 6) paa_nil))))) (paa_cons (pa_ix (pa_var 9) (pa_var 11)) paa_nil)))) (psm_cons (psm_set (i := 17) sc_law_fitted.nd (pm_lc [("t", 14)] rfl sc_law_fitted.nd (blkOk_by (by rfl)) (src_r1 (by rfl) T.range (paa_cons (pa_var 7) paa_nil)) (fun _ _ _ _ _ => (pgm_name 14 sc_law_fitted.nd)) (fun _ _ _ _ _ => ptsm_nil) (fun _ _ _ _ _ => (pm_mul (pa_var 6) (toA (pm_intC T.int (paa_cons (toA (pm_eq hr.units (pa_var 14) (pa_var 10))) paa_nil)))))))
          (psm_one (psm_if (ptm_lt (pa_ix (pa_var 2) (pa_var 11)) (toA pm_int)) (psm_one (psm_set (i := 17) sc_law_fitted.nd (pm_callB_ F_law_kept (hr.mono (by decide)) (by rfl) (paa_cons (pa_ix (pa_ix (pa_ix (pa_var 1) (pa_var 11)) (pa_var 16)) (toA pm_int)) (paa_cons (pa_var 13) paa_nil))))) psm_nil))) psm_nil)))
      (psm_cons (psm_if (ptm_pw (pwm_and (ptm_ne hr.units (pa_var 16) (pa_ix (pa_var 3) (pa_var 11))) (pwm_and1 (ptm_gt (toA (pm_mod (pa_ix (pa_var 0) (toA (pm_add (toA (pm_add (toA pm_int) (toA (pm_mul (toA pm_int) (pa_var 11))))) (pa_var 16)))) (toA pm_int))) (toA pm_int))))) (psm_one (psm_set (i := 18) sc_law_fitted.nd (pm_mod (toA (pm_intC T.int (paa_cons (pa_ix (pa_var 0) (toA (pm_add (toA (pm_add (toA pm_int) (toA (pm_mul (toA pm_int) (pa_var 11))))) (pa_var 16)))) paa_nil))) (toA pm_int)))) psm_nil)
      (psm_cons (psm_set (i := 19) sc_law_fitted.nd (pm_sub (toA (pm_mul (pa_var 6) (toA (pm_add (pa_ix (pa_var 5) (pa_var 11)) (pa_var 18))))) (toA (pm_sum rfl T.sum (paa_cons (toA (pm_lc [("t", 14)] rfl sc_law_fitted.nd (blkOk_by (by rfl)) (src_r1 (by rfl) T.range (paa_cons (pa_var 7) paa_nil)) (fun _ _ _ _ _ => (pgm_name 14 sc_law_fitted.nd)) (fun _ _ _ _ _ => ptsm_nil) (fun _ _ _ _ _ => (pm_mul (pa_ix (pa_var 17) (pa_var 14)) (pa_ix (pa_var 5) (pa_var 14)))))) paa_nil)))))
      (psm_cons (psm_set (i := 20) sc_law_fitted.nd (pm_callB_ F_law_sum (hr.mono (by decide)) (by rfl) (paa_cons (pa_ix (pa_var 9) (pa_var 11)) (paa_cons (toA (pm_callB_ F_law_lowest (hr.mono (by decide)) (by rfl) (paa_cons (pa_var 19) (paa_cons (toA (pm_mul (toA pm_int) (pa_var 6))) paa_nil)))) paa_nil))))
      (psm_frz 17 (psm_one (psm_app (prm_var 15) (pm_tup (pam_cons (toM (pa_ix (pa_var 20) (toA pm_int))) (pam_cons (toM (pa_ix (pa_var 20) (toA pm_int))) (pam_cons (toM (pa_var 17)) pam_nil))))))))))))))
    (psm_frz 15 (psm_one (psm_app (prm_var 12) (toM (pa_var 15)))))))))
  (psm_frz 12 (psm_one (psm_ret (pm_tup (pam_cons (toM (pa_var 12)) (pam_cons (toM (pa_var 9)) pam_nil))))))))))))
abbrev s_law_dearer : Stmt := topS 29
theorem sc_law_dearer : FnScope ["action", "delta", "price"] ["action", "delta"] (defScope s_law_dearer) := ⟨rfl, rfl, rfl, by decide +kernel, rfl, by decide +kernel, by decide +kernel⟩
def m_law_dearer : SM :=
  (mSeq (mSet 2 (mCallB g_law_sum (mCons (mCallB g_law_lowest (mCons (mB dIx (mV 0) (mC (.int 0))) (mCons (mB dIx (mV 0) (mC (.int 1))) mNil))) (mCons (mV 1) mNil))))
  (mRet (mTup (mCons (mP (mB dIx (mV 2) (mC (.int 0)))) (mCons (mP (mB dIx (mV 2) (mC (.int 1)))) (mCons (mP (mB dIx (mV 0) (mC (.int 2)))) mNil))))))
abbrev g_law_dearer : List D → Option D := run 3 2 m_law_dearer
theorem fn_law_dearer {f : Addr} {fd : FuncData} (F : Fun K "_law_dearer" "_law_dearer" s_law_dearer f fd) (hm : mg "_law_dearer" = some (.ref f)) (T : Txt mg) (F_law_lowest : Fn P w K mg base c "_law_lowest" 2 1 g_law_lowest) (F_law_sum : Fn P w K mg base c "_law_sum" 2 2 g_law_sum) : Fn P w K mg base c "_law_dearer" 2 3 g_law_dearer :=
  fn_mk F hm (F.binds (ps := ["action", "delta"]) fun _ _ _ _ _ _ us hl => match us, hl with | [_, _], _ => rfl) sc_law_dearer fun cdv A outer s H E hr =>
  (psm_cons (psm_set (i := 2) sc_law_dearer.nd (pm_callB_ F_law_sum (hr.mono (by decide)) (by rfl) (paa_cons (toA (pm_callB_ F_law_lowest (hr.mono (by decide)) (by rfl) (paa_cons (pa_ix (pa_var 0) (toA pm_int)) (paa_cons (pa_ix (pa_var 0) (toA pm_int)) paa_nil)))) (paa_cons (pa_var 1) paa_nil))))
  (psm_one (psm_ret (pm_tup (pam_cons (toM (pa_ix (pa_var 2) (toA pm_int))) (pam_cons (toM (pa_ix (pa_var 2) (toA pm_int))) (pam_cons (toM (pa_ix (pa_var 0) (toA pm_int))) pam_nil)))))))
abbrev s_law_extreme : Stmt := topS 30
theorem sc_law_extreme : FnScope ["costs", "way", "found", "s"] ["costs", "way"] (defScope s_law_extreme) := ⟨rfl, rfl, rfl, by decide +kernel, rfl, by decide +kernel, by decide +kernel⟩
def m_law_extreme : SM :=
  (mSeq (mSet 2 (mC (.int 0)))
  (mSeq (mFor (mRng1 (mCons (mL dLen (mCons (mV 0) mNil)) mNil)) (gN 3) (mIte (mOrB (mAndB (mT (mB dEq (mV 1) (mC (.int 7)))) (mT (mCallB g_law_below (mCons (mB dIx (mV 0) (mV 3)) (mCons (mB dIx (mV 0) (mV 2)) mNil))))) (mAndB (mT (mB dEq (mV 1) (mC (.int 8)))) (mT (mCallB g_law_below (mCons (mB dIx (mV 0) (mV 2)) (mCons (mB dIx (mV 0) (mV 3)) mNil)))))) (mSet 2 (mP (mV 3))) mNx))
  (mRet (mV 2))))
abbrev g_law_extreme : List D → Option D := run 4 2 m_law_extreme
theorem fn_law_extreme {f : Addr} {fd : FuncData} (F : Fun K "_law_extreme" "_law_extreme" s_law_extreme f fd) (hm : mg "_law_extreme" = some (.ref f)) (T : Txt mg) (F_law_below : Fn P w K mg base c "_law_below" 2 1 g_law_below) : Fn P w K mg base c "_law_extreme" 2 2 g_law_extreme :=
  fn_mk F hm (F.binds (ps := ["costs", "way"]) fun _ _ _ _ _ _ us hl => match us, hl with | [_, _], _ => rfl) sc_law_extreme fun cdv A outer s H E hr =>
  (psm_cons (psm_set (i := 2) sc_law_extreme.nd pm_int)
  (psm_cons (psm_forR1 PassesOwn.never rfl (by rfl) T.range (pgm_name 3 sc_law_extreme.nd) (paa_cons (toA (pm_len T.len (paa_cons (pa_var 0) paa_nil))) paa_nil) (psm_one (psm_if (ptm_pw (pwm_or (ptm_pw (pwm_and (ptm_eq hr.units (pa_var 1) (toA pm_int)) (pwm_and1 (ptm_val (pm_callB_ F_law_below (hr.mono (by decide)) (by rfl) (paa_cons (pa_ix (pa_var 0) (pa_var 3)) (paa_cons (pa_ix (pa_var 0) (pa_var 2)) paa_nil))))))) (pwm_or1 (ptm_pw (pwm_and (ptm_eq hr.units (pa_var 1) (toA pm_int)) (pwm_and1 (ptm_val (pm_callB_ F_law_below (hr.mono (by decide)) (by rfl) (paa_cons (pa_ix (pa_var 0) (pa_var 2)) (paa_cons (pa_ix (pa_var 0) (pa_var 3)) paa_nil)))))))))) (psm_one (psm_set (i := 2) sc_law_extreme.nd (toM (pa_var 3)))) psm_nil)))
  (psm_one (psm_retV (i := 2)))))
abbrev s_law_spoilt : Stmt := topS 31
theorem sc_law_spoilt : FnScope ["row", "paper", "total", "way", "table", "actions", "costs", "policy", "bias", "size", "s", "a", "delta", "target", "price", "t", "value", "action"] ["row", "paper", "total", "way"] (defScope s_law_spoilt) := ⟨rfl, rfl, rfl, by decide +kernel, rfl, by decide +kernel, by decide +kernel⟩
def m_law_spoilt : SM :=
  (mSeq (mSet 4 (mLc (mSeqA (mB dIx (mV 1) (mC (.int 0)))) [5] (gN 5) mYes (mL dList (mCons (mV 5) mNil))))
  (mSeq (mAsgO [6, 7, 8] (mTup (mCons (mL dList (mCons (mB dIx (mV 1) (mC (.int 1))) mNil)) (mCons (mL dList (mCons (mB dIx (mV 1) (mC (.int 2))) mNil)) (mCons (mL dList (mCons (mB dIx (mV 1) (mC (.int 3))) mNil)) mNil)))))
  (mSeq (mSet 9 (mL dLen (mCons (mV 4) mNil)))
  (mSeq (mSet 10 (mB dMod (mL dInt (mCons (mB dIx (mV 0) (mC (.int 7))) mNil)) (mV 9)))
  (mSeq (mSet 11 (mB dMod (mL dInt (mCons (mB dIx (mV 0) (mC (.int 25))) mNil)) (mL dLen (mCons (mB dIx (mV 4) (mV 10)) mNil))))
  (mSeq (mSet 12 (mCallB g_law_lowest (mCons (mB dMul (mB dAdd (mC (.int 1)) (mB dMod (mL dInt (mCons (mB dIx (mV 0) (mC (.int 8))) mNil)) (mC (.int 5)))) (mB dSub (mC (.int 1)) (mB dMul (mC (.int 2)) (mB dMod (mV 3) (mC (.int 2)))))) (mCons (mB dAdd (mC (.int 1)) (mB dMod (mL dInt (mCons (mB dIx (mV 0) (mC (.int 9))) mNil)) (mC (.int 9)))) mNil))))
  (mSeq (mIte (mT (mB dLt (mV 3) (mC (.int 2)))) (mSto (rV 6) (mV 10) (mCallB g_law_sum (mCons (mB dIx (mV 6) (mV 10)) (mCons (mV 12) mNil)))) mNx)
  (mSeq (mIte (mOrB (mT (mB dEq (mV 3) (mC (.int 2)))) (mT (mB dEq (mV 3) (mC (.int 3))))) (mSto (rV 8) (mV 10) (mCallB g_law_sum (mCons (mB dIx (mV 8) (mV 10)) (mCons (mV 12) mNil)))) mNx)
  (mSeq (mIte (mT (mB dEq (mV 3) (mC (.int 4)))) (mSto (rV 7) (mV 10) (mB dMod (mL dInt (mCons (mB dAdd (mB dIx (mV 7) (mV 10)) (mC (.int 1))) mNil)) (mL dLen (mCons (mB dIx (mV 4) (mV 10)) mNil)))) mNx)
  (mSeq (mIte (mT (mB dEq (mV 3) (mC (.int 5)))) (mSto (rIx (rV 4) (mV 10)) (mV 11) (mCall g_law_dearer (mCons (mB dIx (mB dIx (mV 4) (mV 10)) (mV 11)) (mCons (mV 12) mNil)))) mNx)
  (mSeq (mIte (mT (mB dEq (mV 3) (mC (.int 6)))) (mSto (rIx (rV 4) (mV 10)) (mB dIx (mV 7) (mV 10)) (mCall g_law_dearer (mCons (mB dIx (mB dIx (mV 4) (mV 10)) (mB dIx (mV 7) (mV 10))) (mCons (mV 12) mNil)))) mNx)
  (mSeq (mIte (mOrB (mT (mB dEq (mV 3) (mC (.int 7)))) (mT (mB dEq (mV 3) (mC (.int 8))))) (mSeq (mSet 13 (mCallB g_law_extreme (mCons (mV 6) (mCons (mV 3) mNil))))
    (mSeq (mSet 14 (mCallB g_law_sum (mCons (mCallB g_law_sum (mCons (mB dIx (mV 6) (mV 10)) (mCons (mB dIx (mV 8) (mV 10)) mNil))) (mCons (mTup (mCons (mU dNeg (mB dIx (mB dIx (mV 8) (mV 13)) (mC (.int 0)))) (mCons (mP (mB dIx (mB dIx (mV 8) (mV 13)) (mC (.int 1)))) mNil))) mNil))))
    (mSeq (mApp (rIx (rV 4) (mV 10)) (mTup (mCons (mP (mB dIx (mV 14) (mC (.int 0)))) (mCons (mP (mB dIx (mV 14) (mC (.int 1)))) (mCons (mF (mLc (mRng1 (mCons (mV 9) mNil)) [15] (gN 15) mYes (mB dMul (mV 2) (mL dInt (mCons (mB dEq (mV 15) (mV 13)) mNil))))) mNil)))))
    (mIte (mT (mB dEq (mV 3) (mC (.int 8)))) (mSto (rV 7) (mV 10) (mB dSub (mL dLen (mCons (mB dIx (mV 4) (mV 10)) mNil)) (mC (.int 1)))) mNx)))) mNx)
  (mSeq (mIte (mT (mB dEq (mV 3) (mC (.int 9)))) (mSeq (mSet 6 (mLc (mSeqA (mV 6)) [16] (gN 16) mYes (mCallB g_law_sum (mCons (mV 16) (mCons (mV 12) mNil)))))
    (mFrz 4 (mSet 4 (mLc (mSeqA (mV 4)) [5] (gN 5) mYes (mLc (mSeqA (mV 5)) [17] (gN 17) mYes (mCall g_law_dearer (mCons (mV 17) (mCons (mV 12) mNil)))))))) mNx)
  (mSeq (mIte (mT (mB dEq (mV 3) (mC (.int 10)))) (mSet 8 (mLc (mSeqA (mV 8)) [16] (gN 16) mYes (mCallB g_law_sum (mCons (mV 16) (mCons (mV 12) mNil))))) mNx)
  (mSeq (mIte (mT (mB dGt (mV 3) (mC (.int 10)))) (mSet 8 (mLc (mRng1 (mCons (mV 9) mNil)) [15] (gN 15) mYes (mCallB g_law_sum (mCons (mB dIx (mV 8) (mV 15)) (mCons (mCallB g_law_product (mCons (mV 12) (mCons (mB dIx (mV 6) (mV 15)) mNil))) mNil))))) mNx)
  (mFrz 4 (mFrz 6 (mFrz 7 (mFrz 8 (mRet (mTup (mCons (mP (mV 4)) (mCons (mP (mV 6)) (mCons (mP (mV 7)) (mCons (mP (mV 8)) mNil)))))))))))))))))))))))))
abbrev g_law_spoilt : List D → Option D := run 18 4 m_law_spoilt
theorem fn_law_spoilt {f : Addr} {fd : FuncData} (F : Fun K "_law_spoilt" "_law_spoilt" s_law_spoilt f fd) (hm : mg "_law_spoilt" = some (.ref f)) (T : Txt mg) (F_law_lowest : Fn P w K mg base c "_law_lowest" 2 1 g_law_lowest) (F_law_sum : Fn P w K mg base c "_law_sum" 2 2 g_law_sum) (F_law_product : Fn P w K mg base c "_law_product" 2 2 g_law_product) (F_law_dearer : Fn P w K mg base c "_law_dearer" 2 3 g_law_dearer) (F_law_extreme : Fn P w K mg base c "_law_extreme" 2 2 g_law_extreme) : Fn P w K mg base c "_law_spoilt" 4 4 g_law_spoilt :=
  fn_mk F hm (F.binds (ps := ["row", "paper", "total", "way"]) fun _ _ _ _ _ _ us hl => match us, hl with | [_, _, _, _], _ => rfl) sc_law_spoilt fun cdv A outer s H E hr =>
  (psm_cons (psm_setLc (i := 4) [("actions", 5)] rfl sc_law_spoilt.nd (blkOk_by (by rfl)) (src_seq (pa_ix (pa_var 1) (toA pm_int))) (fun _ _ _ _ _ => (pgm_name 5 sc_law_spoilt.nd)) (fun _ _ _ _ _ => ptsm_nil) (fun _ _ _ _ _ => (pm_listC T.list (paa_cons (pa_var 5) paa_nil))) (sw_true rfl rfl rfl (by decide +kernel)))
  (psm_cons (psm_asgO (is := [6, 7, 8]) rfl (pm_tup (pam_cons (pm_listC T.list (paa_cons (pa_ix (pa_var 1) (toA pm_int)) paa_nil)) (pam_cons (pm_listC T.list (paa_cons (pa_ix (pa_var 1) (toA pm_int)) paa_nil)) (pam_cons (pm_listC T.list (paa_cons (pa_ix (pa_var 1) (toA pm_int)) paa_nil)) pam_nil)))) (pgs_cons (pg_name (i := 6) sc_law_spoilt.nd rfl (by first | exact .inl rfl | exact .inr rfl)) (pgs_cons (pg_name (i := 7) sc_law_spoilt.nd rfl (by first | exact .inl rfl | exact .inr rfl)) (pgs_cons (pg_name (i := 8) sc_law_spoilt.nd rfl (by first | exact .inl rfl | exact .inr rfl)) pgs_nil))))
  (psm_cons (psm_set (i := 9) sc_law_spoilt.nd (pm_len T.len (paa_cons (pa_var 4) paa_nil)))
  (psm_cons (psm_set (i := 10) sc_law_spoilt.nd (pm_mod (toA (pm_intC T.int (paa_cons (pa_ix (pa_var 0) (toA pm_int)) paa_nil))) (pa_var 9)))
  (psm_cons (psm_set (i := 11) sc_law_spoilt.nd (pm_mod (toA (pm_intC T.int (paa_cons (pa_ix (pa_var 0) (toA pm_int)) paa_nil))) (toA (pm_len T.len (paa_cons (pa_ix (pa_var 4) (pa_var 10)) paa_nil)))))
  (psm_cons (psm_set (i := 12) sc_law_spoilt.nd (pm_callB_ F_law_lowest (hr.mono (by decide)) (by rfl) (paa_cons (toA (pm_mul (toA (pm_add (toA pm_int) (toA (pm_mod (toA (pm_intC T.int (paa_cons (pa_ix (pa_var 0) (toA pm_int)) paa_nil))) (toA pm_int))))) (toA (pm_sub (toA pm_int) (toA (pm_mul (toA pm_int) (toA (pm_mod (pa_var 3) (toA pm_int))))))))) (paa_cons (toA (pm_add (toA pm_int) (toA (pm_mod (toA (pm_intC T.int (paa_cons (pa_ix (pa_var 0) (toA pm_int)) paa_nil))) (toA pm_int))))) paa_nil))))
  (psm_cons (psm_if (ptm_lt (pa_var 3) (toA pm_int)) (psm_one (psm_sto (pm_callB_ F_law_sum (hr.mono (by decide)) (by rfl) (paa_cons (pa_ix (pa_var 6) (pa_var 10)) (paa_cons (pa_var 12) paa_nil))) (prm_var 6) (pa_var 10))) psm_nil)
  (psm_cons (psm_if (ptm_pw (pwm_or (ptm_eq hr.units (pa_var 3) (toA pm_int)) (pwm_or1 (ptm_eq hr.units (pa_var 3) (toA pm_int))))) (psm_one (psm_sto (pm_callB_ F_law_sum (hr.mono (by decide)) (by rfl) (paa_cons (pa_ix (pa_var 8) (pa_var 10)) (paa_cons (pa_var 12) paa_nil))) (prm_var 8) (pa_var 10))) psm_nil)
  (psm_cons (psm_if (ptm_eq hr.units (pa_var 3) (toA pm_int)) (psm_one (psm_sto (pm_mod (toA (pm_intC T.int (paa_cons (toA (pm_add (pa_ix (pa_var 7) (pa_var 10)) (toA pm_int))) paa_nil))) (toA (pm_len T.len (paa_cons (pa_ix (pa_var 4) (pa_var 10)) paa_nil)))) (prm_var 7) (pa_var 10))) psm_nil)
  (psm_cons (psm_if (ptm_eq hr.units (pa_var 3) (toA pm_int)) (psm_one (psm_sto (pm_call F_law_dearer (hr.mono (by decide)) (by rfl) (paa_cons (pa_ix (pa_ix (pa_var 4) (pa_var 10)) (pa_var 11)) (paa_cons (pa_var 12) paa_nil))) (prm_ix (prm_var 4) (pa_var 10)) (pa_var 11))) psm_nil)
  (psm_cons (psm_if (ptm_eq hr.units (pa_var 3) (toA pm_int)) (psm_one (psm_sto (pm_call F_law_dearer (hr.mono (by decide)) (by rfl) (paa_cons (pa_ix (pa_ix (pa_var 4) (pa_var 10)) (pa_ix (pa_var 7) (pa_var 10))) (paa_cons (pa_var 12) paa_nil))) (prm_ix (prm_var 4) (pa_var 10)) (pa_ix (pa_var 7) (pa_var 10)))) psm_nil)
  (psm_cons (psm_if (ptm_pw (pwm_or (ptm_eq hr.units (pa_var 3) (toA pm_int)) (pwm_or1 (ptm_eq hr.units (pa_var 3) (toA pm_int))))) (psm_cons (psm_set (i := 13) sc_law_spoilt.nd (pm_callB_ F_law_extreme (hr.mono (by decide)) (by rfl) (paa_cons (pa_var 6) (paa_cons (pa_var 3) paa_nil))))
    (psm_cons (psm_set (i := 14) sc_law_spoilt.nd (pm_callB_ F_law_sum (hr.mono (by decide)) (by rfl) (paa_cons (toA (pm_callB_ F_law_sum (hr.mono (by decide)) (by rfl) (paa_cons (pa_ix (pa_var 6) (pa_var 10)) (paa_cons (pa_ix (pa_var 8) (pa_var 10)) paa_nil)))) (paa_cons (toA (pm_tup (pam_cons (pm_neg (pa_ix (pa_ix (pa_var 8) (pa_var 13)) (toA pm_int))) (pam_cons (toM (pa_ix (pa_ix (pa_var 8) (pa_var 13)) (toA pm_int))) pam_nil)))) paa_nil))))
    (psm_cons (psm_app (prm_ix (prm_var 4) (pa_var 10)) (pm_tup (pam_cons (toM (pa_ix (pa_var 14) (toA pm_int))) (pam_cons (toM (pa_ix (pa_var 14) (toA pm_int))) (pam_cons (toF (pm_lc [("t", 15)] rfl sc_law_spoilt.nd (blkOk_by (by rfl)) (src_r1 (by rfl) T.range (paa_cons (pa_var 9) paa_nil)) (fun _ _ _ _ _ => (pgm_name 15 sc_law_spoilt.nd)) (fun _ _ _ _ _ => ptsm_nil) (fun _ _ _ _ _ => (pm_mul (pa_var 2) (toA (pm_intC T.int (paa_cons (toA (pm_eq hr.units (pa_var 15) (pa_var 13))) paa_nil))))))) pam_nil)))))
    (psm_one (psm_if (ptm_eq hr.units (pa_var 3) (toA pm_int)) (psm_one (psm_sto (pm_sub (toA (pm_len T.len (paa_cons (pa_ix (pa_var 4) (pa_var 10)) paa_nil))) (toA pm_int)) (prm_var 7) (pa_var 10))) psm_nil))))) psm_nil)
  (psm_cons (psm_if (ptm_eq hr.units (pa_var 3) (toA pm_int)) (psm_cons (psm_set (i := 6) sc_law_spoilt.nd (pm_lc [("value", 16)] rfl sc_law_spoilt.nd (blkOk_by (by rfl)) (src_seq (pa_var 6)) (fun _ _ _ _ _ => (pgm_name 16 sc_law_spoilt.nd)) (fun _ _ _ _ _ => ptsm_nil) (fun _ _ _ _ _ => (pm_callB_ F_law_sum (hr.mono (by decide)) (by rfl) (paa_cons (pa_var 16) (paa_cons (pa_var 12) paa_nil))))))
    (psm_frz 4 (psm_one (psm_setLc (i := 4) [("actions", 5)] rfl sc_law_spoilt.nd (blkOk_by (by rfl)) (src_seq (pa_var 4)) (fun _ _ _ _ _ => (pgm_name 5 sc_law_spoilt.nd)) (fun _ _ _ _ _ => ptsm_nil) (fun _ _ _ _ _ => (pm_lc [("action", 17)] rfl sc_law_spoilt.nd (blkOk_by (by rfl)) (src_seq (pa_var 5)) (fun _ _ _ _ _ => (pgm_name 17 sc_law_spoilt.nd)) (fun _ _ _ _ _ => ptsm_nil) (fun _ _ _ _ _ => (pm_call F_law_dearer (hr.mono (by decide)) (by rfl) (paa_cons (pa_var 17) (paa_cons (pa_var 12) paa_nil)))))) (sw_true rfl rfl rfl (by decide +kernel)))))) psm_nil)
  (psm_cons (psm_if (ptm_eq hr.units (pa_var 3) (toA pm_int)) (psm_one (psm_set (i := 8) sc_law_spoilt.nd (pm_lc [("value", 16)] rfl sc_law_spoilt.nd (blkOk_by (by rfl)) (src_seq (pa_var 8)) (fun _ _ _ _ _ => (pgm_name 16 sc_law_spoilt.nd)) (fun _ _ _ _ _ => ptsm_nil) (fun _ _ _ _ _ => (pm_callB_ F_law_sum (hr.mono (by decide)) (by rfl) (paa_cons (pa_var 16) (paa_cons (pa_var 12) paa_nil))))))) psm_nil)
  (psm_cons (psm_if (ptm_gt (pa_var 3) (toA pm_int)) (psm_one (psm_set (i := 8) sc_law_spoilt.nd (pm_lc [("t", 15)] rfl sc_law_spoilt.nd (blkOk_by (by rfl)) (src_r1 (by rfl) T.range (paa_cons (pa_var 9) paa_nil)) (fun _ _ _ _ _ => (pgm_name 15 sc_law_spoilt.nd)) (fun _ _ _ _ _ => ptsm_nil) (fun _ _ _ _ _ => (pm_callB_ F_law_sum (hr.mono (by decide)) (by rfl) (paa_cons (pa_ix (pa_var 8) (pa_var 15)) (paa_cons (toA (pm_callB_ F_law_product (hr.mono (by decide)) (by rfl) (paa_cons (pa_var 12) (paa_cons (pa_ix (pa_var 6) (pa_var 15)) paa_nil)))) paa_nil))))))) psm_nil)
  (psm_frz 4 (psm_frz 6 (psm_frz 7 (psm_frz 8 (psm_one (psm_ret (pm_tup (pam_cons (toM (pa_var 4)) (pam_cons (toM (pa_var 6)) (pam_cons (toM (pa_var 7)) (pam_cons (toM (pa_var 8)) pam_nil))))))))))))))))))))))))))
abbrev s_law_asked : Stmt := topS 32
theorem sc_law_asked : FnScope ["paper", "total", "due", "told"] ["paper", "total", "due"] (defScope s_law_asked) := ⟨rfl, rfl, rfl, by decide +kernel, rfl, by decide +kernel, by decide +kernel⟩
def m_law_asked : SM :=
  (mSeq (mSet 3 (mCallB g_starts_fault (mCons (mCall g_law_made (mCons (mB dIx (mV 0) (mC (.int 0))) (mCons (mV 1) mNil))) (mCons (mL dTuple (mCons (mB dIx (mV 0) (mC (.int 1))) mNil)) (mCons (mL dTuple (mCons (mB dIx (mV 0) (mC (.int 2))) mNil)) (mCons (mL dTuple (mCons (mB dIx (mV 0) (mC (.int 3))) mNil)) mNil))))))
  (mRet (mCallB (g_law_same 8) (mCons (mV 3) (mCons (mV 2) mNil)))))
abbrev g_law_asked : List D → Option D := run 4 3 m_law_asked
theorem fn_law_asked {f : Addr} {fd : FuncData} (F : Fun K "_law_asked" "_law_asked" s_law_asked f fd) (hm : mg "_law_asked" = some (.ref f)) (T : Txt mg) (F_starts_fault : Fn P w K mg base c "starts_fault" 4 5 g_starts_fault) (F_law_same : Fn P w K mg base c "_law_same" 2 8 (g_law_same 8)) (F_law_made : Fn P w K mg base c "_law_made" 2 2 g_law_made) : Fn P w K mg base c "_law_asked" 3 9 g_law_asked :=
  fn_mk F hm (F.binds (ps := ["paper", "total", "due"]) fun _ _ _ _ _ _ us hl => match us, hl with | [_, _, _], _ => rfl) sc_law_asked fun cdv A outer s H E hr =>
  (psm_cons (psm_set (i := 3) sc_law_asked.nd (pm_callB_ F_starts_fault (hr.mono (by decide)) (by rfl) (paa_cons (toA (pm_call F_law_made (hr.mono (by decide)) (by rfl) (paa_cons (pa_ix (pa_var 0) (toA pm_int)) (paa_cons (pa_var 1) paa_nil)))) (paa_cons (toA (pm_tupleC T.tuple (paa_cons (pa_ix (pa_var 0) (toA pm_int)) paa_nil))) (paa_cons (toA (pm_tupleC T.tuple (paa_cons (pa_ix (pa_var 0) (toA pm_int)) paa_nil))) (paa_cons (toA (pm_tupleC T.tuple (paa_cons (pa_ix (pa_var 0) (toA pm_int)) paa_nil))) paa_nil))))))
  (psm_one (psm_ret (pm_callB_ F_law_same (hr.mono (by decide)) (by rfl) (paa_cons (pa_var 3) (paa_cons (pa_var 2) paa_nil))))))
abbrev s_law_ring : Stmt := topS 33
theorem sc_law_ring : FnScope ["row", "period", "prices", "s", "whole", "table", "bias", "after", "t", "a", "paper", "bent", "actions", "last", "moved", "due"] ["row"] (defScope s_law_ring) := ⟨rfl, rfl, rfl, by decide +kernel, rfl, by decide +kernel, by decide +kernel⟩
def m_law_ring : SM :=
  (mSeq (mSet 1 (mB dAdd (mC (.int 2)) (mB dMod (mL dInt (mCons (mB dIx (mV 0) (mC (.int 26))) mNil)) (mC (.int 30)))))
  (mSeq (mSet 2 (mLc (mRng1 (mCons (mC (.int 200)) mNil)) [3] (gN 3) mYes (mB dMod (mL dInt (mCons (mV 3) mNil)) (mV 1))))
  (mSeq (mSet 4 (mL dSum (mCons (mV 2) mNil)))
  (mSeq (mSet 5 (mLst mNil))
  (mSeq (mSet 6 (mLst (mCons (mTup (mCons (mC (.int 0)) (mCons (mC (.int 1)) mNil))) mNil)))
  (mSeq (mFor (mRng1 (mCons (mC (.int 200)) mNil)) (gN 3) (mSeq (mSet 7 (mB dMod (mL dInt (mCons (mB dAdd (mV 3) (mC (.int 1))) mNil)) (mC (.int 200))))
    (mSeq (mApp (rV 5) (mLst (mCons (mTup (mCons (mP (mB dIx (mV 2) (mV 3))) (mCons (mC (.int 1)) (mCons (mF (mLc (mRng1 (mCons (mC (.int 200)) mNil)) [8] (gN 8) mYes (mL dInt (mCons (mB dEq (mV 8) (mV 7)) mNil)))) mNil)))) mNil)))
    (mApp (rV 6) (mCallB g_law_sum (mCons (mB dIx (mV 6) (mV 3)) (mCons (mCallB g_law_lowest (mCons (mB dSub (mV 4) (mB dMul (mC (.int 200)) (mB dIx (mV 2) (mV 3)))) (mCons (mC (.int 200)) mNil))) mNil)))))))
  (mSeq (mFor (mRng2 (mCons (mC (.int 1)) (mCons (mC (.int 64)) mNil))) (gN 9) (mApp (rIx (rV 5) (mC (.int 0))) (mTup (mCons (mB dAdd (mB dIx (mV 2) (mC (.int 0))) (mB dMod (mL dInt (mCons (mB dMul (mV 9) (mB dAdd (mC (.int 1)) (mB dIx (mV 0) (mC (.int 27))))) mNil)) (mC (.int 61)))) (mCons (mC (.int 1)) (mCons (mP (mB dIx (mB dIx (mB dIx (mV 5) (mC (.int 0))) (mC (.int 0))) (mC (.int 2)))) mNil))))))
  (mFrz 5 (mSeq (mSet 10 (mTup (mCons (mP (mV 5)) (mCons (mF (mB dMul (mLst (mCons (mCallB g_law_lowest (mCons (mV 4) (mCons (mC (.int 200)) mNil))) mNil)) (mC (.int 200)))) (mCons (mF (mB dMul (mLst (mCons (mC (.int 0)) mNil)) (mC (.int 200)))) (mCons (mF (mSl (mV 6) mNo (mSo (mC (.int 200))))) mNil))))))
  (mSeq (mIte (mNotB (mT (mCallB g_law_asked (mCons (mV 10) (mCons (mC (.int 1)) (mCons (mC .non) mNil)))))) (mRet (mC (.bl false))) mNx)
  (mSeq (mSet 3 (mB dMod (mL dInt (mCons (mB dAdd (mB dMul (mB dIx (mV 0) (mC (.int 28))) (mC (.int 60))) (mB dIx (mV 0) (mC (.int 29)))) mNil)) (mC (.int 200))))
  (mFrz 5 (mSeq (mSet 11 (mLc (mSeqA (mV 5)) [12] (gN 12) mYes (mL dList (mCons (mV 12) mNil))))
  (mSeq (mSet 13 (mB dSub (mL dLen (mCons (mB dIx (mV 11) (mV 3)) mNil)) (mC (.int 1))))
  (mSeq (mSto (rIx (rV 11) (mV 3)) (mV 13) (mTup (mCons (mB dSub (mB dIx (mB dIx (mB dIx (mV 11) (mV 3)) (mV 13)) (mC (.int 0))) (mC (.int 64))) (mCons (mC (.int 1)) (mCons (mP (mB dIx (mB dIx (mB dIx (mV 11) (mV 3)) (mV 13)) (mC (.int 2)))) mNil)))))
  (mFrz 11 (mSeq (mIte (mNotB (mT (mCallB g_law_asked (mCons (mTup (mCons (mP (mV 11)) (mCons (mP (mB dIx (mV 10) (mC (.int 1)))) (mCons (mP (mB dIx (mV 10) (mC (.int 2)))) (mCons (mP (mB dIx (mV 10) (mC (.int 3)))) mNil))))) (mCons (mC (.int 1)) (mCons (mTup (mCons (mP (mV 3)) (mCons (mP (mV 13)) mNil))) mNil)))))) (mRet (mC (.bl false))) mNx)
  (mSeq (mSet 14 (mL dList (mCons (mB dIx (mV 10) (mC (.int 3))) mNil)))
  (mSeq (mSto (rV 14) (mV 3) (mCallB g_law_sum (mCons (mB dIx (mV 14) (mV 3)) (mCons (mTup (mCons (mC (.int 1)) (mCons (mB dAdd (mC (.int 1)) (mB dIx (mV 0) (mC (.int 30)))) mNil))) mNil))))
  (mSeq (mSet 15 (mCallB g_law_starts_fault (mCons (mV 5) (mCons (mC (.int 1)) (mCons (mB dIx (mV 10) (mC (.int 1))) (mCons (mB dIx (mV 10) (mC (.int 2))) (mCons (mV 14) mNil)))))))
  (mFrz 5 (mFrz 14 (mRet (mCallB g_law_asked (mCons (mTup (mCons (mP (mV 5)) (mCons (mP (mB dIx (mV 10) (mC (.int 1)))) (mCons (mP (mB dIx (mV 10) (mC (.int 2)))) (mCons (mP (mV 14)) mNil))))) (mCons (mC (.int 1)) (mCons (mV 15) mNil)))))))))))))))))))))))))))
abbrev g_law_ring : List D → Option D := run 16 1 m_law_ring
theorem fn_law_ring {f : Addr} {fd : FuncData} (F : Fun K "_law_ring" "_law_ring" s_law_ring f fd) (hm : mg "_law_ring" = some (.ref f)) (T : Txt mg) (F_law_lowest : Fn P w K mg base c "_law_lowest" 2 1 g_law_lowest) (F_law_sum : Fn P w K mg base c "_law_sum" 2 2 g_law_sum) (F_law_starts_fault : Fn P w K mg base c "_law_starts_fault" 5 2 g_law_starts_fault) (F_law_asked : Fn P w K mg base c "_law_asked" 3 9 g_law_asked) : Fn P w K mg base c "_law_ring" 1 10 g_law_ring :=
  fn_mk F hm (F.binds (ps := ["row"]) fun _ _ _ _ _ _ us hl => match us, hl with | [_], _ => rfl) sc_law_ring fun cdv A outer s H E hr =>
  (psm_cons (psm_set (i := 1) sc_law_ring.nd (pm_add (toA pm_int) (toA (pm_mod (toA (pm_intC T.int (paa_cons (pa_ix (pa_var 0) (toA pm_int)) paa_nil))) (toA pm_int)))))
  (psm_cons (psm_setLc (i := 2) [("s", 3)] rfl sc_law_ring.nd (blkOk_by (by rfl)) (src_r1 (by rfl) T.range (paa_cons (toA pm_int) paa_nil)) (fun _ _ _ _ _ => (pgm_name 3 sc_law_ring.nd)) (fun _ _ _ _ _ => ptsm_nil) (fun _ _ _ _ _ => (pm_mod (toA (pm_intC T.int (paa_cons (pa_var 3) paa_nil))) (pa_var 1))) (sw_true rfl rfl rfl (by decide +kernel)))
  (psm_cons (psm_set (i := 4) sc_law_ring.nd (pm_sum rfl T.sum (paa_cons (pa_var 2) paa_nil)))
  (psm_cons (psm_set (i := 5) sc_law_ring.nd (pm_lst pam_nil))
  (psm_cons (psm_set (i := 6) sc_law_ring.nd (pm_lst (pam_cons (pm_tup (pam_cons pm_int (pam_cons pm_int pam_nil))) pam_nil)))
  (psm_cons (psm_forR1 PassesOwn.never rfl (by rfl) T.range (pgm_name 3 sc_law_ring.nd) (paa_cons (toA pm_int) paa_nil) (psm_cons (psm_set (i := 7) sc_law_ring.nd (pm_mod (toA (pm_intC T.int (paa_cons (toA (pm_add (pa_var 3) (toA pm_int))) paa_nil))) (toA pm_int)))
    (psm_cons (psm_app (prm_var 5) (pm_lst (pam_cons (pm_tup (pam_cons (toM (pa_ix (pa_var 2) (pa_var 3))) (pam_cons pm_int (pam_cons (toF (pm_lc [("t", 8)] rfl sc_law_ring.nd (blkOk_by (by rfl)) (src_r1 (by rfl) T.range (paa_cons (toA pm_int) paa_nil)) (fun _ _ _ _ _ => (pgm_name 8 sc_law_ring.nd)) (fun _ _ _ _ _ => ptsm_nil) (fun _ _ _ _ _ => (pm_intC T.int (paa_cons (toA (pm_eq hr.units (pa_var 8) (pa_var 7))) paa_nil))))) pam_nil)))) pam_nil)))
    (psm_one (psm_app (prm_var 6) (pm_callB_ F_law_sum (hr.mono (by decide)) (by rfl) (paa_cons (pa_ix (pa_var 6) (pa_var 3)) (paa_cons (toA (pm_callB_ F_law_lowest (hr.mono (by decide)) (by rfl) (paa_cons (toA (pm_sub (pa_var 4) (toA (pm_mul (toA pm_int) (pa_ix (pa_var 2) (pa_var 3)))))) (paa_cons (toA pm_int) paa_nil)))) paa_nil))))))))
  (psm_cons (psm_forR2 PassesOwn.never rfl (by rfl) T.range (pgm_name 9 sc_law_ring.nd) (paa_cons (toA pm_int) (paa_cons (toA pm_int) paa_nil)) (psm_one (psm_app (prm_ix (prm_var 5) (toA pm_int)) (pm_tup (pam_cons (pm_add (pa_ix (pa_var 2) (toA pm_int)) (toA (pm_mod (toA (pm_intC T.int (paa_cons (toA (pm_mul (pa_var 9) (toA (pm_add (toA pm_int) (pa_ix (pa_var 0) (toA pm_int)))))) paa_nil))) (toA pm_int)))) (pam_cons pm_int (pam_cons (toM (pa_ix (pa_ix (pa_ix (pa_var 5) (toA pm_int)) (toA pm_int)) (toA pm_int))) pam_nil)))))))
  (psm_frz 5 (psm_cons (psm_set (i := 10) sc_law_ring.nd (pm_tup (pam_cons (toM (pa_var 5)) (pam_cons (toF (pm_mul (toA (pm_lst (pam_cons (pm_callB_ F_law_lowest (hr.mono (by decide)) (by rfl) (paa_cons (pa_var 4) (paa_cons (toA pm_int) paa_nil))) pam_nil))) (toA pm_int))) (pam_cons (toF (pm_mul (toA (pm_lst (pam_cons pm_int pam_nil))) (toA pm_int))) (pam_cons (toF (pm_sl (pa_var 6) pom_none (pom_some (toA pm_int)))) pam_nil))))))
  (psm_cons (psm_if (ptm_not (ptm_val (pm_callB_ F_law_asked (hr.mono (by decide)) (by rfl) (paa_cons (pa_var 10) (paa_cons (toA pm_int) (paa_cons (toA pm_non) paa_nil)))))) (psm_one (psm_ret pm_bl)) psm_nil)
  (psm_cons (psm_set (i := 3) sc_law_ring.nd (pm_mod (toA (pm_intC T.int (paa_cons (toA (pm_add (toA (pm_mul (pa_ix (pa_var 0) (toA pm_int)) (toA pm_int))) (pa_ix (pa_var 0) (toA pm_int)))) paa_nil))) (toA pm_int)))
  (psm_frz 5 (psm_cons (psm_setLc (i := 11) [("actions", 12)] rfl sc_law_ring.nd (blkOk_by (by rfl)) (src_seq (pa_var 5)) (fun _ _ _ _ _ => (pgm_name 12 sc_law_ring.nd)) (fun _ _ _ _ _ => ptsm_nil) (fun _ _ _ _ _ => (pm_listC T.list (paa_cons (pa_var 12) paa_nil))) (sw_true rfl rfl rfl (by decide +kernel)))
  (psm_cons (psm_set (i := 13) sc_law_ring.nd (pm_sub (toA (pm_len T.len (paa_cons (pa_ix (pa_var 11) (pa_var 3)) paa_nil))) (toA pm_int)))
  (psm_cons (psm_sto (pm_tup (pam_cons (pm_sub (pa_ix (pa_ix (pa_ix (pa_var 11) (pa_var 3)) (pa_var 13)) (toA pm_int)) (toA pm_int)) (pam_cons pm_int (pam_cons (toM (pa_ix (pa_ix (pa_ix (pa_var 11) (pa_var 3)) (pa_var 13)) (toA pm_int))) pam_nil)))) (prm_ix (prm_var 11) (pa_var 3)) (pa_var 13))
  (psm_frz 11 (psm_cons (psm_if (ptm_not (ptm_val (pm_callB_ F_law_asked (hr.mono (by decide)) (by rfl) (paa_cons (toA (pm_tup (pam_cons (toM (pa_var 11)) (pam_cons (toM (pa_ix (pa_var 10) (toA pm_int))) (pam_cons (toM (pa_ix (pa_var 10) (toA pm_int))) (pam_cons (toM (pa_ix (pa_var 10) (toA pm_int))) pam_nil)))))) (paa_cons (toA pm_int) (paa_cons (toA (pm_tup (pam_cons (toM (pa_var 3)) (pam_cons (toM (pa_var 13)) pam_nil)))) paa_nil)))))) (psm_one (psm_ret pm_bl)) psm_nil)
  (psm_cons (psm_set (i := 14) sc_law_ring.nd (pm_listC T.list (paa_cons (pa_ix (pa_var 10) (toA pm_int)) paa_nil)))
  (psm_cons (psm_sto (pm_callB_ F_law_sum (hr.mono (by decide)) (by rfl) (paa_cons (pa_ix (pa_var 14) (pa_var 3)) (paa_cons (toA (pm_tup (pam_cons pm_int (pam_cons (pm_add (toA pm_int) (pa_ix (pa_var 0) (toA pm_int))) pam_nil)))) paa_nil))) (prm_var 14) (pa_var 3))
  (psm_cons (psm_set (i := 15) sc_law_ring.nd (pm_callB_ F_law_starts_fault (hr.mono (by decide)) (by rfl) (paa_cons (pa_var 5) (paa_cons (toA pm_int) (paa_cons (pa_ix (pa_var 10) (toA pm_int)) (paa_cons (pa_ix (pa_var 10) (toA pm_int)) (paa_cons (pa_var 14) paa_nil)))))))
  (psm_frz 5 (psm_frz 14 (psm_one (psm_ret (pm_callB_ F_law_asked (hr.mono (by decide)) (by rfl) (paa_cons (toA (pm_tup (pam_cons (toM (pa_var 5)) (pam_cons (toM (pa_ix (pa_var 10) (toA pm_int))) (pam_cons (toM (pa_ix (pa_var 10) (toA pm_int))) (pam_cons (toM (pa_var 14)) pam_nil)))))) (paa_cons (toA pm_int) (paa_cons (pa_var 15) paa_nil))))))))))))))))))))))))))))
abbrev s_law : Stmt := topS 34
theorem sc_law : FnScope ["script", "row", "size", "total", "table", "block", "s", "policy", "lows", "heights", "fitted", "costs", "paper", "n", "way", "bent", "twice", "free", "wild"] ["script"] (defScope s_law) := ⟨rfl, rfl, rfl, by decide +kernel, rfl, by decide +kernel, by decide +kernel⟩
def m_law : SM :=
  (mSeq (mSet 1 (mCallB g_law_numbers (mCons (mV 0) (mCons (mC (.int 230)) mNil))))
  (mSeq (mIte (mAndB (mT (mB dEq (mB dMod (mB dIx (mV 1) (mC (.int 31))) (mC (.int 40))) (mC (.int 0)))) (mNotB (mT (mCallB g_law_ring (mCons (mV 1) mNil))))) (mRet (mC (.bl false))) mNx)
  (mSeq (mSet 2 (mB dAdd (mC (.int 2)) (mB dMod (mL dInt (mCons (mB dIx (mV 1) (mC (.int 0))) mNil)) (mC (.int 4)))))
  (mSeq (mSet 3 (mB dAdd (mC (.int 2)) (mB dMod (mL dInt (mCons (mB dIx (mV 1) (mC (.int 1))) mNil)) (mC (.int 5)))))
  (mFrz 1 (mSeq (mSet 4 (mCall g_law_plain (mCons (mV 1) (mCons (mC (.int 40)) (mCons (mV 2) (mCons (mC (.int 3)) (mCons (mV 3) (mCons (mC (.bl false)) mNil))))))))
  (mSeq (mSet 5 (mLc (mRng1 (mCons (mV 2) mNil)) [6] (gN 6) mYes (mB dMod (mL dInt (mCons (mB dIx (mV 1) (mB dAdd (mC (.int 10)) (mV 6))) mNil)) (mC (.int 3)))))
  (mSeq (mSto (rV 5) (mB dMod (mL dInt (mCons (mB dIx (mV 1) (mC (.int 2))) mNil)) (mV 2)) (mC (.int 0)))
  (mSeq (mSet 7 (mLc (mRng1 (mCons (mV 2) mNil)) [6] (gN 6) mYes (mB dMod (mL dInt (mCons (mB dIx (mV 1) (mB dAdd (mC (.int 20)) (mV 6))) mNil)) (mL dLen (mCons (mB dIx (mV 4) (mV 6)) mNil)))))
  (mSeq (mSet 8 (mLst (mCons (mCallB g_law_lowest (mCons (mB dSub (mB dMod (mL dInt (mCons (mB dIx (mV 1) (mC (.int 3))) mNil)) (mC (.int 25))) (mC (.int 8))) (mCons (mC (.int 6)) mNil))) (mCons (mCallB g_law_lowest (mCons (mB dSub (mB dMod (mL dInt (mCons (mB dIx (mV 1) (mC (.int 4))) mNil)) (mC (.int 25))) (mC (.int 8))) (mCons (mC (.int 6)) mNil))) mNil))))
  (mSeq (mIte (mT (mB dEq (mB dMod (mB dIx (mV 1) (mC (.int 5))) (mC (.int 4))) (mC (.int 0)))) (mSto (rV 8) (mC (.int 1)) (mP (mB dIx (mV 8) (mC (.int 0))))) mNx)
  (mSeq (mSet 9 (mLc (mRng1 (mCons (mV 2) mNil)) [6] (gN 6) mYes (mB dSub (mB dMod (mL dInt (mCons (mB dIx (mV 1) (mB dAdd (mC (.int 15)) (mV 6))) mNil)) (mC (.int 25))) (mC (.int 12)))))
  (mFrz 1 (mFrz 4 (mFrz 5 (mFrz 7 (mFrz 8 (mFrz 9 (mSeq (mAsg (gT 2 (gsC (gN 10) (gsC (gN 11) gsN))) (mF (mCall g_law_fitted (mCons (mV 1) (mCons (mV 4) (mCons (mV 5) (mCons (mV 7) (mCons (mV 8) (mCons (mV 9) (mCons (mV 3) mNil))))))))))
  (mFrz 7 (mSeq (mSet 12 (mTup (mCons (mP (mV 10)) (mCons (mP (mV 11)) (mCons (mP (mV 7)) (mCons (mF (mLc (mSeqA (mV 9)) [13] (gN 13) mYes (mCallB g_law_lowest (mCons (mV 13) (mCons (mC (.int 6)) mNil))))) mNil))))))
  (mSeq (mIte (mNotB (mT (mCallB g_law_asked (mCons (mV 12) (mCons (mV 3) (mCons (mC .non) mNil)))))) (mRet (mC (.bl false))) mNx)
  (mSeq (mFor (mSeqOf (mF (mLst (mCons (mB dMod (mL dInt (mCons (mB dIx (mV 1) (mC (.int 6))) mNil)) (mC (.int 13))) (mCons (mB dMod (mL dInt (mCons (mB dIx (mV 1) (mC (.int 32))) mNil)) (mC (.int 13))) mNil))))) (gN 14) (mFrz 1 (mSeq (mSet 15 (mCall g_law_spoilt (mCons (mV 1) (mCons (mV 12) (mCons (mV 3) (mCons (mV 14) mNil))))))
    (mSeq (mIte (mNotB (mT (mCallB g_law_asked (mCons (mV 15) (mCons (mV 3) (mCons (mCallB g_law_starts_fault (mCons (mB dIx (mV 15) (mC (.int 0))) (mCons (mV 3) (mCons (mB dIx (mV 15) (mC (.int 1))) (mCons (mB dIx (mV 15) (mC (.int 2))) (mCons (mB dIx (mV 15) (mC (.int 3))) mNil)))))) mNil)))))) (mRet (mC (.bl false))) mNx)
    (mSeq (mSet 16 (mCall g_law_spoilt (mCons (mF (mB dAdd (mSl (mV 1) (mSo (mC (.int 9))) mNo) (mV 1))) (mCons (mV 15) (mCons (mV 3) (mCons (mB dMod (mL dInt (mCons (mB dIx (mV 1) (mC (.int 33))) mNil)) (mC (.int 13))) mNil))))))
    (mIte (mNotB (mT (mCallB g_law_asked (mCons (mV 16) (mCons (mV 3) (mCons (mCallB g_law_starts_fault (mCons (mB dIx (mV 16) (mC (.int 0))) (mCons (mV 3) (mCons (mB dIx (mV 16) (mC (.int 1))) (mCons (mB dIx (mV 16) (mC (.int 2))) (mCons (mB dIx (mV 16) (mC (.int 3))) mNil)))))) mNil)))))) (mRet (mC (.bl false))) mNx))))))
  (mSeq (mSet 17 (mLc (mRng1 (mCons (mV 2) mNil)) [6] (gN 6) mYes (mCallB g_law_lowest (mCons (mB dSub (mB dMod (mL dInt (mCons (mB dIx (mV 1) (mB dAdd (mC (.int 210)) (mV 6))) mNil)) (mC (.int 9))) (mC (.int 4))) (mCons (mB dAdd (mC (.int 1)) (mB dMod (mL dInt (mCons (mB dIx (mV 1) (mC (.int 34))) mNil)) (mC (.int 3)))) mNil)))))
  (mFrz 17 (mFrz 7 (mSeq (mSet 18 (mTup (mCons (mP (mV 10)) (mCons (mP (mV 17)) (mCons (mP (mV 7)) (mCons (mF (mLc (mRng1 (mCons (mV 2) mNil)) [6] (gN 6) mYes (mCallB g_law_lowest (mCons (mB dSub (mB dMod (mL dInt (mCons (mB dIx (mV 1) (mB dAdd (mC (.int 215)) (mV 6))) mNil)) (mC (.int 25))) (mC (.int 12))) (mCons (mC (.int 2)) mNil))))) mNil))))))
  (mSeq (mIte (mNotB (mT (mCallB g_law_asked (mCons (mV 18) (mCons (mV 3) (mCons (mCallB g_law_starts_fault (mCons (mV 10) (mCons (mV 3) (mCons (mB dIx (mV 18) (mC (.int 1))) (mCons (mV 7) (mCons (mB dIx (mV 18) (mC (.int 3))) mNil)))))) mNil)))))) (mRet (mC (.bl false))) mNx)
  (mRet (mCallB g_law_asked (mCons (mV 12) (mCons (mV 3) (mCons (mC .non) mNil)))))))))))))))))))))))))))))))))
abbrev g_law : List D → Option D := run 19 1 m_law
theorem ok_law {f : Addr} {fd : FuncData} (F : Fun K "law" "law" s_law f fd) (T : Txt mg) (F_law_numbers : Fn P w K mg base c "_law_numbers" 2 1 g_law_numbers) (F_law_lowest : Fn P w K mg base c "_law_lowest" 2 1 g_law_lowest) (F_law_plain : Fn P w K mg base c "_law_plain" 6 2 g_law_plain) (F_law_starts_fault : Fn P w K mg base c "_law_starts_fault" 5 2 g_law_starts_fault) (F_law_fitted : Fn P w K mg base c "_law_fitted" 7 5 g_law_fitted) (F_law_spoilt : Fn P w K mg base c "_law_spoilt" 4 4 g_law_spoilt) (F_law_asked : Fn P w K mg base c "_law_asked" 3 9 g_law_asked) (F_law_ring : Fn P w K mg base c "_law_ring" 1 10 g_law_ring) : FnOk P w K mg base CX0 11 f fd ["script"] (spF K c 1 g_law) :=
  fn_ok F sc_law fun cdv A outer s H E hr =>
  (psm_cons (psm_set (i := 1) sc_law.nd (pm_callB_ F_law_numbers (hr.mono (by decide)) (by rfl) (paa_cons (pa_var 0) (paa_cons (toA pm_int) paa_nil))))
  (psm_cons (psm_if (ptm_pw (pwm_and (ptm_eq hr.units (toA (pm_mod (pa_ix (pa_var 1) (toA pm_int)) (toA pm_int))) (toA pm_int)) (pwm_and1 (ptm_not (ptm_val (pm_callB_ F_law_ring (hr.mono (by decide)) (by rfl) (paa_cons (pa_var 1) paa_nil))))))) (psm_one (psm_ret pm_bl)) psm_nil)
  (psm_cons (psm_set (i := 2) sc_law.nd (pm_add (toA pm_int) (toA (pm_mod (toA (pm_intC T.int (paa_cons (pa_ix (pa_var 1) (toA pm_int)) paa_nil))) (toA pm_int)))))
  (psm_cons (psm_set (i := 3) sc_law.nd (pm_add (toA pm_int) (toA (pm_mod (toA (pm_intC T.int (paa_cons (pa_ix (pa_var 1) (toA pm_int)) paa_nil))) (toA pm_int)))))
  (psm_frz 1 (psm_cons (psm_set (i := 4) sc_law.nd (pm_call F_law_plain (hr.mono (by decide)) (by rfl) (paa_cons (pa_var 1) (paa_cons (toA pm_int) (paa_cons (pa_var 2) (paa_cons (toA pm_int) (paa_cons (pa_var 3) (paa_cons (toA pm_bl) paa_nil))))))))
  (psm_cons (psm_setLc (i := 5) [("s", 6)] rfl sc_law.nd (blkOk_by (by rfl)) (src_r1 (by rfl) T.range (paa_cons (pa_var 2) paa_nil)) (fun _ _ _ _ _ => (pgm_name 6 sc_law.nd)) (fun _ _ _ _ _ => ptsm_nil) (fun _ _ _ _ _ => (pm_mod (toA (pm_intC T.int (paa_cons (pa_ix (pa_var 1) (toA (pm_add (toA pm_int) (pa_var 6)))) paa_nil))) (toA pm_int))) (sw_true rfl rfl rfl (by decide +kernel)))
  (psm_cons (psm_sto pm_int (prm_var 5) (toA (pm_mod (toA (pm_intC T.int (paa_cons (pa_ix (pa_var 1) (toA pm_int)) paa_nil))) (pa_var 2))))
  (psm_cons (psm_setLc (i := 7) [("s", 6)] rfl sc_law.nd (blkOk_by (by rfl)) (src_r1 (by rfl) T.range (paa_cons (pa_var 2) paa_nil)) (fun _ _ _ _ _ => (pgm_name 6 sc_law.nd)) (fun _ _ _ _ _ => ptsm_nil) (fun _ _ _ _ _ => (pm_mod (toA (pm_intC T.int (paa_cons (pa_ix (pa_var 1) (toA (pm_add (toA pm_int) (pa_var 6)))) paa_nil))) (toA (pm_len T.len (paa_cons (pa_ix (pa_var 4) (pa_var 6)) paa_nil))))) (sw_true rfl rfl rfl (by decide +kernel)))
  (psm_cons (psm_set (i := 8) sc_law.nd (pm_lst (pam_cons (pm_callB_ F_law_lowest (hr.mono (by decide)) (by rfl) (paa_cons (toA (pm_sub (toA (pm_mod (toA (pm_intC T.int (paa_cons (pa_ix (pa_var 1) (toA pm_int)) paa_nil))) (toA pm_int))) (toA pm_int))) (paa_cons (toA pm_int) paa_nil))) (pam_cons (pm_callB_ F_law_lowest (hr.mono (by decide)) (by rfl) (paa_cons (toA (pm_sub (toA (pm_mod (toA (pm_intC T.int (paa_cons (pa_ix (pa_var 1) (toA pm_int)) paa_nil))) (toA pm_int))) (toA pm_int))) (paa_cons (toA pm_int) paa_nil))) pam_nil))))
  (psm_cons (psm_if (ptm_eq hr.units (toA (pm_mod (pa_ix (pa_var 1) (toA pm_int)) (toA pm_int))) (toA pm_int)) (psm_one (psm_sto (toM (pa_ix (pa_var 8) (toA pm_int))) (prm_var 8) (toA pm_int))) psm_nil)
  (psm_cons (psm_setLc (i := 9) [("s", 6)] rfl sc_law.nd (blkOk_by (by rfl)) (src_r1 (by rfl) T.range (paa_cons (pa_var 2) paa_nil)) (fun _ _ _ _ _ => (pgm_name 6 sc_law.nd)) (fun _ _ _ _ _ => ptsm_nil) (fun _ _ _ _ _ => (pm_sub (toA (pm_mod (toA (pm_intC T.int (paa_cons (pa_ix (pa_var 1) (toA (pm_add (toA pm_int) (pa_var 6)))) paa_nil))) (toA pm_int))) (toA pm_int))) (sw_true rfl rfl rfl (by decide +kernel)))
  (psm_frz 1 (psm_frz 4 (psm_frz 5 (psm_frz 7 (psm_frz 8 (psm_frz 9 (psm_cons (psm_asg (toF (pm_call F_law_fitted (hr.mono (by decide)) (by rfl) (paa_cons (pa_var 1) (paa_cons (pa_var 4) (paa_cons (pa_var 5) (paa_cons (pa_var 7) (paa_cons (pa_var 8) (paa_cons (pa_var 9) (paa_cons (pa_var 3) paa_nil))))))))) (pgm_tup rfl (pgsm_cons (pgm_name 10 sc_law.nd) (pgsm_cons (pgm_name 11 sc_law.nd) pgsm_nil))))
  (psm_frz 7 (psm_cons (psm_set (i := 12) sc_law.nd (pm_tup (pam_cons (toM (pa_var 10)) (pam_cons (toM (pa_var 11)) (pam_cons (toM (pa_var 7)) (pam_cons (toF (pm_lc [("n", 13)] rfl sc_law.nd (blkOk_by (by rfl)) (src_seq (pa_var 9)) (fun _ _ _ _ _ => (pgm_name 13 sc_law.nd)) (fun _ _ _ _ _ => ptsm_nil) (fun _ _ _ _ _ => (pm_callB_ F_law_lowest (hr.mono (by decide)) (by rfl) (paa_cons (pa_var 13) (paa_cons (toA pm_int) paa_nil)))))) pam_nil))))))
  (psm_cons (psm_if (ptm_not (ptm_val (pm_callB_ F_law_asked (hr.mono (by decide)) (by rfl) (paa_cons (pa_var 12) (paa_cons (pa_var 3) (paa_cons (toA pm_non) paa_nil)))))) (psm_one (psm_ret pm_bl)) psm_nil)
  (psm_cons (psm_forS PassesOwn.never rfl (pgm_name 14 sc_law.nd) (toF (pm_lst (pam_cons (pm_mod (toA (pm_intC T.int (paa_cons (pa_ix (pa_var 1) (toA pm_int)) paa_nil))) (toA pm_int)) (pam_cons (pm_mod (toA (pm_intC T.int (paa_cons (pa_ix (pa_var 1) (toA pm_int)) paa_nil))) (toA pm_int)) pam_nil)))) (psm_frz 1 (psm_cons (psm_set (i := 15) sc_law.nd (pm_call F_law_spoilt (hr.mono (by decide)) (by rfl) (paa_cons (pa_var 1) (paa_cons (pa_var 12) (paa_cons (pa_var 3) (paa_cons (pa_var 14) paa_nil))))))
    (psm_cons (psm_if (ptm_not (ptm_val (pm_callB_ F_law_asked (hr.mono (by decide)) (by rfl) (paa_cons (pa_var 15) (paa_cons (pa_var 3) (paa_cons (toA (pm_callB_ F_law_starts_fault (hr.mono (by decide)) (by rfl) (paa_cons (pa_ix (pa_var 15) (toA pm_int)) (paa_cons (pa_var 3) (paa_cons (pa_ix (pa_var 15) (toA pm_int)) (paa_cons (pa_ix (pa_var 15) (toA pm_int)) (paa_cons (pa_ix (pa_var 15) (toA pm_int)) paa_nil))))))) paa_nil)))))) (psm_one (psm_ret pm_bl)) psm_nil)
    (psm_cons (psm_set (i := 16) sc_law.nd (pm_call F_law_spoilt (hr.mono (by decide)) (by rfl) (paa_cons (toA (toF (pm_add (toA (pm_sl (pa_var 1) (pom_some (toA pm_int)) pom_none)) (pa_var 1)))) (paa_cons (pa_var 15) (paa_cons (pa_var 3) (paa_cons (toA (pm_mod (toA (pm_intC T.int (paa_cons (pa_ix (pa_var 1) (toA pm_int)) paa_nil))) (toA pm_int))) paa_nil))))))
    (psm_one (psm_if (ptm_not (ptm_val (pm_callB_ F_law_asked (hr.mono (by decide)) (by rfl) (paa_cons (pa_var 16) (paa_cons (pa_var 3) (paa_cons (toA (pm_callB_ F_law_starts_fault (hr.mono (by decide)) (by rfl) (paa_cons (pa_ix (pa_var 16) (toA pm_int)) (paa_cons (pa_var 3) (paa_cons (pa_ix (pa_var 16) (toA pm_int)) (paa_cons (pa_ix (pa_var 16) (toA pm_int)) (paa_cons (pa_ix (pa_var 16) (toA pm_int)) paa_nil))))))) paa_nil)))))) (psm_one (psm_ret pm_bl)) psm_nil)))))))
  (psm_cons (psm_setLc (i := 17) [("s", 6)] rfl sc_law.nd (blkOk_by (by rfl)) (src_r1 (by rfl) T.range (paa_cons (pa_var 2) paa_nil)) (fun _ _ _ _ _ => (pgm_name 6 sc_law.nd)) (fun _ _ _ _ _ => ptsm_nil) (fun _ _ _ _ _ => (pm_callB_ F_law_lowest (hr.mono (by decide)) (by rfl) (paa_cons (toA (pm_sub (toA (pm_mod (toA (pm_intC T.int (paa_cons (pa_ix (pa_var 1) (toA (pm_add (toA pm_int) (pa_var 6)))) paa_nil))) (toA pm_int))) (toA pm_int))) (paa_cons (toA (pm_add (toA pm_int) (toA (pm_mod (toA (pm_intC T.int (paa_cons (pa_ix (pa_var 1) (toA pm_int)) paa_nil))) (toA pm_int))))) paa_nil)))) (sw_true rfl rfl rfl (by decide +kernel)))
  (psm_frz 17 (psm_frz 7 (psm_cons (psm_set (i := 18) sc_law.nd (pm_tup (pam_cons (toM (pa_var 10)) (pam_cons (toM (pa_var 17)) (pam_cons (toM (pa_var 7)) (pam_cons (toF (pm_lc [("s", 6)] rfl sc_law.nd (blkOk_by (by rfl)) (src_r1 (by rfl) T.range (paa_cons (pa_var 2) paa_nil)) (fun _ _ _ _ _ => (pgm_name 6 sc_law.nd)) (fun _ _ _ _ _ => ptsm_nil) (fun _ _ _ _ _ => (pm_callB_ F_law_lowest (hr.mono (by decide)) (by rfl) (paa_cons (toA (pm_sub (toA (pm_mod (toA (pm_intC T.int (paa_cons (pa_ix (pa_var 1) (toA (pm_add (toA pm_int) (pa_var 6)))) paa_nil))) (toA pm_int))) (toA pm_int))) (paa_cons (toA pm_int) paa_nil)))))) pam_nil))))))
  (psm_cons (psm_if (ptm_not (ptm_val (pm_callB_ F_law_asked (hr.mono (by decide)) (by rfl) (paa_cons (pa_var 18) (paa_cons (pa_var 3) (paa_cons (toA (pm_callB_ F_law_starts_fault (hr.mono (by decide)) (by rfl) (paa_cons (pa_var 10) (paa_cons (pa_var 3) (paa_cons (pa_ix (pa_var 18) (toA pm_int)) (paa_cons (pa_var 7) (paa_cons (pa_ix (pa_var 18) (toA pm_int)) paa_nil))))))) paa_nil)))))) (psm_one (psm_ret pm_bl)) psm_nil)
  (psm_one (psm_ret (pm_callB_ F_law_asked (hr.mono (by decide)) (by rfl) (paa_cons (pa_var 12) (paa_cons (pa_var 3) (paa_cons (toA pm_non) paa_nil))))))))))))))))))))))))))))))))))
end
end K64

set_option Elab.async false
set_option linter.all false
set_option maxRecDepth 100000
set_option maxHeartbeats 4000000
/-! K64A: what the certificate's own check computes. -/
namespace K64
open PySem L2 R
/-! ### the small ones -/
theorem plus_v {a b : Rat} (ha : Sz a) (hb : Sz b) : g_plus [fr a, fr b] = some (fr (a + b)) := R.plus_v ha hb
theorem minus_v {a b : Rat} (ha : Sz a) (hb : Sz b) : g_minus [fr a, fr b] = some (fr (a - b)) := R.minus_v ha hb
theorem sum_v {a b : Rat} (ha : Sz a) (hb : Sz b) : g_law_sum [fr a, fr b] = some (fr (a + b)) := R.sum_v ha hb
theorem product_v {a b : Rat} (ha : Sz a) (hb : Sz b) : g_law_product [fr a, fr b] = some (fr (a * b)) := R.product_v ha hb
theorem below_v {a b : Rat} (ha : Sz a) (hb : Sz b) : g_law_below [fr a, fr b] = some (.bl (decide (a < b))) := R.below_v ha hb
theorem lowest_v {n : Int} {d : Nat} (h : 0 < d) (hd : d < 2 ^ 1990) : g_law_lowest [.int n, .int (d : Int)] = some (fr (mkRat n d)) := R.lowest_v h hd
theorem ratio_v {n : Int} {d : Nat} (h : 0 < d) (hd : d < 2 ^ 8999) : g_ratio [.int n, .int (d : Int)] = some (fr (mkRat n d)) := R.ratio_v h hd
theorem common_v {a b : Nat} (hb : b < 2 ^ 1990) : g_law_common [.int (a : Int), .int (b : Int)] = some (.int ((Nat.gcd a b : Nat) : Int)) := R.common_v hb
/-! ### the mean of a row -/
def msum (v : List Rat) : List (Nat × Rat) → Rat
  | [] => 0
  | p :: l => p.2 * vAt v p.1 + msum v l
theorem msum_cons {v : List Rat} {p : Nat × Rat} {l : List (Nat × Rat)} : msum v (p :: l) = p.2 * vAt v p.1 + msum v l := rfl
def eP (p : Nat × Rat) : D := .tup [.int (p.1 : Int), fr p.2]
def mo1 : SM := (mSet 2 (mL dLcm (mCons (mV 2) (mCons (mB dMul (mB dIx (mV 4) (mC (.int 1))) (mB dIx (mB dIx (mV 1) (mV 3)) (mC (.int 1)))) mNil))))
def mo2 : SM := (mAug 5 (fun i j => i + j) (mB dMul (mB dMul (mB dIx (mV 4) (mC (.int 0))) (mB dIx (mB dIx (mV 1) (mV 3)) (mC (.int 0)))) (mB dDiv (mV 2) (mB dMul (mB dIx (mV 4) (mC (.int 1))) (mB dIx (mB dIx (mV 1) (mV 3)) (mC (.int 1)))))))
def moG : GM := (gT 2 (gsC (gN 3) (gsC (gN 4) gsN)))
/-- a row's entries and the values they point to are of a kind -/
def PsOk (v : List Rat) (ps : List (Nat × Rat)) : Prop := ∀ p ∈ ps, p.1 < v.length ∧ Lvl 1 1000 p.2 ∧ Lvl 8 50000 (vAt v p.1)
theorem lt_log {c : Nat} (h0 : 0 < c) (h : c ∣ PB ^ 10) : c < 2 ^ 841 := Nat.lt_of_le_of_lt (Nat.le_of_dvd (PBk_pos 10) h) (Nat.lt_of_le_of_lt (PBk_lt 10) (Nat.pow_lt_pow_right (by decide) (by decide)))
theorem mo1_v {r : D} {v : List Rat} : ∀ {ps : List (Nat × Rat)} {c : Nat} {z3 z4 : Option D}, jk z3 = true → jk z4 = true → 0 < c → c ∣ PB ^ 10 → PsOk v ps →
    ∃ c' z3' z4', forL moG mo1 (ps.map eP) [some r, some (.tup (v.map fr)), some (.int (c : Int)), z3, z4, none] = some (.nx [some r, some (.tup (v.map fr)), some (.int (c' : Nat)), z3', z4', none]) ∧ jk z3' = true ∧ jk z4' = true ∧ 0 < c' ∧ c' ∣ PB ^ 10 ∧ c ∣ c' ∧ ∀ p ∈ ps, p.2.den * (vAt v p.1).den ∣ c'
  | [], c, z3, z4, h3, h4, hc, hd, hp => ⟨c, z3, z4, rfl, h3, h4, hc, hd, Nat.dvd_refl c, fun p h => by simp at h⟩
  | p :: ps, c, z3, z4, h3, h4, hc, hd, hp => by
    obtain ⟨p1, p2, p3⟩ := hp p List.mem_cons_self
    have hx := vAt_some p1
    have hm : mulOk (p.2.den : Int) ((vAt v p.1).den : Int) := nd_of p2.sz p3.sz
    have hdv : p.2.den * (vAt v p.1).den ∣ PB ^ 10 := by
      have h1 := Nat.mul_dvd_mul p2.den p3.den
      rw [← Nat.pow_add] at h1
      exact Nat.dvd_trans h1 (Nat.pow_dvd_pow PB (by decide))
    have hpos : 0 < p.2.den * (vAt v p.1).den := Nat.mul_pos (Rat.den_pos _) (Rat.den_pos _)
    have hl : Nat.lcm c (p.2.den * (vAt v p.1).den) ∣ PB ^ 10 := Nat.lcm_dvd hd hdv
    have hl0 : 0 < Nat.lcm c (p.2.den * (vAt v p.1).den) := Nat.lcm_pos hc hpos
    have hlog1 : c.log2 < 13000 := lg_of (lt_2 (lt_log hc hd))
    have hlog2 : (p.2.den * (vAt v p.1).den).log2 < 13000 := lg_of (lt_2 (lt_log hpos hdv))
    obtain ⟨c', z3', z4', e, a3, a4, a5, a6, a7, a8⟩ := mo1_v (r := r) (ps := ps) (c := Nat.lcm c (p.2.den * (vAt v p.1).den)) (z3 := some (.int (p.1 : Int))) (z4 := some (fr p.2)) rfl frz_fr hl0 hl (fun q hq => hp q (List.mem_cons_of_mem _ hq))
    refine ⟨c', z3', z4', ?_, a3, a4, a5, a6, Nat.dvd_trans (Nat.dvd_lcm_left _ _) a7, fun q hq => ?_⟩
    · rw [List.map_cons, forL_step (ρ2 := [some r, some (.tup (v.map fr)), some (.int ((Nat.lcm c (p.2.den * (vAt v p.1).den) : Nat) : Int)), some (.int (p.1 : Int)), some (fr p.2), none])]
      · exact e
      · unfold turnK
        simp [moG, eP, h3, h4, mo1, hx, hm, dMul_ok, dLcm_int, hlog1, hlog2, Int.natAbs_mul]
    · rcases List.mem_cons.mp hq with rfl | hq
      · exact Nat.dvd_trans (Nat.dvd_lcm_right _ _) a7
      · exact a8 q hq

theorem scale_mk {d m : Nat} {x : Int} (h : d ≠ 0) : ((d * m : Nat) : Rat) * mkRat x d = (x : Rat) * (m : Rat) := by
  have hd : (d : Rat) ≠ 0 := fun h' => h (Rat.natCast_eq_zero_iff.mp h')
  rw [Rat.mkRat_eq_div, Rat.natCast_mul]
  grind
theorem mo2_v {r : D} {v : List Rat} {c : Nat} (hc : 0 < c) (hd : c ∣ PB ^ 10) : ∀ {ps : List (Nat × Rat)} {tot : Int} {z3 z4 : Option D}, jk z3 = true → jk z4 = true → PsOk v ps → (∀ p ∈ ps, p.2.den * (vAt v p.1).den ∣ c) →
    ∃ (tot' : Int) (z3' z4' : Option D), forL moG mo2 (ps.map eP) [some r, some (.tup (v.map fr)), some (.int (c : Int)), z3, z4, some (.int tot)] = some (.nx [some r, some (.tup (v.map fr)), some (.int (c : Int)), z3', z4', some (.int tot')]) ∧ jk z3' = true ∧ jk z4' = true ∧ (tot' : Rat) = tot + c * msum v ps
  | [], tot, z3, z4, h3, h4, hp, ha => ⟨tot, z3, z4, rfl, h3, h4, by simp [msum, Rat.mul_zero, Rat.add_zero]⟩
  | p :: ps, tot, z3, z4, h3, h4, hp, ha => by
    obtain ⟨p1, p2, p3⟩ := hp p List.mem_cons_self
    have hx := vAt_some p1
    have hm : mulOk (p.2.den : Int) ((vAt v p.1).den : Int) := nd_of p2.sz p3.sz
    have hm2 : mulOk p.2.num (vAt v p.1).num := nm_of p2.sz p3.sz
    have hpos : 0 < p.2.den * (vAt v p.1).den := Nat.mul_pos (Rat.den_pos _) (Rat.den_pos _)
    have hdiv : divOk ((p.2.den : Int) * ((vAt v p.1).den : Int)) := divOk_of (a := 841) (by rw [← Int.natCast_mul]; omega) (by rw [← Int.natCast_mul, Int.natAbs_natCast]; exact lt_log hpos (Nat.dvd_trans (ha p List.mem_cons_self) hd)) (by decide)
    obtain ⟨m, hm'⟩ := ha p List.mem_cons_self
    have hq : (c : Int) / ((p.2.den : Int) * ((vAt v p.1).den : Int)) = (m : Int) := by
      rw [hm', Int.natCast_mul, Int.natCast_mul]
      exact Int.mul_ediv_cancel_left _ (by rw [← Int.natCast_mul]; omega)
    have hmc : m ≤ c := by rw [hm']; exact Nat.le_mul_of_pos_left _ hpos
    have hm3 : mulOk (p.2.num * (vAt v p.1).num) (m : Int) := mulOk_of (a := 1000 + 50000) (b := 841) (abs_mul_lt p2.num p3.num) (by rw [Int.natAbs_natCast]; exact Nat.lt_of_le_of_lt hmc (lt_log hc hd)) (by decide)
    obtain ⟨tot', z3', z4', e, a3, a4, a5⟩ := mo2_v hc hd (r := r) (ps := ps) (tot := tot + p.2.num * (vAt v p.1).num * (m : Int)) (z3 := some (.int (p.1 : Int))) (z4 := some (fr p.2)) rfl frz_fr (fun q hq => hp q (List.mem_cons_of_mem _ hq)) (fun q hq => ha q (List.mem_cons_of_mem _ hq))
    refine ⟨tot', z3', z4', ?_, a3, a4, ?_⟩
    · rw [List.map_cons, forL_step (ρ2 := [some r, some (.tup (v.map fr)), some (.int (c : Int)), some (.int (p.1 : Int)), some (fr p.2), some (.int (tot + p.2.num * (vAt v p.1).num * (m : Int)))])]
      · exact e
      · unfold turnK
        simp [moG, eP, h3, h4, mo2, hx, hm, hm2, hdiv, hq, hm3, dMul_ok, dDiv_ok]
    · rw [a5]
      have e1 : p.2 * vAt v p.1 = mkRat (p.2.num * (vAt v p.1).num) (p.2.den * (vAt v p.1).den) := Rat.mul_def' _ _
      have e2 := scale_mk (d := p.2.den * (vAt v p.1).den) (m := m) (x := p.2.num * (vAt v p.1).num) (by omega)
      rw [← hm', ← e1, Rat.intCast_mul] at e2
      rw [msum_cons, Rat.intCast_add, Rat.intCast_mul, Rat.intCast_mul, Rat.mul_add, e2, Rat.add_assoc, Rat.intCast_natCast]
@[simp] theorem frz_eP {p : Nat × Rat} : frz (eP p) = true := by simp [eP]
@[simp] theorem frzL_ps {ps : List (Nat × Rat)} : frzL (ps.map eP) = true := frzL_map fun _ => frz_eP
@[simp] theorem fzL_ps {ps : List (Nat × Rat)} : fzL (ps.map eP) = ps.map eP := fzL_mapf fun _ => frz_eP
@[simp] theorem frzL_fr {v : List Rat} : frzL (v.map fr) = true := frzL_map fun _ => frz_fr
@[simp] theorem fzL_fr {v : List Rat} : fzL (v.map fr) = v.map fr := fzL_mapf fun _ => frz_fr
theorem mean_of_v {v : List Rat} {ps : List (Nat × Rat)} (hp : PsOk v ps) : g_mean_of [.tup (ps.map eP), .tup (v.map fr)] = some (fr (msum v ps)) := by
  obtain ⟨c, z3, z4, e1, h3, h4, hc, hd, _, ha⟩ := mo1_v (r := .tup (ps.map eP)) (v := v) (ps := ps) (c := 1) (z3 := none) (z4 := none) rfl rfl (by decide) (Nat.one_dvd _) hp
  obtain ⟨tot, z3', z4', e2, h3', h4', ht⟩ := mo2_v hc hd (r := .tup (ps.map eP)) (v := v) (ps := ps) (tot := 0) h3 h4 hp ha
  unfold g_mean_of
  rw [run_def]
  have em : m_mean_of = (mSeq (mSet 2 (mC (.int 1))) (mSeq (mFor (mSeqOf (mP (mV 0))) moG mo1) (mSeq (mSet 5 (mC (.int 0))) (mSeq (mFor (mSeqOf (mP (mV 0))) moG mo2) (mRet (mCallB g_ratio (mCons (mV 5) (mCons (mV 2) mNil)))))))) := rfl
  have er : g_ratio [.int tot, .int (c : Int)] = some (fr (msum v ps)) := by
    rw [ratio_v hc (lt_2 (lt_log hc hd)), Rat.mkRat_eq_div, ht]
    have hc' : (c : Rat) ≠ 0 := fun h' => by have := Rat.natCast_eq_zero_iff.mp h'; omega
    congr 2
    show ((0 : Int) + (c : Rat) * msum v ps) / (c : Rat) = _
    grind
  rw [em, seq_nx (ρ' := [some (.tup (ps.map eP)), some (.tup (v.map fr)), some (.int (1 : Nat)), none, none, none]) (by simp), seq_nx (by rw [mFor_def, show mSeqOf (mP (mV 0)) _ = some (ps.map eP) by simp]; exact e1),
    seq_nx (ρ' := [some (.tup (ps.map eP)), some (.tup (v.map fr)), some (.int (c : Nat)), z3, z4, some (.int 0)]) (by simp), seq_nx (by rw [mFor_def, show mSeqOf (mP (mV 0)) _ = some (ps.map eP) by simp]; exact e2)]
  simp [c_of er]
/-! ### the check -/
structure Mk where
  name : Str
  price : Rat
  row : List (Nat × Rat)
def eK (m : Mk) : D := .tup [.str m.name, fr m.price, .tup (m.row.map eP)]
@[simp] theorem frz_eK {m : Mk} : frz (eK m) = true := by simp [eK]
@[simp] theorem fz_eK {m : Mk} : fz (eK m) = eK m := fz_frz _ frz_eK
theorem drift_v {v : List Rat} {m : Mk} {s : Nat} (hp : PsOk v m.row) (hs : s < v.length) (hm : Sz (msum v m.row)) (hv : Sz (vAt v s)) : g_drift_of [eK m, .int (s : Int), .tup (v.map fr)] = some (fr (msum v m.row - vAt v s)) := by
  have hx := vAt_some hs
  have hf : frz (eK m) = true := frz_eK
  unfold eK at hf ⊢
  simp [g_drift_of, run_def, m_drift_of, hx, c_of (mean_of_v hp), c_of (minus_v hm hv)]
theorem surplus_v {v b : List Rat} {m : Mk} {s : Nat} (hp : PsOk b m.row) (hs : s < v.length) (ht : s < b.length) (hm : Sz (msum b m.row)) (hq : Sz m.price) (h1 : Sz (m.price + msum b m.row)) (h2 : Sz (vAt v s)) (h3 : Sz (vAt b s)) (h4 : Sz (vAt v s + vAt b s)) :
    g_surplus_of [eK m, .int (s : Int), .tup (v.map fr), .tup (b.map fr)] = some (fr ((m.price + msum b m.row) - (vAt v s + vAt b s))) := by
  have hx := vAt_some hs
  have hy := vAt_some ht
  unfold eK
  simp [g_surplus_of, run_def, m_surplus_of, hx, hy, c_of (mean_of_v hp), c_of (plus_v hq hm), c_of (plus_v h2 h3), c_of (minus_v h1 h4)]
/-! ### the loops of the check -/
def badB (dr su : Rat) (p : Int) (a : Nat) : Bool := decide (dr < 0) || (decide (su < 0) || (decide (p = (a : Int)) && (decide (0 < dr) || decide (0 < su))))
def at2 (s a : Nat) : D := .tup [.int (s : Int), .int (a : Int)]
def rowF (dr su : Nat → Rat) (p : Int) (s : Nat) (n : Nat) : Option D := find (fun a => if badB (dr a) (su a) p a = true then some (at2 s a) else none) 0 n
def tabF (dr su : Nat → Nat → Rat) (pol : List Int) (len : Nat → Nat) (n : Nat) : Option D := find (fun s => rowF (dr s) (su s) (lAt pol s) s (len s)) 0 n
theorem num_lt {q : Rat} : q.num < 0 ↔ q < 0 := by
  rw [← Int.not_le, ← Rat.not_le, Rat.num_nonneg]
theorem num_gt {q : Rat} : 0 < q.num ↔ 0 < q := by
  have h := num_lt (q := -q)
  rw [Rat.neg_num] at h
  constructor
  · intro h1
    have := h.mp (by omega)
    grind
  · intro h1
    have := h.mpr (by grind)
    omega
def rowAt (T : List (List Mk)) (s : Nat) : List Mk := T.getD s []
def mkAt (r : List Mk) (a : Nat) : Mk := r.getD a ⟨"", 0, []⟩
theorem rowAt_some {T : List (List Mk)} {s : Nat} (h : s < T.length) : T[s]? = some (rowAt T s) := by
  unfold rowAt
  rw [List.getD_eq_getElem?_getD, List.getElem?_eq_getElem h]; rfl
theorem mkAt_some {T : List Mk} {s : Nat} (h : s < T.length) : T[s]? = some (mkAt T s) := by
  unfold mkAt
  rw [List.getD_eq_getElem?_getD, List.getElem?_eq_getElem h]; rfl
def eR (r : List Mk) : D := .tup (r.map eK)
def eMT (T : List (List Mk)) : D := .tup (T.map eR)
@[simp] theorem frz_eR {r : List Mk} : frz (eR r) = true := by unfold eR; rw [frz_tup]; exact frzL_map fun _ => frz_eK
@[simp] theorem frz_eMT {T : List (List Mk)} : frz (eMT T) = true := by unfold eMT; rw [frz_tup]; exact frzL_map fun _ => frz_eR
def drM (T : List (List Mk)) (c : List Rat) (s a : Nat) : Rat := msum c (mkAt (rowAt T s) a).row - vAt c s
def suM (T : List (List Mk)) (c b : List Rat) (s a : Nat) : Rat := ((mkAt (rowAt T s) a).price + msum b (mkAt (rowAt T s) a).row) - (vAt c s + vAt b s)
/-- what the check may be asked -/
structure Asked (T : List (List Mk)) (c b : List Rat) (pol : List Int) : Prop where
  size : T.length < 1000
  lc : c.length = T.length
  lb : b.length = T.length
  lp : pol.length = T.length
  few : ∀ r ∈ T, r.length < 1000
  short : ∀ r ∈ T, ∀ m ∈ r, m.row.length < 1000
  rc : ∀ r ∈ T, ∀ m ∈ r, PsOk c m.row
  rb : ∀ r ∈ T, ∀ m ∈ r, PsOk b m.row
  price : ∀ r ∈ T, ∀ m ∈ r, Lvl 8 50000 m.price
  vc : ∀ x ∈ c, Lvl 8 50000 x
  vb : ∀ x ∈ b, Lvl 8 50000 x
theorem msum_lvl {v : List Rat} : ∀ {ps : List (Nat × Rat)}, PsOk v ps → Lvl 9 (51000 + ps.length) (msum v ps)
  | [], _ => ⟨0, by simp [msum], Nat.two_pow_pos _⟩
  | p :: ps, h => by
    obtain ⟨p1, p2, p3⟩ := h p List.mem_cons_self
    have h1 := (p2.mul p3).add (msum_lvl fun q hq => h q (List.mem_cons_of_mem _ hq))
    rw [msum_cons, List.length_cons]
    exact h1.le (by omega)
def sfB : SM := (mSeq (mSet 6 (mP (mB dIx (mCallB g_drift_of (mCons (mB dIx (mB dIx (mV 0) (mV 4)) (mV 5)) (mCons (mV 4) (mCons (mV 1) mNil)))) (mC (.int 0)))))
      (mSeq (mSet 7 (mP (mB dIx (mCallB g_surplus_of (mCons (mB dIx (mB dIx (mV 0) (mV 4)) (mV 5)) (mCons (mV 4) (mCons (mV 1) (mCons (mV 3) mNil))))) (mC (.int 0)))))
      (mSeq (mIte (mOrB (mT (mB dLt (mV 6) (mC (.int 0)))) (mT (mB dLt (mV 7) (mC (.int 0))))) (mRet (mTup (mCons (mP (mV 4)) (mCons (mP (mV 5)) mNil)))) mNx)
      (mIte (mAndB (mT (mB dEq (mB dIx (mV 2) (mV 4)) (mV 5))) (mOrB (mT (mB dGt (mV 6) (mC (.int 0)))) (mT (mB dGt (mV 7) (mC (.int 0)))))) (mRet (mTup (mCons (mP (mV 4)) (mCons (mP (mV 5)) mNil)))) mNx))))
def sfA : SM := (mFor (mRng1 (mCons (mL dLen (mCons (mB dIx (mV 0) (mV 4)) mNil)) mNil)) (gN 5) sfB)
def sfS (T : List (List Mk)) (c b : List Rat) (pol : List Int) (z4 z5 z6 z7 : Option D) : Rho := [some (eMT T), some (.tup (c.map fr)), some (.tup (pol.map D.int)), some (.tup (b.map fr)), z4, z5, z6, z7]
theorem mem_rowAt {T : List (List Mk)} {s : Nat} (h : s < T.length) : rowAt T s ∈ T := List.mem_of_getElem? (rowAt_some h)
theorem mem_mkAt {T : List Mk} {s : Nat} (h : s < T.length) : mkAt T s ∈ T := List.mem_of_getElem? (mkAt_some h)
theorem sfB_v {T : List (List Mk)} {c b : List Rat} {pol : List Int} (A : Asked T c b pol) {s a : Nat} (hs : s < T.length) (ha : a < (rowAt T s).length) {z6 z7 : Option D} (h6 : jk z6 = true) (h7 : jk z7 = true) :
    sfB (sfS T c b pol (some (.int (s : Int))) (some (.int (a : Int))) z6 z7) = if badB (drM T c s a) (suM T c b s a) (lAt pol s) a = true then some (.rt (at2 s a)) else some (.nx (sfS T c b pol (some (.int (s : Int))) (some (.int (a : Int))) (some (.int (drM T c s a).num)) (some (.int (suM T c b s a).num)))) := by
  have m1 := mem_rowAt hs
  have m2 := mem_mkAt ha
  have l1 := msum_lvl (A.rc _ m1 _ m2)
  have l2 := msum_lvl (A.rb _ m1 _ m2)
  have hl := A.short _ m1 _ m2
  have l3 := A.price _ m1 _ m2
  have hsc : s < c.length := by rw [A.lc]; exact hs
  have hsb : s < b.length := by rw [A.lb]; exact hs
  have hsp : s < pol.length := by rw [A.lp]; exact hs
  have l4 := A.vc _ (vAt_mem hsc)
  have l5 := A.vb _ (vAt_mem hsb)
  have l1' := l1.le (c := 52000) (by omega)
  have l2' := l2.le (c := 52000) (by omega)
  have d := drift_v (A.rc _ m1 _ m2) hsc l1'.sz l4.sz
  have u := surplus_v (v := c) (s := s) (A.rb _ m1 _ m2) hsc hsb l2'.sz l3.sz (((l3.to (l := 9) (c := 52000)).add l2').sz) l4.sz l5.sz (l4.add l5).sz
  have x1 := rowAt_some hs
  have x2 := mkAt_some ha
  have x3 := lAt_some hsp
  have d' := c_of d (by simp)
  have u' := c_of u (by simp)
  have e6 : mSet 6 (mP (mB dIx (mCallB g_drift_of (mCons (mB dIx (mB dIx (mV 0) (mV 4)) (mV 5)) (mCons (mV 4) (mCons (mV 1) mNil)))) (mC (.int 0)))) (sfS T c b pol (some (.int (s : Int))) (some (.int (a : Int))) z6 z7) = some (.nx (sfS T c b pol (some (.int (s : Int))) (some (.int (a : Int))) (some (.int (drM T c s a).num)) z7)) := by
    simp [sfS, eMT, eR, x1, x2, d', drM]
  have e7 : mSet 7 (mP (mB dIx (mCallB g_surplus_of (mCons (mB dIx (mB dIx (mV 0) (mV 4)) (mV 5)) (mCons (mV 4) (mCons (mV 1) (mCons (mV 3) mNil))))) (mC (.int 0)))) (sfS T c b pol (some (.int (s : Int))) (some (.int (a : Int))) (some (.int (drM T c s a).num)) z7) = some (.nx (sfS T c b pol (some (.int (s : Int))) (some (.int (a : Int))) (some (.int (drM T c s a).num)) (some (.int (suM T c b s a).num)))) := by
    simp [sfS, eMT, eR, x1, x2, u', suM]
  unfold sfB
  rw [seq_nx e6, seq_nx e7]
  unfold badB
  by_cases g1 : drM T c s a < 0
  · have := num_lt.mpr g1
    simp [sfS, this, g1, at2]
  · have n1 : ¬ (drM T c s a).num < 0 := fun h => g1 (num_lt.mp h)
    by_cases g2 : suM T c b s a < 0
    · have := num_lt.mpr g2
      simp [sfS, this, g1, g2, n1, at2]
    · have n2 : ¬ (suM T c b s a).num < 0 := fun h => g2 (num_lt.mp h)
      by_cases g3 : lAt pol s = (a : Int)
      · by_cases g4 : 0 < drM T c s a
        · have := num_gt.mpr g4
          simp [sfS, this, g1, g2, n1, n2, g3, g4, at2, x3]
        · have n4 : ¬ 0 < (drM T c s a).num := fun h => g4 (num_gt.mp h)
          by_cases g5 : 0 < suM T c b s a
          · have := num_gt.mpr g5
            simp [sfS, this, g1, g2, n1, n2, g3, g4, g5, n4, at2, x3]
          · have n5 : ¬ 0 < (suM T c b s a).num := fun h => g5 (num_gt.mp h)
            simp [sfS, g1, g2, n1, n2, g3, g4, g5, n4, n5, at2, x3]
      · simp [sfS, g1, g2, n1, n2, g3, at2, x3]
theorem sfA_v {T : List (List Mk)} {c b : List Rat} {pol : List Int} (A : Asked T c b pol) {s : Nat} (hs : s < T.length) {z5 z6 z7 : Option D} (h5 : jk z5 = true) (h6 : jk z6 = true) (h7 : jk z7 = true) :
    match rowF (drM T c s) (suM T c b s) (lAt pol s) s (rowAt T s).length with
    | some d => sfA (sfS T c b pol (some (.int (s : Int))) z5 z6 z7) = some (.rt d)
    | none => ∃ ρ', sfA (sfS T c b pol (some (.int (s : Int))) z5 z6 z7) = some (.nx ρ') ∧ ∃ y5 y6 y7, ρ' = sfS T c b pol (some (.int (s : Int))) y5 y6 y7 ∧ jk y5 = true ∧ jk y6 = true ∧ jk y7 = true := by
  have x1 := rowAt_some hs
  have hn := A.few _ (mem_rowAt hs)
  have hr : rng1 [.int ((rowAt T s).length : Int)] = some (rngD ((0 : Nat) : Int) (rowAt T s).length) := rng1_int (by omega)
  have e : sfA (sfS T c b pol (some (.int (s : Int))) z5 z6 z7) = forL (gN 5) sfB (rngD ((0 : Nat) : Int) (rowAt T s).length) (sfS T c b pol (some (.int (s : Int))) z5 z6 z7) := by
    have : mRng1 (mCons (mL dLen (mCons (mB dIx (mV 0) (mV 4)) mNil)) mNil) (sfS T c b pol (some (.int (s : Int))) z5 z6 z7) = some (rngD ((0 : Nat) : Int) (rowAt T s).length) := by
      simp [sfS, eMT, eR, x1]
      exact hr
    unfold sfA
    rw [mFor_def, this]
    rfl
  rw [e]
  exact forL_find (f := fun a => if badB (drM T c s a) (suM T c b s a) (lAt pol s) a = true then some (at2 s a) else none) (fun ρ => ∃ y5 y6 y7, ρ = sfS T c b pol (some (.int (s : Int))) y5 y6 y7 ∧ jk y5 = true ∧ jk y6 = true ∧ jk y7 = true)
    ⟨z5, z6, z7, rfl, h5, h6, h7⟩ (fun a _ ha ρ => by
      rintro ⟨y5, y6, y7, rfl, k5, k6, k7⟩
      have g : gN 5 (.int (a : Int)) (sfS T c b pol (some (.int (s : Int))) y5 y6 y7) = some (sfS T c b pol (some (.int (s : Int))) (some (.int (a : Int))) y6 y7) := by simp [sfS, k5]
      have t := sfB_v A hs (a := a) (by omega) k6 k7
      by_cases hb : badB (drM T c s a) (suM T c b s a) (lAt pol s) a = true
      · rw [if_pos hb] at t
        simp only [hb, if_true]
        unfold turnK
        rw [g]; exact t
      · rw [if_neg hb] at t
        simp only [hb]
        exact ⟨sfS T c b pol (some (.int (s : Int))) (some (.int (a : Int))) (some (.int (drM T c s a).num)) (some (.int (suM T c b s a).num)), .inl (by unfold turnK; rw [g]; exact t), _, _, _, rfl, rfl, rfl, rfl⟩)
theorem starts_fault_v {T : List (List Mk)} {c b : List Rat} {pol : List Int} (A : Asked T c b pol) : g_starts_fault [eMT T, .tup (c.map fr), .tup (pol.map D.int), .tup (b.map fr)] = some ((tabF (drM T c) (suM T c b) pol (fun s => (rowAt T s).length) T.length).getD .non) := by
  have hn := A.size
  have hr : rng1 [.int (T.length : Int)] = some (rngD ((0 : Nat) : Int) T.length) := rng1_int (by omega)
  have F := forL_find (h := gN 4) (body := sfA) (n := T.length) (k := 0) (f := fun s => rowF (drM T c s) (suM T c b s) (lAt pol s) s (rowAt T s).length) (ρ := sfS T c b pol none none none none) (fun ρ => ∃ y4 y5 y6 y7, ρ = sfS T c b pol y4 y5 y6 y7 ∧ jk y4 = true ∧ jk y5 = true ∧ jk y6 = true ∧ jk y7 = true)
    ⟨none, none, none, none, rfl, rfl, rfl, rfl, rfl⟩ (fun s _ hs ρ => by
      rintro ⟨y4, y5, y6, y7, rfl, k4, k5, k6, k7⟩
      have g : gN 4 (.int (s : Int)) (sfS T c b pol y4 y5 y6 y7) = some (sfS T c b pol (some (.int (s : Int))) y5 y6 y7) := by simp [sfS, k4]
      have t := sfA_v A (s := s) (by omega) k5 k6 k7
      have tk : ∀ body, turnK (gN 4) body (.int (s : Int)) (sfS T c b pol y4 y5 y6 y7) = body (sfS T c b pol (some (.int (s : Int))) y5 y6 y7) := fun body => by unfold turnK; rw [g]; rfl
      rw [tk]
      cases hb : rowF (drM T c s) (suM T c b s) (lAt pol s) s (rowAt T s).length with
      | some d => rw [hb] at t; exact t
      | none =>
        rw [hb] at t
        obtain ⟨ρ', e, y5, y6, y7, rfl, k5, k6, k7⟩ := t
        exact ⟨_, .inl e, some (.int (s : Int)), y5, y6, y7, rfl, rfl, k5, k6, k7⟩)
  unfold tabF
  unfold g_starts_fault
  rw [run_def]
  have em : m_starts_fault = (mSeq (mFor (mRng1 (mCons (mL dLen (mCons (mV 0) mNil)) mNil)) (gN 4) sfA) (mRet (mC .non))) := rfl
  have e0 : ([eMT T, .tup (c.map fr), .tup (pol.map D.int), .tup (b.map fr)] : List D).map some ++ List.replicate (8 - 4) none = sfS T c b pol none none none none := rfl
  have e : mFor (mRng1 (mCons (mL dLen (mCons (mV 0) mNil)) mNil)) (gN 4) sfA (sfS T c b pol none none none none) = forL (gN 4) sfA (rngD ((0 : Nat) : Int) T.length) (sfS T c b pol none none none none) := by
    have : mRng1 (mCons (mL dLen (mCons (mV 0) mNil)) mNil) (sfS T c b pol none none none none) = some (rngD ((0 : Nat) : Int) T.length) := by
      simp [sfS, eMT]
      exact hr
    rw [mFor_def, this]
    rfl
  rw [em, e0]
  cases hb : find (fun s => rowF (drM T c s) (suM T c b s) (lAt pol s) s (rowAt T s).length) 0 T.length with
  | some d =>
    rw [hb] at F
    rw [seq_rt (e.trans F)]
    rfl
  | none =>
    rw [hb] at F
    obtain ⟨ρ', F, _⟩ := F
    rw [seq_nx (e.trans F)]
    rfl
end K64

set_option Elab.async false
set_option linter.all false
set_option maxRecDepth 100000
set_option maxHeartbeats 4000000
/-! K64B: what the law's own search for a fault computes. -/
namespace K64
open PySem L2 R
structure Act where
  price : Rat
  line : List Int
def eI (l : List Int) : D := .lst false (l.map D.int)
def eA (a : Act) : D := .tup [.int a.price.num, .int (a.price.den : Int), eI a.line]
def eAs (r : List Act) : D := .lst false (r.map eA)
def eTb (T : List (List Act)) : D := .lst false (T.map eAs)
def eV (v : List Rat) : D := .lst false (v.map fr)
@[simp] theorem frz_eI {l : List Int} : frz (eI l) = true := by simp [eI]
@[simp] theorem frz_eA {a : Act} : frz (eA a) = true := by simp [eA]
@[simp] theorem frz_eAs {r : List Act} : frz (eAs r) = true := by unfold eAs; rw [frz_lst, Bool.not_false, Bool.true_and]; exact frzL_map fun _ => frz_eA
@[simp] theorem frz_eTb {T : List (List Act)} : frz (eTb T) = true := by unfold eTb; rw [frz_lst, Bool.not_false, Bool.true_and]; exact frzL_map fun _ => frz_eAs
@[simp] theorem frz_eV {v : List Rat} : frz (eV v) = true := by simp [eV]
@[simp] theorem fz_eI {l : List Int} : fz (eI l) = eI l := fz_frz _ frz_eI
@[simp] theorem fz_eA {a : Act} : fz (eA a) = eA a := fz_frz _ frz_eA
@[simp] theorem fz_eAs {a : List Act} : fz (eAs a) = eAs a := fz_frz _ frz_eAs
@[simp] theorem fz_eTb {a : List (List Act)} : fz (eTb a) = eTb a := fz_frz _ frz_eTb
@[simp] theorem fz_eV {a : List Rat} : fz (eV a) = eV a := fz_frz _ frz_eV
@[simp] theorem frzL_eA {r : List Act} : frzL (r.map eA) = true := frzL_map fun _ => frz_eA
@[simp] theorem frzL_eAs {r : List (List Act)} : frzL (r.map eAs) = true := frzL_map fun _ => frz_eAs
@[simp] theorem fzL_eA {r : List Act} : fzL (r.map eA) = r.map eA := fzL_frz _ frzL_eA
@[simp] theorem fzL_eAs {r : List (List Act)} : fzL (r.map eAs) = r.map eAs := fzL_frz _ frzL_eAs
def arow (T : List (List Act)) (s : Nat) : List Act := T.getD s []
def aact (r : List Act) (a : Nat) : Act := r.getD a ⟨0, []⟩
theorem arow_some {T : List (List Act)} {s : Nat} (h : s < T.length) : T[s]? = some (arow T s) := by
  unfold arow
  rw [List.getD_eq_getElem?_getD, List.getElem?_eq_getElem h]; rfl
theorem aact_some {T : List Act} {s : Nat} (h : s < T.length) : T[s]? = some (aact T s) := by
  unfold aact
  rw [List.getD_eq_getElem?_getD, List.getElem?_eq_getElem h]; rfl
theorem mem_arow {T : List (List Act)} {s : Nat} (h : s < T.length) : arow T s ∈ T := List.mem_of_getElem? (arow_some h)
theorem mem_aact {T : List Act} {s : Nat} (h : s < T.length) : aact T s ∈ T := List.mem_of_getElem? (aact_some h)
/-- a line of weights -/
def LineOk (n : Nat) (total : Nat) (l : List Int) : Prop := l.length = n ∧ ∀ x ∈ l, 0 ≤ x ∧ x ≤ (total : Int)
def ActOk (n total : Nat) (a : Act) : Prop := LineOk n total a.line ∧ Lvl 8 50000 a.price
/-- a paper that may be asked about -/
structure Pap (T : List (List Act)) (c b : List Rat) (pol : List Int) (total : Nat) : Prop where
  size : T.length < 1000
  lc : c.length = T.length
  lb : b.length = T.length
  lp : pol.length = T.length
  few : ∀ r ∈ T, r.length < 100
  acts : ∀ r ∈ T, ∀ a ∈ r, ActOk T.length total a
  vc : ∀ x ∈ c, Lvl 8 50000 x
  vb : ∀ x ∈ b, Lvl 8 50000 x
  t0 : 0 < total
  t1 : total < 61
/-! ### the common denominator -/
def fw : SM := (mSet 5 (mB dDiv (mB dMul (mV 5) (mB dIx (mV 6) (mC (.int 1)))) (mCallB g_law_common (mCons (mV 5) (mCons (mB dIx (mV 6) (mC (.int 1))) mNil)))))
theorem fw_v {r0 r1 r2 r3 r4 : Option D} {tl : Rho} : ∀ {v : List Rat} {w : Nat} {z6 : Option D}, jk z6 = true → 0 < w → w ∣ PB ^ 10 → (∀ x ∈ v, Lvl 8 50000 x) →
    ∃ (w' : Nat) (z6' : Option D), forL (gN 6) fw (v.map fr) (r0 :: r1 :: r2 :: r3 :: r4 :: some (.int (w : Int)) :: z6 :: tl) = some (.nx (r0 :: r1 :: r2 :: r3 :: r4 :: some (.int (w' : Int)) :: z6' :: tl)) ∧ jk z6' = true ∧ 0 < w' ∧ w' ∣ PB ^ 10 ∧ w ∣ w' ∧ ∀ x ∈ v, x.den ∣ w'
  | [], w, z6, h6, hw, hd, hv => ⟨w, z6, rfl, h6, hw, hd, Nat.dvd_refl _, fun x h => by simp at h⟩
  | x :: v, w, z6, h6, hw, hd, hv => by
    have hx := hv x List.mem_cons_self
    have hdx : x.den ∣ PB ^ 10 := Nat.dvd_trans hx.den (Nat.pow_dvd_pow PB (by decide))
    have hm : mulOk (w : Int) (x.den : Int) := mulOk_of (a := 841) (b := 841) (by rw [Int.natAbs_natCast]; exact lt_log hw hd) (by rw [Int.natAbs_natCast]; exact lt_log x.den_pos hdx) (by decide)
    have hg : 0 < Nat.gcd w x.den := Nat.gcd_pos_of_pos_left _ hw
    have hgd : divOk ((Nat.gcd w x.den : Nat) : Int) := divOk_of (a := 841) (by omega) (by rw [Int.natAbs_natCast]; exact Nat.lt_of_le_of_lt (Nat.gcd_le_left _ hw) (lt_log hw hd)) (by decide)
    have hc : callB g_law_common [.int (w : Int), .int (x.den : Int)] = some (.int ((Nat.gcd w x.den : Nat) : Int)) := callB_of (by simp [common_v (a := w) (b := x.den) (lt_2 (lt_log x.den_pos hdx))]) rfl
    have hq : (w : Int) * (x.den : Int) / ((Nat.gcd w x.den : Nat) : Int) = ((Nat.lcm w x.den : Nat) : Int) := by
      rw [← Int.natCast_mul, ← Int.natCast_ediv]; rfl
    obtain ⟨w', z6', e, a6, a1, a2, a3, a4⟩ := fw_v (r0 := r0) (r1 := r1) (r2 := r2) (r3 := r3) (r4 := r4) (tl := tl) (v := v) (w := Nat.lcm w x.den) (z6 := some (fr x)) frz_fr (Nat.lcm_pos hw x.den_pos) (Nat.lcm_dvd hd hdx) (fun y hy => hv y (List.mem_cons_of_mem _ hy))
    refine ⟨w', z6', ?_, a6, a1, a2, Nat.dvd_trans (Nat.dvd_lcm_left _ _) a3, fun y hy => ?_⟩
    · rw [List.map_cons, forL_step (ρ2 := r0 :: r1 :: r2 :: r3 :: r4 :: some (.int ((Nat.lcm w x.den : Nat) : Int)) :: some (fr x) :: tl)]
      · exact e
      · unfold turnK
        simp [h6, fw, hm, dMul_ok, hc, hgd, dDiv_ok, hq]
    · rcases List.mem_cons.mp hy with rfl | hy
      · exact Nat.dvd_trans (Nat.dvd_lcm_right _ _) a3
      · exact a4 y hy
/-! ### whole numbers for fractions -/
def lo (w : Nat) (q : Rat) : Int := q.num * ((w : Int) / (q.den : Int))
theorem lo_eq {w : Nat} {q : Rat} (h : q.den ∣ w) : ((lo w q : Int) : Rat) = (w : Rat) * q := by
  obtain ⟨m, rfl⟩ := h
  have e := scale_mk (d := q.den) (m := m) (x := q.num) q.den_nz
  rw [Rat.mkRat_self] at e
  rw [e]
  unfold lo
  rw [Int.natCast_mul, Int.mul_ediv_cancel_left _ (by have := q.den_pos; omega), Rat.intCast_mul, Rat.intCast_natCast]
theorem lo_lt {w : Nat} {q : Rat} (h : Lvl 8 50000 q) (h0 : 0 < w) (hd : w ∣ PB ^ 10) (hq : q.den ∣ w) : (lo w q).natAbs < 2 ^ 50841 := by
  unfold lo
  refine abs_mul_lt (a := 50000) (b := 841) h.num ?_
  rw [← Int.natCast_ediv, Int.natAbs_natCast]
  exact Nat.lt_of_le_of_lt (Nat.div_le_self _ _) (lt_log h0 hd)
def lows_m (i : Nat) : EM := (mLc (mSeqA (mV i)) [6] (gN 6) mYes (mB dMul (mB dIx (mV 6) (mC (.int 0))) (mB dDiv (mV 5) (mB dIx (mV 6) (mC (.int 1))))))
theorem lows_v {i : Nat} {r0 r1 r2 r3 r4 : Option D} {tl : Rho} {v : List Rat} {w : Nat} {z6 : Option D} (h6 : jk z6 = true) (hw : 0 < w) (hd : w ∣ PB ^ 10) (hv : ∀ x ∈ v, Lvl 8 50000 x) (hl : v.length < 1000)
    (hi : (r0 :: r1 :: r2 :: r3 :: r4 :: some (.int (w : Int)) :: z6 :: tl).getD i none = some (eV v)) :
    lows_m i (r0 :: r1 :: r2 :: r3 :: r4 :: some (.int (w : Int)) :: z6 :: tl) = some (.lst true ((v.map (lo w)).map D.int)) := by
  have hL : v.length ≤ sizeLine := few (by omega)
  have e1 : mSeqA (mV i) (r0 :: r1 :: r2 :: r3 :: r4 :: some (.int (w : Int)) :: z6 :: tl) = some (v.map fr) := by
    rw [mSeqA_def, mV_def, hi]
    simp [eV]
  have e2 : lcL (gN 6) mYes (mB dMul (mB dIx (mV 6) (mC (.int 0))) (mB dDiv (mV 5) (mB dIx (mV 6) (mC (.int 1))))) (r0 :: r1 :: r2 :: r3 :: r4 :: some (.int (w : Int)) :: none :: tl) (v.map fr) = some (v.map fun q => D.int (lo w q)) := by
    refine lcL_mapOn fun q hq => ⟨r0 :: r1 :: r2 :: r3 :: r4 :: some (.int (w : Int)) :: some (fr q) :: tl, by simp, rfl, ?_⟩
    have h := hv q hq
    have hdv : divOk (q.den : Int) := divOk_of (a := 990) (by have := q.den_pos; omega) (by rw [Int.natAbs_natCast]; exact h.sz.2) (by decide)
    have hm : mulOk q.num ((w : Int) / (q.den : Int)) := mulOk_of (a := 50000) (b := 841) h.num (by
      rw [← Int.natCast_ediv, Int.natAbs_natCast]
      exact Nat.lt_of_le_of_lt (Nat.div_le_self _ _) (lt_log hw hd)) (by decide)
    simp [hdv, dDiv_ok, hm, dMul_ok, lo]
  unfold lows_m
  rw [mLc_def, e1]
  simp [h6, hL, e2, List.map_map, Function.comp_def]
/-! ### one turn of the search -/
theorem sumI_lt {f : Nat → Int} {b : Nat} : ∀ {n : Nat}, (∀ i, i < n → (f i).natAbs < 2 ^ b) → (sumI n f).natAbs < 2 ^ (b + n)
  | 0, _ => Nat.two_pow_pos _
  | n + 1, h => by
    rw [sumI_s]
    have h1 := abs_add_lt (sumI_lt (n := n) fun i hi => h i (by omega)) (h n (by omega))
    exact Nat.lt_of_lt_of_le h1 (Nat.pow_le_pow_right (by decide) (by omega))
theorem lAt_map {α : Type} {v : List Rat} {f : Rat → Int} {t : Nat} (h : t < v.length) : lAt (v.map f) t = f (vAt v t) := by
  refine lAt_of ?_
  rw [List.getElem?_map, vAt_some h]; rfl
/-- sum([line[t] * low[t] for t in range(len(line))]) -/
def dotM (i : Nat) : EM := (mL dSum (mCons (mLc (mRng1 (mCons (mL dLen (mCons (mV 13) mNil)) mNil)) [15] (gN 15) mYes (mB dMul (mB dIx (mV 13) (mV 15)) (mB dIx (mV i) (mV 15)))) mNil))
def dotI (l low : List Int) : Int := sumI l.length fun t => lAt l t * lAt low t
theorem dotM_v {i : Nat} {ρ : Rho} {l low : List Int} {o : Bool} (hn : ρ.length = 18) (h15 : jk (ρ.getD 15 none) = true) (hi : i ≠ 15) (h13 : ρ.getD 13 none = some (eI l)) (hlow : ρ.getD i none = some (.lst o (low.map D.int))) (hll : low.length = l.length) (hl : l.length < 1000)
    (hm : ∀ t, t < l.length → mulOk (lAt l t) (lAt low t)) : dotM i ρ = some (.int (dotI l low)) := by
  have hL : (List.range l.length).length ≤ sizeLine := few (by rw [List.length_range]; omega)
  have hr : rng1 [.int (l.length : Int)] = some (rngD ((0 : Nat) : Int) l.length) := rng1_int (by omega)
  have e1 : mRng1 (mCons (mL dLen (mCons (mV 13) mNil)) mNil) ρ = some ((List.range l.length).map fun (t : Nat) => D.int (t : Int)) := by
    rw [← rngD0]
    have : ρ[13]?.getD none = some (eI l) := by rw [← h13, List.getD_eq_getElem?_getD]
    simp [this, eI]
    exact hr
  have e2 : lcL (gN 15) mYes (mB dMul (mB dIx (mV 13) (mV 15)) (mB dIx (mV i) (mV 15))) (ρ.set 15 none) ((List.range l.length).map fun (t : Nat) => D.int (t : Int)) = some ((List.range l.length).map fun t => D.int (lAt l t * lAt low t)) := by
    refine lcL_mapOn fun t ht => ⟨(ρ.set 15 none).set 15 (some (.int (t : Int))), ?_, rfl, ?_⟩
    · rw [gN_def, if_pos ⟨by rw [List.length_set, hn]; decide, by rw [slotFrz_def, List.getD_eq_getElem?_getD, List.getElem?_set]; simp [hn]⟩]
    · have ht' := List.mem_range.mp ht
      have x1 := lAt_some ht'
      have x2 := lAt_some (v := low) (t := t) (by omega)
      have g15 : ((ρ.set 15 none).set 15 (some (.int (t : Int)))).getD 15 none = some (.int (t : Int)) := by
        rw [List.getD_eq_getElem?_getD, List.getElem?_set]; simp [hn]
      have g13 : ((ρ.set 15 none).set 15 (some (.int (t : Int)))).getD 13 none = some (eI l) := by
        rw [← h13, List.getD_eq_getElem?_getD, List.getD_eq_getElem?_getD, List.getElem?_set_ne (by decide), List.getElem?_set_ne (by decide)]
      have gi : ((ρ.set 15 none).set 15 (some (.int (t : Int)))).getD i none = some (.lst o (low.map D.int)) := by
        rw [← hlow, List.getD_eq_getElem?_getD, List.getD_eq_getElem?_getD, List.getElem?_set_ne (by omega), List.getElem?_set_ne (by omega)]
      simp only [mB_def, mV_def, g15, g13, gi]
      simp [eI, x1, x2, hm t ht', dMul_ok]
  have h15' : slotFrz ρ 15 = true := by rw [slotFrz_def]; exact h15
  have es : ((List.range l.length).map fun t => D.int (lAt l t * lAt low t)) = (((List.range l.length).map fun t => lAt l t * lAt low t).map D.int) := by
    rw [List.map_map]; rfl
  unfold dotM
  have e3 : mLc (mRng1 (mCons (mL dLen (mCons (mV 13) mNil)) mNil)) [15] (gN 15) mYes (mB dMul (mB dIx (mV 13) (mV 15)) (mB dIx (mV i) (mV 15))) ρ = some (.lst true (((List.range l.length).map fun t => lAt l t * lAt low t).map D.int)) := by
    rw [mLc_def, e1, ← es]
    have hw : wipeO [15] ρ = some (ρ.set 15 none) := by
      rw [wipeO_cons, wipeO_nil, bindS, if_pos h15']
    rw [bindS, hw, bindS, if_pos (by rw [List.length_map]; exact hL), e2]
    rfl
  rw [mL_def, mCons_def, e3, mNil_def, consO_some, bindS, dSum_ints, sumI_list]
  rfl
theorem dotI_eq {l : List Int} {v : List Rat} {w : Nat} (hl : v.length = l.length) (hv : ∀ x ∈ v, x.den ∣ w) : ((dotI l (v.map (lo w)) : Int) : Rat) = (w : Rat) * dot l v := by
  unfold dotI dot
  rw [sumR_cast, ← sumR_mul]
  refine sumR_congr fun t ht => ?_
  rw [Rat.intCast_mul, lAt_map (α := Nat) (by omega), lo_eq (hv _ (vAt_mem (by omega)))]
  grind
def badI (dr su : Int) (p : Int) (a : Nat) : Bool := decide (dr < 0) || (decide (su < 0) || (decide (p = (a : Int)) && (decide (0 < dr) || decide (0 < su))))
theorem cast_lt {n : Int} : (n : Rat) < 0 ↔ n < 0 := Rat.intCast_lt_intCast (b := 0)
theorem cast_gt {n : Int} : 0 < (n : Rat) ↔ 0 < n := Rat.intCast_lt_intCast (a := 0)
theorem sgn_lt {k x : Rat} (hk : 0 < k) : k * x < 0 ↔ x < 0 := by
  constructor
  · intro h
    by_cases h0 : 0 ≤ x
    · have := Rat.mul_nonneg (Rat.le_of_lt hk) h0
      grind
    · exact Rat.not_le.mp h0
  · intro h
    have := Rat.mul_pos hk (show 0 < -x by grind)
    grind
theorem sgn_gt {k x : Rat} (hk : 0 < k) : 0 < k * x ↔ 0 < x := by
  have h := sgn_lt (x := -x) hk
  rw [Rat.mul_neg] at h
  constructor
  · intro h1
    have := h.mp (by grind)
    grind
  · intro h1
    have := h.mpr (by grind)
    grind
theorem badI_eq {dr su : Int} {x y k j : Rat} {p : Int} {a : Nat} (hk : 0 < k) (hj : 0 < j) (h1 : (dr : Rat) = k * x) (h2 : (su : Rat) = j * y) : badI dr su p a = badB x y p a := by
  unfold badI badB
  have e1 : (dr < 0) = (x < 0) := propext (by rw [← cast_lt, h1, sgn_lt hk])
  have e2 : (su < 0) = (y < 0) := propext (by rw [← cast_lt, h2, sgn_lt hj])
  have e3 : (0 < dr) = (0 < x) := propext (by rw [← cast_gt, h1, sgn_gt hk])
  have e4 : (0 < su) = (0 < y) := propext (by rw [← cast_gt, h2, sgn_gt hj])
  simp only [e1, e2, e3, e4]
def ffS (T : List (List Act)) (c b : List Rat) (pol : List Int) (total w : Nat) (z6 z9 z10 z11 z12 z13 z14 z16 z17 : Option D) : Rho :=
  [some (eTb T), some (.int (total : Int)), some (eV c), some (eI pol), some (eV b), some (.int (w : Int)), z6, some (.lst true ((c.map (lo w)).map D.int)), some (.lst true ((b.map (lo w)).map D.int)), z9, z10, z11, z12, z13, z14, none, z16, z17]
def ffB : SM := (mSeq (mAsg (gT 3 (gsC (gN 11) (gsC (gN 12) (gsC (gN 13) gsN)))) (mP (mB dIx (mB dIx (mV 0) (mV 9)) (mV 10))))
      (mSeq (mSet 14 (mB dSub (dotM 7) (mB dMul (mV 1) (mB dIx (mV 7) (mV 9)))))
      (mSeq (mSet 16 (dotM 8))
      (mSeq (mSet 17 (mB dSub (mB dAdd (mB dMul (mB dMul (mV 11) (mV 5)) (mV 1)) (mB dMul (mV 12) (mV 16))) (mB dMul (mB dMul (mV 12) (mV 1)) (mB dAdd (mB dIx (mV 7) (mV 9)) (mB dIx (mV 8) (mV 9))))))
      (mIte (mOrB (mT (mB dLt (mV 14) (mC (.int 0)))) (mOrB (mT (mB dLt (mV 17) (mC (.int 0)))) (mAndB (mT (mB dEq (mB dIx (mV 3) (mV 9)) (mV 10))) (mOrB (mT (mB dGt (mV 14) (mC (.int 0)))) (mT (mB dGt (mV 17) (mC (.int 0)))))))) (mRet (mTup (mCons (mP (mV 9)) (mCons (mP (mV 10)) mNil)))) mNx)))))
def drI (w total : Nat) (c : List Rat) (s : Nat) (a : Act) : Int := dotI a.line (c.map (lo w)) - (total : Int) * lo w (vAt c s)
def suI (w total : Nat) (c b : List Rat) (s : Nat) (a : Act) : Int := a.price.num * (w : Int) * (total : Int) + (a.price.den : Int) * dotI a.line (b.map (lo w)) - (a.price.den : Int) * (total : Int) * (lo w (vAt c s) + lo w (vAt b s))
theorem LineOk.small {n total : Nat} {l : List Int} (h : LineOk n total l) (ht : total < 61) {t : Nat} (hl : t < l.length) : (lAt l t).natAbs < 2 ^ 6 := by
  have := h.2 _ (lAt_mem hl)
  have : (2 : Nat) ^ 6 = 64 := rfl
  omega
theorem ffB_v {T : List (List Act)} {c b : List Rat} {pol : List Int} {total w : Nat} (A : Pap T c b pol total) (hw : 0 < w) (hd : w ∣ PB ^ 10) (hcw : ∀ x ∈ c, x.den ∣ w) (hbw : ∀ x ∈ b, x.den ∣ w) {s a : Nat} (hs : s < T.length) (ha : a < (arow T s).length)
    {z6 z11 z12 z13 z14 z16 z17 : Option D} (h11 : jk z11 = true) (h12 : jk z12 = true) (h13 : jk z13 = true) :
    ffB (ffS T c b pol total w z6 (some (.int (s : Int))) (some (.int (a : Int))) z11 z12 z13 z14 z16 z17) =
      if badI (drI w total c s (aact (arow T s) a)) (suI w total c b s (aact (arow T s) a)) (lAt pol s) a = true then some (.rt (at2 s a)) else
      some (.nx (ffS T c b pol total w z6 (some (.int (s : Int))) (some (.int (a : Int))) (some (.int (aact (arow T s) a).price.num)) (some (.int ((aact (arow T s) a).price.den : Int))) (some (eI (aact (arow T s) a).line)) (some (.int (drI w total c s (aact (arow T s) a)))) (some (.int (dotI (aact (arow T s) a).line (b.map (lo w))))) (some (.int (suI w total c b s (aact (arow T s) a)))))) := by
  have m1 := mem_arow hs
  have m2 := mem_aact ha
  obtain ⟨hL, hP⟩ := A.acts _ m1 _ m2
  have x1 := arow_some hs
  have x2 := aact_some ha
  have hsz := A.size
  have hlc := A.lc
  have hlb := A.lb
  have ht1 := A.t1
  have xp := lAt_some (v := pol) (t := s) (by rw [A.lp]; exact hs)
  have hLl := hL.1
  generalize hg : aact (arow T s) a = act at *
  have hcs : s < c.length := by omega
  have hbs : s < b.length := by omega
  have xc := vAt_some hcs
  have xb := vAt_some hbs
  have lc1 := lo_lt (w := w) (A.vc _ (vAt_mem hcs)) hw hd (hcw _ (vAt_mem hcs))
  have lb1 := lo_lt (w := w) (A.vb _ (vAt_mem hbs)) hw hd (hbw _ (vAt_mem hbs))
  have tot6 : (total : Int).natAbs < 2 ^ 6 := by have : (2 : Nat) ^ 6 = 64 := rfl; omega
  have e1 : (mAsg (gT 3 (gsC (gN 11) (gsC (gN 12) (gsC (gN 13) gsN)))) (mP (mB dIx (mB dIx (mV 0) (mV 9)) (mV 10)))) (ffS T c b pol total w z6 (some (.int (s : Int))) (some (.int (a : Int))) z11 z12 z13 z14 z16 z17) = some (.nx (ffS T c b pol total w z6 (some (.int (s : Int))) (some (.int (a : Int))) (some (.int act.price.num)) (some (.int (act.price.den : Int))) (some (eI act.line)) z14 z16 z17)) := by
    simp [ffS, eTb, x1, eAs, x2, eA, h11, h12, h13]
  have md : ∀ (v : List Rat), v.length = T.length → (∀ x ∈ v, Lvl 8 50000 x) → (∀ x ∈ v, x.den ∣ w) → ∀ t, t < act.line.length → mulOk (lAt act.line t) (lAt (v.map (lo w)) t) := by
    intro v hv1 hv2 hv3 t ht
    have htv : t < v.length := by omega
    rw [lAt_map (α := Nat) htv]
    exact mulOk_of (hL.small ht1 ht) (lo_lt (hv2 _ (vAt_mem htv)) hw hd (hv3 _ (vAt_mem htv))) (by decide)
  have m3 : mulOk (total : Int) (lo w (vAt c s)) := mulOk_of tot6 lc1 (by decide)
  have dlt : ∀ (v : List Rat), v.length = T.length → (∀ x ∈ v, Lvl 8 50000 x) → (∀ x ∈ v, x.den ∣ w) → (dotI act.line (v.map (lo w))).natAbs < 2 ^ 52000 := by
    intro v hv1 hv2 hv3
    have := sumI_lt (b := 6 + 50841) (n := act.line.length) (f := fun t => lAt act.line t * lAt (v.map (lo w)) t) (fun t ht => by
      have htv : t < v.length := by omega
      rw [lAt_map (α := Nat) htv]
      exact abs_mul_lt (hL.small ht1 ht) (lo_lt (hv2 _ (vAt_mem htv)) hw hd (hv3 _ (vAt_mem htv))))
    exact Nat.lt_of_lt_of_le this (Nat.pow_le_pow_right (by decide) (by omega))
  have d1 := dotM_v (i := 7) (ρ := ffS T c b pol total w z6 (some (.int (s : Int))) (some (.int (a : Int))) (some (.int act.price.num)) (some (.int (act.price.den : Int))) (some (eI act.line)) z14 z16 z17) (l := act.line) (low := c.map (lo w)) (o := true) rfl rfl (by decide) rfl rfl (by rw [List.length_map]; omega) (by omega) (md c hlc A.vc hcw)
  have e2 : (mSet 14 (mB dSub (dotM 7) (mB dMul (mV 1) (mB dIx (mV 7) (mV 9))))) (ffS T c b pol total w z6 (some (.int (s : Int))) (some (.int (a : Int))) (some (.int act.price.num)) (some (.int (act.price.den : Int))) (some (eI act.line)) z14 z16 z17) = some (.nx (ffS T c b pol total w z6 (some (.int (s : Int))) (some (.int (a : Int))) (some (.int act.price.num)) (some (.int (act.price.den : Int))) (some (eI act.line)) (some (.int (drI w total c s act))) z16 z17)) := by
    rw [mSet_def, mB_def, d1]
    simp [ffS, xc, m3, dMul_ok, drI]
  have d2 := dotM_v (i := 8) (ρ := ffS T c b pol total w z6 (some (.int (s : Int))) (some (.int (a : Int))) (some (.int act.price.num)) (some (.int (act.price.den : Int))) (some (eI act.line)) (some (.int (drI w total c s act))) z16 z17) (l := act.line) (low := b.map (lo w)) (o := true) rfl rfl (by decide) rfl rfl (by rw [List.length_map]; omega) (by omega) (md b hlb A.vb hbw)
  have e3 : (mSet 16 (dotM 8)) (ffS T c b pol total w z6 (some (.int (s : Int))) (some (.int (a : Int))) (some (.int act.price.num)) (some (.int (act.price.den : Int))) (some (eI act.line)) (some (.int (drI w total c s act))) z16 z17) = some (.nx (ffS T c b pol total w z6 (some (.int (s : Int))) (some (.int (a : Int))) (some (.int act.price.num)) (some (.int (act.price.den : Int))) (some (eI act.line)) (some (.int (drI w total c s act))) (some (.int (dotI act.line (b.map (lo w))))) z17)) := by
    rw [mSet_def, d2]
    simp [ffS]
  have wlt : (w : Int).natAbs < 2 ^ 841 := by rw [Int.natAbs_natCast]; exact lt_log hw hd
  have m4 : mulOk act.price.num (w : Int) := mulOk_of hP.num wlt (by decide)
  have m5 : mulOk (act.price.num * (w : Int)) (total : Int) := mulOk_of (abs_mul_lt hP.num wlt) tot6 (by decide)
  have dlt' : (act.price.den : Int).natAbs < 2 ^ 990 := by rw [Int.natAbs_natCast]; exact hP.sz.2
  have m6 : mulOk (act.price.den : Int) (dotI act.line (b.map (lo w))) := mulOk_of dlt' (dlt b hlb A.vb hbw) (by decide)
  have m7 : mulOk (act.price.den : Int) (total : Int) := mulOk_of dlt' tot6 (by decide)
  have m8 : mulOk ((act.price.den : Int) * (total : Int)) (lo w (vAt c s) + lo w (vAt b s)) := mulOk_of (abs_mul_lt dlt' tot6) (abs_add_lt lc1 lb1) (by decide)
  have e4 : (mSet 17 (mB dSub (mB dAdd (mB dMul (mB dMul (mV 11) (mV 5)) (mV 1)) (mB dMul (mV 12) (mV 16))) (mB dMul (mB dMul (mV 12) (mV 1)) (mB dAdd (mB dIx (mV 7) (mV 9)) (mB dIx (mV 8) (mV 9)))))) (ffS T c b pol total w z6 (some (.int (s : Int))) (some (.int (a : Int))) (some (.int act.price.num)) (some (.int (act.price.den : Int))) (some (eI act.line)) (some (.int (drI w total c s act))) (some (.int (dotI act.line (b.map (lo w))))) z17) = some (.nx (ffS T c b pol total w z6 (some (.int (s : Int))) (some (.int (a : Int))) (some (.int act.price.num)) (some (.int (act.price.den : Int))) (some (eI act.line)) (some (.int (drI w total c s act))) (some (.int (dotI act.line (b.map (lo w))))) (some (.int (suI w total c b s act))))) := by
    simp [ffS, xc, xb, m4, m5, m6, m7, m8, dMul_ok, suI]
  unfold ffB
  rw [seq_nx e1, seq_nx e2, seq_nx e3, seq_nx e4]
  generalize drI w total c s act = dr
  generalize suI w total c b s act = su
  unfold badI
  by_cases g1 : dr < 0
  · simp [ffS, g1, at2]
  · by_cases g2 : su < 0
    · simp [ffS, g1, g2, at2]
    · by_cases g3 : lAt pol s = (a : Int)
      · by_cases g4 : 0 < dr
        · simp [ffS, eI, g1, g2, g3, g4, at2, xp]
        · by_cases g5 : 0 < su
          · simp [ffS, eI, g1, g2, g3, g4, g5, at2, xp]
          · simp [ffS, eI, g1, g2, g3, g4, g5, at2, xp]
      · simp [ffS, eI, g1, g2, g3, at2, xp]
/-! ### the search -/
def ffA : SM := (mFor (mRng1 (mCons (mL dLen (mCons (mB dIx (mV 0) (mV 9)) mNil)) mNil)) (gN 10) ffB)
/-- what is between the turns -/
def FfI (T : List (List Act)) (c b : List Rat) (pol : List Int) (total w : Nat) (z9 : Option D) (ρ : Rho) : Prop := ∃ z6 z10 z11 z12 z13 z14 z16 z17, ρ = ffS T c b pol total w z6 z9 z10 z11 z12 z13 z14 z16 z17 ∧ jk z10 = true ∧ jk z11 = true ∧ jk z12 = true ∧ jk z13 = true
def badA (w total : Nat) (T : List (List Act)) (c b : List Rat) (pol : List Int) (s a : Nat) : Bool := badI (drI w total c s (aact (arow T s) a)) (suI w total c b s (aact (arow T s) a)) (lAt pol s) a
theorem ffA_v {T : List (List Act)} {c b : List Rat} {pol : List Int} {total w : Nat} (A : Pap T c b pol total) (hw : 0 < w) (hd : w ∣ PB ^ 10) (hcw : ∀ x ∈ c, x.den ∣ w) (hbw : ∀ x ∈ b, x.den ∣ w) {s : Nat} (hs : s < T.length) {ρ : Rho} (hI : FfI T c b pol total w (some (.int (s : Int))) ρ) :
    match find (fun a => if badA w total T c b pol s a = true then some (at2 s a) else none) 0 (arow T s).length with
    | some d => ffA ρ = some (.rt d)
    | none => ∃ ρ', ffA ρ = some (.nx ρ') ∧ FfI T c b pol total w (some (.int (s : Int))) ρ' := by
  have x1 := arow_some hs
  have hn := A.few _ (mem_arow hs)
  have hr : rng1 [.int ((arow T s).length : Int)] = some (rngD ((0 : Nat) : Int) (arow T s).length) := rng1_int (by omega)
  have e : ffA ρ = forL (gN 10) ffB (rngD ((0 : Nat) : Int) (arow T s).length) ρ := by
    obtain ⟨z6, z10, z11, z12, z13, z14, z16, z17, rfl, h10, h11, h12, h13⟩ := hI
    have : mRng1 (mCons (mL dLen (mCons (mB dIx (mV 0) (mV 9)) mNil)) mNil) (ffS T c b pol total w z6 (some (.int (s : Int))) z10 z11 z12 z13 z14 z16 z17) = some (rngD ((0 : Nat) : Int) (arow T s).length) := by
      simp [ffS, eTb, eAs, x1]
      exact hr
    unfold ffA
    rw [mFor_def, this]
    rfl
  rw [e]
  exact forL_find (f := fun a => if badA w total T c b pol s a = true then some (at2 s a) else none) (FfI T c b pol total w (some (.int (s : Int)))) hI (fun a _ ha ρ => by
      rintro ⟨z6, z10, z11, z12, z13, z14, z16, z17, rfl, h10, h11, h12, h13⟩
      have g : gN 10 (.int (a : Int)) (ffS T c b pol total w z6 (some (.int (s : Int))) z10 z11 z12 z13 z14 z16 z17) = some (ffS T c b pol total w z6 (some (.int (s : Int))) (some (.int (a : Int))) z11 z12 z13 z14 z16 z17) := by simp [ffS, h10]
      have t := ffB_v A hw hd hcw hbw hs (a := a) (by omega) (z6 := z6) (z14 := z14) (z16 := z16) (z17 := z17) h11 h12 h13
      have tk : turnK (gN 10) ffB (.int (a : Int)) (ffS T c b pol total w z6 (some (.int (s : Int))) z10 z11 z12 z13 z14 z16 z17) = ffB (ffS T c b pol total w z6 (some (.int (s : Int))) (some (.int (a : Int))) z11 z12 z13 z14 z16 z17) := by unfold turnK; rw [g]; rfl
      rw [tk]
      by_cases hb : badA w total T c b pol s a = true
      · rw [if_pos (show badI _ _ _ _ = true from hb)] at t
        rw [if_pos hb]
        exact t
      · rw [if_neg (show ¬ badI _ _ _ _ = true from hb)] at t
        rw [if_neg hb]
        exact ⟨_, .inl t, _, _, _, _, _, _, _, _, rfl, rfl, rfl, rfl, frz_eI⟩)
theorem law_starts_fault_w {T : List (List Act)} {c b : List Rat} {pol : List Int} {total : Nat} (A : Pap T c b pol total) : ∃ w : Nat, 0 < w ∧ w ∣ PB ^ 10 ∧ (∀ x ∈ c, x.den ∣ w) ∧ (∀ x ∈ b, x.den ∣ w) ∧
    g_law_starts_fault [eTb T, .int (total : Int), eV c, eI pol, eV b] = some ((find (fun s => find (fun a => if badA w total T c b pol s a = true then some (at2 s a) else none) 0 (arow T s).length) 0 T.length).getD .non) := by
  have hsz := A.size
  have hlc := A.lc
  have hlb := A.lb
  obtain ⟨w, z6, e1, h6, hw, hd, _, hv⟩ := fw_v (r0 := some (eTb T)) (r1 := some (.int (total : Int))) (r2 := some (eV c)) (r3 := some (eI pol)) (r4 := some (eV b)) (tl := List.replicate 11 none) (v := c ++ b) (w := 1) (z6 := none) rfl (by decide) (Nat.one_dvd _) (fun x hx => by
    rcases List.mem_append.mp hx with h | h
    · exact A.vc x h
    · exact A.vb x h)
  have hcw : ∀ x ∈ c, x.den ∣ w := fun x hx => hv x (List.mem_append_left _ hx)
  have hbw : ∀ x ∈ b, x.den ∣ w := fun x hx => hv x (List.mem_append_right _ hx)
  refine ⟨w, hw, hd, hcw, hbw, ?_⟩
  have hr : rng1 [.int (T.length : Int)] = some (rngD ((0 : Nat) : Int) T.length) := rng1_int (by omega)
  have F := forL_find (h := gN 9) (body := ffA) (n := T.length) (k := 0) (f := fun s => find (fun a => if badA w total T c b pol s a = true then some (at2 s a) else none) 0 (arow T s).length) (ρ := ffS T c b pol total w z6 none none none none none none none none) (fun ρ => ∃ z9, jk z9 = true ∧ FfI T c b pol total w z9 ρ)
    ⟨none, rfl, z6, none, none, none, none, none, none, none, rfl, rfl, rfl, rfl, rfl⟩ (fun s _ hs ρ => by
      rintro ⟨z9, h9, z6, z10, z11, z12, z13, z14, z16, z17, rfl, h10, h11, h12, h13⟩
      have g : gN 9 (.int (s : Int)) (ffS T c b pol total w z6 z9 z10 z11 z12 z13 z14 z16 z17) = some (ffS T c b pol total w z6 (some (.int (s : Int))) z10 z11 z12 z13 z14 z16 z17) := by simp [ffS, h9]
      have t := ffA_v A hw hd hcw hbw (s := s) (by omega) ⟨z6, z10, z11, z12, z13, z14, z16, z17, rfl, h10, h11, h12, h13⟩
      have tk : turnK (gN 9) ffA (.int (s : Int)) (ffS T c b pol total w z6 z9 z10 z11 z12 z13 z14 z16 z17) = ffA (ffS T c b pol total w z6 (some (.int (s : Int))) z10 z11 z12 z13 z14 z16 z17) := by unfold turnK; rw [g]; rfl
      rw [tk]
      cases hb : find (fun a => if badA w total T c b pol s a = true then some (at2 s a) else none) 0 (arow T s).length with
      | some d => rw [hb] at t; exact t
      | none =>
        rw [hb] at t
        obtain ⟨ρ', e, hI⟩ := t
        exact ⟨_, .inl e, _, rfl, hI⟩)
  unfold g_law_starts_fault
  rw [run_def]
  have em : m_law_starts_fault = (mSeq (mSet 5 (mC (.int 1)))
    (mSeq (mFor (mSeqOf (mF (mB dAdd (mL dList (mCons (mV 2) mNil)) (mL dList (mCons (mV 4) mNil))))) (gN 6) fw)
    (mSeq (mSet 7 (lows_m 2)) (mSeq (mSet 8 (lows_m 4)) (mSeq (mFor (mRng1 (mCons (mL dLen (mCons (mV 0) mNil)) mNil)) (gN 9) ffA) (mRet (mC .non))))))) := rfl
  have s1 : mSet 5 (mC (.int 1)) (([eTb T, .int (total : Int), eV c, eI pol, eV b] : List D).map some ++ List.replicate (18 - 5) none) = some (.nx (some (eTb T) :: some (.int (total : Int)) :: some (eV c) :: some (eI pol) :: some (eV b) :: some (.int ((1 : Nat) : Int)) :: none :: List.replicate 11 none)) := by simp
  have s2 : mFor (mSeqOf (mF (mB dAdd (mL dList (mCons (mV 2) mNil)) (mL dList (mCons (mV 4) mNil))))) (gN 6) fw (some (eTb T) :: some (.int (total : Int)) :: some (eV c) :: some (eI pol) :: some (eV b) :: some (.int ((1 : Nat) : Int)) :: none :: List.replicate 11 none) = some (.nx (some (eTb T) :: some (.int (total : Int)) :: some (eV c) :: some (eI pol) :: some (eV b) :: some (.int (w : Int)) :: z6 :: List.replicate 11 none)) := by
    have hL : c.length + b.length ≤ sizeLine := few (by omega)
    have : mSeqOf (mF (mB dAdd (mL dList (mCons (mV 2) mNil)) (mL dList (mCons (mV 4) mNil)))) (some (eTb T) :: some (.int (total : Int)) :: some (eV c) :: some (eI pol) :: some (eV b) :: some (.int ((1 : Nat) : Int)) :: none :: List.replicate 11 none) = some ((c ++ b).map fr) := by
      have hf : fzL (c.map fr ++ b.map fr) = c.map fr ++ b.map fr := fzL_frz _ (by simp)
      simp [eV, hL, hf]
    rw [mFor_def, this]
    exact e1
  have s3 : mSet 7 (lows_m 2) (some (eTb T) :: some (.int (total : Int)) :: some (eV c) :: some (eI pol) :: some (eV b) :: some (.int (w : Int)) :: z6 :: List.replicate 11 none) = some (.nx (some (eTb T) :: some (.int (total : Int)) :: some (eV c) :: some (eI pol) :: some (eV b) :: some (.int (w : Int)) :: z6 :: some (.lst true ((c.map (lo w)).map D.int)) :: List.replicate 10 none)) := by
    rw [mSet_def, lows_v (v := c) h6 hw hd A.vc (by omega) rfl]
    simp
  have s4 : mSet 8 (lows_m 4) (some (eTb T) :: some (.int (total : Int)) :: some (eV c) :: some (eI pol) :: some (eV b) :: some (.int (w : Int)) :: z6 :: some (.lst true ((c.map (lo w)).map D.int)) :: List.replicate 10 none) = some (.nx (ffS T c b pol total w z6 none none none none none none none none)) := by
    rw [mSet_def, lows_v (v := b) h6 hw hd A.vb (by omega) rfl]
    simp [ffS]
  have s5 : mFor (mRng1 (mCons (mL dLen (mCons (mV 0) mNil)) mNil)) (gN 9) ffA (ffS T c b pol total w z6 none none none none none none none none) = forL (gN 9) ffA (rngD ((0 : Nat) : Int) T.length) (ffS T c b pol total w z6 none none none none none none none none) := by
    have : mRng1 (mCons (mL dLen (mCons (mV 0) mNil)) mNil) (ffS T c b pol total w z6 none none none none none none none none) = some (rngD ((0 : Nat) : Int) T.length) := by
      simp [ffS, eTb]
      exact hr
    rw [mFor_def, this]
    rfl
  rw [em, seq_nx s1, seq_nx s2, seq_nx s3, seq_nx s4]
  cases hb : find (fun s => find (fun a => if badA w total T c b pol s a = true then some (at2 s a) else none) 0 (arow T s).length) 0 T.length with
  | some d =>
    rw [hb] at F
    rw [seq_rt (s5.trans F)]
    rfl
  | none =>
    rw [hb] at F
    obtain ⟨ρ', F, _⟩ := F
    rw [seq_nx (s5.trans F)]
    rfl
end K64

set_option Elab.async false
set_option linter.all false
set_option maxRecDepth 100000
set_option maxHeartbeats 4000000
/-! K64C: the paper as the check wants it; that the check and the law's own search agree. -/
namespace K64
open PySem L2 R
theorem str_short : ∀ a : Nat, a < 100 → (Str.ofString (toString (a : Int))).length ≤ 100 := by decide +kernel
def prs (total : Nat) (l : List Int) : List (Nat × Rat) := ((List.range l.length).filter fun t => decide (0 < lAt l t)).map fun t => (t, mkRat (lAt l t) total)
def mkOf (total : Nat) (i : Nat) (a : Act) : Mk := ⟨Str.ofString "a" ++ Str.ofString (toString (i : Int)), a.price, prs total a.line⟩
def mkRow (total : Nat) (r : List Act) : List Mk := (List.range r.length).map fun i => mkOf total i (aact r i)
def mkTab (total : Nat) (T : List (List Act)) : List (List Mk) := T.map (mkRow total)
def maI : SM := (mSeq (mSet 6 (mP (mB dIx (mB dIx (mV 3) (mV 5)) (mC (.int 2)))))
      (mSeq (mSet 7 (mLc (mRng1 (mCons (mL dLen (mCons (mV 6) mNil)) mNil)) [8] (gN 8) (mT (mB dGt (mB dIx (mV 6) (mV 8)) (mC (.int 0)))) (mTup (mCons (mP (mV 8)) (mCons (mCallB g_law_lowest (mCons (mB dIx (mV 6) (mV 8)) (mCons (mV 1) mNil))) mNil)))))
      (mApp (rV 4) (mTup (mCons (mB dAdd (mC (.str "a")) (mL dStr (mCons (mV 5) mNil))) (mCons (mCallB g_law_lowest (mCons (mB dIx (mB dIx (mV 3) (mV 5)) (mC (.int 0))) (mCons (mB dIx (mB dIx (mV 3) (mV 5)) (mC (.int 1))) mNil))) (mCons (mL dTuple (mCons (mV 7) mNil)) mNil)))))))
def maO : SM := (mSeq (mSet 4 (mLst mNil)) (mSeq (mFor (mRng1 (mCons (mL dLen (mCons (mV 3) mNil)) mNil)) (gN 5) maI) (mApp (rV 2) (mL dTuple (mCons (mV 4) mNil)))))
theorem range_app {α : Type} {f : Nat → α} {n : Nat} : (List.range n).map f ++ [f n] = (List.range (n + 1)).map f := by rw [List.range_succ, List.map_append]; rfl
theorem maI_v {x0 : D} {total : Nat} (h0 : 0 < total) (h61 : total < 61) {made : List D} {r : List Act} {a : Nat} (ha : a < r.length) (hr : r.length < 100) (hln : (aact r a).line.length < 1000) (hp : Sz (aact r a).price) (hden : (aact r a).price.den < 2 ^ 990) {z6 z7 : Option D} (h6 : jk z6 = true) {told : List D} (htold : told.length < 1000) :
    maI [some x0, some (.int (total : Int)), some (.lst true made), some (eAs r), some (.lst true told), some (.int (a : Int)), z6, z7, none] =
      some (.nx [some x0, some (.int (total : Int)), some (.lst true made), some (eAs r), some (.lst true (told ++ [eK (mkOf total a (aact r a))])), some (.int (a : Int)), some (eI (aact r a).line), some (.lst true ((prs total (aact r a).line).map eP)), none]) := by
  have x1 := aact_some ha
  generalize aact r a = act at *
  have e1 : mSet 6 (mP (mB dIx (mB dIx (mV 3) (mV 5)) (mC (.int 2)))) [some x0, some (.int (total : Int)), some (.lst true made), some (eAs r), some (.lst true told), some (.int (a : Int)), z6, z7, none] = some (.nx [some x0, some (.int (total : Int)), some (.lst true made), some (eAs r), some (.lst true told), some (.int (a : Int)), some (eI act.line), z7, none]) := by
    simp [eAs, x1, eA]
  have hrg : rng1 [.int (act.line.length : Int)] = some (rngD 0 act.line.length) := rng1_int (by omega)
  have hL : (List.range act.line.length).length ≤ sizeLine := few (by rw [List.length_range]; omega)
  have e2 : mLc (mRng1 (mCons (mL dLen (mCons (mV 6) mNil)) mNil)) [8] (gN 8) (mT (mB dGt (mB dIx (mV 6) (mV 8)) (mC (.int 0)))) (mTup (mCons (mP (mV 8)) (mCons (mCallB g_law_lowest (mCons (mB dIx (mV 6) (mV 8)) (mCons (mV 1) mNil))) mNil))) [some x0, some (.int (total : Int)), some (.lst true made), some (eAs r), some (.lst true told), some (.int (a : Int)), some (eI act.line), z7, none] = some (.lst true ((prs total act.line).map eP)) := by
    have s1 : mRng1 (mCons (mL dLen (mCons (mV 6) mNil)) mNil) [some x0, some (.int (total : Int)), some (.lst true made), some (eAs r), some (.lst true told), some (.int (a : Int)), some (eI act.line), z7, none] = some ((List.range act.line.length).map fun (t : Nat) => D.int (t : Int)) := by
      rw [← rngD0]
      simp [eI]
      exact hrg
    have s2 : lcL (gN 8) (mT (mB dGt (mB dIx (mV 6) (mV 8)) (mC (.int 0)))) (mTup (mCons (mP (mV 8)) (mCons (mCallB g_law_lowest (mCons (mB dIx (mV 6) (mV 8)) (mCons (mV 1) mNil))) mNil))) [some x0, some (.int (total : Int)), some (.lst true made), some (eAs r), some (.lst true told), some (.int (a : Int)), some (eI act.line), z7, none] ((List.range act.line.length).map fun (t : Nat) => D.int (t : Int)) = some (((List.range act.line.length).filter fun t => decide (0 < lAt act.line t)).map fun t => eP (t, mkRat (lAt act.line t) total)) := by
      refine lcL_filterOn fun t ht => ⟨[some x0, some (.int (total : Int)), some (.lst true made), some (eAs r), some (.lst true told), some (.int (a : Int)), some (eI act.line), z7, some (.int (t : Int))], by simp, ?_, fun hp => ?_⟩
      · have x2 := lAt_some (List.mem_range.mp ht)
        simp [eI, x2]
      · have x2 := lAt_some (List.mem_range.mp ht)
        have x3 := c_of (lowest_v (n := lAt act.line t) h0 (Nat.lt_trans h61 (by decide))) rfl
        simp [eI, x2, x3, eP]
    rw [mLc_def, s1, bindS, wipeO_cons, wipeO_nil, bindS, if_pos (by simp), bindS, if_pos (by rw [List.length_map]; exact hL)]
    have s3 : ([some x0, some (.int (total : Int)), some (.lst true made), some (eAs r), some (.lst true told), some (.int (a : Int)), some (eI act.line), z7, none] : Rho).set 8 none = [some x0, some (.int (total : Int)), some (.lst true made), some (eAs r), some (.lst true told), some (.int (a : Int)), some (eI act.line), z7, none] := rfl
    rw [s3, s2]
    simp [prs, List.map_map, Function.comp_def]
  have e2' := mSet_def (i := 7) (m := mLc (mRng1 (mCons (mL dLen (mCons (mV 6) mNil)) mNil)) [8] (gN 8) (mT (mB dGt (mB dIx (mV 6) (mV 8)) (mC (.int 0)))) (mTup (mCons (mP (mV 8)) (mCons (mCallB g_law_lowest (mCons (mB dIx (mV 6) (mV 8)) (mCons (mV 1) mNil))) mNil)))) (ρ := [some x0, some (.int (total : Int)), some (.lst true made), some (eAs r), some (.lst true told), some (.int (a : Int)), some (eI act.line), z7, none])
  rw [e2, bindS] at e2'
  have e2'' : setK 7 [some x0, some (.int (total : Int)), some (.lst true made), some (eAs r), some (.lst true told), some (.int (a : Int)), some (eI act.line), z7, none] (.lst true ((prs total act.line).map eP)) = some (.nx [some x0, some (.int (total : Int)), some (.lst true made), some (eAs r), some (.lst true told), some (.int (a : Int)), some (eI act.line), some (.lst true ((prs total act.line).map eP)), none]) := rfl
  unfold maI
  rw [seq_nx e1, seq_nx (e2'.trans e2'')]
  have h1920 : (a : Int).natAbs.log2 < 1920 := lg_of (lt_2 (a := 10) (by rw [Int.natAbs_natCast]; omega))
  have hs : dStr [.int (a : Int)] = some (.str (toString (a : Int))) := by
    show (if (a : Int).natAbs.log2 < 1920 then some (D.str (toString (a : Int))) else none) = _
    rw [if_pos h1920]
  have hlen : (Str.ofString "a").length + (Str.ofString (toString (a : Int))).length ≤ sizeLine := few (by have := str_short a (by omega); have : (Str.ofString "a").length = 1 := by decide +kernel
                                                                                                           omega)
  have hq := lowest_v (n := act.price.num) act.price.den_pos (lt_2 hden)
  rw [Rat.mkRat_self] at hq
  have hq' := c_of hq rfl
  have hlt : told.length < sizeLine := Nat.lt_of_lt_of_le (by omega : told.length < 100000) (few (Nat.le_refl _))
  have hs2 : op2 dAdd (some (.str (Str.ofString "a"))) (some (.str (Str.ofString (toString (a : Int))))) = some (.str (Str.ofString "a" ++ Str.ofString (toString (a : Int)))) := by
    rw [op2_some, dAdd_str, if_pos hlen]
  simp at hs hs2
  simp [eAs, x1, eA, hs, hs2, hq', hlt, eK, mkOf]
theorem maO_v {x0 : D} {total : Nat} (h0 : 0 < total) (h61 : total < 61) {made : List D} {r : List Act} (hr : r.length < 100) (hok : ∀ a ∈ r, a.line.length < 1000 ∧ Sz a.price) (hmade : made.length < 1000) {z4 z5 z6 z7 : Option D} (h5 : jk z5 = true) (h6 : jk z6 = true) :
    ∃ z4' z5' z6' z7', maO [some x0, some (.int (total : Int)), some (.lst true made), some (eAs r), z4, z5, z6, z7, none] = some (.nx [some x0, some (.int (total : Int)), some (.lst true (made ++ [eR (mkRow total r)])), some (eAs r), z4', z5', z6', z7', none]) ∧ jk z5' = true ∧ jk z6' = true := by
  obtain ⟨ρ', e, z5', z6', z7', rfl, k5, k6⟩ := forL_inv (h := gN 5) (body := maI) (l := rngD 0 r.length) (k := 0) (ρ := [some x0, some (.int (total : Int)), some (.lst true made), some (eAs r), some (.lst true []), z5, z6, z7, none])
    (fun n ρ => ∃ z5 z6 z7, ρ = [some x0, some (.int (total : Int)), some (.lst true made), some (eAs r), some (.lst true ((List.range n).map fun i => eK (mkOf total i (aact r i)))), z5, z6, z7, none] ∧ jk z5 = true ∧ jk z6 = true)
    ⟨z5, z6, z7, rfl, h5, h6⟩ (fun a d ρ hd => by
      rintro ⟨z5, z6, z7, rfl, k5, k6⟩
      obtain ⟨ha, rfl⟩ := rngD_at hd
      have hm := hok _ (mem_aact ha)
      have t := maI_v (x0 := x0) (made := made) (z6 := z6) (z7 := z7) (told := (List.range (0 + a)).map fun i => eK (mkOf total i (aact r i))) h0 h61 ha hr hm.1 hm.2 hm.2.2 k6 (by rw [List.length_map, List.length_range]; omega)
      have g : gN 5 (.int (0 + (a : Int))) [some x0, some (.int (total : Int)), some (.lst true made), some (eAs r), some (.lst true ((List.range (0 + a)).map fun i => eK (mkOf total i (aact r i)))), z5, z6, z7, none] = some [some x0, some (.int (total : Int)), some (.lst true made), some (eAs r), some (.lst true ((List.range (0 + a)).map fun i => eK (mkOf total i (aact r i)))), some (.int (a : Int)), z6, z7, none] := by simp [k5]
      have ea : (List.range (0 + a)).map (fun i => eK (mkOf total i (aact r i))) ++ [eK (mkOf total a (aact r a))] = (List.range (0 + a + 1)).map (fun i => eK (mkOf total i (aact r i))) := by
        rw [Nat.zero_add]; exact range_app
      rw [ea] at t
      exact ⟨_, by unfold turnK; rw [g]; exact t, some (.int (a : Int)), some (eI (aact r a).line), some (.lst true ((prs total (aact r a).line).map eP)), rfl, rfl, by simp⟩)
  refine ⟨some (.lst true ((List.range r.length).map fun i => eK (mkOf total i (aact r i)))), z5', z6', z7', ?_, k5, k6⟩
  have hrg : rng1 [.int (r.length : Int)] = some (rngD 0 r.length) := rng1_int (by omega)
  rw [rngD_len, Nat.zero_add] at e
  unfold maO
  rw [seq_nx (ρ' := [some x0, some (.int (total : Int)), some (.lst true made), some (eAs r), some (.lst true []), z5, z6, z7, none]) (by simp)]
  have s1 : mFor (mRng1 (mCons (mL dLen (mCons (mV 3) mNil)) mNil)) (gN 5) maI [some x0, some (.int (total : Int)), some (.lst true made), some (eAs r), some (.lst true []), z5, z6, z7, none] = some (.nx [some x0, some (.int (total : Int)), some (.lst true made), some (eAs r), some (.lst true ((List.range r.length).map fun i => eK (mkOf total i (aact r i)))), z5', z6', z7', none]) := by
    have : mRng1 (mCons (mL dLen (mCons (mV 3) mNil)) mNil) [some x0, some (.int (total : Int)), some (.lst true made), some (eAs r), some (.lst true []), z5, z6, z7, none] = some (rngD 0 r.length) := by
      simp [eAs]
      exact hrg
    rw [mFor_def, this]
    exact e
  rw [seq_nx s1]
  have hf : frzL ((List.range r.length).map fun i => eK (mkOf total i (aact r i))) = true := frzL_map fun _ => frz_eK
  have hlt : made.length < sizeLine := Nat.lt_of_lt_of_le (by omega : made.length < 100000) (few (Nat.le_refl _))
  simp [hf, hlt, eR, mkRow, List.map_map, Function.comp_def]
theorem made_v {T : List (List Act)} {total : Nat} (h0 : 0 < total) (h61 : total < 61) (hT : T.length < 1000) (hr : ∀ r ∈ T, r.length < 100) (hok : ∀ r ∈ T, ∀ a ∈ r, a.line.length < 1000 ∧ Sz a.price) : g_law_made [eTb T, .int (total : Int)] = some (eMT (mkTab total T)) := by
  obtain ⟨ρ', e, z3, z4, z5, z6, z7, rfl, k3, k5, k6⟩ := forL_inv (h := gN 3) (body := maO) (l := T.map eAs) (k := 0) (ρ := [some (eTb T), some (.int (total : Int)), some (.lst true []), none, none, none, none, none, none])
    (fun n ρ => ∃ z3 z4 z5 z6 z7, ρ = [some (eTb T), some (.int (total : Int)), some (.lst true ((T.take n).map fun r => eR (mkRow total r))), z3, z4, z5, z6, z7, none] ∧ jk z3 = true ∧ jk z5 = true ∧ jk z6 = true)
    ⟨none, none, none, none, none, rfl, rfl, rfl, rfl⟩ (fun s d ρ hd => by
      rintro ⟨z3, z4, z5, z6, z7, rfl, k3, k5, k6⟩
      rw [List.getElem?_map] at hd
      obtain ⟨r, hs, rfl⟩ := Option.map_eq_some_iff.mp hd
      have hm := List.mem_of_getElem? hs
      obtain ⟨z4', z5', z6', z7', t, j5, j6⟩ := maO_v (x0 := eTb T) (made := (T.take (0 + s)).map fun r => eR (mkRow total r)) (z4 := z4) (z7 := z7) h0 h61 (hr r hm) (hok r hm) (by rw [List.length_map, List.length_take]; omega) k5 k6
      have g : gN 3 (eAs r) [some (eTb T), some (.int (total : Int)), some (.lst true ((T.take (0 + s)).map fun r => eR (mkRow total r))), z3, z4, z5, z6, z7, none] = some [some (eTb T), some (.int (total : Int)), some (.lst true ((T.take (0 + s)).map fun r => eR (mkRow total r))), some (eAs r), z4, z5, z6, z7, none] := by simp [k3]
      have ea : (T.take (0 + s)).map (fun r => eR (mkRow total r)) ++ [eR (mkRow total r)] = (T.take (0 + s + 1)).map (fun r => eR (mkRow total r)) := by
        rw [Nat.zero_add, List.take_succ, hs, List.map_append]; rfl
      rw [ea] at t
      refine ⟨[some (eTb T), some (.int (total : Int)), some (.lst true ((T.take (0 + s + 1)).map fun r => eR (mkRow total r))), some (eAs r), z4', z5', z6', z7', none], ?_, some (eAs r), z4', z5', z6', z7', rfl, by simp, j5, j6⟩
      unfold turnK
      rw [g, bindS]
      exact t)
  rw [List.length_map, Nat.zero_add, List.take_length] at e
  unfold g_law_made
  rw [run_def]
  have em : m_law_made = (mSeq (mSet 2 (mLst mNil)) (mSeq (mFor (mSeqOf (mP (mV 0))) (gN 3) maO) (mRet (mL dTuple (mCons (mV 2) mNil))))) := rfl
  rw [em, seq_nx (ρ' := [some (eTb T), some (.int (total : Int)), some (.lst true []), none, none, none, none, none, none]) (by simp)]
  have s1 : mFor (mSeqOf (mP (mV 0))) (gN 3) maO [some (eTb T), some (.int (total : Int)), some (.lst true []), none, none, none, none, none, none] = some (.nx [some (eTb T), some (.int (total : Int)), some (.lst true (T.map fun r => eR (mkRow total r))), z3, z4, z5, z6, z7, none]) := by
    have : mSeqOf (mP (mV 0)) [some (eTb T), some (.int (total : Int)), some (.lst true []), none, none, none, none, none, none] = some (T.map eAs) := by simp [eTb]
    rw [mFor_def, this]
    exact e
  rw [seq_nx s1]
  have hf : frzL (T.map fun r => eR (mkRow total r)) = true := frzL_map fun _ => frz_eR
  simp [hf, eMT, mkTab, List.map_map, Function.comp_def]
/-! ### the two searches agree -/
theorem msum_map {v : List Rat} {f : Nat → Rat} : ∀ {l : List Nat}, msum v (l.map fun t => (t, f t)) = (l.map fun t => f t * vAt v t).sum
  | [] => rfl
  | t :: l => by rw [List.map_cons, msum_cons, msum_map, List.map_cons, List.sum_cons]
theorem msum_prs {v : List Rat} {total : Nat} {l : List Int} (h0 : 0 < total) (hl : ∀ x ∈ l, 0 ≤ x) : (total : Rat) * msum v (prs total l) = dot l v := by
  unfold prs dot
  rw [msum_map, sumR_filter, ← sumR_mul]
  refine sumR_congr fun t ht => ?_
  have hx := hl _ (lAt_mem ht)
  by_cases h : 0 < lAt l t
  · have e := scale_mk (d := total) (m := 1) (x := lAt l t) (by omega)
    rw [Nat.mul_one] at e
    simp only [h, decide_true, if_true]
    rw [← Rat.mul_assoc, e]
    simp [Rat.mul_one]
  · have h0 : lAt l t = 0 := by omega
    simp [h, h0, Rat.mul_zero, Rat.zero_mul]
theorem rowAt_mk {total : Nat} {T : List (List Act)} {s : Nat} (h : s < T.length) : rowAt (mkTab total T) s = mkRow total (arow T s) := by
  have h1 := rowAt_some (T := mkTab total T) (s := s) (by unfold mkTab; rw [List.length_map]; exact h)
  unfold mkTab at h1 ⊢
  rw [List.getElem?_map, arow_some h] at h1
  exact (Option.some.inj h1).symm
theorem mkAt_mk {total : Nat} {r : List Act} {a : Nat} (h : a < r.length) : mkAt (mkRow total r) a = mkOf total a (aact r a) := by
  have h1 := mkAt_some (T := mkRow total r) (s := a) (by unfold mkRow; rw [List.length_map, List.length_range]; exact h)
  unfold mkRow at h1 ⊢
  rw [List.getElem?_map, List.getElem?_range h] at h1
  exact (Option.some.inj h1).symm
theorem len_mkRow {total : Nat} {r : List Act} : (mkRow total r).length = r.length := by unfold mkRow; rw [List.length_map, List.length_range]
theorem len_mkTab {total : Nat} {T : List (List Act)} : (mkTab total T).length = T.length := by unfold mkTab; rw [List.length_map]
theorem prs_len {total : Nat} {l : List Int} : (prs total l).length ≤ l.length := by
  unfold prs
  rw [List.length_map]
  have := List.length_filter_le (fun t => decide (0 < lAt l t)) (List.range l.length)
  rw [List.length_range] at this; exact this
theorem prs_ok {v : List Rat} {n total : Nat} {l : List Int} (h0 : 0 < total) (h61 : total < 61) (hL : LineOk n total l) (hv : v.length = n) (hq : ∀ x ∈ v, Lvl 8 50000 x) : PsOk v (prs total l) := by
  intro p hp
  unfold prs at hp
  obtain ⟨t, ht, rfl⟩ := List.mem_map.mp hp
  have ht' := List.mem_range.mp (List.mem_filter.mp ht).1
  have hl := hL.1
  refine ⟨by show t < v.length; omega, ?_, hq _ (vAt_mem (by omega))⟩
  exact (Lvl.frac h0 h61 (hL.small h61 ht')).le (by decide)
theorem mem_mkTab {total : Nat} {T : List (List Act)} {m : List Mk} (h : m ∈ mkTab total T) : ∃ r ∈ T, m = mkRow total r := by
  unfold mkTab at h
  obtain ⟨r, h1, h2⟩ := List.mem_map.mp h
  exact ⟨r, h1, h2.symm⟩
theorem mem_mkRow {total : Nat} {r : List Act} {m : Mk} (h : m ∈ mkRow total r) : ∃ (i : Nat) (a : Act), a ∈ r ∧ m = mkOf total i a := by
  unfold mkRow at h
  obtain ⟨i, h1, h2⟩ := List.mem_map.mp h
  exact ⟨i, aact r i, mem_aact (List.mem_range.mp h1), h2.symm⟩
theorem Pap.asked {T : List (List Act)} {c b : List Rat} {pol : List Int} {total : Nat} (A : Pap T c b pol total) : Asked (mkTab total T) c b pol where
  size := by rw [len_mkTab]; exact A.size
  lc := by rw [len_mkTab]; exact A.lc
  lb := by rw [len_mkTab]; exact A.lb
  lp := by rw [len_mkTab]; exact A.lp
  few := fun m hm => by
    obtain ⟨r, h1, rfl⟩ := mem_mkTab hm
    have := A.few r h1
    rw [len_mkRow]; omega
  short := fun m hm k hk => by
    obtain ⟨r, h1, rfl⟩ := mem_mkTab hm
    obtain ⟨i, a, h2, rfl⟩ := mem_mkRow hk
    have := (A.acts r h1 a h2).1.1
    have := A.size
    exact Nat.lt_of_le_of_lt prs_len (by omega)
  rc := fun m hm k hk => by
    obtain ⟨r, h1, rfl⟩ := mem_mkTab hm
    obtain ⟨i, a, h2, rfl⟩ := mem_mkRow hk
    exact prs_ok A.t0 A.t1 (A.acts r h1 a h2).1 A.lc A.vc
  rb := fun m hm k hk => by
    obtain ⟨r, h1, rfl⟩ := mem_mkTab hm
    obtain ⟨i, a, h2, rfl⟩ := mem_mkRow hk
    exact prs_ok A.t0 A.t1 (A.acts r h1 a h2).1 A.lb A.vb
  price := fun m hm k hk => by
    obtain ⟨r, h1, rfl⟩ := mem_mkTab hm
    obtain ⟨i, a, h2, rfl⟩ := mem_mkRow hk
    exact (A.acts r h1 a h2).2
  vc := A.vc
  vb := A.vb
theorem num_den {q : Rat} : (q.den : Rat) * q = (q.num : Rat) := by
  have e := scale_mk (d := q.den) (m := 1) (x := q.num) q.den_nz
  rw [Rat.mkRat_self, Nat.mul_one] at e
  rw [e]; simp [Rat.mul_one]
/-- the drift and the surplus of an action, in fractions -/
def drQ (total : Nat) (c : List Rat) (s : Nat) (a : Act) : Rat := dot a.line c - (total : Rat) * vAt c s
def suQ (total : Nat) (c b : List Rat) (s : Nat) (a : Act) : Rat := a.price * (total : Rat) + dot a.line b - (total : Rat) * (vAt c s + vAt b s)
def faultAt (T : List (List Act)) (c b : List Rat) (pol : List Int) (total : Nat) (s a : Nat) : Bool := badB (drQ total c s (aact (arow T s) a)) (suQ total c b s (aact (arow T s) a)) (lAt pol s) a
/-- the first fault -/
def fault (T : List (List Act)) (c b : List Rat) (pol : List Int) (total : Nat) : D := (find (fun s => find (fun a => if faultAt T c b pol total s a = true then some (at2 s a) else none) 0 (arow T s).length) 0 T.length).getD .non
theorem badB_scale {x y k j : Rat} {p : Int} {a : Nat} (hk : 0 < k) (hj : 0 < j) : badB (k * x) (j * y) p a = badB x y p a := by
  unfold badB
  simp only [sgn_lt hk, sgn_lt hj, sgn_gt hk, sgn_gt hj]
theorem natR {n : Nat} (h : 0 < n) : (0 : Rat) < (n : Rat) := Rat.natCast_pos.mpr h
theorem check_v {T : List (List Act)} {c b : List Rat} {pol : List Int} {total : Nat} (A : Pap T c b pol total) : g_starts_fault [eMT (mkTab total T), .tup (c.map fr), .tup (pol.map D.int), .tup (b.map fr)] = some (fault T c b pol total) := by
  rw [starts_fault_v A.asked]
  unfold fault tabF rowF
  rw [len_mkTab]
  congr 2
  refine find_congr fun s _ hs => ?_
  have hs' : s < T.length := by omega
  dsimp only
  rw [rowAt_mk hs', len_mkRow]
  refine find_congr fun a _ ha => ?_
  have ha' : a < (arow T s).length := by omega
  have hact := A.acts _ (mem_arow hs') _ (mem_aact ha')
  have hnn : ∀ x ∈ (aact (arow T s) a).line, 0 ≤ x := fun x hx => (hact.1.2 x hx).1
  have e1 := msum_prs (v := c) A.t0 hnn
  have e2 := msum_prs (v := b) A.t0 hnn
  have hb : badB (drM (mkTab total T) c s a) (suM (mkTab total T) c b s a) (lAt pol s) a = faultAt T c b pol total s a := by
    unfold faultAt drM suM
    rw [rowAt_mk hs', mkAt_mk ha', ← badB_scale (natR A.t0) (natR A.t0)]
    congr 1
    · unfold drQ mkOf
      rw [← e1]
      grind
    · unfold suQ mkOf
      rw [← e2]
      grind
  rw [hb]
theorem law_starts_fault_v {T : List (List Act)} {c b : List Rat} {pol : List Int} {total : Nat} (A : Pap T c b pol total) : g_law_starts_fault [eTb T, .int (total : Int), eV c, eI pol, eV b] = some (fault T c b pol total) := by
  obtain ⟨w, hw, hd, hcw, hbw, e⟩ := law_starts_fault_w A
  rw [e]
  unfold fault
  congr 2
  refine find_congr fun s _ hs => ?_
  have hs' : s < T.length := by omega
  refine find_congr fun a _ ha => ?_
  have ha' : a < (arow T s).length := by omega
  have hact := A.acts _ (mem_arow hs') _ (mem_aact ha')
  have hl := hact.1.1
  have hlc := A.lc
  have hlb := A.lb
  have hsc : s < c.length := by omega
  have hsb : s < b.length := by omega
  have hb : badA w total T c b pol s a = faultAt T c b pol total s a := by
    unfold badA faultAt
    refine badI_eq (k := (w : Rat)) (j := (w : Rat) * ((aact (arow T s) a).price.den : Rat)) (natR hw) (Rat.mul_pos (natR hw) (natR (Rat.den_pos _))) ?_ ?_
    · unfold drI drQ
      rw [Rat.intCast_sub, Rat.intCast_mul, dotI_eq (by omega) hcw, lo_eq (hcw _ (vAt_mem hsc)), Rat.intCast_natCast]
      grind
    · unfold suI suQ
      have hn := num_den (q := (aact (arow T s) a).price)
      rw [Rat.intCast_sub, Rat.intCast_add, Rat.intCast_mul, Rat.intCast_mul, Rat.intCast_mul, Rat.intCast_mul, Rat.intCast_mul, Rat.intCast_add, dotI_eq (by omega) hbw, lo_eq (hcw _ (vAt_mem hsc)), lo_eq (hbw _ (vAt_mem hsb)), Rat.intCast_natCast, Rat.intCast_natCast, Rat.intCast_natCast, ← hn]
      grind
  rw [hb]
/-! ### asked -/
theorem find_prop {P : D → Prop} {f : Nat → Option D} : ∀ {n k : Nat} {d : D}, (∀ i d, f i = some d → P d) → find f k n = some d → P d
  | 0, _, _, _, h => by unfold find at h; cases h
  | n + 1, k, d, hf, h => by
    unfold find at h
    cases e : f k with
    | some d' =>
      rw [e] at h
      exact hf k d (e.trans h)
    | none =>
      rw [e] at h
      exact find_prop hf h
theorem fault_is (T : List (List Act)) (c b : List Rat) (pol : List Int) (total : Nat) : fault T c b pol total = .non ∨ ∃ s a, fault T c b pol total = at2 s a := by
  unfold fault
  cases h : find (fun s => find (fun a => if faultAt T c b pol total s a = true then some (at2 s a) else none) 0 (arow T s).length) 0 T.length with
  | none => exact .inl rfl
  | some d =>
    refine .inr (find_prop (P := fun d => ∃ s a, d = at2 s a) (fun s d hd => find_prop (P := fun d => ∃ s a, d = at2 s a) (fun a d hd => ?_) hd) h)
    split at hd
    · cases hd; exact ⟨_, _, rfl⟩
    · cases hd
theorem fault_pla {T : List (List Act)} {c b : List Rat} {pol : List Int} {total : Nat} : pla 8 (fault T c b pol total) = true := by
  rcases fault_is T c b pol total with h | ⟨s, a, h⟩ <;> rw [h] <;> simp [pla, at2]
theorem fault_tf {T : List (List Act)} {c b : List Rat} {pol : List Int} {total : Nat} : tf (fault T c b pol total) = true := by
  rcases fault_is T c b pol total with h | ⟨s, a, h⟩ <;> rw [h] <;> simp [at2]
def ePap (T : List (List Act)) (c b : List Rat) (pol : List Int) : D := .tup [eTb T, eV c, eI pol, eV b]
@[simp] theorem frz_ePap {T : List (List Act)} {c b : List Rat} {pol : List Int} : frz (ePap T c b pol) = true := by simp [ePap]
@[simp] theorem fz_ePap {T : List (List Act)} {c b : List Rat} {pol : List Int} : fz (ePap T c b pol) = ePap T c b pol := fz_frz _ frz_ePap
theorem asked_v {T : List (List Act)} {c b : List Rat} {pol : List Int} {total : Nat} (A : Pap T c b pol total) : g_law_asked [ePap T c b pol, .int (total : Int), fault T c b pol total] = some (.bl true) := by
  have hm := made_v (T := T) A.t0 A.t1 A.size A.few (fun r hr a ha => ⟨by have := (A.acts r hr a ha).1.1; have := A.size; omega, (A.acts r hr a ha).2.sz⟩)
  have h1 : callM g_law_made [eTb T, .int (total : Int)] = some (eMT (mkTab total T)) := callM_of (by simp) hm
  have hz : fz (eMT (mkTab total T)) = eMT (mkTab total T) := fz_frz _ frz_eMT
  have h2 : callB g_starts_fault [eMT (mkTab total T), .tup (c.map fr), .tup (pol.map D.int), .tup (b.map fr)] = some (fault T c b pol total) := callB_of (by simp [hz]; exact check_v A) fault_tf
  have hf : fz (fault T c b pol total) = fault T c b pol total := fz_frz _ (pla_fz fault_pla)
  have h3 : callB (g_law_same 8) [fault T c b pol total, fault T c b pol total] = some (.bl true) := callB_of (by simp [hf]; exact same_v fault_pla) rfl
  unfold ePap
  simp [g_law_asked, run_def, m_law_asked, eV, eI] at h1 h2 ⊢
  simp [h1, h2, h3]
theorem c_asked {T : List (List Act)} {c b : List Rat} {pol : List Int} {total : Nat} {d : D} (A : Pap T c b pol total) (hd : fault T c b pol total = d) : callB g_law_asked [ePap T c b pol, .int (total : Int), d] = some (.bl true) := by
  subst hd
  have hf : fz (fault T c b pol total) = fault T c b pol total := fz_frz _ (pla_fz fault_pla)
  exact callB_of (by simp [hf]; exact asked_v A) rfl
theorem c_fault {T : List (List Act)} {c b : List Rat} {pol : List Int} {total : Nat} (A : Pap T c b pol total) : callB g_law_starts_fault [eTb T, .int (total : Int), eV c, eI pol, eV b] = some (fault T c b pol total) :=
  callB_of (by simp; exact law_starts_fault_v A) fault_tf
end K64

set_option Elab.async false
set_option linter.all false
set_option maxRecDepth 100000
set_option maxHeartbeats 4000000
/-! K64D: a spoilt paper is still a paper. -/
namespace K64
open PySem L2 R
structure Wf (n total B L : Nat) (T : List (List Act)) (c b : List Rat) (pol : List Int) : Prop where
  lT : T.length = n
  n0 : 0 < n
  n9 : n < 900
  t0 : 0 < total
  t1 : total < 61
  lc : c.length = n
  lb : b.length = n
  lp : pol.length = n
  rows : ∀ r ∈ T, 0 < r.length ∧ r.length ≤ L
  acts : ∀ r ∈ T, ∀ a ∈ r, LineOk n total a.line ∧ Lvl 7 B a.price
  vc : ∀ x ∈ c, Lvl 6 B x
  vb : ∀ x ∈ b, Lvl 7 B x
  vp : ∀ s, s < n → 0 ≤ lAt pol s ∧ lAt pol s < ((arow T s).length : Int)
theorem Wf.pap {n total B L : Nat} {T : List (List Act)} {c b : List Rat} {pol : List Int} (W : Wf n total B L T c b pol) (hB : B ≤ 40000) (hL : L < 100) : Pap T c b pol total where
  size := by rw [W.lT]; have := W.n9; omega
  lc := by rw [W.lc, W.lT]
  lb := by rw [W.lb, W.lT]
  lp := by rw [W.lp, W.lT]
  few := fun r hr => by have := (W.rows r hr).2; omega
  acts := fun r hr a ha => ⟨by rw [W.lT]; exact (W.acts r hr a ha).1, (W.acts r hr a ha).2.to (by decide) (by omega)⟩
  vc := fun x hx => (W.vc x hx).to (by decide) (by omega)
  vb := fun x hx => (W.vb x hx).to (by decide) (by omega)
  t0 := W.t0
  t1 := W.t1
theorem Wf.le {n total B C L M : Nat} {T : List (List Act)} {c b : List Rat} {pol : List Int} (W : Wf n total B L T c b pol) (h : B ≤ C := by omega) (h2 : L ≤ M := by omega) : Wf n total C M T c b pol :=
  { W with
    rows := fun r hr => ⟨(W.rows r hr).1, Nat.le_trans (W.rows r hr).2 h2⟩
    acts := fun r hr a ha => ⟨(W.acts r hr a ha).1, (W.acts r hr a ha).2.le h⟩
    vc := fun x hx => (W.vc x hx).le h
    vb := fun x hx => (W.vb x hx).le h }
/-- a paper's table in one's own lists -/
def eTo (T : List (List Act)) : D := .lst true (T.map fun r => .lst true (r.map eA))
@[simp] theorem fz_eTo {T : List (List Act)} : fz (eTo T) = eTb T := by
  unfold eTo eTb
  rw [fz_lst, fzL_map', List.map_map]
  congr 1
  refine List.map_congr_left fun r _ => ?_
  simp [eAs]
theorem ixN_at {n s : Nat} (h : s < n) : ixN n (s : Int) = some s := by
  rw [ixN_nat' (by omega) (by omega), Int.toNat_natCast]
theorem dearer_v {a : Act} {d : Rat} (ha : Sz a.price) (hd : Sz d) : g_law_dearer [eA a, fr d] = some (eA ⟨a.price + d, a.line⟩) := by
  have hq := lowest_v (n := a.price.num) a.price.den_pos (lt_2 ha.2)
  rw [Rat.mkRat_self] at hq
  have h1 := c_of hq rfl
  have h2 := c_of (sum_v ha hd) (by simp)
  unfold eA
  simp [g_law_dearer, run_def, m_law_dearer, h1, h2]
def spS (row paper : D) (total way : Int) (T : List (List Act)) (c b : List Rat) (pol : List Int) (n s a : Nat) (dl : Rat) (z13 z14 : Option D) : Rho :=
  [some row, some paper, some (.int total), some (.int way), some (eTo T), none, some (.lst true (c.map fr)), some (.lst true (pol.map D.int)), some (.lst true (b.map fr)), some (.int (n : Int)), some (.int (s : Int)), some (.int (a : Int)), some (fr dl), z13, z14, none, none, none]
section
variable {row paper : D} {total : Nat} {way : Int} {T : List (List Act)} {c b : List Rat} {pol : List Int} {n s a B L : Nat} {dl : Rat} {z13 z14 : Option D}
def sp1 : SM := (mIte (mT (mB dLt (mV 3) (mC (.int 2)))) (mSto (rV 6) (mV 10) (mCallB g_law_sum (mCons (mB dIx (mV 6) (mV 10)) (mCons (mV 12) mNil)))) mNx)
theorem sp1_v (W : Wf n total B L T c b pol) (hs : s < n) (hB : B ≤ 40000) (hd : Lvl 1 90 dl) (hB0 : 1000 ≤ B) : ∃ c', sp1 (spS row paper total way T c b pol n s a dl z13 z14) = some (.nx (spS row paper total way T c' b pol n s a dl z13 z14)) ∧ Wf n total (B + 1) L T c' b pol := by
  by_cases h : way < 2
  · have hs' : s < c.length := by rw [W.lc]; exact hs
    have hx := vAt_some hs'
    have hl := W.vc _ (vAt_mem hs')
    have hq := c_of (sum_v (hl.sz (by decide) (by omega)) hd.sz) (by simp)
    refine ⟨c.set s (vAt c s + dl), ?_, { W.le (C := B + 1) with lc := by rw [List.length_set]; exact W.lc, vc := fun x hx => ?_ }⟩
    · simp [sp1, spS, h, hx, hq, ixN_at hs']
    · rcases List.mem_or_eq_of_mem_set hx with h' | rfl
      · exact (W.vc x h').le (by omega)
      · exact (hl.add (hd.to (l := 6) (c := 600))).le (by omega)
  · exact ⟨c, by simp [sp1, spS, h], W.le⟩
def sp2 : SM := (mIte (mOrB (mT (mB dEq (mV 3) (mC (.int 2)))) (mT (mB dEq (mV 3) (mC (.int 3))))) (mSto (rV 8) (mV 10) (mCallB g_law_sum (mCons (mB dIx (mV 8) (mV 10)) (mCons (mV 12) mNil)))) mNx)
theorem sp2_v (W : Wf n total B L T c b pol) (hs : s < n) (hB : B ≤ 40000) (hd : Lvl 1 90 dl) (hB0 : 1000 ≤ B) : ∃ b', sp2 (spS row paper total way T c b pol n s a dl z13 z14) = some (.nx (spS row paper total way T c b' pol n s a dl z13 z14)) ∧ Wf n total (B + 1) L T c b' pol := by
  by_cases h : way = 2 ∨ way = 3
  · have hs' : s < b.length := by rw [W.lb]; exact hs
    have hx := vAt_some hs'
    have hl := W.vb _ (vAt_mem hs')
    have hq := c_of (sum_v (hl.sz (by decide) (by omega)) hd.sz) (by simp)
    refine ⟨b.set s (vAt b s + dl), ?_, { W.le (C := B + 1) with lb := by rw [List.length_set]; exact W.lb, vb := fun x hx => ?_ }⟩
    · rcases h with rfl | rfl <;> simp [sp2, spS, hx, hq, ixN_at hs']
    · rcases List.mem_or_eq_of_mem_set hx with h' | rfl
      · exact (W.vb x h').le (by omega)
      · exact (hl.add (hd.to (l := 7) (c := 600))).le (by omega)
  · have h1 : ¬ way = 2 := fun e => h (.inl e)
    have h2 : ¬ way = 3 := fun e => h (.inr e)
    exact ⟨b, by simp [sp2, spS, h1, h2], W.le⟩
def sp3 : SM := (mIte (mT (mB dEq (mV 3) (mC (.int 4)))) (mSto (rV 7) (mV 10) (mB dMod (mL dInt (mCons (mB dAdd (mB dIx (mV 7) (mV 10)) (mC (.int 1))) mNil)) (mL dLen (mCons (mB dIx (mV 4) (mV 10)) mNil)))) mNx)
theorem sp3_v (W : Wf n total B L T c b pol) (hs : s < n) : ∃ pol', sp3 (spS row paper total way T c b pol n s a dl z13 z14) = some (.nx (spS row paper total way T c b pol' n s a dl z13 z14)) ∧ Wf n total B L T c b pol' := by
  by_cases h : way = 4
  · have hs' : s < pol.length := by rw [W.lp]; exact hs
    have hsT : s < T.length := by rw [W.lT]; exact hs
    have hx := lAt_some hs'
    have hr := arow_some hsT
    have h0 := (W.rows _ (mem_arow hsT)).1
    have hpos : (0 : Int) < ((arow T s).length : Int) := by omega
    refine ⟨pol.set s ((lAt pol s + 1) % ((arow T s).length : Int)), ?_, { W with lp := by rw [List.length_set]; exact W.lp, vp := fun t ht => ?_ }⟩
    · have hmod : dMod (.int (lAt pol s + 1)) (.int ((arow T s).length : Int)) = some (.int ((lAt pol s + 1) % ((arow T s).length : Int))) := dMod_ok hpos
      simp [sp3, spS, h, hx, eTo, hr, hmod, ixN_at hs']
    · rw [lAt_set hs']
      split
      · next e => subst e; exact ⟨Int.emod_nonneg _ (by omega), Int.emod_lt_of_pos _ hpos⟩
      · exact W.vp t ht
  · exact ⟨pol, by simp [sp3, spS, h], W⟩
theorem arow_set {T : List (List Act)} {s t : Nat} {r : List Act} (h : s < T.length) : arow (T.set s r) t = if s = t then r else arow T t := by
  unfold arow
  rw [List.getD_eq_getElem?_getD, List.getD_eq_getElem?_getD, List.getElem?_set]
  split
  · next e => subst e; simp [h]
  · rfl
/-- an action put at a place -/
theorem Wf.put (W : Wf n total B L T c b pol) (hs : s < n) {x : Act} (hx : LineOk n total x.line ∧ Lvl 7 B x.price) : Wf n total B L (T.set s ((arow T s).set a x)) c b pol := by
  have hsT : s < T.length := by rw [W.lT]; exact hs
  have hm := W.rows _ (mem_arow hsT)
  refine { W with lT := by rw [List.length_set]; exact W.lT, rows := fun r hr => ?_, acts := fun r hr y hy => ?_, vp := fun t ht => ?_ }
  · rcases List.mem_or_eq_of_mem_set hr with h | rfl
    · exact W.rows r h
    · rw [List.length_set]; exact hm
  · rcases List.mem_or_eq_of_mem_set hr with h | rfl
    · exact W.acts r h y hy
    · rcases List.mem_or_eq_of_mem_set hy with h | rfl
      · exact W.acts _ (mem_arow hsT) y h
      · exact hx
  · rw [arow_set hsT]
    split
    · next e => subst e; rw [List.length_set]; exact W.vp _ ht
    · exact W.vp t ht
def sp4 (k : Int) (i : EM) : SM := (mIte (mT (mB dEq (mV 3) (mC (.int k)))) (mSto (rIx (rV 4) (mV 10)) i (mCall g_law_dearer (mCons (mB dIx (mB dIx (mV 4) (mV 10)) i) (mCons (mV 12) mNil)))) mNx)
theorem sp4_v {k : Int} {i : EM} {a' : Nat} (W : Wf n total B L T c b pol) (hs : s < n) (hB : B ≤ 40000) (hd : Lvl 1 90 dl) (hB0 : 1000 ≤ B) (ha : a' < (arow T s).length) (hi : i (spS row paper total way T c b pol n s a dl z13 z14) = some (.int (a' : Int))) : ∃ T', sp4 k i (spS row paper total way T c b pol n s a dl z13 z14) = some (.nx (spS row paper total way T' c b pol n s a dl z13 z14)) ∧ Wf n total (B + 1) L T' c b pol := by
  by_cases h : way = k
  · have hsT : s < T.length := by rw [W.lT]; exact hs
    have hr := arow_some hsT
    have hx := aact_some ha
    have hact := W.acts _ (mem_arow hsT) _ (mem_aact ha)
    have hq : callM g_law_dearer [eA (aact (arow T s) a'), fr dl] = some (eA ⟨(aact (arow T s) a').price + dl, (aact (arow T s) a').line⟩) := callM_of (by simp) (dearer_v (hact.2.sz (by decide) (by omega)) hd.sz)
    refine ⟨T.set s ((arow T s).set a' ⟨(aact (arow T s) a').price + dl, (aact (arow T s) a').line⟩), ?_, (W.le (C := B + 1)).put hs ⟨hact.1, (hact.2.add (hd.to (l := 7) (c := 600))).le (by omega)⟩⟩
    subst h
    simp only [spS, eTo] at hi
    simp [sp4, spS, hi, eTo, hr, hx, hq, R.rIx, nodeAt, ownAt, ixN_at hsT, ixN_at ha]
  · exact ⟨T, by simp [sp4, spS, h], W.le⟩
/-! ### the extreme place -/
def exB : SM := (mIte (mOrB (mAndB (mT (mB dEq (mV 1) (mC (.int 7)))) (mT (mCallB g_law_below (mCons (mB dIx (mV 0) (mV 3)) (mCons (mB dIx (mV 0) (mV 2)) mNil))))) (mAndB (mT (mB dEq (mV 1) (mC (.int 8)))) (mT (mCallB g_law_below (mCons (mB dIx (mV 0) (mV 2)) (mCons (mB dIx (mV 0) (mV 3)) mNil)))))) (mSet 2 (mP (mV 3))) mNx)
theorem cb_of {g : List D → Option D} {ds : List D} {x : Bool} (h : g ds = some (.bl x)) (e : fzL ds = ds) : callB g ds = some (.bl x) := callB_of (by rw [e, h]) rfl
theorem extreme_v {c : List Rat} (hc : c.length < 1000) (h0 : 0 < c.length) (hv : ∀ x ∈ c, Sz x) : ∃ f, f < c.length ∧ g_law_extreme [eV c, .int way] = some (.int ((f : Nat) : Int)) := by
  obtain ⟨ρ', e, f, z3, rfl, hf⟩ := forL_inv (h := gN 3) (body := exB) (l := rngD 0 c.length) (k := 0) (ρ := [some (eV c), some (.int way), some (.int ((0 : Nat) : Int)), none])
    (fun n ρ => ∃ (f : Nat) (z3 : Option Int), ρ = [some (eV c), some (.int way), some (.int (f : Int)), z3.map D.int] ∧ f < c.length) ⟨0, none, rfl, h0⟩ (fun i d ρ hd => by
      rintro ⟨f, z3, rfl, hf⟩
      obtain ⟨hi, rfl⟩ := rngD_at hd
      have g : gN 3 (.int (0 + (i : Int))) [some (eV c), some (.int way), some (.int (f : Int)), z3.map D.int] = some [some (eV c), some (.int way), some (.int (f : Int)), some (.int (i : Int))] := by cases z3 <;> simp
      have x1 := vAt_some hi
      have x2 := vAt_some hf
      have b1 := cb_of (below_v (hv _ (vAt_mem hi)) (hv _ (vAt_mem hf))) (by simp)
      have b2 := cb_of (below_v (hv _ (vAt_mem hf)) (hv _ (vAt_mem hi))) (by simp)
      have t : exB [some (eV c), some (.int way), some (.int (f : Int)), some (.int (i : Int))] = some (.nx [some (eV c), some (.int way), some (.int (f : Int)), some (.int (i : Int))]) ∨ exB [some (eV c), some (.int way), some (.int (f : Int)), some (.int (i : Int))] = some (.nx [some (eV c), some (.int way), some (.int (i : Int)), some (.int (i : Int))]) := by
        by_cases h7 : way = 7
        · by_cases hb : vAt c i < vAt c f
          · right; simp [exB, h7, eV, x1, x2, b1, hb]
          · left; simp [exB, h7, eV, x1, x2, b1, hb]
        · by_cases h8 : way = 8
          · by_cases hb : vAt c f < vAt c i
            · right; simp [exB, h8, eV, x1, x2, b2, hb]
            · left; simp [exB, h8, eV, x1, x2, b2, hb]
          · left; simp [exB, h7, h8, eV]
      rcases t with t | t
      · exact ⟨_, by unfold turnK; rw [g, bindS]; exact t, f, some (i : Int), rfl, hf⟩
      · exact ⟨_, by unfold turnK; rw [g, bindS]; exact t, i, some (i : Int), rfl, hi⟩)
  refine ⟨f, hf, ?_⟩
  have hr : rng1 [.int (c.length : Int)] = some (rngD 0 c.length) := rng1_int (by omega)
  have em : m_law_extreme = (mSeq (mSet 2 (mC (.int 0))) (mSeq (mFor (mRng1 (mCons (mL dLen (mCons (mV 0) mNil)) mNil)) (gN 3) exB) (mRet (mV 2)))) := rfl
  unfold g_law_extreme
  rw [run_def, em, seq_nx (ρ' := [some (eV c), some (.int way), some (.int ((0 : Nat) : Int)), none]) (by simp)]
  have s1 : mFor (mRng1 (mCons (mL dLen (mCons (mV 0) mNil)) mNil)) (gN 3) exB [some (eV c), some (.int way), some (.int ((0 : Nat) : Int)), none] = some (.nx [some (eV c), some (.int way), some (.int (f : Int)), z3.map D.int]) := by
    have : mRng1 (mCons (mL dLen (mCons (mV 0) mNil)) mNil) [some (eV c), some (.int way), some (.int ((0 : Nat) : Int)), none] = some (rngD 0 c.length) := by
      simp [eV]
      exact hr
    rw [mFor_def, this]
    exact e
  rw [seq_nx s1]
  simp
/-! ### a new action -/
theorem Wf.push (W : Wf n total B L T c b pol) (hs : s < n) {x : Act} (hx : LineOk n total x.line ∧ Lvl 7 B x.price) : Wf n total B (L + 1) (T.set s (arow T s ++ [x])) c b pol := by
  have hsT : s < T.length := by rw [W.lT]; exact hs
  have hm := W.rows _ (mem_arow hsT)
  refine { W with lT := by rw [List.length_set]; exact W.lT, rows := fun r hr => ?_, acts := fun r hr y hy => ?_, vp := fun t ht => ?_ }
  · rcases List.mem_or_eq_of_mem_set hr with h | rfl
    · exact ⟨(W.rows r h).1, Nat.le_succ_of_le (W.rows r h).2⟩
    · rw [List.length_append, List.length_singleton]; omega
  · rcases List.mem_or_eq_of_mem_set hr with h | rfl
    · exact W.acts r h y hy
    · rcases List.mem_append.mp hy with h | h
      · exact W.acts _ (mem_arow hsT) y h
      · rw [List.mem_singleton.mp h]; exact hx
  · rw [arow_set hsT]
    split
    · next e => subst e; rw [List.length_append]; have := W.vp _ ht; exact ⟨this.1, by omega⟩
    · exact W.vp t ht
/-- [total * int(t == k) for t in range(n)] -/
def oneAt (n total k : Nat) : List Int := (List.range n).map fun t => if t = k then (total : Int) else 0
theorem oneAt_ok : LineOk n total (oneAt n total a) := by
  refine ⟨by unfold oneAt; rw [List.length_map, List.length_range], fun x hx => ?_⟩
  unfold oneAt at hx
  obtain ⟨t, _, rfl⟩ := List.mem_map.mp hx
  split <;> omega
def sp7a : SM := (mSet 14 (mCallB g_law_sum (mCons (mCallB g_law_sum (mCons (mB dIx (mV 6) (mV 10)) (mCons (mB dIx (mV 8) (mV 10)) mNil))) (mCons (mTup (mCons (mU dNeg (mB dIx (mB dIx (mV 8) (mV 13)) (mC (.int 0)))) (mCons (mP (mB dIx (mB dIx (mV 8) (mV 13)) (mC (.int 1)))) mNil))) mNil))))
def sp7l : EM := (mLc (mRng1 (mCons (mV 9) mNil)) [15] (gN 15) mYes (mB dMul (mV 2) (mL dInt (mCons (mB dEq (mV 15) (mV 13)) mNil))))
def sp7b : SM := (mApp (rIx (rV 4) (mV 10)) (mTup (mCons (mP (mB dIx (mV 14) (mC (.int 0)))) (mCons (mP (mB dIx (mV 14) (mC (.int 1)))) (mCons (mF sp7l) mNil)))))
def sp7c : SM := (mIte (mT (mB dEq (mV 3) (mC (.int 8)))) (mSto (rV 7) (mV 10) (mB dSub (mL dLen (mCons (mB dIx (mV 4) (mV 10)) mNil)) (mC (.int 1)))) mNx)
def sp7 : SM := (mIte (mOrB (mT (mB dEq (mV 3) (mC (.int 7)))) (mT (mB dEq (mV 3) (mC (.int 8))))) (mSeq (mSet 13 (mCallB g_law_extreme (mCons (mV 6) (mCons (mV 3) mNil)))) (mSeq sp7a (mSeq sp7b sp7c))) mNx)
theorem sp7l_v {f : Nat} (hn : n < 900) (ht : total < 61) : sp7l (spS row paper total way T c b pol n s a dl (some (.int (f : Int))) z14) = some (.lst true ((oneAt n total f).map D.int)) := by
  have hL : (List.range n).length ≤ sizeLine := few (by rw [List.length_range]; omega)
  have hr : rng1 [.int (n : Int)] = some (rngD 0 n) := rng1_int (by omega)
  have s1 : mRng1 (mCons (mV 9) mNil) (spS row paper total way T c b pol n s a dl (some (.int (f : Int))) z14) = some ((List.range n).map fun (t : Nat) => D.int (t : Int)) := by
    rw [← rngD0]
    simp [spS]
    exact hr
  have hm0 : mulOk (total : Int) 0 := mulOk_of (a := 6) (b := 1) (by rw [Int.natAbs_natCast]; omega) (by decide) (by decide)
  have hm1 : mulOk (total : Int) 1 := mulOk_of (a := 6) (b := 1) (by rw [Int.natAbs_natCast]; omega) (by decide) (by decide)
  have s2 : lcL (gN 15) mYes (mB dMul (mV 2) (mL dInt (mCons (mB dEq (mV 15) (mV 13)) mNil))) (spS row paper total way T c b pol n s a dl (some (.int (f : Int))) z14) ((List.range n).map fun (t : Nat) => D.int (t : Int)) = some ((List.range n).map fun t => D.int (if t = f then (total : Int) else 0)) := by
    refine lcL_mapOn fun t ht => ⟨(spS row paper total way T c b pol n s a dl (some (.int (f : Int))) z14).set 15 (some (.int (t : Int))), by simp [spS], rfl, ?_⟩
    by_cases e : t = f
    · subst e; simp [spS, dMul_ok, hm1]
    · have e' : ¬ (t : Int) = (f : Int) := by omega
      simp [spS, e, e', dMul_ok, hm0]
  unfold sp7l
  rw [mLc_def, s1, bindS, wipeO_cons, wipeO_nil, bindS, if_pos (by simp [spS]), bindS, if_pos (by rw [List.length_map]; exact hL)]
  have s3 : (spS row paper total way T c b pol n s a dl (some (.int (f : Int))) z14).set 15 none = spS row paper total way T c b pol n s a dl (some (.int (f : Int))) z14 := rfl
  rw [s3, s2]
  simp [oneAt, List.map_map, Function.comp_def]
theorem sp7_v (W : Wf n total B L T c b pol) (hs : s < n) (hB : B ≤ 40000) (hB0 : 1000 ≤ B) (hL : L < 90) : ∃ T' pol' z13' z14', sp7 (spS row paper total way T c b pol n s a dl z13 z14) = some (.nx (spS row paper total way T' c b pol' n s a dl z13' z14')) ∧ Wf n total (B + 90) (L + 1) T' c b pol' := by
  by_cases h : way = 7 ∨ way = 8
  · have hsT : s < T.length := by rw [W.lT]; exact hs
    have hsc : s < c.length := by rw [W.lc]; exact hs
    have hsb : s < b.length := by rw [W.lb]; exact hs
    have hn9 := W.n9
    have hszc : ∀ x ∈ c, Sz x := fun x hx => (W.vc x hx).sz (by decide) (by omega)
    obtain ⟨f, hf, he⟩ := extreme_v (way := way) (c := c) (by rw [W.lc]; omega) (by omega) hszc
    have hfb : f < b.length := by rw [W.lb, ← W.lc]; exact hf
    have e1 : mSet 13 (mCallB g_law_extreme (mCons (mV 6) (mCons (mV 3) mNil))) (spS row paper total way T c b pol n s a dl z13 z14) = some (.nx (spS row paper total way T c b pol n s a dl (some (.int (f : Int))) z14)) := by
      have hc' : callB g_law_extreme [.lst true (c.map fr), .int way] = some (.int (f : Int)) := callB_of (by simp; exact he) rfl
      simp [spS, hc']
    have l1 := W.vc _ (vAt_mem hsc)
    have l2 := W.vb _ (vAt_mem hsb)
    have l3 := W.vb _ (vAt_mem hfb)
    have l12 := ((l1.to (l := 7) (c := B + 84) (by decide) (by omega)).add l2).le (c := B + 85) (by omega)
    have l123 := (l12.add l3.neg).le (c := B + 90) (by omega)
    have hq1 := c_of (sum_v (l1.sz (by decide) (by omega)) (l2.sz (by decide) (by omega))) (by simp)
    have hq2 := c_of (sum_v (l12.sz (by decide) (by omega)) (l3.neg.sz (by decide) (by omega))) (by simp)
    have x1 := vAt_some hsc
    have x2 := vAt_some hsb
    have x3 := vAt_some hfb
    have e2 : sp7a (spS row paper total way T c b pol n s a dl (some (.int (f : Int))) z14) = some (.nx (spS row paper total way T c b pol n s a dl (some (.int (f : Int))) (some (fr (vAt c s + vAt b s + -vAt b f))))) := by
      simp [sp7a, spS, x1, x2, x3, hq1, fr_neg, hq2]
    have hr := arow_some hsT
    have hlt : (arow T s).length < sizeLine := Nat.lt_of_lt_of_le (by have := (W.rows _ (mem_arow hsT)).2; omega : (arow T s).length < 100000) (few (Nat.le_refl _))
    have e3 : sp7b (spS row paper total way T c b pol n s a dl (some (.int (f : Int))) (some (fr (vAt c s + vAt b s + -vAt b f)))) = some (.nx (spS row paper total way (T.set s (arow T s ++ [⟨vAt c s + vAt b s + -vAt b f, oneAt n total f⟩])) c b pol n s a dl (some (.int (f : Int))) (some (fr (vAt c s + vAt b s + -vAt b f))))) := by
      have hl := sp7l_v (row := row) (paper := paper) (way := way) (T := T) (c := c) (b := b) (pol := pol) (s := s) (a := a) (dl := dl) (z14 := some (fr (vAt c s + vAt b s + -vAt b f))) (f := f) hn9 W.t1
      unfold sp7b
      rw [mApp_def]
      have hrx : R.rIx (rV 4) (mV 10) (spS row paper total way T c b pol n s a dl (some (.int (f : Int))) (some (fr (vAt c s + vAt b s + -vAt b f)))) = some (4, [s]) := by
        simp [spS, R.rIx, eTo, nodeAt, ownAt, ixN_at hsT, hr]
      have hmt : (mTup (mCons (mP (mB dIx (mV 14) (mC (.int 0)))) (mCons (mP (mB dIx (mV 14) (mC (.int 1)))) (mCons (mF sp7l) mNil)))) (spS row paper total way T c b pol n s a dl (some (.int (f : Int))) (some (fr (vAt c s + vAt b s + -vAt b f)))) = some (eA ⟨vAt c s + vAt b s + -vAt b f, oneAt n total f⟩) := by
        rw [mTup_def, mCons_def, mCons_def, mCons_def, mF_def, hl]
        simp [spS, eA, eI]
      rw [hrx, bindS, hmt, bindS]
      simp [spS, eTo, hr, hlt]
    have hW := (W.le (C := B + 90) (M := L)).push hs (x := ⟨vAt c s + vAt b s + -vAt b f, oneAt n total f⟩) ⟨oneAt_ok, l123⟩
    have hwt : (mOrB (mT (mB dEq (mV 3) (mC (.int 7)))) (mT (mB dEq (mV 3) (mC (.int 8))))) (spS row paper total way T c b pol n s a dl z13 z14) = some true := by
      rcases h with rfl | rfl <;> simp [spS]
    unfold sp7
    rw [mIte_def, hwt, iteO_true, seq_nx e1, seq_nx e2, seq_nx e3]
    have hlenT : (T.set s (arow T s ++ [⟨vAt c s + vAt b s + -vAt b f, oneAt n total f⟩])).length = T.length := List.length_set
    generalize (T.set s (arow T s ++ [⟨vAt c s + vAt b s + -vAt b f, oneAt n total f⟩])) = T' at hW hlenT ⊢
    have hsT' : s < T'.length := by rw [hlenT]; exact hsT
    by_cases h8 : way = 8
    · have hr' := arow_some hsT'
      have hsp : s < pol.length := by rw [W.lp]; exact hs
      refine ⟨T', pol.set s (((arow T' s).length : Int) - 1), some (.int (f : Int)), some (fr (vAt c s + vAt b s + -vAt b f)), ?_, { hW with lp := by rw [List.length_set]; exact W.lp, vp := fun t ht => ?_ }⟩
      · simp [sp7c, spS, h8, eTo, hr', ixN_at hsp]
      · rw [lAt_set hsp]
        split
        · next e => subst e; have := (hW.rows _ (mem_arow hsT')).1; omega
        · exact hW.vp t ht
    · exact ⟨T', pol, some (.int (f : Int)), some (fr (vAt c s + vAt b s + -vAt b f)), by simp [sp7c, spS, h8], hW⟩
  · have h1 : ¬ way = 7 := fun e => h (.inl e)
    have h2 : ¬ way = 8 := fun e => h (.inr e)
    exact ⟨T, pol, z13, z14, by simp [sp7, spS, h1, h2], W.le⟩
/-! ### all costs, all biases -/
def sp9a : SM := (mSet 6 (mLc (mSeqA (mV 6)) [16] (gN 16) mYes (mCallB g_law_sum (mCons (mV 16) (mCons (mV 12) mNil)))))
def sp9b : SM := (mFrz 4 (mSet 4 (mLc (mSeqA (mV 4)) [5] (gN 5) mYes (mLc (mSeqA (mV 5)) [17] (gN 17) mYes (mCall g_law_dearer (mCons (mV 17) (mCons (mV 12) mNil)))))))
def sp9 : SM := (mIte (mT (mB dEq (mV 3) (mC (.int 9)))) (mSeq sp9a sp9b) mNx)
def dearT (T : List (List Act)) (dl : Rat) : List (List Act) := T.map fun r => r.map fun a => ⟨a.price + dl, a.line⟩
theorem arow_map {T : List (List Act)} {f : List Act → List Act} {s : Nat} (h : s < T.length) : arow (T.map f) s = f (arow T s) := by
  have h1 := arow_some (T := T.map f) (s := s) (by rw [List.length_map]; exact h)
  rw [List.getElem?_map, arow_some h] at h1
  exact (Option.some.inj h1).symm
theorem sp9_v (W : Wf n total B L T c b pol) (hB : B ≤ 40000) (hd : Lvl 1 90 dl) (hB0 : 1000 ≤ B) (hL : L < 1000) : ∃ T' c', sp9 (spS row paper total way T c b pol n s a dl z13 z14) = some (.nx (spS row paper total way T' c' b pol n s a dl z13 z14)) ∧ Wf n total (B + 1) L T' c' b pol := by
  by_cases h : way = 9
  · have hn9 := W.n9
    have hlc := W.lc
    have hlT := W.lT
    have hL1 : c.length ≤ sizeLine := few (by omega)
    have hL2 : T.length ≤ sizeLine := few (by omega)
    have e1 : sp9a (spS row paper total way T c b pol n s a dl z13 z14) = some (.nx (spS row paper total way T (c.map fun x => x + dl) b pol n s a dl z13 z14)) := by
      have s2 : lcL (gN 16) mYes (mCallB g_law_sum (mCons (mV 16) (mCons (mV 12) mNil))) (spS row paper total way T c b pol n s a dl z13 z14) (c.map fr) = some (c.map fun x => fr (x + dl)) := by
        refine lcL_mapOn fun x hx => ⟨(spS row paper total way T c b pol n s a dl z13 z14).set 16 (some (fr x)), by simp [spS], rfl, ?_⟩
        have hq := c_of (sum_v ((W.vc x hx).sz (by decide) (by omega)) hd.sz) (by simp)
        simp [spS, hq]
      have s3 : (spS row paper total way T c b pol n s a dl z13 z14).set 16 none = spS row paper total way T c b pol n s a dl z13 z14 := rfl
      have s1 : mSeqA (mV 6) (spS row paper total way T c b pol n s a dl z13 z14) = some (c.map fr) := by simp [spS]
      unfold sp9a
      rw [mSet_def, mLc_def, s1, bindS, wipeO_cons, wipeO_nil, bindS, if_pos (by simp [spS]), bindS, if_pos (by rw [List.length_map]; exact hL1), s3, s2]
      simp [spS, List.map_map, Function.comp_def]
    have e2 : sp9b (spS row paper total way T (c.map fun x => x + dl) b pol n s a dl z13 z14) = some (.nx (spS row paper total way (dearT T dl) (c.map fun x => x + dl) b pol n s a dl z13 z14)) := by
      have s0 : mV 4 (spS row paper total way T (c.map fun x => x + dl) b pol n s a dl z13 z14) = some (eTo T) := rfl
      generalize hρ : (spS row paper total way T (c.map fun x => x + dl) b pol n s a dl z13 z14).set 4 (some (eTb T)) = ρ4
      have s1 : mSeqA (mV 4) ρ4 = some (T.map eAs) := by subst hρ; simp [spS, eTb]
      have s3 : ρ4.set 5 none = ρ4 := by subst hρ; rfl
      have s2 : lcL (gN 5) mYes (mLc (mSeqA (mV 5)) [17] (gN 17) mYes (mCall g_law_dearer (mCons (mV 17) (mCons (mV 12) mNil)))) ρ4 (T.map eAs) = some (T.map fun r => .lst true ((r.map fun a => (⟨a.price + dl, a.line⟩ : Act)).map eA)) := by
        refine lcL_mapOn fun r hr => ⟨ρ4.set 5 (some (eAs r)), by subst hρ; simp [spS], rfl, ?_⟩
        have hrl : r.length ≤ sizeLine := few (by have := (W.rows r hr).2; omega)
        have t1 : mSeqA (mV 5) (ρ4.set 5 (some (eAs r))) = some (r.map eA) := by subst hρ; simp [spS, eAs]
        have t3 : (ρ4.set 5 (some (eAs r))).set 17 none = ρ4.set 5 (some (eAs r)) := by subst hρ; rfl
        have t2 : lcL (gN 17) mYes (mCall g_law_dearer (mCons (mV 17) (mCons (mV 12) mNil))) (ρ4.set 5 (some (eAs r))) (r.map eA) = some (r.map fun a => eA ⟨a.price + dl, a.line⟩) := by
          refine lcL_mapOn fun x hx => ⟨(ρ4.set 5 (some (eAs r))).set 17 (some (eA x)), by subst hρ; simp [spS], rfl, ?_⟩
          have hact := W.acts r hr x hx
          have hq : callM g_law_dearer [eA x, fr dl] = some (eA ⟨x.price + dl, x.line⟩) := callM_of (by simp) (dearer_v (hact.2.sz (by decide) (by omega)) hd.sz)
          subst hρ
          simp [spS, hq]
        rw [mLc_def, t1, bindS, wipeO_cons, wipeO_nil, bindS, if_pos (by subst hρ; simp [spS]), bindS, if_pos (by rw [List.length_map]; exact hrl), t3, t2]
        simp [List.map_map, Function.comp_def]
      unfold sp9b
      rw [mFrz_def, s0, bindS, fz_eTo, hρ, mSet_def, mLc_def, s1, bindS, wipeO_cons, wipeO_nil, bindS, if_pos (by subst hρ; simp [spS]), bindS, if_pos (by rw [List.length_map]; exact hL2), s3, s2]
      subst hρ
      simp [spS, eTo, dearT, List.map_map, Function.comp_def]
    refine ⟨dearT T dl, c.map fun x => x + dl, ?_, { W.le (C := B + 1) (M := L) with lT := by unfold dearT; rw [List.length_map]; exact W.lT, lc := by rw [List.length_map]; exact W.lc, rows := fun r hr => ?_, acts := fun r hr x hx => ?_, vc := fun x hx => ?_, vp := fun t ht => ?_ }⟩
    · have hwt : (mT (mB dEq (mV 3) (mC (.int 9)))) (spS row paper total way T c b pol n s a dl z13 z14) = some true := by simp [spS, h]
      unfold sp9
      rw [mIte_def, hwt, iteO_true, seq_nx e1]
      exact e2
    · obtain ⟨r', hr', rfl⟩ := List.mem_map.mp hr
      rw [List.length_map]; exact W.rows r' hr'
    · obtain ⟨r', hr', rfl⟩ := List.mem_map.mp hr
      obtain ⟨x', hx', rfl⟩ := List.mem_map.mp hx
      have hact := W.acts r' hr' x' hx'
      exact ⟨hact.1, (hact.2.add (hd.to (l := 7) (c := 600))).le (by omega)⟩
    · obtain ⟨x', hx', rfl⟩ := List.mem_map.mp hx
      exact ((W.vc x' hx').add (hd.to (l := 6) (c := 600))).le (by omega)
    · unfold dearT
      rw [arow_map (by omega), List.length_map]; exact W.vp t ht
  · exact ⟨T, c, by simp [sp9, spS, h], W.le⟩
def sp10 : SM := (mIte (mT (mB dEq (mV 3) (mC (.int 10)))) (mSet 8 (mLc (mSeqA (mV 8)) [16] (gN 16) mYes (mCallB g_law_sum (mCons (mV 16) (mCons (mV 12) mNil))))) mNx)
theorem sp10_v (W : Wf n total B L T c b pol) (hB : B ≤ 40000) (hd : Lvl 1 90 dl) (hB0 : 1000 ≤ B) : ∃ b', sp10 (spS row paper total way T c b pol n s a dl z13 z14) = some (.nx (spS row paper total way T c b' pol n s a dl z13 z14)) ∧ Wf n total (B + 1) L T c b' pol := by
  by_cases h : way = 10
  · have hn9 := W.n9
    have hlb := W.lb
    have hL1 : b.length ≤ sizeLine := few (by omega)
    refine ⟨b.map fun x => x + dl, ?_, { W.le (C := B + 1) (M := L) with lb := by rw [List.length_map]; exact W.lb, vb := fun x hx => ?_ }⟩
    · have s2 : lcL (gN 16) mYes (mCallB g_law_sum (mCons (mV 16) (mCons (mV 12) mNil))) (spS row paper total way T c b pol n s a dl z13 z14) (b.map fr) = some (b.map fun x => fr (x + dl)) := by
        refine lcL_mapOn fun x hx => ⟨(spS row paper total way T c b pol n s a dl z13 z14).set 16 (some (fr x)), by simp [spS], rfl, ?_⟩
        have hq := c_of (sum_v ((W.vb x hx).sz (by decide) (by omega)) hd.sz) (by simp)
        simp [spS, hq]
      have s3 : (spS row paper total way T c b pol n s a dl z13 z14).set 16 none = spS row paper total way T c b pol n s a dl z13 z14 := rfl
      have s1 : mSeqA (mV 8) (spS row paper total way T c b pol n s a dl z13 z14) = some (b.map fr) := by simp [spS]
      have hwt : (mT (mB dEq (mV 3) (mC (.int 10)))) (spS row paper total way T c b pol n s a dl z13 z14) = some true := by simp [spS, h]
      unfold sp10
      rw [mIte_def, hwt, iteO_true, mSet_def, mLc_def, s1, bindS, wipeO_cons, wipeO_nil, bindS, if_pos (by simp [spS]), bindS, if_pos (by rw [List.length_map]; exact hL1), s3, s2]
      simp [spS, List.map_map, Function.comp_def]
    · obtain ⟨x', hx', rfl⟩ := List.mem_map.mp hx
      exact ((W.vb x' hx').add (hd.to (l := 7) (c := 700))).le (by omega)
  · exact ⟨b, by simp [sp10, spS, h], W.le⟩
def sp11 : SM := (mIte (mT (mB dGt (mV 3) (mC (.int 10)))) (mSet 8 (mLc (mRng1 (mCons (mV 9) mNil)) [15] (gN 15) mYes (mCallB g_law_sum (mCons (mB dIx (mV 8) (mV 15)) (mCons (mCallB g_law_product (mCons (mV 12) (mCons (mB dIx (mV 6) (mV 15)) mNil))) mNil))))) mNx)
theorem sp11_v (W : Wf n total B L T c b pol) (hB : B ≤ 40000) (hd : Lvl 1 90 dl) (hB0 : 1000 ≤ B) : ∃ b', sp11 (spS row paper total way T c b pol n s a dl z13 z14) = some (.nx (spS row paper total way T c b' pol n s a dl z13 z14)) ∧ Wf n total (B + 91) L T c b' pol := by
  by_cases h : 10 < way
  · have hn9 := W.n9
    have hlb := W.lb
    have hlc := W.lc
    have hL1 : (List.range n).length ≤ sizeLine := few (by rw [List.length_range]; omega)
    have hr : rng1 [.int (n : Int)] = some (rngD 0 n) := rng1_int (by omega)
    refine ⟨(List.range n).map fun t => vAt b t + dl * vAt c t, ?_, { W.le (C := B + 91) (M := L) with lb := by rw [List.length_map, List.length_range], vb := fun x hx => ?_ }⟩
    · have s2 : lcL (gN 15) mYes (mCallB g_law_sum (mCons (mB dIx (mV 8) (mV 15)) (mCons (mCallB g_law_product (mCons (mV 12) (mCons (mB dIx (mV 6) (mV 15)) mNil))) mNil))) (spS row paper total way T c b pol n s a dl z13 z14) ((List.range n).map fun (t : Nat) => D.int (t : Int)) = some ((List.range n).map fun t => fr (vAt b t + dl * vAt c t)) := by
        refine lcL_mapOn fun t ht => ⟨(spS row paper total way T c b pol n s a dl z13 z14).set 15 (some (.int (t : Int))), by simp [spS], rfl, ?_⟩
        have ht' := List.mem_range.mp ht
        have htb : t < b.length := by omega
        have htc : t < c.length := by omega
        have l1 := W.vc _ (vAt_mem htc)
        have l2 := W.vb _ (vAt_mem htb)
        have x1 := vAt_some htc
        have x2 := vAt_some htb
        have hq1 := c_of (product_v hd.sz (l1.sz (by decide) (by omega))) (by simp)
        have hq2 := c_of (sum_v (l2.sz (by decide) (by omega)) ((hd.mul l1).sz (by decide) (by omega))) (by simp)
        simp [spS, x1, x2, hq1, hq2]
      have s3 : (spS row paper total way T c b pol n s a dl z13 z14).set 15 none = spS row paper total way T c b pol n s a dl z13 z14 := rfl
      have s1 : mRng1 (mCons (mV 9) mNil) (spS row paper total way T c b pol n s a dl z13 z14) = some ((List.range n).map fun (t : Nat) => D.int (t : Int)) := by
        rw [← rngD0]
        simp [spS]
        exact hr
      have hwt : (mT (mB dGt (mV 3) (mC (.int 10)))) (spS row paper total way T c b pol n s a dl z13 z14) = some true := by simp [spS, h]
      unfold sp11
      rw [mIte_def, hwt, iteO_true, mSet_def, mLc_def, s1, bindS, wipeO_cons, wipeO_nil, bindS, if_pos (by simp [spS]), bindS, if_pos (by rw [List.length_map]; exact hL1), s3, s2]
      simp [spS, List.map_map, Function.comp_def]
    · obtain ⟨t, ht, rfl⟩ := List.mem_map.mp hx
      have ht' := List.mem_range.mp ht
      have l1 := W.vc _ (vAt_mem (t := t) (by omega))
      have l2 := W.vb _ (vAt_mem (t := t) (by omega))
      exact (l2.add (hd.mul l1)).le (by omega)
  · exact ⟨b, by simp [sp11, spS, h], W.le⟩
end
/-! ### the whole of it -/
theorem c_low {n d : Int} (h0 : 0 < d) (h1 : d < 61) : callB g_law_lowest [.int n, .int d] = some (fr (mkRat n d.toNat)) := by
  have h := lowest_v (n := n) (d := d.toNat) (by omega) (Nat.lt_trans (by omega : d.toNat < 61) (by decide))
  rw [Int.toNat_of_nonneg (by omega)] at h
  exact c_of h rfl
theorem nat_of {x : Int} (h : 0 ≤ x) : ∃ k : Nat, x = (k : Int) := ⟨x.toNat, by omega⟩
theorem row_at {row : List Int} (h : Row row) {k : Nat} (hk : k < row.length) : row[k]? = some (lAt row k) ∧ 0 ≤ lAt row k ∧ lAt row k < 60 := ⟨lAt_some hk, h _ (lAt_mem hk)⟩
theorem spoilt_v {row : List Int} {total : Nat} {way : Int} {T : List (List Act)} {c b : List Rat} {pol : List Int} {n B L : Nat} (hrow : Row row) (hlen : 34 ≤ row.length) (W : Wf n total B L T c b pol) (hB : 1000 ≤ B) (hB2 : B ≤ 30000) (hL : L < 80) :
    ∃ T' c' b' pol', g_law_spoilt [eI row, ePap T c b pol, .int (total : Int), .int way] = some (ePap T' c' b' pol') ∧ Wf n total (B + 300) (L + 1) T' c' b' pol' := by
  obtain ⟨q7, q70, q71⟩ := row_at hrow (k := 7) (by omega)
  obtain ⟨q8, q80, q81⟩ := row_at hrow (k := 8) (by omega)
  obtain ⟨q9, q90, q91⟩ := row_at hrow (k := 9) (by omega)
  obtain ⟨q25, q250, q251⟩ := row_at hrow (k := 25) (by omega)
  have hn0 := W.n0
  have hn9 := W.n9
  have hlT := W.lT
  obtain ⟨s, hs⟩ := nat_of (Int.emod_nonneg (lAt row 7) (b := (n : Int)) (by omega))
  have hsn : s < n := by have := Int.emod_lt_of_pos (lAt row 7) (b := (n : Int)) (by omega); omega
  have hsT : s < T.length := by omega
  have hr := arow_some hsT
  have hr0 := (W.rows _ (mem_arow hsT)).1
  obtain ⟨a, ha⟩ := nat_of (Int.emod_nonneg (lAt row 25) (b := ((arow T s).length : Int)) (by omega))
  have han : a < (arow T s).length := by have := Int.emod_lt_of_pos (lAt row 25) (b := ((arow T s).length : Int)) (by omega); omega
  have hw2 : way % 2 = 0 ∨ way % 2 = 1 := by omega
  have hm1 : mulOk 2 (way % 2) := by rcases hw2 with h | h <;> rw [h] <;> exact mulOk_of (a := 2) (b := 2) (by decide) (by decide) (by decide)
  have hm2 : mulOk (1 + lAt row 8 % 5) (1 - 2 * (way % 2)) := by rcases hw2 with h | h <;> rw [h] <;> exact mulOk_of (a := 4) (b := 2) (by omega) (by decide) (by decide)
  obtain ⟨dn, hdn⟩ : ∃ dn : Int, (1 + lAt row 8 % 5) * (1 - 2 * (way % 2)) = dn := ⟨_, rfl⟩
  have hdn3 : dn.natAbs < 2 ^ 3 := by rw [← hdn]; rcases hw2 with h | h <;> rw [h] <;> omega
  have hq12 := c_low (n := dn) (d := 1 + lAt row 9 % 9) (by omega) (by omega)
  obtain ⟨dl, hdl⟩ : ∃ dl : Rat, mkRat dn (1 + lAt row 9 % 9).toNat = dl := ⟨_, rfl⟩
  have ldl : Lvl 1 90 dl := by rw [← hdl]; exact (Lvl.frac (n := dn) (b := 3) (by omega) (by omega) hdn3).le (by decide)
  rw [hdl] at hq12
  have hL1 : T.length ≤ sizeLine := few (by omega)
  have hL2 : c.length ≤ sizeLine := few (by have := W.lc; omega)
  -- the first six
  have e4 : mSet 4 (mLc (mSeqA (mB dIx (mV 1) (mC (.int 0)))) [5] (gN 5) mYes (mL dList (mCons (mV 5) mNil))) (([eI row, ePap T c b pol, .int (total : Int), .int way] : List D).map some ++ List.replicate (18 - 4) none) = some (.nx ([some (eI row), some (ePap T c b pol), some (.int (total : Int)), some (.int way), some (eTo T)] ++ List.replicate 13 none)) := by
    have s1 : mSeqA (mB dIx (mV 1) (mC (.int 0))) (([eI row, ePap T c b pol, .int (total : Int), .int way] : List D).map some ++ List.replicate (18 - 4) none) = some (T.map eAs) := by simp [ePap, eTb]
    have s2 : lcL (gN 5) mYes (mL dList (mCons (mV 5) mNil)) (([eI row, ePap T c b pol, .int (total : Int), .int way] : List D).map some ++ List.replicate (18 - 4) none) (T.map eAs) = some (T.map fun r => .lst true (r.map eA)) := by
      refine lcL_mapOn fun r hr => ⟨(([eI row, ePap T c b pol, .int (total : Int), .int way] : List D).map some ++ List.replicate (18 - 4) none).set 5 (some (eAs r)), by simp, rfl, ?_⟩
      simp [eAs]
    have s3 : (([eI row, ePap T c b pol, .int (total : Int), .int way] : List D).map some ++ List.replicate (18 - 4) none).set 5 none = (([eI row, ePap T c b pol, .int (total : Int), .int way] : List D).map some ++ List.replicate (18 - 4) none) := rfl
    rw [mSet_def, mLc_def, s1, bindS, wipeO_cons, wipeO_nil, bindS, if_pos (by simp), bindS, if_pos (by rw [List.length_map]; exact hL1), s3, s2]
    rfl
  have e6 : mAsgO [6, 7, 8] (mTup (mCons (mL dList (mCons (mB dIx (mV 1) (mC (.int 1))) mNil)) (mCons (mL dList (mCons (mB dIx (mV 1) (mC (.int 2))) mNil)) (mCons (mL dList (mCons (mB dIx (mV 1) (mC (.int 3))) mNil)) mNil)))) ([some (eI row), some (ePap T c b pol), some (.int (total : Int)), some (.int way), some (eTo T)] ++ List.replicate 13 none) =
      some (.nx ([some (eI row), some (ePap T c b pol), some (.int (total : Int)), some (.int way), some (eTo T), none, some (.lst true (c.map fr)), some (.lst true (pol.map D.int)), some (.lst true (b.map fr))] ++ List.replicate 9 none)) := by
    simp [ePap, eV, eI]
  have e9 : mSet 9 (mL dLen (mCons (mV 4) mNil)) ([some (eI row), some (ePap T c b pol), some (.int (total : Int)), some (.int way), some (eTo T), none, some (.lst true (c.map fr)), some (.lst true (pol.map D.int)), some (.lst true (b.map fr))] ++ List.replicate 9 none) = some (.nx ([some (eI row), some (ePap T c b pol), some (.int (total : Int)), some (.int way), some (eTo T), none, some (.lst true (c.map fr)), some (.lst true (pol.map D.int)), some (.lst true (b.map fr)), some (.int (n : Int))] ++ List.replicate 8 none)) := by
    simp [eTo, hlT]
  have hmod10 : dMod (.int (lAt row 7)) (.int (n : Int)) = some (.int (s : Int)) := by rw [dMod_ok (by omega), hs]
  have e10 : mSet 10 (mB dMod (mL dInt (mCons (mB dIx (mV 0) (mC (.int 7))) mNil)) (mV 9)) ([some (eI row), some (ePap T c b pol), some (.int (total : Int)), some (.int way), some (eTo T), none, some (.lst true (c.map fr)), some (.lst true (pol.map D.int)), some (.lst true (b.map fr)), some (.int (n : Int))] ++ List.replicate 8 none) = some (.nx ([some (eI row), some (ePap T c b pol), some (.int (total : Int)), some (.int way), some (eTo T), none, some (.lst true (c.map fr)), some (.lst true (pol.map D.int)), some (.lst true (b.map fr)), some (.int (n : Int)), some (.int (s : Int))] ++ List.replicate 7 none)) := by
    simp [eI, q7, hmod10]
  have hmod11 : dMod (.int (lAt row 25)) (.int ((arow T s).length : Int)) = some (.int (a : Int)) := by rw [dMod_ok (by omega), ha]
  have e11 : mSet 11 (mB dMod (mL dInt (mCons (mB dIx (mV 0) (mC (.int 25))) mNil)) (mL dLen (mCons (mB dIx (mV 4) (mV 10)) mNil))) ([some (eI row), some (ePap T c b pol), some (.int (total : Int)), some (.int way), some (eTo T), none, some (.lst true (c.map fr)), some (.lst true (pol.map D.int)), some (.lst true (b.map fr)), some (.int (n : Int)), some (.int (s : Int))] ++ List.replicate 7 none) = some (.nx ([some (eI row), some (ePap T c b pol), some (.int (total : Int)), some (.int way), some (eTo T), none, some (.lst true (c.map fr)), some (.lst true (pol.map D.int)), some (.lst true (b.map fr)), some (.int (n : Int)), some (.int (s : Int)), some (.int (a : Int))] ++ List.replicate 6 none)) := by
    simp [eI, eTo, q25, hr, hmod11]
  have e12 : mSet 12 (mCallB g_law_lowest (mCons (mB dMul (mB dAdd (mC (.int 1)) (mB dMod (mL dInt (mCons (mB dIx (mV 0) (mC (.int 8))) mNil)) (mC (.int 5)))) (mB dSub (mC (.int 1)) (mB dMul (mC (.int 2)) (mB dMod (mV 3) (mC (.int 2)))))) (mCons (mB dAdd (mC (.int 1)) (mB dMod (mL dInt (mCons (mB dIx (mV 0) (mC (.int 9))) mNil)) (mC (.int 9)))) mNil)))
      ([some (eI row), some (ePap T c b pol), some (.int (total : Int)), some (.int way), some (eTo T), none, some (.lst true (c.map fr)), some (.lst true (pol.map D.int)), some (.lst true (b.map fr)), some (.int (n : Int)), some (.int (s : Int)), some (.int (a : Int))] ++ List.replicate 6 none) = some (.nx (spS (eI row) (ePap T c b pol) total way T c b pol n s a dl none none)) := by
    simp [eI, q8, q9, dMod_ok, hm1, hm2, dMul_ok, hdn, hq12, spS]
  obtain ⟨c1, f1, W1⟩ := sp1_v (row := eI row) (paper := ePap T c b pol) (way := way) (a := a) (z13 := none) (z14 := none) W hsn (by omega) ldl hB
  obtain ⟨b2, f2, W2⟩ := sp2_v (row := eI row) (paper := ePap T c b pol) (way := way) (a := a) (z13 := none) (z14 := none) W1 hsn (by omega) ldl (by omega)
  obtain ⟨p3, f3, W3⟩ := sp3_v (row := eI row) (paper := ePap T c b pol) (way := way) (a := a) (dl := dl) (z13 := none) (z14 := none) W2 hsn
  obtain ⟨T4, f4, W4⟩ := sp4_v (row := eI row) (paper := ePap T c b pol) (way := way) (a := a) (z13 := none) (z14 := none) (k := 5) (i := mV 11) (a' := a) W3 hsn (by omega) ldl (by omega) han rfl
  obtain ⟨k5, hk5⟩ := nat_of (W4.vp s hsn).1
  have hk5' := (W4.vp s hsn).2
  rw [hk5] at hk5'
  have hxp := lAt_some (v := p3) (t := s) (by have := W4.lp; omega)
  obtain ⟨T5, f5, W5⟩ := sp4_v (row := eI row) (paper := ePap T c b pol) (way := way) (a := a) (z13 := none) (z14 := none) (k := 6) (i := mB dIx (mV 7) (mV 10)) (a' := k5) W4 hsn (by omega) ldl (by omega) (by omega) (by simp [spS, hxp, hk5])
  obtain ⟨T6, p6, y13, y14, f6, W6⟩ := sp7_v (row := eI row) (paper := ePap T c b pol) (way := way) (a := a) (dl := dl) (z13 := none) (z14 := none) W5 hsn (by omega) (by omega) (by omega)
  obtain ⟨T7, c7, f7, W7⟩ := sp9_v (row := eI row) (paper := ePap T c b pol) (way := way) (s := s) (a := a) (z13 := y13) (z14 := y14) W6 (by omega) ldl (by omega) (by omega)
  obtain ⟨b8, f8, W8⟩ := sp10_v (row := eI row) (paper := ePap T c b pol) (way := way) (s := s) (a := a) (z13 := y13) (z14 := y14) W7 (by omega) ldl (by omega)
  obtain ⟨b9, f9, W9⟩ := sp11_v (row := eI row) (paper := ePap T c b pol) (way := way) (s := s) (a := a) (z13 := y13) (z14 := y14) W8 (by omega) ldl (by omega)
  refine ⟨T7, c7, b9, p6, ?_, W9.le⟩
  have em : m_law_spoilt = (mSeq (mSet 4 (mLc (mSeqA (mB dIx (mV 1) (mC (.int 0)))) [5] (gN 5) mYes (mL dList (mCons (mV 5) mNil))))
    (mSeq (mAsgO [6, 7, 8] (mTup (mCons (mL dList (mCons (mB dIx (mV 1) (mC (.int 1))) mNil)) (mCons (mL dList (mCons (mB dIx (mV 1) (mC (.int 2))) mNil)) (mCons (mL dList (mCons (mB dIx (mV 1) (mC (.int 3))) mNil)) mNil)))))
    (mSeq (mSet 9 (mL dLen (mCons (mV 4) mNil)))
    (mSeq (mSet 10 (mB dMod (mL dInt (mCons (mB dIx (mV 0) (mC (.int 7))) mNil)) (mV 9)))
    (mSeq (mSet 11 (mB dMod (mL dInt (mCons (mB dIx (mV 0) (mC (.int 25))) mNil)) (mL dLen (mCons (mB dIx (mV 4) (mV 10)) mNil))))
    (mSeq (mSet 12 (mCallB g_law_lowest (mCons (mB dMul (mB dAdd (mC (.int 1)) (mB dMod (mL dInt (mCons (mB dIx (mV 0) (mC (.int 8))) mNil)) (mC (.int 5)))) (mB dSub (mC (.int 1)) (mB dMul (mC (.int 2)) (mB dMod (mV 3) (mC (.int 2)))))) (mCons (mB dAdd (mC (.int 1)) (mB dMod (mL dInt (mCons (mB dIx (mV 0) (mC (.int 9))) mNil)) (mC (.int 9)))) mNil))))
    (mSeq sp1 (mSeq sp2 (mSeq sp3 (mSeq (sp4 5 (mV 11)) (mSeq (sp4 6 (mB dIx (mV 7) (mV 10))) (mSeq sp7 (mSeq sp9 (mSeq sp10 (mSeq sp11
    (mFrz 4 (mFrz 6 (mFrz 7 (mFrz 8 (mRet (mTup (mCons (mP (mV 4)) (mCons (mP (mV 6)) (mCons (mP (mV 7)) (mCons (mP (mV 8)) mNil))))))))))))))))))))))))) := rfl
  unfold g_law_spoilt
  rw [run_def, em, seq_nx e4, seq_nx e6, seq_nx e9, seq_nx e10, seq_nx e11, seq_nx e12, seq_nx f1, seq_nx f2, seq_nx f3, seq_nx f4, seq_nx f5, seq_nx f6, seq_nx f7, seq_nx f8, seq_nx f9]
  simp [spS, ePap]
  simp [eV, eI]
end K64

set_option Elab.async false
set_option linter.all false
set_option maxRecDepth 100000
set_option maxHeartbeats 4000000
/-! K64E: lines of weights, the drawn table, means. -/
namespace K64
open PySem L2 R
theorem lAt_bump {l : List Int} {j i : Nat} {w : Int} (h : j < l.length) : lAt (l.set j (lAt l j + w)) i = lAt l i + if i = j then w else 0 := by
  rw [lAt_set h]
  by_cases e : j = i
  · subst e; simp
  · have e' : ¬ i = j := fun h => e h.symm
    simp [e, e']
theorem sum_bump {l : List Int} {j : Nat} {w : Int} (h : j < l.length) : sumI l.length (lAt (l.set j (lAt l j + w))) = sumI l.length (lAt l) + w := by
  rw [sumI_congr (g := fun i => lAt l i + if i = j then w else 0) fun i _ => lAt_bump h, sumI_add, sumI_one h]
theorem sumI_le {f : Nat → Int} {j : Nat} : ∀ {n : Nat}, j < n → (∀ i, i < n → 0 ≤ f i) → f j ≤ sumI n f
  | 0, h, _ => by omega
  | n + 1, h, hf => by
    rw [sumI_s]
    have h0 := hf n (by omega)
    by_cases e : j = n
    · subst e
      have : 0 ≤ sumI j f := sumI_nn fun i hi => hf i (by omega)
      omega
    · have := sumI_le (f := f) (j := j) (n := n) (by omega) fun i hi => hf i (by omega)
      omega
where
  sumI_nn {f : Nat → Int} : ∀ {n : Nat}, (∀ i, i < n → 0 ≤ f i) → 0 ≤ sumI n f
    | 0, _ => Int.le_refl 0
    | n + 1, hf => by
      rw [sumI_s]
      have := sumI_nn (n := n) fun i hi => hf i (by omega)
      have := hf n (by omega)
      omega
/-- a full line of weights -/
structure Full (n total : Nat) (l : List Int) : Prop where
  len : l.length = n
  nn : ∀ i, i < n → 0 ≤ lAt l i
  sum : sumI n (lAt l) = (total : Int)
theorem mem_lAt {l : List Int} {x : Int} (h : x ∈ l) : ∃ i, i < l.length ∧ lAt l i = x := by
  obtain ⟨i, hi, e⟩ := List.getElem_of_mem h
  exact ⟨i, hi, lAt_of (by rw [List.getElem?_eq_getElem hi, e])⟩
theorem Full.ok {n total : Nat} {l : List Int} (h : Full n total l) : LineOk n total l := by
  refine ⟨h.len, fun x hx => ?_⟩
  obtain ⟨i, hi, rfl⟩ := mem_lAt hx
  rw [h.len] at hi
  exact ⟨h.nn i hi, by rw [← h.sum]; exact sumI_le hi h.nn⟩
/-- part of a line of weights -/
structure Part (n : Nat) (sum : Int) (l : List Int) : Prop where
  len : l.length = n
  nn : ∀ i, i < n → 0 ≤ lAt l i
  sum : sumI n (lAt l) = sum
theorem Part.bump {n j : Nat} {s w : Int} {l : List Int} (h : Part n s l) (hj : j < n) (hw : 0 ≤ w) : Part n (s + w) (l.set j (lAt l j + w)) := by
  have hl := h.len
  refine ⟨by rw [List.length_set, hl], fun i hi => ?_, ?_⟩
  · rw [lAt_bump (by omega)]
    have := h.nn i hi
    split <;> omega
  · subst hl
    rw [sum_bump hj, h.sum]
theorem Part.zero {n : Nat} : Part n 0 (List.replicate n 0) := by
  have hz : ∀ i, lAt (List.replicate n 0) i = 0 := fun i => by
    unfold lAt
    rw [List.getD_eq_getElem?_getD, List.getElem?_replicate]
    split <;> rfl
  exact ⟨List.length_replicate, fun i _ => by rw [hz]; exact Int.le_refl 0, sumI_zero fun i _ => hz i⟩
theorem Part.full {n total : Nat} {l : List Int} (h : Part n (total : Int) l) : Full n total l := ⟨h.len, h.nn, h.sum⟩
theorem rep_zero {n : Nat} : (List.replicate n [D.int 0]).flatten = (List.replicate n (0 : Int)).map D.int := by
  induction n with
  | zero => rfl
  | succ n ih => rw [List.replicate_succ, List.flatten_cons, ih, List.replicate_succ]; rfl
theorem mulL_zero {n : Nat} (h : n < 1000) : dMul (.lst true [.int 0]) (.int (n : Int)) = some (.lst true ((List.replicate n (0 : Int)).map D.int)) := by
  rw [dMul_lst, if_pos ⟨rfl, by omega, by omega, by rw [Int.toNat_natCast]; exact few (by simp; omega)⟩, Int.toNat_natCast, rep_zero]
theorem min_bd {a b : Int} (ha : 0 ≤ a) (hb : 0 ≤ b) : 0 ≤ hMin a b ∧ hMin a b ≤ a := by
  unfold hMin
  split <;> omega
def weS (row : List Int) (at_ n total : Nat) (l : List Int) (rest : Int) (z6 z7 z8 : Option D) : Rho := [some (eI row), some (.int (at_ : Int)), some (.int (n : Int)), some (.int (total : Int)), some (.lst true (l.map D.int)), some (.int rest), z6, z7, z8]
def weB : SM := (mSeq (mSet 7 (mL (dII hMin) (mCons (mV 5) (mCons (mB dMod (mL dInt (mCons (mB dIx (mV 0) (mB dAdd (mV 1) (mV 6))) mNil)) (mB dAdd (mV 3) (mC (.int 1)))) mNil))))
    (mSeq (mSet 8 (mB dMod (mL dInt (mCons (mB dIx (mV 0) (mB dAdd (mB dAdd (mV 1) (mC (.int 3))) (mV 6))) mNil)) (mV 2)))
    (mSeq (mSto (rV 4) (mV 8) (mB dAdd (mB dIx (mV 4) (mV 8)) (mV 7)))
    (mSet 5 (mB dSub (mV 5) (mV 7))))))
theorem weB_v {row : List Int} {at_ n total t : Nat} {l : List Int} {rest : Int} {z7 z8 : Option D} (ht : t < 3) (hrow : Row row) (hr : at_ + 6 < row.length) (hn : 0 < n) (hl : Part n ((total : Int) - rest) l) (h0 : 0 ≤ rest) :
    ∃ l' rest' z7' z8', weB (weS row at_ n total l rest (some (.int (t : Int))) z7 z8) = some (.nx (weS row at_ n total l' rest' (some (.int (t : Int))) z7' z8')) ∧ Part n ((total : Int) - rest') l' ∧ 0 ≤ rest' := by
  obtain ⟨q1, _, _⟩ := row_at hrow (k := at_ + t) (by omega)
  obtain ⟨q2, _, _⟩ := row_at hrow (k := at_ + 3 + t) (by omega)
  have hw := min_bd (a := rest) (b := lAt row (at_ + t) % ((total : Int) + 1)) h0 (Int.emod_nonneg _ (by omega))
  obtain ⟨w, hwe⟩ : ∃ w : Int, hMin rest (lAt row (at_ + t) % ((total : Int) + 1)) = w := ⟨_, rfl⟩
  rw [hwe] at hw
  obtain ⟨j, hj⟩ := nat_of (Int.emod_nonneg (lAt row (at_ + 3 + t)) (b := (n : Int)) (by omega))
  have hjn : j < n := by have := Int.emod_lt_of_pos (lAt row (at_ + 3 + t)) (b := (n : Int)) (by omega); omega
  have hjl : j < l.length := by rw [hl.len]; exact hjn
  have x1 := lAt_some hjl
  have hb := hl.bump hjn hw.1
  refine ⟨l.set j (lAt l j + w), rest - w, some (.int w), some (.int (j : Int)), ?_, ?_, by omega⟩
  · have c1 : (at_ : Int) + (t : Int) = ((at_ + t : Nat) : Int) := by omega
    have c2 : (at_ : Int) + 3 + (t : Int) = ((at_ + 3 + t : Nat) : Int) := by omega
    have m1 : dMod (.int (lAt row (at_ + t))) (.int ((total : Int) + 1)) = some (.int (lAt row (at_ + t) % ((total : Int) + 1))) := dMod_ok (by omega)
    have m2 : dMod (.int (lAt row (at_ + 3 + t))) (.int (n : Int)) = some (.int (j : Int)) := by rw [dMod_ok (by omega), hj]
    have e1 : mSet 7 (mL (dII hMin) (mCons (mV 5) (mCons (mB dMod (mL dInt (mCons (mB dIx (mV 0) (mB dAdd (mV 1) (mV 6))) mNil)) (mB dAdd (mV 3) (mC (.int 1)))) mNil))) (weS row at_ n total l rest (some (.int (t : Int))) z7 z8) = some (.nx (weS row at_ n total l rest (some (.int (t : Int))) (some (.int w)) z8)) := by
      have : atI (row.map D.int) ((at_ : Int) + (t : Int)) = some (.int (lAt row (at_ + t))) := by rw [c1, atI_cast, List.getElem?_map, q1]; rfl
      simp [weS, eI, this, m1]
      exact hwe
    have e2 : mSet 8 (mB dMod (mL dInt (mCons (mB dIx (mV 0) (mB dAdd (mB dAdd (mV 1) (mC (.int 3))) (mV 6))) mNil)) (mV 2)) (weS row at_ n total l rest (some (.int (t : Int))) (some (.int w)) z8) = some (.nx (weS row at_ n total l rest (some (.int (t : Int))) (some (.int w)) (some (.int (j : Int))))) := by
      have : atI (row.map D.int) ((at_ : Int) + 3 + (t : Int)) = some (.int (lAt row (at_ + 3 + t))) := by rw [c2, atI_cast, List.getElem?_map, q2]; rfl
      simp [weS, eI, this, m2]
    unfold weB
    rw [seq_nx e1, seq_nx e2]
    simp [weS, x1, ixN_at hjl]
  · rw [show (total : Int) - (rest - w) = (total : Int) - rest + w by omega]; exact hb
theorem weights_v {row : List Int} {at_ n total : Nat} (hrow : Row row) (hr : at_ + 6 < row.length) (hn : 0 < n) (hn9 : n < 900) : ∃ l, g_law_weights [eI row, .int (at_ : Int), .int (n : Int), .int (total : Int)] = some (.lst true (l.map D.int)) ∧ Full n total l := by
  obtain ⟨ρ', e, l, rest, z6, z7, z8, rfl, hl, h0⟩ := forL_inv (h := gN 6) (body := weB) (l := rngD 0 3) (k := 0) (ρ := weS row at_ n total (List.replicate n 0) (total : Int) none none none)
    (fun k ρ => ∃ l rest z6 z7 z8, ρ = weS row at_ n total l rest (Option.map D.int z6) z7 z8 ∧ Part n ((total : Int) - rest) l ∧ 0 ≤ rest)
    ⟨_, _, none, none, none, rfl, by rw [Int.sub_self]; exact Part.zero, by omega⟩ (fun i d ρ hd => by
      rintro ⟨l, rest, z6, z7, z8, rfl, hl, h0⟩
      obtain ⟨hi, rfl⟩ := rngD_at hd
      have g : gN 6 (.int (0 + (i : Int))) (weS row at_ n total l rest (Option.map D.int z6) z7 z8) = some (weS row at_ n total l rest (some (.int (i : Int))) z7 z8) := by cases z6 <;> simp [weS]
      obtain ⟨l', rest', z7', z8', t, hl', h0'⟩ := weB_v (t := i) (z7 := z7) (z8 := z8) hi hrow hr hn hl h0
      exact ⟨_, by unfold turnK; rw [g, bindS]; exact t, l', rest', some (i : Int), z7', z8', rfl, hl', h0'⟩)
  obtain ⟨q1, _, _⟩ := row_at hrow (k := at_ + 6) (by omega)
  obtain ⟨j, hj⟩ := nat_of (Int.emod_nonneg (lAt row (at_ + 6)) (b := (n : Int)) (by omega))
  have hjn : j < n := by have := Int.emod_lt_of_pos (lAt row (at_ + 6)) (b := (n : Int)) (by omega); omega
  have hjl : j < l.length := by rw [hl.len]; exact hjn
  have x1 := lAt_some hjl
  have hb := hl.bump hjn h0
  refine ⟨l.set j (lAt l j + rest), ?_, Part.full (by rw [show (total : Int) - rest + rest = (total : Int) by omega] at hb; exact hb)⟩
  have em : m_law_weights = (mSeq (mSet 4 (mB dMul (mLst (mCons (mC (.int 0)) mNil)) (mV 2))) (mSeq (mSet 5 (mP (mV 3))) (mSeq (mFor (mRng1 (mCons (mC (.int 3)) mNil)) (gN 6) weB)
    (mSeq (mSet 8 (mB dMod (mL dInt (mCons (mB dIx (mV 0) (mB dAdd (mV 1) (mC (.int 6)))) mNil)) (mV 2))) (mSeq (mSto (rV 4) (mV 8) (mB dAdd (mB dIx (mV 4) (mV 8)) (mV 5))) (mRet (mV 4))))))) := rfl
  have k1 : rng1 [.int 3] = some (rngD 0 3) := rng1_int (by decide)
  have s1 : mSet 4 (mB dMul (mLst (mCons (mC (.int 0)) mNil)) (mV 2)) (([eI row, .int (at_ : Int), .int (n : Int), .int (total : Int)] : List D).map some ++ List.replicate (9 - 4) none) = some (.nx [some (eI row), some (.int (at_ : Int)), some (.int (n : Int)), some (.int (total : Int)), some (.lst true ((List.replicate n (0 : Int)).map D.int)), none, none, none, none]) := by
    have := mulL_zero (n := n) (by omega)
    simp only [mSet_def, mB_def, mLst_def, mCons_def, mC_def, mNil_def, consO_some, bindS, lstO_1, mV_def]
    simp only [List.map_cons, List.map_nil, List.cons_append, List.nil_append, List.getD_cons_succ, List.getD_cons_zero, op2_some, this, bindS]
    simp
  have s2 : mSet 5 (mP (mV 3)) [some (eI row), some (.int (at_ : Int)), some (.int (n : Int)), some (.int (total : Int)), some (.lst true ((List.replicate n (0 : Int)).map D.int)), none, none, none, none] = some (.nx (weS row at_ n total (List.replicate n 0) (total : Int) none none none)) := by simp [weS]
  have s3 : mFor (mRng1 (mCons (mC (.int 3)) mNil)) (gN 6) weB (weS row at_ n total (List.replicate n 0) (total : Int) none none none) = some (.nx (weS row at_ n total l rest (Option.map D.int z6) z7 z8)) := by
    have : mRng1 (mCons (mC (.int 3)) mNil) (weS row at_ n total (List.replicate n 0) (total : Int) none none none) = some (rngD 0 3) := by
      rw [mRng1_def, mCons_def, mC_def, mNil_def, consO_some, bindS, k1]
    rw [mFor_def, this]
    exact e
  have c1 : (at_ : Int) + 6 = ((at_ + 6 : Nat) : Int) := by omega
  have m2 : dMod (.int (lAt row (at_ + 6))) (.int (n : Int)) = some (.int (j : Int)) := by rw [dMod_ok (by omega), hj]
  have s4 : mSet 8 (mB dMod (mL dInt (mCons (mB dIx (mV 0) (mB dAdd (mV 1) (mC (.int 6)))) mNil)) (mV 2)) (weS row at_ n total l rest (Option.map D.int z6) z7 z8) = some (.nx (weS row at_ n total l rest (Option.map D.int z6) z7 (some (.int (j : Int))))) := by
    have : atI (row.map D.int) ((at_ : Int) + 6) = some (.int (lAt row (at_ + 6))) := by rw [c1, atI_cast, List.getElem?_map, q1]; rfl
    simp [weS, eI, this, m2]
  unfold g_law_weights
  rw [run_def, em, seq_nx s1, seq_nx s2, seq_nx s3, seq_nx s4]
  simp [weS, x1, ixN_at hjl]
/-! ### the drawn table -/
structure RAct where
  n : Int
  d : Int
  line : List Int
def eRA (a : RAct) : D := .tup [.int a.n, .int a.d, eI a.line]
def eRs (r : List RAct) : D := .lst false (r.map eRA)
def eRT (T : List (List RAct)) : D := .lst false (T.map eRs)
@[simp] theorem frz_eRA {a : RAct} : frz (eRA a) = true := by simp [eRA]
@[simp] theorem frzL_eRA {r : List RAct} : frzL (r.map eRA) = true := frzL_map fun _ => frz_eRA
@[simp] theorem frz_eRs {r : List RAct} : frz (eRs r) = true := by simp [eRs]
@[simp] theorem frzL_eRs {r : List (List RAct)} : frzL (r.map eRs) = true := frzL_map fun _ => frz_eRs
@[simp] theorem frz_eRT {T : List (List RAct)} : frz (eRT T) = true := by simp [eRT]
@[simp] theorem fzL_eRA {r : List RAct} : fzL (r.map eRA) = r.map eRA := fzL_frz _ frzL_eRA
@[simp] theorem fzL_eRs {r : List (List RAct)} : fzL (r.map eRs) = r.map eRs := fzL_frz _ frzL_eRs
@[simp] theorem fz_eRs {r : List RAct} : fz (eRs r) = eRs r := fz_frz _ frz_eRs
@[simp] theorem fz_eRT {T : List (List RAct)} : fz (eRT T) = eRT T := fz_frz _ frz_eRT
def Drawn (n total : Nat) (T : List (List RAct)) : Prop := ∀ r ∈ T, (0 < r.length ∧ r.length ≤ 3) ∧ ∀ a ∈ r, Full n total a.line
def paS (row : List Int) (n total : Nat) (T : List (List RAct)) (z7 : Option Int) (z8 z9 : Option D) (z10 : Option Int) (z11 z12 : Option D) : Rho :=
  [some (eI row), some (.int 40), some (.int (n : Int)), some (.int 3), some (.int (total : Int)), some (.bl false), some (.lst true (T.map eRs)), z7.map D.int, z8, z9, z10.map D.int, z11, z12, none]
def paI : SM := (mSeq (mSet 11 (mB dAdd (mB dAdd (mV 1) (mV 2)) (mB dMul (mC (.int 9)) (mB dAdd (mB dMul (mV 3) (mV 7)) (mV 10)))))
      (mSeq (mSet 12 (mCallB g_law_weights (mCons (mV 0) (mCons (mV 11) (mCons (mV 2) (mCons (mV 4) mNil))))))
      (mSeq (mIte (mAndB (mTr (mV 5)) (mAndB (mT (mB dEq (mV 10) (mC (.int 0)))) (mT (mB dEq (mB dIx (mV 12) (mV 9)) (mC (.int 0)))))) (mSeq (mSet 13 (mM dIndex (mV 12) (mCons (mL dMaxL (mCons (mV 12) mNil)) mNil)))
        (mSeq (mSto (rV 12) (mV 13) (mB dSub (mB dIx (mV 12) (mV 13)) (mC (.int 1))))
        (mSto (rV 12) (mV 9) (mC (.int 1))))) mNx)
      (mFrz 12 (mApp (rV 8) (mTup (mCons (mB dSub (mB dMod (mL dInt (mCons (mB dIx (mV 0) (mB dAdd (mV 11) (mC (.int 7)))) mNil)) (mC (.int 19))) (mC (.int 6))) (mCons (mB dAdd (mC (.int 1)) (mB dMod (mL dInt (mCons (mB dIx (mV 0) (mB dAdd (mV 11) (mC (.int 8)))) mNil)) (mC (.int 3)))) (mCons (mP (mV 12)) mNil)))))))))
theorem paI_v {row : List Int} {n total s a : Nat} {T : List (List RAct)} {acts : List RAct} {z9 z11 z12 : Option D} (hrow : Row row) (hr : 230 ≤ row.length) (hn : 0 < n) (hn5 : n ≤ 5) (ht : total < 61) (hs : s < n) (ha : a < 3) (hal : acts.length < 10) :
    ∃ (x : RAct) (z11' : Option D), paI (paS row n total T (some (s : Int)) (some (.lst true (acts.map eRA))) z9 (some (a : Int)) z11 z12) = some (.nx (paS row n total T (some (s : Int)) (some (.lst true ((acts ++ [x]).map eRA))) z9 (some (a : Int)) z11' (some (eI x.line)))) ∧ Full n total x.line := by
  obtain ⟨h, hh⟩ : ∃ h : Nat, h = 40 + n + 9 * (3 * s + a) := ⟨_, rfl⟩
  have hb : h + 8 < 230 := by omega
  obtain ⟨q7, _, _⟩ := row_at hrow (k := h + 7) (by omega)
  obtain ⟨q8, _, _⟩ := row_at hrow (k := h + 8) (by omega)
  obtain ⟨l, hw, hf⟩ := weights_v (row := row) (at_ := h) (n := n) (total := total) hrow (by omega) hn (by omega)
  have hc : callB g_law_weights [eI row, .int (h : Int), .int (n : Int), .int (total : Int)] = some (.lst true (l.map D.int)) := callB_of (by simp; exact hw) (by simp)
  refine ⟨⟨lAt row (h + 7) % 19 - 6, 1 + lAt row (h + 8) % 3, l⟩, some (.int (h : Int)), ?_, hf⟩
  have m1 : mulOk 3 (s : Int) := mulOk_of (a := 2) (b := 3) (by decide) (by rw [Int.natAbs_natCast]; omega) (by decide)
  have m2 : mulOk 9 (3 * (s : Int) + (a : Int)) := mulOk_of (a := 4) (b := 5) (by decide) (by omega) (by decide)
  have c0 : (40 : Int) + (n : Int) + 9 * (3 * (s : Int) + (a : Int)) = (h : Int) := by omega
  have c7 : (h : Int) + 7 = ((h + 7 : Nat) : Int) := by omega
  have c8 : (h : Int) + 8 = ((h + 8 : Nat) : Int) := by omega
  have e1 : mSet 11 (mB dAdd (mB dAdd (mV 1) (mV 2)) (mB dMul (mC (.int 9)) (mB dAdd (mB dMul (mV 3) (mV 7)) (mV 10)))) (paS row n total T (some (s : Int)) (some (.lst true (acts.map eRA))) z9 (some (a : Int)) z11 z12) = some (.nx (paS row n total T (some (s : Int)) (some (.lst true (acts.map eRA))) z9 (some (a : Int)) (some (.int (h : Int))) z12)) := by
    simp [paS, m1, m2, dMul_ok, c0]
  have e2 : mSet 12 (mCallB g_law_weights (mCons (mV 0) (mCons (mV 11) (mCons (mV 2) (mCons (mV 4) mNil))))) (paS row n total T (some (s : Int)) (some (.lst true (acts.map eRA))) z9 (some (a : Int)) (some (.int (h : Int))) z12) = some (.nx (paS row n total T (some (s : Int)) (some (.lst true (acts.map eRA))) z9 (some (a : Int)) (some (.int (h : Int))) (some (.lst true (l.map D.int))))) := by
    simp [paS, hc]
  have x7 : atI (row.map D.int) ((h : Int) + 7) = some (.int (lAt row (h + 7))) := by rw [c7, atI_cast, List.getElem?_map, q7]; rfl
  have x8 : atI (row.map D.int) ((h : Int) + 8) = some (.int (lAt row (h + 8))) := by rw [c8, atI_cast, List.getElem?_map, q8]; rfl
  have hlt : acts.length < sizeLine := Nat.lt_of_lt_of_le (by omega : acts.length < 100000) (few (Nat.le_refl _))
  unfold paI
  rw [seq_nx e1, seq_nx e2, seq_nx (ρ' := paS row n total T (some (s : Int)) (some (.lst true (acts.map eRA))) z9 (some (a : Int)) (some (.int (h : Int))) (some (.lst true (l.map D.int)))) (by simp [paS])]
  simp [paS, eI, x7, x8, dMod_ok, hlt, eRA]
def paO : SM := (mSeq (mSet 8 (mLst mNil))
    (mSeq (mSet 9 (mB dMod (mL dInt (mCons (mB dAdd (mV 7) (mC (.int 1))) mNil)) (mV 2)))
    (mSeq (mFor (mRng1 (mCons (mB dAdd (mC (.int 1)) (mB dMod (mL dInt (mCons (mB dIx (mV 0) (mB dAdd (mV 1) (mV 7))) mNil)) (mV 3))) mNil)) (gN 10) paI)
    (mFrz 8 (mApp (rV 6) (mP (mV 8)))))))
theorem paO_v {row : List Int} {n total s : Nat} {T : List (List RAct)} {z8 z9 z11 z12 : Option D} {z10 : Option Int} (hrow : Row row) (hr : 230 ≤ row.length) (hn : 0 < n) (hn5 : n ≤ 5) (ht : total < 61) (hs : s < n) (hT : T.length < 10) (hD : Drawn n total T) :
    ∃ (r : List RAct) (z8' z9' : Option D) (z10' : Option Int) (z11' z12' : Option D), paO (paS row n total T (some (s : Int)) z8 z9 z10 z11 z12) = some (.nx (paS row n total (T ++ [r]) (some (s : Int)) z8' z9' z10' z11' z12')) ∧ Drawn n total (T ++ [r]) := by
  obtain ⟨q, q0, q1⟩ := row_at hrow (k := 40 + s) (by omega)
  obtain ⟨m, hm⟩ := nat_of (x := 1 + lAt row (40 + s) % 3) (by omega)
  have hm3 : 0 < m ∧ m ≤ 3 := by omega
  obtain ⟨ρ', e, acts, z10', z11', z12', rfl, hlen, hacts⟩ := forL_inv (h := gN 10) (body := paI) (l := rngD 0 m) (k := 0) (ρ := paS row n total T (some (s : Int)) (some (.lst true [])) (some (.int (((s : Int) + 1) % (n : Int)))) z10 z11 z12)
    (fun k ρ => ∃ acts z10 z11 z12, ρ = paS row n total T (some (s : Int)) (some (.lst true (List.map eRA acts))) (some (.int (((s : Int) + 1) % (n : Int)))) z10 z11 z12 ∧ acts.length = k ∧ ∀ x ∈ acts, Full n total x.line)
    ⟨[], z10, z11, z12, rfl, rfl, fun x hx => by simp at hx⟩ (fun a d ρ hd => by
      rintro ⟨acts, z10, z11, z12, rfl, hl, hx⟩
      obtain ⟨ha, rfl⟩ := rngD_at hd
      have g : gN 10 (.int (0 + (a : Int))) (paS row n total T (some (s : Int)) (some (.lst true (acts.map eRA))) (some (.int (((s : Int) + 1) % (n : Int)))) z10 z11 z12) = some (paS row n total T (some (s : Int)) (some (.lst true (acts.map eRA))) (some (.int (((s : Int) + 1) % (n : Int)))) (some (a : Int)) z11 z12) := by cases z10 <;> simp [paS]
      obtain ⟨x, z11', t, hf⟩ := paI_v (T := T) (acts := acts) (z9 := some (.int (((s : Int) + 1) % (n : Int)))) (z11 := z11) (z12 := z12) hrow hr hn hn5 ht hs (a := a) (by omega) (by omega)
      refine ⟨_, by unfold turnK; rw [g, bindS]; exact t, acts ++ [x], some (a : Int), z11', some (eI x.line), rfl, by rw [List.length_append, List.length_singleton]; omega, fun y hy => ?_⟩
      rcases List.mem_append.mp hy with h | h
      · exact hx y h
      · rw [List.mem_singleton.mp h]; exact hf)
  rw [rngD_len, Nat.zero_add] at hlen
  have k1 : rng1 [.int (m : Int)] = some (rngD 0 m) := rng1_int (by omega)
  refine ⟨acts, some (eRs acts), some (.int (((s : Int) + 1) % (n : Int))), z10', z11', z12', ?_, fun r hr' => ?_⟩
  · have c1 : (40 : Int) + (s : Int) = ((40 + s : Nat) : Int) := by omega
    have x1 : atI (row.map D.int) ((40 : Int) + (s : Int)) = some (.int (lAt row (40 + s))) := by rw [c1, atI_cast, List.getElem?_map, q]; rfl
    have s1 : mSet 8 (mLst mNil) (paS row n total T (some (s : Int)) z8 z9 z10 z11 z12) = some (.nx (paS row n total T (some (s : Int)) (some (.lst true [])) z9 z10 z11 z12)) := by simp [paS]
    have hn' : (0 : Int) < (n : Int) := by omega
    have md : dMod (.int ((s : Int) + 1)) (.int (n : Int)) = some (.int (((s : Int) + 1) % (n : Int))) := dMod_ok hn'
    have s2 : mSet 9 (mB dMod (mL dInt (mCons (mB dAdd (mV 7) (mC (.int 1))) mNil)) (mV 2)) (paS row n total T (some (s : Int)) (some (.lst true [])) z9 z10 z11 z12) = some (.nx (paS row n total T (some (s : Int)) (some (.lst true [])) (some (.int (((s : Int) + 1) % (n : Int)))) z10 z11 z12)) := by simp [paS, md]
    have s3 : mFor (mRng1 (mCons (mB dAdd (mC (.int 1)) (mB dMod (mL dInt (mCons (mB dIx (mV 0) (mB dAdd (mV 1) (mV 7))) mNil)) (mV 3))) mNil)) (gN 10) paI (paS row n total T (some (s : Int)) (some (.lst true [])) (some (.int (((s : Int) + 1) % (n : Int)))) z10 z11 z12) = some (.nx (paS row n total T (some (s : Int)) (some (.lst true (acts.map eRA))) (some (.int (((s : Int) + 1) % (n : Int)))) z10' z11' z12')) := by
      have : mRng1 (mCons (mB dAdd (mC (.int 1)) (mB dMod (mL dInt (mCons (mB dIx (mV 0) (mB dAdd (mV 1) (mV 7))) mNil)) (mV 3))) mNil) (paS row n total T (some (s : Int)) (some (.lst true [])) (some (.int (((s : Int) + 1) % (n : Int)))) z10 z11 z12) = some (rngD 0 m) := by
        simp [paS, eI, x1, dMod_ok, hm]
        exact k1
      rw [mFor_def, this]
      exact e
    have hlt : T.length < sizeLine := Nat.lt_of_lt_of_le (by omega : T.length < 100000) (few (Nat.le_refl _))
    unfold paO
    rw [seq_nx s1, seq_nx s2, seq_nx s3]
    simp [paS, hlt, eRs]
  · rcases List.mem_append.mp hr' with h | h
    · exact hD r h
    · rw [List.mem_singleton.mp h]
      exact ⟨by omega, hacts⟩
theorem plain_v {row : List Int} {n total : Nat} (hrow : Row row) (hr : 230 ≤ row.length) (hn : 0 < n) (hn5 : n ≤ 5) (ht : total < 61) : ∃ T, g_law_plain [eI row, .int 40, .int (n : Int), .int 3, .int (total : Int), .bl false] = some (.lst true (T.map eRs)) ∧ Drawn n total T ∧ T.length = n := by
  obtain ⟨ρ', e, T, z7, z8, z9, z10, z11, z12, rfl, hlen, hD⟩ := forL_inv (h := gN 7) (body := paO) (l := rngD 0 n) (k := 0) (ρ := paS row n total [] none none none none none none)
    (fun k ρ => ∃ T z7 z8 z9 z10 z11 z12, ρ = paS row n total T z7 z8 z9 z10 z11 z12 ∧ T.length = k ∧ Drawn n total T)
    ⟨[], none, none, none, none, none, none, rfl, rfl, fun r hr => by simp at hr⟩ (fun s d ρ hd => by
      rintro ⟨T, z7, z8, z9, z10, z11, z12, rfl, hl, hD⟩
      obtain ⟨hs, rfl⟩ := rngD_at hd
      have g : gN 7 (.int (0 + (s : Int))) (paS row n total T z7 z8 z9 z10 z11 z12) = some (paS row n total T (some (s : Int)) z8 z9 z10 z11 z12) := by cases z7 <;> simp [paS]
      obtain ⟨r, z8', z9', z10', z11', z12', t, hD'⟩ := paO_v (T := T) (z8 := z8) (z9 := z9) (z10 := z10) (z11 := z11) (z12 := z12) hrow hr hn hn5 ht hs (by omega) hD
      exact ⟨_, by unfold turnK; rw [g, bindS]; exact t, T ++ [r], some (s : Int), z8', z9', z10', z11', z12', rfl, by rw [List.length_append, List.length_singleton]; omega, hD'⟩)
  rw [rngD_len, Nat.zero_add] at hlen
  refine ⟨T, ?_, hD, hlen⟩
  have k1 : rng1 [.int (n : Int)] = some (rngD 0 n) := rng1_int (by omega)
  have em : m_law_plain = (mSeq (mSet 6 (mLst mNil)) (mSeq (mFor (mRng1 (mCons (mV 2) mNil)) (gN 7) paO) (mRet (mV 6)))) := rfl
  unfold g_law_plain
  rw [run_def, em, seq_nx (ρ' := paS row n total [] none none none none none none) (by simp [paS])]
  have s1 : mFor (mRng1 (mCons (mV 2) mNil)) (gN 7) paO (paS row n total [] none none none none none none) = some (.nx (paS row n total T z7 z8 z9 z10 z11 z12)) := by
    have : mRng1 (mCons (mV 2) mNil) (paS row n total [] none none none none none none) = some (rngD 0 n) := by
      simp [paS, k1]
    rw [mFor_def, this]
    exact e
  rw [seq_nx s1]
  simp [paS]
end K64

set_option Elab.async false
set_option linter.all false
set_option maxRecDepth 100000
set_option maxHeartbeats 4000000
/-! K64F: lines kept inside, means, the chosen lines. -/
namespace K64
open PySem L2 R
def eN (l : List Nat) : D := .lst false (l.map fun (t : Nat) => D.int (t : Int))
@[simp] theorem frz_eN {l : List Nat} : frz (eN l) = true := by unfold eN; rw [frz_lst, Bool.not_false, Bool.true_and]; exact frzL_map fun _ => rfl
@[simp] theorem fz_eN {l : List Nat} : fz (eN l) = eN l := fz_frz _ frz_eN
def keS (l : List Int) (ins : List Nat) (k : List Int) (z3 : Option Int) (z4 : Option D) : Rho := [some (eI l), some (eN ins), some (.lst true (k.map D.int)), z3.map D.int, z4]
def keB : SM := (mSeq (mSet 4 (mP (mB dIx (mV 1) (mB dMod (mL dInt (mCons (mV 3) mNil)) (mL dLen (mCons (mV 1) mNil))))))
    (mSto (rV 2) (mV 4) (mB dAdd (mB dIx (mV 2) (mV 4)) (mB dIx (mV 0) (mV 3)))))
theorem nAt_some {l : List Nat} {t : Nat} (h : t < l.length) : l[t]? = some (l.getD t 0) := by
  rw [List.getD_eq_getElem?_getD, List.getElem?_eq_getElem h]; rfl
theorem kept_v {n : Nat} {l : List Int} {ins : List Nat} (hn9 : n < 900) (hl : l.length = n) (hnn : ∀ i, i < n → 0 ≤ lAt l i) (hi0 : 0 < ins.length) (hi1 : ins.length < 1000) (hi : ∀ t ∈ ins, t < n) :
    ∃ k, g_law_kept [eI l, eN ins] = some (.lst true (k.map D.int)) ∧ Part n (sumI n (lAt l)) k ∧ ∀ i, i < n → lAt k i ≠ 0 → i ∈ ins := by
  obtain ⟨ρ', e, k, z3, z4, rfl, hk, hs⟩ := forL_inv (h := gN 3) (body := keB) (l := rngD 0 n) (k := 0) (ρ := keS l ins (List.replicate n 0) none none)
    (fun j ρ => ∃ k z3 z4, ρ = keS l ins k z3 z4 ∧ Part n (sumI j (lAt l)) k ∧ ∀ i, i < n → lAt k i ≠ 0 → i ∈ ins)
    ⟨_, none, none, rfl, Part.zero, fun i _ h => absurd (by unfold lAt; rw [List.getD_eq_getElem?_getD, List.getElem?_replicate]; split <;> rfl) h⟩ (fun t d ρ hd => by
      rintro ⟨k, z3, z4, rfl, hk, hs⟩
      obtain ⟨ht, rfl⟩ := rngD_at hd
      have g : gN 3 (.int (0 + (t : Int))) (keS l ins k z3 z4) = some (keS l ins k (some (t : Int)) z4) := by cases z3 <;> simp [keS]
      obtain ⟨j, hj⟩ := nat_of (Int.emod_nonneg (t : Int) (b := (ins.length : Int)) (by omega))
      have hjl : j < ins.length := by have := Int.emod_lt_of_pos (t : Int) (b := (ins.length : Int)) (by omega); omega
      obtain ⟨p, hp⟩ : ∃ p, ins[j]? = some p := ⟨_, List.getElem?_eq_getElem hjl⟩
      have hpm := List.mem_of_getElem? hp
      have hpn := hi p hpm
      have hpk : p < k.length := by rw [hk.len]; exact hpn
      have x1 := lAt_some (v := l) (t := t) (by omega)
      have x2 := lAt_some hpk
      have m1 : dMod (.int (t : Int)) (.int (ins.length : Int)) = some (.int (j : Int)) := by rw [dMod_ok (by omega), hj]
      have e1 : mSet 4 (mP (mB dIx (mV 1) (mB dMod (mL dInt (mCons (mV 3) mNil)) (mL dLen (mCons (mV 1) mNil))))) (keS l ins k (some (t : Int)) z4) = some (.nx (keS l ins k (some (t : Int)) (some (.int (p : Int))))) := by
        simp [keS, eN, m1, hp]
      have t1 : keB (keS l ins k (some (t : Int)) z4) = some (.nx (keS l ins (k.set p (lAt k p + lAt l t)) (some (t : Int)) (some (.int (p : Int))))) := by
        unfold keB
        rw [seq_nx e1]
        simp [keS, eI, x1, x2, ixN_at hpk]
      refine ⟨_, by unfold turnK; rw [g, bindS]; exact t1, _, some (t : Int), _, rfl, ?_, fun i hi' h => ?_⟩
      · rw [Nat.zero_add, sumI_s]
        have := hk.bump hpn (hnn t ht)
        rw [Nat.zero_add] at this
        exact this
      · rw [lAt_bump hpk] at h
        by_cases e : i = p
        · rw [e]; exact hpm
        · rw [if_neg e, Int.add_zero] at h
          exact hs i hi' h)
  rw [rngD_len, Nat.zero_add] at hk
  refine ⟨k, ?_, hk, hs⟩
  have k1 : rng1 [.int (n : Int)] = some (rngD 0 n) := rng1_int (by omega)
  have em : m_law_kept = (mSeq (mSet 2 (mB dMul (mLst (mCons (mC (.int 0)) mNil)) (mL dLen (mCons (mV 0) mNil)))) (mSeq (mFor (mRng1 (mCons (mL dLen (mCons (mV 0) mNil)) mNil)) (gN 3) keB) (mRet (mV 2)))) := rfl
  have s1 : mSet 2 (mB dMul (mLst (mCons (mC (.int 0)) mNil)) (mL dLen (mCons (mV 0) mNil))) (([eI l, eN ins] : List D).map some ++ List.replicate (5 - 2) none) = some (.nx (keS l ins (List.replicate n 0) none none)) := by
    have hz := mulL_zero (n := n) (by omega)
    have h1 : mL dLen (mCons (mV 0) mNil) (([eI l, eN ins] : List D).map some ++ List.replicate (5 - 2) none) = some (.int (n : Int)) := by simp [eI, hl]
    have h2 : mLst (mCons (mC (.int 0)) mNil) (([eI l, eN ins] : List D).map some ++ List.replicate (5 - 2) none) = some (.lst true [.int 0]) := by simp
    rw [mSet_def, mB_def, h1, h2, op2_some, hz]
    simp [keS]
  have s2 : mFor (mRng1 (mCons (mL dLen (mCons (mV 0) mNil)) mNil)) (gN 3) keB (keS l ins (List.replicate n 0) none none) = some (.nx (keS l ins k z3 z4)) := by
    have : mRng1 (mCons (mL dLen (mCons (mV 0) mNil)) mNil) (keS l ins (List.replicate n 0) none none) = some (rngD 0 n) := by
      simp [keS, eI, hl, k1]
    rw [mFor_def, this]
    exact e
  unfold g_law_kept
  rw [run_def, em, seq_nx s1, seq_nx s2]
  simp [keS]
/-! ### the law's mean -/
def mterm (total : Nat) (l : List Int) (v : List Rat) (t : Nat) : Rat := mkRat (lAt l t) total * vAt v t
def meB : SM := (mIte (mT (mB dGt (mB dIx (mV 0) (mV 4)) (mC (.int 0)))) (mSet 3 (mCallB g_law_sum (mCons (mV 3) (mCons (mCallB g_law_product (mCons (mCallB g_law_lowest (mCons (mB dIx (mV 0) (mV 4)) (mCons (mV 2) mNil))) (mCons (mB dIx (mV 1) (mV 4)) mNil))) mNil)))) mNx)
def meS (l : List Int) (v : List Rat) (total : Nat) (q : Rat) (z4 : Option Int) : Rho := [some (eI l), some (eV v), some (.int (total : Int)), some (fr q), z4.map D.int]
theorem mean_v {n total k B : Nat} {l : List Int} {v : List Rat} (hn9 : n < 900) (hL : LineOk n total l) (h0 : 0 < total) (h61 : total < 61) (hv : v.length = n) (hq : ∀ x ∈ v, Lvl k B x) (hk : k ≤ 8) (hB : B ≤ 50000) :
    ∃ q, g_law_mean [eI l, eV v, .int (total : Int)] = some (fr q) ∧ (total : Rat) * q = dot l v ∧ Lvl (1 + k) (90 + B + n) q := by
  have hl := hL.1
  have lt : ∀ t, t < n → Lvl (1 + k) (90 + B) (mterm total l v t) := fun t ht => (Lvl.frac h0 h61 (hL.small h61 (by omega))).mul (hq _ (vAt_mem (by omega)))
  refine ⟨sumR n (mterm total l v), ?_, ?_, Lvl.sum lt⟩
  · obtain ⟨ρ', e, z4, rfl⟩ := forL_inv (h := gN 4) (body := meB) (l := rngD 0 n) (k := 0) (ρ := meS l v total 0 none) (fun j ρ => ∃ z4, ρ = meS l v total (sumR j (mterm total l v)) z4) ⟨none, rfl⟩ (fun t d ρ hd => by
      rintro ⟨z4, rfl⟩
      obtain ⟨ht, rfl⟩ := rngD_at hd
      have g : gN 4 (.int (0 + (t : Int))) (meS l v total (sumR (0 + t) (mterm total l v)) z4) = some (meS l v total (sumR (0 + t) (mterm total l v)) (some (t : Int))) := by cases z4 <;> simp [meS]
      have x1 := lAt_some (v := l) (t := t) (by omega)
      have x2 := vAt_some (v := v) (t := t) (by omega)
      have hs := Lvl.sum (n := 0 + t) (k := 1 + k) (b := 90 + B) (f := mterm total l v) fun i hi => lt i (by omega)
      refine ⟨meS l v total (sumR (0 + t + 1) (mterm total l v)) (some (t : Int)), ?_, some (t : Int), rfl⟩
      unfold turnK
      rw [g, bindS]
      by_cases hp : 0 < lAt l t
      · have c1 : callB g_law_lowest [.int (lAt l t), .int (total : Int)] = some (fr (mkRat (lAt l t) total)) := by
          have := c_low (n := lAt l t) (d := (total : Int)) (by omega) (by omega)
          rwa [Int.toNat_natCast] at this
        have c2 := c_of (product_v ((Lvl.frac (n := lAt l t) h0 h61 (hL.small h61 (by omega))).sz (by decide) (by decide)) ((hq _ (vAt_mem (v := v) (t := t) (by omega))).sz (by omega) (by omega))) (by simp)
        have c3 := c_of (sum_v (hs.sz (by omega) (by omega)) ((lt t ht).sz (by omega) (by omega))) (by simp)
        unfold mterm at c3
        simp [meB, meS, eI, eV, x1, x2, hp, c1, c2, sumR_s]
        unfold mterm
        simp at c3
        simp [c3]
      · have hz : lAt l t = 0 := by have := (hL.2 _ (lAt_mem (t := t) (by omega))).1; omega
        have hm : mterm total l v t = 0 := by unfold mterm; rw [hz, Rat.zero_mkRat, Rat.zero_mul]
        simp [meB, meS, eI, x1, hp, sumR_s, hm, Rat.add_zero])
    rw [rngD_len, Nat.zero_add] at e
    have k1 : rng1 [.int (n : Int)] = some (rngD 0 n) := rng1_int (by omega)
    have em : m_law_mean = (mSeq (mSet 3 (mTup (mCons (mC (.int 0)) (mCons (mC (.int 1)) mNil)))) (mSeq (mFor (mRng1 (mCons (mL dLen (mCons (mV 0) mNil)) mNil)) (gN 4) meB) (mRet (mV 3)))) := rfl
    have s1 : mSet 3 (mTup (mCons (mC (.int 0)) (mCons (mC (.int 1)) mNil))) (([eI l, eV v, .int (total : Int)] : List D).map some ++ List.replicate (5 - 3) none) = some (.nx (meS l v total 0 none)) := by
      have : fr 0 = .tup [.int 0, .int 1] := rfl
      simp [meS, this]
    have s2 : mFor (mRng1 (mCons (mL dLen (mCons (mV 0) mNil)) mNil)) (gN 4) meB (meS l v total 0 none) = some (.nx (meS l v total (sumR n (mterm total l v)) z4)) := by
      have : mRng1 (mCons (mL dLen (mCons (mV 0) mNil)) mNil) (meS l v total 0 none) = some (rngD 0 n) := by
        simp [meS, eI, hl, k1]
      rw [mFor_def, this]
      exact e
    unfold g_law_mean
    rw [run_def, em, seq_nx s1, seq_nx s2]
    simp [meS]
  · unfold dot
    rw [hl, ← sumR_mul]
    refine sumR_congr fun t _ => ?_
    have e := scale_mk (d := total) (m := 1) (x := lAt l t) (by omega)
    rw [Nat.mul_one] at e
    unfold mterm
    rw [← Rat.mul_assoc, e]
    simp [Rat.mul_one]
/-! ### the chosen lines -/
theorem vAt_set {v : List Rat} {t j : Nat} {x : Rat} (h : j < v.length) : vAt (v.set j x) t = if j = t then x else vAt v t := by
  unfold vAt
  rw [List.getD_eq_getElem?_getD, List.getD_eq_getElem?_getD, List.getElem?_set]
  split
  · next e => subst e; simp [h]
  · rfl
theorem dot_set {l : List Int} {v : List Rat} {j : Nat} {x : Rat} (h : j < v.length) (hz : lAt l j = 0) : dot l (v.set j x) = dot l v := by
  unfold dot
  refine sumR_congr fun t _ => ?_
  rw [vAt_set h]
  by_cases e : j = t
  · subst e; rw [hz]; simp [Rat.zero_mul]
  · rw [if_neg e]
/-- a line over places of one value -/
theorem dot_flat {n total : Nat} {l : List Int} {v : List Rat} {c : Rat} (h : Full n total l) (hc : ∀ t, t < n → lAt l t ≠ 0 → vAt v t = c) : dot l v = (total : Rat) * c := by
  unfold dot
  rw [h.len, sumR_congr (g := fun t => c * ((lAt l t : Int) : Rat)) fun t ht => by
    by_cases e : lAt l t = 0
    · rw [e]; simp [Rat.zero_mul, Rat.mul_zero]
    · rw [hc t ht e]; grind]
  rw [sumR_mul, ← sumR_cast, h.sum, Rat.intCast_natCast, Rat.mul_comm]
def rrow (T : List (List RAct)) (s : Nat) : List RAct := T.getD s []
def ract (r : List RAct) (a : Nat) : RAct := r.getD a ⟨0, 1, []⟩
theorem rrow_some {T : List (List RAct)} {s : Nat} (h : s < T.length) : T[s]? = some (rrow T s) := by
  unfold rrow
  rw [List.getD_eq_getElem?_getD, List.getElem?_eq_getElem h]; rfl
theorem ract_some {T : List RAct} {s : Nat} (h : s < T.length) : T[s]? = some (ract T s) := by
  unfold ract
  rw [List.getD_eq_getElem?_getD, List.getElem?_eq_getElem h]; rfl
theorem mem_rrow {T : List (List RAct)} {s : Nat} (h : s < T.length) : rrow T s ∈ T := List.mem_of_getElem? (rrow_some h)
theorem mem_ract {T : List RAct} {s : Nat} (h : s < T.length) : ract T s ∈ T := List.mem_of_getElem? (ract_some h)
/-- what is drawn -/
structure Dr (n total : Nat) (T : List (List RAct)) (block pol : List Int) (lows : List Rat) : Prop where
  n0 : 0 < n
  n5 : n ≤ 5
  t0 : 0 < total
  t1 : total < 61
  dT : Drawn n total T
  lT : T.length = n
  lb : block.length = n
  vb : ∀ t, t < n → 0 ≤ lAt block t ∧ lAt block t < 3
  zb : ∃ t, t < n ∧ lAt block t = 0
  lp : pol.length = n
  vp : ∀ s, s < n → 0 ≤ lAt pol s ∧ lAt pol s < ((rrow T s).length : Int)
  ll : lows.length = 2
  vl : ∀ x ∈ lows, Lvl 1 100 x
def inB (block : List Int) (s t : Nat) : Bool := if lAt block s = 2 then decide (lAt block t < 2) || decide (t < s) else decide (lAt block t = lAt block s)
def insOf (n : Nat) (block : List Int) (s : Nat) : List Nat := (List.range n).filter (inB block s)
def lowOf (block : List Int) (lows : List Rat) (t : Nat) : Rat := vAt lows (lAt block t % 2).toNat
structure ChI (n total : Nat) (block : List Int) (lows : List Rat) (s : Nat) (cs : List Rat) (lns : List (List Int)) : Prop where
  cl : cs.length = n
  cf : ∀ t, t < n → lAt block t < 2 → vAt cs t = lowOf block lows t
  cq : ∀ x ∈ cs, Lvl (1 + s) (100 + s * 1000) x
  ll : lns.length = s
  full : ∀ j l, lns[j]? = some l → Full n total l ∧ (∀ t, t < n → lAt l t ≠ 0 → t ∈ insOf n block j) ∧ dot l cs = (total : Rat) * vAt cs j
def chS (T : List (List RAct)) (block pol : List Int) (lows : List Rat) (total n : Nat) (cs : List Rat) (z7 : Option Int) (lns : List (List Int)) (z9 z11 : Option D) : Rho :=
  [some (eRT T), some (eI block), some (eI pol), some (eV lows), some (.int (total : Int)), some (.int (n : Int)), some (.lst true (cs.map fr)), z7.map D.int, some (.lst true (lns.map eI)), z9, none, z11]
def ch9 : SM := (mSet 9 (mLc (mRng1 (mCons (mV 5) mNil)) [10] (gN 10) (mT (mB dEq (mB dIx (mV 1) (mV 10)) (mB dIx (mV 1) (mV 7)))) (mP (mV 10))))
def ch9b : SM := (mIte (mT (mB dEq (mB dIx (mV 1) (mV 7)) (mC (.int 2)))) (mSet 9 (mLc (mRng1 (mCons (mV 5) mNil)) [10] (gN 10) (mOrB (mT (mB dLt (mB dIx (mV 1) (mV 10)) (mC (.int 2)))) (mT (mB dLt (mV 10) (mV 7)))) (mP (mV 10)))) mNx)
def ch11 : SM := (mSet 11 (mCallB g_law_kept (mCons (mB dIx (mB dIx (mB dIx (mV 0) (mV 7)) (mB dIx (mV 2) (mV 7))) (mC (.int 2))) (mCons (mV 9) mNil))))
def ch6 : SM := (mIte (mT (mB dEq (mB dIx (mV 1) (mV 7)) (mC (.int 2)))) (mSto (rV 6) (mV 7) (mCallB g_law_mean (mCons (mV 11) (mCons (mV 6) (mCons (mV 4) mNil))))) mNx)
def chB : SM := (mSeq ch9 (mSeq ch9b (mSeq ch11 (mSeq ch6 (mFrz 11 (mApp (rV 8) (mP (mV 11))))))))
theorem filt_v {T : List (List RAct)} {block pol : List Int} {lows : List Rat} {total n : Nat} {cs : List Rat} {s : Nat} {lns : List (List Int)} {z9 z11 : Option D} {bt : BM} {p : Nat → Bool} (hn : n < 900)
    (hb : ∀ t, t < n → bt ((chS T block pol lows total n cs (some (s : Int)) lns z9 z11).set 10 (some (.int (t : Int)))) = some (p t)) :
    mSet 9 (mLc (mRng1 (mCons (mV 5) mNil)) [10] (gN 10) bt (mP (mV 10))) (chS T block pol lows total n cs (some (s : Int)) lns z9 z11) = some (.nx (chS T block pol lows total n cs (some (s : Int)) lns (some (.lst true (((List.range n).filter p).map fun (t : Nat) => D.int (t : Int)))) z11)) := by
  have hL : (List.range n).length ≤ sizeLine := few (by rw [List.length_range]; omega)
  have hr : rng1 [.int (n : Int)] = some (rngD 0 n) := rng1_int (by omega)
  have s1 : mRng1 (mCons (mV 5) mNil) (chS T block pol lows total n cs (some (s : Int)) lns z9 z11) = some ((List.range n).map fun (t : Nat) => D.int (t : Int)) := by
    rw [← rngD0]
    simp [chS, hr]
  have s2 : lcL (gN 10) bt (mP (mV 10)) (chS T block pol lows total n cs (some (s : Int)) lns z9 z11) ((List.range n).map fun (t : Nat) => D.int (t : Int)) = some (((List.range n).filter p).map fun (t : Nat) => D.int (t : Int)) :=
    lcL_filterOn fun t ht => ⟨(chS T block pol lows total n cs (some (s : Int)) lns z9 z11).set 10 (some (.int (t : Int))), by simp [chS], hb t (List.mem_range.mp ht), fun _ => by simp [chS]⟩
  have s3 : (chS T block pol lows total n cs (some (s : Int)) lns z9 z11).set 10 none = chS T block pol lows total n cs (some (s : Int)) lns z9 z11 := rfl
  rw [mSet_def, mLc_def, s1, bindS, wipeO_cons, wipeO_nil, bindS, if_pos (by simp [chS]), bindS, if_pos (by rw [List.length_map]; exact hL), s3, s2]
  simp [chS]
theorem ins_mem {n s t : Nat} {block : List Int} : t ∈ insOf n block s ↔ t < n ∧ inB block s t = true := by
  unfold insOf
  rw [List.mem_filter, List.mem_range]
theorem chB_v {T : List (List RAct)} {block pol : List Int} {lows : List Rat} {total n : Nat} {cs : List Rat} {s : Nat} {lns : List (List Int)} {z9 z11 : Option D} (W : Dr n total T block pol lows) (hs : s < n) (I : ChI n total block lows s cs lns) :
    ∃ cs' ln z9' z11', chB (chS T block pol lows total n cs (some (s : Int)) lns z9 z11) = some (.nx (chS T block pol lows total n cs' (some (s : Int)) (lns ++ [ln]) z9' z11')) ∧ ChI n total block lows (s + 1) cs' (lns ++ [ln]) := by
  have hn5 := W.n5
  have hlT := W.lT
  have hsT : s < T.length := by omega
  have xb := lAt_some (v := block) (t := s) (by rw [W.lb]; exact hs)
  have xp := lAt_some (v := pol) (t := s) (by rw [W.lp]; exact hs)
  have xr := rrow_some hsT
  obtain ⟨a, ha⟩ := nat_of (W.vp s hs).1
  have hal := (W.vp s hs).2
  rw [ha] at hal
  have hal' : a < (rrow T s).length := by omega
  have xa := ract_some hal'
  have hF := (W.dT _ (mem_rrow hsT)).2 _ (mem_ract hal')
  have hbt : ∀ t, t < n → block[t]? = some (lAt block t) := fun t ht => lAt_some (by rw [W.lb]; exact ht)
  have f1 : ch9 (chS T block pol lows total n cs (some (s : Int)) lns z9 z11) = some (.nx (chS T block pol lows total n cs (some (s : Int)) lns (some (.lst true (((List.range n).filter fun t => decide (lAt block t = lAt block s)).map fun (t : Nat) => D.int (t : Int)))) z11)) := by
    refine filt_v (by omega) fun t ht => ?_
    simp [chS, eI, xb, hbt t ht]
  have f2 : ∀ z, ch9b (chS T block pol lows total n cs (some (s : Int)) lns (some (.lst true (((List.range n).filter fun t => decide (lAt block t = lAt block s)).map fun (t : Nat) => D.int (t : Int)))) z) = some (.nx (chS T block pol lows total n cs (some (s : Int)) lns (some (.lst true ((insOf n block s).map fun (t : Nat) => D.int (t : Int)))) z)) := by
    intro z
    by_cases h2 : lAt block s = 2
    · have ht : (mT (mB dEq (mB dIx (mV 1) (mV 7)) (mC (.int 2)))) (chS T block pol lows total n cs (some (s : Int)) lns (some (.lst true (((List.range n).filter fun t => decide (lAt block t = lAt block s)).map fun (t : Nat) => D.int (t : Int)))) z) = some true := by simp [chS, eI, xb, h2]
      unfold ch9b
      rw [mIte_def, ht, iteO_true, filt_v (p := inB block s) (by omega) fun t ht => ?_]
      · rfl
      · by_cases h3 : lAt block t < 2
        · simp [chS, eI, hbt t ht, h3, inB, h2]
        · simp [chS, eI, hbt t ht, h3, inB, h2]
    · have ht : (mT (mB dEq (mB dIx (mV 1) (mV 7)) (mC (.int 2)))) (chS T block pol lows total n cs (some (s : Int)) lns (some (.lst true (((List.range n).filter fun t => decide (lAt block t = lAt block s)).map fun (t : Nat) => D.int (t : Int)))) z) = some false := by simp [chS, eI, xb, h2]
      have hi : (fun t => decide (lAt block t = lAt block s)) = inB block s := by
        funext t; unfold inB; rw [if_neg h2]
      unfold ch9b
      rw [mIte_def, ht, iteO_false, hi]
      rfl
  have hins0 : 0 < (insOf n block s).length := by
    rw [List.length_pos_iff_exists_mem]
    by_cases h2 : lAt block s = 2
    · obtain ⟨t, ht, hz⟩ := W.zb
      exact ⟨t, ins_mem.mpr ⟨ht, by unfold inB; rw [if_pos h2, hz]; rfl⟩⟩
    · exact ⟨s, ins_mem.mpr ⟨hs, by unfold inB; rw [if_neg h2]; simp⟩⟩
  have hins1 : (insOf n block s).length < 1000 := by
    have := List.length_filter_le (inB block s) (List.range n)
    rw [List.length_range] at this
    unfold insOf; omega
  obtain ⟨k, hk, hkp, hks⟩ := kept_v (l := (ract (rrow T s) a).line) (ins := insOf n block s) (by omega) hF.len hF.nn hins0 hins1 (fun t ht => (ins_mem.mp ht).1)
  have hkF : Full n total k := Part.full (by rw [hF.sum] at hkp; exact hkp)
  have hcall : callB g_law_kept [eI (ract (rrow T s) a).line, .lst true ((insOf n block s).map fun (t : Nat) => D.int (t : Int))] = some (.lst true (k.map D.int)) := by
    refine callB_of ?_ (by simp)
    have : fz (.lst true ((insOf n block s).map fun (t : Nat) => D.int (t : Int))) = eN (insOf n block s) := by
      unfold eN
      rw [fz_lst, fzL_mapf fun _ => rfl]
    simp only [fzL_cons, fzL_nil, this, fz_eI]
    exact hk
  have f3 : ch11 (chS T block pol lows total n cs (some (s : Int)) lns (some (.lst true ((insOf n block s).map fun (t : Nat) => D.int (t : Int)))) z11) = some (.nx (chS T block pol lows total n cs (some (s : Int)) lns (some (.lst true ((insOf n block s).map fun (t : Nat) => D.int (t : Int)))) (some (.lst true (k.map D.int))))) := by
    simp [ch11, chS, eI, xp, ha, eRT, xr, eRs, xa, eRA] at hcall ⊢
    simp [hcall]
  have hlt : lns.length < sizeLine := Nat.lt_of_lt_of_le (by have := I.ll; omega : lns.length < 100000) (few (Nat.le_refl _))
  have hcsl : s < cs.length := by rw [I.cl]; exact hs
  by_cases h2 : lAt block s = 2
  · obtain ⟨q, hm, hq, hql⟩ := mean_v (k := 1 + s) (B := 100 + s * 1000) (l := k) (v := cs) (by omega) hkF.ok W.t0 W.t1 I.cl I.cq (by omega) (by omega)
    have hmc : callB g_law_mean [.lst true (k.map D.int), .lst true (cs.map fr), .int (total : Int)] = some (fr q) := callB_of (by simp; exact hm) tf_fr
    have f4 : ch6 (chS T block pol lows total n cs (some (s : Int)) lns (some (.lst true ((insOf n block s).map fun (t : Nat) => D.int (t : Int)))) (some (.lst true (k.map D.int)))) = some (.nx (chS T block pol lows total n (cs.set s q) (some (s : Int)) lns (some (.lst true ((insOf n block s).map fun (t : Nat) => D.int (t : Int)))) (some (.lst true (k.map D.int))))) := by
      simp [ch6, chS, eI, xb, h2, hmc, ixN_at hcsl]
    have hsn : ∀ j, j ≤ s → inB block j s = true → False := by
      intro j hj h
      unfold inB at h
      split at h
      · simp at h; omega
      · simp at h; omega
    have hout : ∀ j l, j ≤ s → (∀ t, t < n → lAt l t ≠ 0 → t ∈ insOf n block j) → lAt l s = 0 := by
      intro j l hj h
      by_cases e : lAt l s = 0
      · exact e
      · exact absurd (ins_mem.mp (h s hs e)).2 fun h' => hsn j hj h'
    refine ⟨cs.set s q, k, some (.lst true ((insOf n block s).map fun (t : Nat) => D.int (t : Int))), some (eI k), ?_, ⟨by rw [List.length_set]; exact I.cl, fun t ht hb => ?_, fun x hx => ?_, by rw [List.length_append, List.length_singleton, I.ll], fun j l hl => ?_⟩⟩
    · unfold chB
      rw [seq_nx f1, seq_nx (f2 z11), seq_nx f3, seq_nx f4]
      simp [chS, eI, hlt]
    · rw [vAt_set hcsl, if_neg (fun e => by subst e; omega)]
      exact I.cf t ht hb
    · rcases List.mem_or_eq_of_mem_set hx with h | rfl
      · exact (I.cq x h).to (by omega) (by omega)
      · exact hql.to (by omega) (by omega)
    · by_cases hj : j < lns.length
      · rw [List.getElem?_append_left hj] at hl
        obtain ⟨h1, h2', h3⟩ := I.full j l hl
        have hjs : j < s := by have := I.ll; omega
        refine ⟨h1, h2', ?_⟩
        rw [dot_set hcsl (hout j l (by omega) h2'), h3, vAt_set hcsl, if_neg (by omega)]
      · have hjs : j = s := by
          have := (List.getElem?_eq_some_iff.mp hl).1
          rw [List.length_append, List.length_singleton] at this
          have := I.ll; omega
        subst hjs
        have : l = k := by
          rw [List.getElem?_append_right (by have := I.ll; omega), I.ll, Nat.sub_self] at hl
          simpa using hl.symm
        subst this
        refine ⟨hkF, hks, ?_⟩
        rw [dot_set hcsl (hout j l (Nat.le_refl _) hks), vAt_set hcsl, if_pos rfl, hq]
  · have f4 : ch6 (chS T block pol lows total n cs (some (s : Int)) lns (some (.lst true ((insOf n block s).map fun (t : Nat) => D.int (t : Int)))) (some (.lst true (k.map D.int)))) = some (.nx (chS T block pol lows total n cs (some (s : Int)) lns (some (.lst true ((insOf n block s).map fun (t : Nat) => D.int (t : Int)))) (some (.lst true (k.map D.int))))) := by
      simp [ch6, chS, eI, xb, h2]
    have hvb := W.vb s hs
    refine ⟨cs, k, some (.lst true ((insOf n block s).map fun (t : Nat) => D.int (t : Int))), some (eI k), ?_, ⟨I.cl, I.cf, fun x hx => (I.cq x hx).to (by omega) (by omega), by rw [List.length_append, List.length_singleton, I.ll], fun j l hl => ?_⟩⟩
    · unfold chB
      rw [seq_nx f1, seq_nx (f2 z11), seq_nx f3, seq_nx f4]
      simp [chS, eI, hlt]
    · by_cases hj : j < lns.length
      · rw [List.getElem?_append_left hj] at hl
        exact I.full j l hl
      · have hjs : j = s := by
          have := (List.getElem?_eq_some_iff.mp hl).1
          rw [List.length_append, List.length_singleton] at this
          have := I.ll; omega
        subst hjs
        have : l = k := by
          rw [List.getElem?_append_right (by have := I.ll; omega), I.ll, Nat.sub_self] at hl
          simpa using hl.symm
        subst this
        refine ⟨hkF, hks, dot_flat hkF fun t ht hne => ?_⟩
        have hin := (ins_mem.mp (hks t ht hne)).2
        unfold inB at hin
        rw [if_neg h2] at hin
        have hbe : lAt block t = lAt block j := by simpa using hin
        rw [I.cf t ht (by omega), I.cf j hs (by omega)]
        unfold lowOf
        rw [hbe]
theorem chosen_v {T : List (List RAct)} {block pol : List Int} {lows : List Rat} {total n : Nat} (W : Dr n total T block pol lows) :
    ∃ cs lns, g_law_chosen [eRT T, eI block, eI pol, eV lows, .int (total : Int)] = some (.tup [.lst false (lns.map eI), eV cs]) ∧ ChI n total block lows n cs lns := by
  have hn5 := W.n5
  have hlT := W.lT
  have hlen0 : ((List.range n).map (lowOf block lows)).length = n := by rw [List.length_map, List.length_range]
  have hat0 : ∀ t, t < n → vAt ((List.range n).map (lowOf block lows)) t = lowOf block lows t := fun t ht => vAt_of (by rw [List.getElem?_map, List.getElem?_range ht]; rfl)
  have hlow : ∀ t, t < n → lows[(lAt block t % 2).toNat]? = some (lowOf block lows t) := fun t ht => vAt_some (by rw [W.ll]; omega)
  have hlowL : ∀ t, t < n → Lvl 1 100 (lowOf block lows t) := fun t ht => W.vl _ (vAt_mem (by rw [W.ll]; omega))
  obtain ⟨ρ', e, cs, lns, z7, z9, z11, rfl, hI⟩ := forL_inv (h := gN 7) (body := chB) (l := rngD 0 n) (k := 0) (ρ := chS T block pol lows total n ((List.range n).map (lowOf block lows)) none [] none none)
    (fun k ρ => ∃ cs lns z7 z9 z11, ρ = chS T block pol lows total n cs z7 lns z9 z11 ∧ ChI n total block lows k cs lns)
    ⟨_, [], none, none, none, rfl, ⟨hlen0, fun t ht _ => hat0 t ht, fun x hx => by
      obtain ⟨t, ht, rfl⟩ := List.mem_map.mp hx
      exact (hlowL t (List.mem_range.mp ht)).to (by decide) (by decide), rfl, fun j l h => by simp at h⟩⟩ (fun s d ρ hd => by
      rintro ⟨cs, lns, z7, z9, z11, rfl, hI⟩
      obtain ⟨hs, rfl⟩ := rngD_at hd
      have g : gN 7 (.int (0 + (s : Int))) (chS T block pol lows total n cs z7 lns z9 z11) = some (chS T block pol lows total n cs (some (s : Int)) lns z9 z11) := by cases z7 <;> simp [chS]
      rw [Nat.zero_add] at hI ⊢
      obtain ⟨cs', ln, z9', z11', t, hI'⟩ := chB_v (z9 := z9) (z11 := z11) W hs hI
      exact ⟨_, by unfold turnK; rw [g, bindS]; exact t, cs', lns ++ [ln], some (s : Int), z9', z11', rfl, hI'⟩)
  rw [rngD_len, Nat.zero_add] at hI
  refine ⟨cs, lns, ?_, hI⟩
  have k1 : rng1 [.int (n : Int)] = some (rngD 0 n) := rng1_int (by omega)
  have em : m_law_chosen = (mSeq (mSet 5 (mL dLen (mCons (mV 0) mNil))) (mSeq (mSet 6 (mLc (mRng1 (mCons (mV 5) mNil)) [7] (gN 7) mYes (mP (mB dIx (mV 3) (mB dMod (mL dInt (mCons (mB dIx (mV 1) (mV 7)) mNil)) (mC (.int 2)))))))
    (mSeq (mSet 8 (mLst mNil)) (mSeq (mFor (mRng1 (mCons (mV 5) mNil)) (gN 7) chB) (mFrz 8 (mFrz 6 (mRet (mTup (mCons (mP (mV 8)) (mCons (mP (mV 6)) mNil)))))))))) := rfl
  have s1 : mSet 5 (mL dLen (mCons (mV 0) mNil)) (([eRT T, eI block, eI pol, eV lows, .int (total : Int)] : List D).map some ++ List.replicate (12 - 5) none) = some (.nx [some (eRT T), some (eI block), some (eI pol), some (eV lows), some (.int (total : Int)), some (.int (n : Int)), none, none, none, none, none, none]) := by
    simp [eRT, hlT]
  have s2 : mSet 6 (mLc (mRng1 (mCons (mV 5) mNil)) [7] (gN 7) mYes (mP (mB dIx (mV 3) (mB dMod (mL dInt (mCons (mB dIx (mV 1) (mV 7)) mNil)) (mC (.int 2)))))) [some (eRT T), some (eI block), some (eI pol), some (eV lows), some (.int (total : Int)), some (.int (n : Int)), none, none, none, none, none, none] = some (.nx [some (eRT T), some (eI block), some (eI pol), some (eV lows), some (.int (total : Int)), some (.int (n : Int)), some (.lst true (((List.range n).map (lowOf block lows)).map fr)), none, none, none, none, none]) := by
    have hL : (List.range n).length ≤ sizeLine := few (by rw [List.length_range]; omega)
    have t1 : mRng1 (mCons (mV 5) mNil) [some (eRT T), some (eI block), some (eI pol), some (eV lows), some (.int (total : Int)), some (.int (n : Int)), none, none, none, none, none, none] = some ((List.range n).map fun (t : Nat) => D.int (t : Int)) := by
      rw [← rngD0]
      simp [k1]
    have t2 : lcL (gN 7) mYes (mP (mB dIx (mV 3) (mB dMod (mL dInt (mCons (mB dIx (mV 1) (mV 7)) mNil)) (mC (.int 2))))) [some (eRT T), some (eI block), some (eI pol), some (eV lows), some (.int (total : Int)), some (.int (n : Int)), none, none, none, none, none, none] ((List.range n).map fun (t : Nat) => D.int (t : Int)) = some ((List.range n).map fun t => fr (lowOf block lows t)) := by
      refine lcL_mapOn fun t ht => ⟨[some (eRT T), some (eI block), some (eI pol), some (eV lows), some (.int (total : Int)), some (.int (n : Int)), none, some (.int (t : Int)), none, none, none, none], by simp, rfl, ?_⟩
      have ht' := List.mem_range.mp ht
      have xb := lAt_some (v := block) (t := t) (by rw [W.lb]; exact ht')
      have xi : atI (lows.map fr) (lAt block t % 2) = some (fr (lowOf block lows t)) := by
        rw [atI_pos (by omega), List.getElem?_map, hlow t ht']; rfl
      simp [eI, eV, xb, dMod_ok, xi]
    have t3 : ([some (eRT T), some (eI block), some (eI pol), some (eV lows), some (.int (total : Int)), some (.int (n : Int)), none, none, none, none, none, none] : Rho).set 7 none = [some (eRT T), some (eI block), some (eI pol), some (eV lows), some (.int (total : Int)), some (.int (n : Int)), none, none, none, none, none, none] := rfl
    rw [mSet_def, mLc_def, t1, bindS, wipeO_cons, wipeO_nil, bindS, if_pos (by simp), bindS, if_pos (by rw [List.length_map]; exact hL), t3, t2]
    simp [List.map_map, Function.comp_def]
  have s3 : mSet 8 (mLst mNil) [some (eRT T), some (eI block), some (eI pol), some (eV lows), some (.int (total : Int)), some (.int (n : Int)), some (.lst true (((List.range n).map (lowOf block lows)).map fr)), none, none, none, none, none] = some (.nx (chS T block pol lows total n ((List.range n).map (lowOf block lows)) none [] none none)) := by
    simp [chS]
  have s4 : mFor (mRng1 (mCons (mV 5) mNil)) (gN 7) chB (chS T block pol lows total n ((List.range n).map (lowOf block lows)) none [] none none) = some (.nx (chS T block pol lows total n cs z7 lns z9 z11)) := by
    have : mRng1 (mCons (mV 5) mNil) (chS T block pol lows total n ((List.range n).map (lowOf block lows)) none [] none none) = some (rngD 0 n) := by
      simp [chS, k1]
    rw [mFor_def, this]
    exact e
  unfold g_law_chosen
  rw [run_def, em, seq_nx s1, seq_nx s2, seq_nx s3, seq_nx s4]
  have hf : frzL (lns.map eI) = true := frzL_map fun _ => frz_eI
  have hz : fzL (lns.map eI) = lns.map eI := fzL_frz _ hf
  simp [chS, hf, hz, eV]
end K64

set_option Elab.async false
set_option linter.all false
set_option maxRecDepth 100000
set_option maxHeartbeats 4000000
/-! K64G: the fitted paper, and that it has no fault. -/
namespace K64
open PySem L2 R
theorem lAt_one {n total k t : Nat} (ht : t < n) : lAt (oneAt n total k) t = if t = k then (total : Int) else 0 := lAt_of (by unfold oneAt; rw [List.getElem?_map, List.getElem?_range ht]; rfl)
theorem one_full {n total k : Nat} (hk : k < n) : Full n total (oneAt n total k) := by
  refine ⟨by unfold oneAt; rw [List.length_map, List.length_range], fun i hi => ?_, ?_⟩
  · rw [lAt_one hi]; split <;> omega
  · rw [sumI_congr (g := fun i => if i = k then (total : Int) else 0) fun i hi => lAt_one hi, sumI_one hk]
def fiS (row : List Int) (T : List (List RAct)) (block pol : List Int) (lows : List Rat) (hs : List Int) (total n : Nat) (lns : List (List Int)) (cs : List Rat) (dear : Nat) (z11 : Option Int) (fit : List (List Act)) (z13 z15 : Option D) (z16 : Option Int) (z17 z18 z19 z20 : Option D) : Rho :=
  [some (eI row), some (eRT T), some (eI block), some (eI pol), some (eV lows), some (eI hs), some (.int (total : Int)), some (.int (n : Int)), some (.lst false (lns.map eI)), some (eV cs), some (.int (dear : Int)), z11.map D.int, some (.lst true (fit.map eAs)), z13, none, z15, z16.map D.int, z17, z18, z19, z20]
section
variable {row : List Int} {T : List (List RAct)} {block pol : List Int} {lows : List Rat} {hs : List Int} {total n : Nat} {lns : List (List Int)} {cs : List Rat} {dear : Nat} {fit : List (List Act)} {z13 z15 z17 z18 z19 z20 : Option D} {s a : Nat} {acts : List Act}
/-- what is known where the paper is fitted -/
structure Fi (row : List Int) (T : List (List RAct)) (block pol : List Int) (lows : List Rat) (hs : List Int) (total n : Nat) (lns : List (List Int)) (cs : List Rat) (dear : Nat) : Prop where
  W : Dr n total T block pol lows
  C : ChI n total block lows n cs lns
  hr : Row row
  rl : 230 ≤ row.length
  lh : hs.length = n
  vh : ∀ t, t < n → -12 ≤ lAt hs t ∧ lAt hs t ≤ 12
  t6 : total ≤ 6
  d : dear < n
  dm : ∀ t, t < n → vAt cs t ≤ vAt cs dear
/-- a line that is no fault -/
structure Ln (pol : List Int) (total n : Nat) (cs : List Rat) (s a : Nat) (l : List Int) : Prop where
  f : Full n total l
  ge : (total : Rat) * vAt cs s ≤ dot l cs
  eq : lAt pol s = (a : Int) → dot l cs = (total : Rat) * vAt cs s
def fiB1 : SM := (mIte (mT (mB dEq (mV 16) (mB dIx (mV 3) (mV 11)))) (mSet 17 (mP (mB dIx (mV 8) (mV 11)))) (mIte (mT (mCallB g_law_below (mCons (mCallB g_law_mean (mCons (mV 17) (mCons (mV 9) (mCons (mV 6) mNil)))) (mCons (mB dIx (mV 9) (mV 11)) mNil)))) (mSeq (mSet 17 (mLc (mRng1 (mCons (mV 7) mNil)) [14] (gN 14) mYes (mB dMul (mV 6) (mL dInt (mCons (mB dEq (mV 14) (mV 10)) mNil)))))
          (mIte (mT (mB dLt (mB dIx (mV 2) (mV 11)) (mC (.int 2)))) (mSet 17 (mCallB g_law_kept (mCons (mB dIx (mB dIx (mB dIx (mV 1) (mV 11)) (mV 16)) (mC (.int 2))) (mCons (mV 13) mNil)))) mNx)) mNx))
theorem fiOne_v {z17 : Option D} (F : Fi row T block pol lows hs total n lns cs dear) : mSet 17 (mLc (mRng1 (mCons (mV 7) mNil)) [14] (gN 14) mYes (mB dMul (mV 6) (mL dInt (mCons (mB dEq (mV 14) (mV 10)) mNil)))) (fiS row T block pol lows hs total n lns cs dear (some (s : Int)) fit z13 z15 (some (a : Int)) z17 z18 z19 z20) =
    some (.nx (fiS row T block pol lows hs total n lns cs dear (some (s : Int)) fit z13 z15 (some (a : Int)) (some (.lst true ((oneAt n total dear).map D.int))) z18 z19 z20)) := by
  have hn5 := F.W.n5
  have ht1 := F.W.t1
  have hL : (List.range n).length ≤ sizeLine := few (by rw [List.length_range]; omega)
  have hr : rng1 [.int (n : Int)] = some (rngD 0 n) := rng1_int (by omega)
  have hm0 : mulOk (total : Int) 0 := mulOk_of (a := 6) (b := 1) (by rw [Int.natAbs_natCast]; omega) (by decide) (by decide)
  have hm1 : mulOk (total : Int) 1 := mulOk_of (a := 6) (b := 1) (by rw [Int.natAbs_natCast]; omega) (by decide) (by decide)
  generalize hρ : fiS row T block pol lows hs total n lns cs dear (some (s : Int)) fit z13 z15 (some (a : Int)) z17 z18 z19 z20 = ρ
  have s1 : mRng1 (mCons (mV 7) mNil) ρ = some ((List.range n).map fun (t : Nat) => D.int (t : Int)) := by
    rw [← rngD0]
    subst hρ
    simp [fiS, hr]
  have s2 : lcL (gN 14) mYes (mB dMul (mV 6) (mL dInt (mCons (mB dEq (mV 14) (mV 10)) mNil))) ρ ((List.range n).map fun (t : Nat) => D.int (t : Int)) = some ((List.range n).map fun t => D.int (if t = dear then (total : Int) else 0)) := by
    refine lcL_mapOn fun t ht => ⟨ρ.set 14 (some (.int (t : Int))), by subst hρ; simp [fiS], rfl, ?_⟩
    by_cases e : t = dear
    · subst e; subst hρ; simp [fiS, dMul_ok, hm1]
    · have e' : ¬ (t : Int) = (dear : Int) := by omega
      subst hρ
      simp [fiS, e, e', dMul_ok, hm0]
  have s3 : ρ.set 14 none = ρ := by subst hρ; rfl
  rw [mSet_def, mLc_def, s1, bindS, wipeO_cons, wipeO_nil, bindS, if_pos (by subst hρ; simp [fiS]), bindS, if_pos (by rw [List.length_map]; exact hL), s3, s2]
  subst hρ
  simp [fiS, oneAt, List.map_map, Function.comp_def]
theorem fiB1_v (F : Fi row T block pol lows hs total n lns cs dear) (hsn : s < n) (ha : a < (rrow T s).length) (h13 : z13 = some (.lst true (((List.range n).filter fun t => decide (lAt block t = lAt block s)).map fun (t : Nat) => D.int (t : Int)))) :
    ∃ o l, fiB1 (fiS row T block pol lows hs total n lns cs dear (some (s : Int)) fit z13 z15 (some (a : Int)) (some (eI (ract (rrow T s) a).line)) z18 z19 z20) = some (.nx (fiS row T block pol lows hs total n lns cs dear (some (s : Int)) fit z13 z15 (some (a : Int)) (some (.lst o (l.map D.int))) z18 z19 z20)) ∧ Ln pol total n cs s a l := by
  have W := F.W
  have C := F.C
  have hn5 := W.n5
  have hsT : s < T.length := by rw [W.lT]; exact hsn
  have xb := lAt_some (v := block) (t := s) (by rw [W.lb]; exact hsn)
  have xp := lAt_some (v := pol) (t := s) (by rw [W.lp]; exact hsn)
  have xr := rrow_some hsT
  have xa := ract_some ha
  have hF := (W.dT _ (mem_rrow hsT)).2 _ (mem_ract ha)
  have hcl := C.cl
  have xc := vAt_some (v := cs) (t := s) (by omega)
  have hsl : s < lns.length := by rw [C.ll]; exact hsn
  have xl : lns[s]? = some lns[s] := List.getElem?_eq_getElem hsl
  by_cases h1 : lAt pol s = (a : Int)
  · obtain ⟨g1, g2, g3⟩ := C.full s _ xl
    refine ⟨false, lns[s], ?_, ⟨g1, by rw [g3]; exact Rat.le_refl, fun _ => g3⟩⟩
    simp [fiB1, fiS, eI, xp, h1, xl]
  · have h1' : ¬ (a : Int) = lAt pol s := fun e => h1 e.symm
    obtain ⟨q, hm, hq, hql⟩ := mean_v (k := 1 + n) (B := 100 + n * 1000) (l := (ract (rrow T s) a).line) (v := cs) (by omega) hF.ok W.t0 W.t1 hcl C.cq (by omega) (by omega)
    have hmc : callB g_law_mean [eI (ract (rrow T s) a).line, eV cs, .int (total : Int)] = some (fr q) := c_of hm (by simp)
    have hbl := cb_of (below_v (hql.sz (by omega) (by omega)) ((C.cq _ (vAt_mem (v := cs) (t := s) (by omega))).sz (by omega) (by omega))) (by simp)
    have hT0 : (0 : Rat) < (total : Rat) := natR W.t0
    have t1 : (mT (mB dEq (mV 16) (mB dIx (mV 3) (mV 11)))) (fiS row T block pol lows hs total n lns cs dear (some (s : Int)) fit z13 z15 (some (a : Int)) (some (eI (ract (rrow T s) a).line)) z18 z19 z20) = some false := by
      simp [fiS, eI, xp, h1']
    by_cases h2 : q < vAt cs s
    · have t2 : (mT (mCallB g_law_below (mCons (mCallB g_law_mean (mCons (mV 17) (mCons (mV 9) (mCons (mV 6) mNil)))) (mCons (mB dIx (mV 9) (mV 11)) mNil)))) (fiS row T block pol lows hs total n lns cs dear (some (s : Int)) fit z13 z15 (some (a : Int)) (some (eI (ract (rrow T s) a).line)) z18 z19 z20) = some true := by
        unfold eV at hmc
        simp [fiS, eV, xc, hmc, hbl, h2]
      by_cases h3 : lAt block s < 2
      · have hins0 : 0 < ((List.range n).filter fun t => decide (lAt block t = lAt block s)).length := by
          rw [List.length_pos_iff_exists_mem]
          exact ⟨s, by rw [List.mem_filter, List.mem_range]; exact ⟨hsn, by simp⟩⟩
        have hins1 : ((List.range n).filter fun t => decide (lAt block t = lAt block s)).length < 1000 := by
          have := List.length_filter_le (fun t => decide (lAt block t = lAt block s)) (List.range n)
          rw [List.length_range] at this
          omega
        obtain ⟨k, hk, hkp, hks⟩ := kept_v (l := (ract (rrow T s) a).line) (ins := (List.range n).filter fun t => decide (lAt block t = lAt block s)) (by omega) hF.len hF.nn hins0 hins1 (fun t ht => List.mem_range.mp (List.mem_filter.mp ht).1)
        have hkF : Full n total k := Part.full (by rw [hF.sum] at hkp; exact hkp)
        have hcall : callB g_law_kept [eI (ract (rrow T s) a).line, .lst true (((List.range n).filter fun t => decide (lAt block t = lAt block s)).map fun (t : Nat) => D.int (t : Int))] = some (.lst true (k.map D.int)) := by
          refine callB_of ?_ (by simp)
          have : fz (.lst true (((List.range n).filter fun t => decide (lAt block t = lAt block s)).map fun (t : Nat) => D.int (t : Int))) = eN ((List.range n).filter fun t => decide (lAt block t = lAt block s)) := by
            unfold eN
            rw [fz_lst, fzL_mapf fun _ => rfl]
          simp only [fzL_cons, fzL_nil, this, fz_eI]
          exact hk
        have hd : dot k cs = (total : Rat) * vAt cs s := dot_flat hkF fun t ht hne => by
          have hin := (List.mem_filter.mp (hks t ht hne)).2
          have hbe : lAt block t = lAt block s := by simpa using hin
          rw [C.cf t ht (by omega), C.cf s hsn h3]
          unfold lowOf
          rw [hbe]
        refine ⟨true, k, ?_, ⟨hkF, by rw [hd]; exact Rat.le_refl, fun _ => hd⟩⟩
        unfold fiB1
        rw [mIte_def, t1, iteO_false, mIte_def, t2, iteO_true, seq_nx (fiOne_v F)]
        subst h13
        simp [fiS, eI, xb, h3, eRT, xr, eRs, xa, eRA] at hcall ⊢
        simp [hcall]
      · have hd : dot (oneAt n total dear) cs = (total : Rat) * vAt cs dear := dot_flat (one_full F.d) fun t ht hne => by
          rw [lAt_one ht] at hne
          by_cases e : t = dear
          · rw [e]
          · rw [if_neg e] at hne; exact absurd rfl hne
        refine ⟨true, oneAt n total dear, ?_, ⟨one_full F.d, ?_, fun e => absurd e h1⟩⟩
        · unfold fiB1
          rw [mIte_def, t1, iteO_false, mIte_def, t2, iteO_true, seq_nx (fiOne_v F)]
          simp [fiS, eI, xb, h3]
        · rw [hd]
          exact Rat.mul_le_mul_of_nonneg_left (F.dm s hsn) (Rat.le_of_lt hT0)
    · have t2 : (mT (mCallB g_law_below (mCons (mCallB g_law_mean (mCons (mV 17) (mCons (mV 9) (mCons (mV 6) mNil)))) (mCons (mB dIx (mV 9) (mV 11)) mNil)))) (fiS row T block pol lows hs total n lns cs dear (some (s : Int)) fit z13 z15 (some (a : Int)) (some (eI (ract (rrow T s) a).line)) z18 z19 z20) = some false := by
        unfold eV at hmc
        simp [fiS, eV, xc, hmc, hbl, h2]
      refine ⟨false, (ract (rrow T s) a).line, ?_, ⟨hF, ?_, fun e => absurd e h1⟩⟩
      · unfold fiB1
        rw [mIte_def, t1, iteO_false, mIte_def, t2, iteO_false]
        rfl
      · rw [← hq]
        exact Rat.mul_le_mul_of_nonneg_left (Rat.not_lt.mp h2) (Rat.le_of_lt hT0)
def fiB2 : SM := (mIte (mAndB (mT (mB dNe (mV 16) (mB dIx (mV 3) (mV 11)))) (mT (mB dGt (mB dMod (mB dIx (mV 0) (mB dAdd (mB dAdd (mC (.int 180)) (mB dMul (mC (.int 3)) (mV 11))) (mV 16))) (mC (.int 3))) (mC (.int 0))))) (mSet 18 (mB dMod (mL dInt (mCons (mB dIx (mV 0) (mB dAdd (mB dAdd (mC (.int 195)) (mB dMul (mC (.int 3)) (mV 11))) (mV 16))) mNil)) (mC (.int 13)))) mNx)
theorem fiB2_v (F : Fi row T block pol lows hs total n lns cs dear) (hsn : s < n) (ha : a < 3) : ∃ x : Int, fiB2 (fiS row T block pol lows hs total n lns cs dear (some (s : Int)) fit z13 z15 (some (a : Int)) z17 (some (.int 0)) z19 z20) = some (.nx (fiS row T block pol lows hs total n lns cs dear (some (s : Int)) fit z13 z15 (some (a : Int)) z17 (some (.int x)) z19 z20)) ∧ 0 ≤ x ∧ x ≤ 12 ∧ (lAt pol s = (a : Int) → x = 0) := by
  have hn5 := F.W.n5
  have hrl := F.rl
  have xp := lAt_some (v := pol) (t := s) (by rw [F.W.lp]; exact hsn)
  have m1 : mulOk 3 (s : Int) := mulOk_of (a := 2) (b := 3) (by decide) (by rw [Int.natAbs_natCast]; omega) (by decide)
  obtain ⟨q1, _, _⟩ := row_at F.hr (k := 180 + 3 * s + a) (by omega)
  obtain ⟨q2, _, _⟩ := row_at F.hr (k := 195 + 3 * s + a) (by omega)
  have c1 : (180 : Int) + 3 * (s : Int) + (a : Int) = ((180 + 3 * s + a : Nat) : Int) := by omega
  have c2 : (195 : Int) + 3 * (s : Int) + (a : Int) = ((195 + 3 * s + a : Nat) : Int) := by omega
  have x1 : atI (row.map D.int) ((180 : Int) + 3 * (s : Int) + (a : Int)) = some (.int (lAt row (180 + 3 * s + a))) := by rw [c1, atI_cast, List.getElem?_map, q1]; rfl
  have x2 : atI (row.map D.int) ((195 : Int) + 3 * (s : Int) + (a : Int)) = some (.int (lAt row (195 + 3 * s + a))) := by rw [c2, atI_cast, List.getElem?_map, q2]; rfl
  by_cases h1 : (a : Int) = lAt pol s
  · exact ⟨0, by simp [fiB2, fiS, eI, xp, h1], by omega, by omega, fun _ => rfl⟩
  · by_cases h2 : 0 < lAt row (180 + 3 * s + a) % 3
    · exact ⟨lAt row (195 + 3 * s + a) % 13, by simp [fiB2, fiS, eI, xp, h1, x1, x2, m1, dMul_ok, dMod_ok, h2], by omega, by omega, fun e => absurd e.symm h1⟩
    · exact ⟨0, by simp [fiB2, fiS, eI, xp, h1, x1, m1, dMul_ok, dMod_ok, h2], by omega, by omega, fun _ => rfl⟩
def nOf (total : Nat) (hs : List Int) (s : Nat) (x : Int) (l : List Int) : Int := (total : Int) * (lAt hs s + x) - dotI l hs
def fiB3 : SM := (mSet 19 (mB dSub (mB dMul (mV 6) (mB dAdd (mB dIx (mV 5) (mV 11)) (mV 18))) (mL dSum (mCons (mLc (mRng1 (mCons (mV 7) mNil)) [14] (gN 14) mYes (mB dMul (mB dIx (mV 17) (mV 14)) (mB dIx (mV 5) (mV 14)))) mNil))))
theorem fiB3_v {o : Bool} {l : List Int} {x : Int} (F : Fi row T block pol lows hs total n lns cs dear) (hsn : s < n) (hl : Full n total l) (hx0 : 0 ≤ x) (hx1 : x ≤ 12) : fiB3 (fiS row T block pol lows hs total n lns cs dear (some (s : Int)) fit z13 z15 (some (a : Int)) (some (.lst o (l.map D.int))) (some (.int x)) z19 z20) = some (.nx (fiS row T block pol lows hs total n lns cs dear (some (s : Int)) fit z13 z15 (some (a : Int)) (some (.lst o (l.map D.int))) (some (.int x)) (some (.int (nOf total hs s x l))) z20)) := by
  have hn5 := F.W.n5
  have ht6 := F.t6
  have hlh := F.lh
  have hll := hl.len
  have hvs := F.vh s hsn
  have xh := lAt_some (v := hs) (t := s) (by omega)
  have hL : (List.range n).length ≤ sizeLine := few (by rw [List.length_range]; omega)
  have hr : rng1 [.int (n : Int)] = some (rngD 0 n) := rng1_int (by omega)
  have m1 : mulOk (total : Int) (lAt hs s + x) := mulOk_of (a := 3) (b := 5) (by rw [Int.natAbs_natCast]; omega) (by omega) (by decide)
  generalize hρ : fiS row T block pol lows hs total n lns cs dear (some (s : Int)) fit z13 z15 (some (a : Int)) (some (.lst o (l.map D.int))) (some (.int x)) z19 z20 = ρ
  have s1 : mRng1 (mCons (mV 7) mNil) ρ = some ((List.range n).map fun (t : Nat) => D.int (t : Int)) := by
    rw [← rngD0]
    subst hρ
    simp [fiS, hr]
  have s2 : lcL (gN 14) mYes (mB dMul (mB dIx (mV 17) (mV 14)) (mB dIx (mV 5) (mV 14))) ρ ((List.range n).map fun (t : Nat) => D.int (t : Int)) = some ((List.range n).map fun t => D.int (lAt l t * lAt hs t)) := by
    refine lcL_mapOn fun t ht => ⟨ρ.set 14 (some (.int (t : Int))), by subst hρ; simp [fiS], rfl, ?_⟩
    have ht' := List.mem_range.mp ht
    have y1 := lAt_some (v := l) (t := t) (by omega)
    have y2 := lAt_some (v := hs) (t := t) (by omega)
    have hv := F.vh t ht'
    have m2 : mulOk (lAt l t) (lAt hs t) := mulOk_of (a := 6) (b := 4) (hl.ok.small F.W.t1 (by omega)) (by omega) (by decide)
    subst hρ
    simp [fiS, eI, y1, y2, m2, dMul_ok]
  have s3 : ρ.set 14 none = ρ := by subst hρ; rfl
  have s4 : mLc (mRng1 (mCons (mV 7) mNil)) [14] (gN 14) mYes (mB dMul (mB dIx (mV 17) (mV 14)) (mB dIx (mV 5) (mV 14))) ρ = some (.lst true (((List.range n).map fun t => lAt l t * lAt hs t).map D.int)) := by
    rw [mLc_def, s1, bindS, wipeO_cons, wipeO_nil, bindS, if_pos (by subst hρ; simp [fiS]), bindS, if_pos (by rw [List.length_map]; exact hL), s3, s2]
    rw [mapS, List.map_map]; rfl
  have s5 : (mL dSum (mCons (mLc (mRng1 (mCons (mV 7) mNil)) [14] (gN 14) mYes (mB dMul (mB dIx (mV 17) (mV 14)) (mB dIx (mV 5) (mV 14)))) mNil)) ρ = some (.int (dotI l hs)) := by
    rw [mL_def, mCons_def, s4, mNil_def, consO_some, bindS, dSum_ints, sumI_list]
    unfold dotI
    rw [hll]
  have s6 : (mB dMul (mV 6) (mB dAdd (mB dIx (mV 5) (mV 11)) (mV 18))) ρ = some (.int ((total : Int) * (lAt hs s + x))) := by
    subst hρ
    simp [fiS, eI, xh, m1, dMul_ok]
  unfold fiB3
  rw [mSet_def, mB_def, s6, s5]
  subst hρ
  simp [fiS, nOf]
theorem nOf_lt {l : List Int} {x : Int} (F : Fi row T block pol lows hs total n lns cs dear) (hsn : s < n) (hl : Full n total l) (hx0 : 0 ≤ x) (hx1 : x ≤ 12) : (nOf total hs s x l).natAbs < 2 ^ 20 := by
  have hvs := F.vh s hsn
  have ht6 := F.t6
  have hll := hl.len
  have hn5 := F.W.n5
  have h1 : ((total : Int) * (lAt hs s + x)).natAbs < 2 ^ (3 + 5) := abs_mul_lt (by rw [Int.natAbs_natCast]; omega) (by omega)
  have h2 : (dotI l hs).natAbs < 2 ^ (6 + 4 + l.length) := sumI_lt fun t ht => by
    have hv := F.vh t (by omega)
    exact abs_mul_lt (hl.ok.small F.W.t1 ht) (by omega)
  have h3 : (2 : Nat) ^ (6 + 4 + l.length) ≤ 2 ^ 15 := Nat.pow_le_pow_right (by decide) (by omega)
  have h4 : (2 : Nat) ^ 15 = 32768 := rfl
  have h5 : (2 : Nat) ^ (3 + 5) = 256 := rfl
  have h6 : (2 : Nat) ^ 20 = 1048576 := rfl
  unfold nOf
  omega
def actOf (cs : List Rat) (total : Nat) (hs : List Int) (s : Nat) (x : Int) (l : List Int) : Act := ⟨vAt cs s + mkRat (nOf total hs s x l) (6 * total), l⟩
def fiB4 : SM := (mSet 20 (mCallB g_law_sum (mCons (mB dIx (mV 9) (mV 11)) (mCons (mCallB g_law_lowest (mCons (mV 19) (mCons (mB dMul (mC (.int 6)) (mV 6)) mNil))) mNil))))
def fiB5 : SM := (mFrz 17 (mApp (rV 15) (mTup (mCons (mP (mB dIx (mV 20) (mC (.int 0)))) (mCons (mP (mB dIx (mV 20) (mC (.int 1)))) (mCons (mP (mV 17)) mNil))))))
def fiI : SM := (mSeq (mSet 17 (mP (mB dIx (mB dIx (mB dIx (mV 1) (mV 11)) (mV 16)) (mC (.int 2))))) (mSeq (mSet 18 (mC (.int 0))) (mSeq fiB1 (mSeq fiB2 (mSeq fiB3 (mSeq fiB4 fiB5))))))
/-- an action of the fitted paper -/
structure GA (pol hs : List Int) (total n : Nat) (cs : List Rat) (s a : Nat) (act : Act) : Prop where
  f : Full n total act.line
  p : Lvl 7 6000 act.price
  dr : 0 ≤ drQ total cs s act
  su : 0 ≤ suQ total cs (hs.map fun h => mkRat h 6) s act
  dr0 : lAt pol s = (a : Int) → drQ total cs s act = 0
  su0 : lAt pol s = (a : Int) → suQ total cs (hs.map fun h => mkRat h 6) s act = 0
theorem six_mk {h : Int} : (6 : Rat) * mkRat h 6 = (h : Rat) := by
  have e := scale_mk (d := 6) (m := 1) (x := h) (by decide)
  rw [show ((6 * 1 : Nat) : Rat) = 6 from rfl] at e
  rw [e]
  simp [Rat.mul_one]
theorem vAt_six {t : Nat} (h : t < hs.length) : vAt (hs.map fun h => mkRat h 6) t = mkRat (lAt hs t) 6 := vAt_of (by rw [List.getElem?_map, lAt_some h]; rfl)
theorem su_eq {l : List Int} {x : Int} (h0 : 0 < total) (hl : l.length = n) (hlh : hs.length = n) (hsn : s < n) : (6 : Rat) * suQ total cs (hs.map fun h => mkRat h 6) s (actOf cs total hs s x l) = (total : Rat) * (x : Rat) := by
  have e1 : ((6 * total : Nat) : Rat) * mkRat (nOf total hs s x l) (6 * total) = ((nOf total hs s x l : Int) : Rat) := by
    have e := scale_mk (d := 6 * total) (m := 1) (x := nOf total hs s x l) (by omega)
    rw [Nat.mul_one] at e
    rw [e]; simp [Rat.mul_one]
  have e2 : (6 : Rat) * dot l (hs.map fun h => mkRat h 6) = ((dotI l hs : Int) : Rat) := by
    unfold dot dotI
    rw [sumR_cast, ← sumR_mul]
    refine sumR_congr fun t ht => ?_
    rw [vAt_six (by omega), Rat.intCast_mul, ← six_mk (h := lAt hs t)]
    grind
  have e3 : (6 : Rat) * mkRat (lAt hs s) 6 = (lAt hs s : Rat) := six_mk
  have e4 : ((nOf total hs s x l : Int) : Rat) = (total : Rat) * ((lAt hs s : Rat) + (x : Rat)) - ((dotI l hs : Int) : Rat) := by
    unfold nOf
    rw [Rat.intCast_sub, Rat.intCast_mul, Rat.intCast_add, Rat.intCast_natCast]
  rw [e4, Rat.natCast_mul] at e1
  unfold suQ actOf
  rw [vAt_six (by omega)]
  generalize mkRat (nOf total hs s x l) (6 * total) = M at *
  generalize dot l (hs.map fun h => mkRat h 6) = dd at *
  generalize mkRat (lAt hs s) 6 = bb at *
  generalize ((dotI l hs : Int) : Rat) = D at *
  generalize (lAt hs s : Rat) = hh at *
  have e5 : ((6 : Nat) : Rat) = 6 := rfl
  rw [e5] at e1
  grind
theorem fiI_v (F : Fi row T block pol lows hs total n lns cs dear) (hsn : s < n) (ha : a < (rrow T s).length) (hal : acts.length < 10) (h13 : z13 = some (.lst true (((List.range n).filter fun t => decide (lAt block t = lAt block s)).map fun (t : Nat) => D.int (t : Int)))) :
    ∃ act z17' z18' z19' z20', fiI (fiS row T block pol lows hs total n lns cs dear (some (s : Int)) fit z13 (some (.lst true (acts.map eA))) (some (a : Int)) z17 z18 z19 z20) = some (.nx (fiS row T block pol lows hs total n lns cs dear (some (s : Int)) fit z13 (some (.lst true ((acts ++ [act]).map eA))) (some (a : Int)) z17' z18' z19' z20')) ∧ GA pol hs total n cs s a act := by
  have W := F.W
  have C := F.C
  have hn5 := W.n5
  have ht6 := F.t6
  have ht0 := W.t0
  have hsT : s < T.length := by rw [W.lT]; exact hsn
  have ha3 : a < 3 := by have := (W.dT _ (mem_rrow hsT)).1.2; omega
  have xr := rrow_some hsT
  have xa := ract_some ha
  have hcl := C.cl
  have xc := vAt_some (v := cs) (t := s) (by omega)
  have hcL := C.cq _ (vAt_mem (v := cs) (t := s) (by omega))
  have g1 : mSet 17 (mP (mB dIx (mB dIx (mB dIx (mV 1) (mV 11)) (mV 16)) (mC (.int 2)))) (fiS row T block pol lows hs total n lns cs dear (some (s : Int)) fit z13 (some (.lst true (acts.map eA))) (some (a : Int)) z17 z18 z19 z20) = some (.nx (fiS row T block pol lows hs total n lns cs dear (some (s : Int)) fit z13 (some (.lst true (acts.map eA))) (some (a : Int)) (some (eI (ract (rrow T s) a).line)) z18 z19 z20)) := by
    simp [fiS, eRT, xr, eRs, xa, eRA]
  have g2 : ∀ z17, mSet 18 (mC (.int 0)) (fiS row T block pol lows hs total n lns cs dear (some (s : Int)) fit z13 (some (.lst true (acts.map eA))) (some (a : Int)) z17 z18 z19 z20) = some (.nx (fiS row T block pol lows hs total n lns cs dear (some (s : Int)) fit z13 (some (.lst true (acts.map eA))) (some (a : Int)) z17 (some (.int 0)) z19 z20)) := fun z => by
    simp [fiS]
  obtain ⟨o, l, g3, hl⟩ := fiB1_v (fit := fit) (z13 := z13) (z15 := some (.lst true (acts.map eA))) (z18 := some (.int 0)) (z19 := z19) (z20 := z20) F hsn ha h13
  obtain ⟨x, g4, hx0, hx1, hxp⟩ := fiB2_v (fit := fit) (z13 := z13) (z15 := some (.lst true (acts.map eA))) (z17 := some (.lst o (l.map D.int))) (z19 := z19) (z20 := z20) F hsn ha3
  have g5 := fiB3_v (a := a) (fit := fit) (z13 := z13) (z15 := some (.lst true (acts.map eA))) (z19 := z19) (z20 := z20) (o := o) F hsn hl.f hx0 hx1
  have hnl := nOf_lt F hsn hl.f hx0 hx1
  have hfr := Lvl.frac (n := nOf total hs s x l) (d := 6 * total) (by omega) (by omega) hnl
  have hpr : Lvl 7 6000 (actOf cs total hs s x l).price := ((hcL.to (l := 7) (c := 5900) (by omega) (by omega)).add (hfr.to (l := 7) (c := 5900))).le (by decide)
  have c1 : callB g_law_lowest [.int (nOf total hs s x l), .int (6 * (total : Int))] = some (fr (mkRat (nOf total hs s x l) (6 * total))) := by
    have := c_low (n := nOf total hs s x l) (d := 6 * (total : Int)) (by omega) (by omega)
    rwa [show (6 * (total : Int)).toNat = 6 * total by omega] at this
  have c2 := c_of (sum_v (hcL.sz (by omega) (by omega)) (hfr.sz (by decide) (by decide))) (by simp)
  have m6 : mulOk 6 (total : Int) := mulOk_of (a := 3) (b := 3) (by decide) (by rw [Int.natAbs_natCast]; omega) (by decide)
  have g6 : fiB4 (fiS row T block pol lows hs total n lns cs dear (some (s : Int)) fit z13 (some (.lst true (acts.map eA))) (some (a : Int)) (some (.lst o (l.map D.int))) (some (.int x)) (some (.int (nOf total hs s x l))) z20) = some (.nx (fiS row T block pol lows hs total n lns cs dear (some (s : Int)) fit z13 (some (.lst true (acts.map eA))) (some (a : Int)) (some (.lst o (l.map D.int))) (some (.int x)) (some (.int (nOf total hs s x l))) (some (fr (actOf cs total hs s x l).price)))) := by
    simp [fiB4, fiS, eV, xc, m6, dMul_ok, c1, c2, actOf]
  have hlt : acts.length < sizeLine := Nat.lt_of_lt_of_le (by omega : acts.length < 100000) (few (Nat.le_refl _))
  refine ⟨actOf cs total hs s x l, some (eI l), some (.int x), some (.int (nOf total hs s x l)), some (fr (actOf cs total hs s x l).price), ?_, ?_⟩
  · unfold fiI
    rw [seq_nx g1, seq_nx (g2 _), seq_nx g3, seq_nx g4, seq_nx g5, seq_nx g6]
    simp [fiB5, fiS, eI, hlt, eA, actOf]
  · have hsu := su_eq (cs := cs) (x := x) (s := s) ht0 hl.f.len F.lh hsn
    have hdr : drQ total cs s (actOf cs total hs s x l) = dot l cs - (total : Rat) * vAt cs s := rfl
    refine ⟨hl.f, hpr, ?_, ?_, fun e => ?_, fun e => ?_⟩
    · rw [hdr]
      have := hl.ge
      grind
    · have : (0 : Rat) ≤ (total : Rat) * (x : Rat) := Rat.mul_nonneg (Rat.le_of_lt (natR ht0)) (Rat.intCast_nonneg.mpr hx0)
      grind
    · rw [hdr, hl.eq e]
      grind
    · rw [hxp e] at hsu
      have hz : ((0 : Int) : Rat) = 0 := rfl
      rw [hz, Rat.mul_zero] at hsu
      rw [hxp e]
      grind
def fi13 : SM := (mSet 13 (mLc (mRng1 (mCons (mV 7) mNil)) [14] (gN 14) (mT (mB dEq (mB dIx (mV 2) (mV 14)) (mB dIx (mV 2) (mV 11)))) (mP (mV 14))))
def fiO : SM := (mSeq fi13 (mSeq (mSet 15 (mLst mNil)) (mSeq (mFor (mRng1 (mCons (mL dLen (mCons (mB dIx (mV 1) (mV 11)) mNil)) mNil)) (gN 16) fiI) (mFrz 15 (mApp (rV 12) (mP (mV 15)))))))
theorem fi13_v {z16 : Option Int} (F : Fi row T block pol lows hs total n lns cs dear) (hsn : s < n) : fi13 (fiS row T block pol lows hs total n lns cs dear (some (s : Int)) fit z13 z15 z16 z17 z18 z19 z20) = some (.nx (fiS row T block pol lows hs total n lns cs dear (some (s : Int)) fit (some (.lst true (((List.range n).filter fun t => decide (lAt block t = lAt block s)).map fun (t : Nat) => D.int (t : Int)))) z15 z16 z17 z18 z19 z20)) := by
  have hn5 := F.W.n5
  have hL : (List.range n).length ≤ sizeLine := few (by rw [List.length_range]; omega)
  have hr : rng1 [.int (n : Int)] = some (rngD 0 n) := rng1_int (by omega)
  have xb := lAt_some (v := block) (t := s) (by rw [F.W.lb]; exact hsn)
  generalize hρ : fiS row T block pol lows hs total n lns cs dear (some (s : Int)) fit z13 z15 z16 z17 z18 z19 z20 = ρ
  have s1 : mRng1 (mCons (mV 7) mNil) ρ = some ((List.range n).map fun (t : Nat) => D.int (t : Int)) := by
    rw [← rngD0]
    subst hρ
    simp [fiS, hr]
  have s2 : lcL (gN 14) (mT (mB dEq (mB dIx (mV 2) (mV 14)) (mB dIx (mV 2) (mV 11)))) (mP (mV 14)) ρ ((List.range n).map fun (t : Nat) => D.int (t : Int)) = some (((List.range n).filter fun t => decide (lAt block t = lAt block s)).map fun (t : Nat) => D.int (t : Int)) := by
    refine lcL_filterOn fun t ht => ⟨ρ.set 14 (some (.int (t : Int))), by subst hρ; simp [fiS], ?_, fun _ => by subst hρ; simp [fiS]⟩
    have xt := lAt_some (v := block) (t := t) (by rw [F.W.lb]; exact List.mem_range.mp ht)
    subst hρ
    simp [fiS, eI, xb, xt]
  have s3 : ρ.set 14 none = ρ := by subst hρ; rfl
  unfold fi13
  rw [mSet_def, mLc_def, s1, bindS, wipeO_cons, wipeO_nil, bindS, if_pos (by subst hρ; simp [fiS]), bindS, if_pos (by rw [List.length_map]; exact hL), s3, s2]
  subst hρ
  simp [fiS]
theorem fiO_v {z16 : Option Int} (F : Fi row T block pol lows hs total n lns cs dear) (hsn : s < n) (hfl : fit.length < 10) :
    ∃ acts z13' z15' z16' z17' z18' z19' z20', fiO (fiS row T block pol lows hs total n lns cs dear (some (s : Int)) fit z13 z15 z16 z17 z18 z19 z20) = some (.nx (fiS row T block pol lows hs total n lns cs dear (some (s : Int)) (fit ++ [acts]) z13' z15' z16' z17' z18' z19' z20')) ∧
      acts.length = (rrow T s).length ∧ ∀ a act, acts[a]? = some act → GA pol hs total n cs s a act := by
  have W := F.W
  have hsT : s < T.length := by rw [W.lT]; exact hsn
  have hrl := (W.dT _ (mem_rrow hsT)).1
  have xr := rrow_some hsT
  obtain ⟨Z13, hZ13⟩ : ∃ Z : Option D, Z = some (.lst true (((List.range n).filter fun t => decide (lAt block t = lAt block s)).map fun (t : Nat) => D.int (t : Int))) := ⟨_, rfl⟩
  have f13 := fi13_v (fit := fit) (z13 := z13) (z15 := z15) (z16 := z16) (z17 := z17) (z18 := z18) (z19 := z19) (z20 := z20) F hsn
  rw [← hZ13] at f13
  obtain ⟨ρ', e, acts, y16, y17, y18, y19, y20, rfl, hlen, hga⟩ := forL_inv (h := gN 16) (body := fiI) (l := rngD 0 (rrow T s).length) (k := 0) (ρ := fiS row T block pol lows hs total n lns cs dear (some (s : Int)) fit Z13 (some (.lst true [])) z16 z17 z18 z19 z20)
    (fun k ρ => ∃ (acts : List Act) (z16 : Option Int) (z17 z18 z19 z20 : Option D), ρ = fiS row T block pol lows hs total n lns cs dear (some (s : Int)) fit Z13 (some (.lst true (acts.map eA))) z16 z17 z18 z19 z20 ∧ acts.length = k ∧ ∀ (a : Nat) (act : Act), acts[a]? = some act → GA pol hs total n cs s a act)
    ⟨[], z16, z17, z18, z19, z20, rfl, rfl, fun a act h => by simp at h⟩ (fun a d ρ hd => by
      rintro ⟨acts, z16, z17, z18, z19, z20, rfl, hl, hg⟩
      obtain ⟨ha, rfl⟩ := rngD_at hd
      have g : gN 16 (.int (0 + (a : Int))) (fiS row T block pol lows hs total n lns cs dear (some (s : Int)) fit Z13 (some (.lst true (acts.map eA))) z16 z17 z18 z19 z20) = some (fiS row T block pol lows hs total n lns cs dear (some (s : Int)) fit Z13 (some (.lst true (acts.map eA))) (some (a : Int)) z17 z18 z19 z20) := by cases z16 <;> simp [fiS]
      obtain ⟨act, z17', z18', z19', z20', t, hga⟩ := fiI_v (fit := fit) (acts := acts) (z17 := z17) (z18 := z18) (z19 := z19) (z20 := z20) F hsn ha (by omega) hZ13
      refine ⟨_, by unfold turnK; rw [g, bindS]; exact t, acts ++ [act], some (a : Int), z17', z18', z19', z20', rfl, by rw [List.length_append, List.length_singleton]; omega, fun i x hx => ?_⟩
      by_cases hi : i < acts.length
      · rw [List.getElem?_append_left hi] at hx
        exact hg i x hx
      · have hia : i = a := by
          have := (List.getElem?_eq_some_iff.mp hx).1
          rw [List.length_append, List.length_singleton] at this
          omega
        subst hia
        rw [List.getElem?_append_right (by omega), show i - acts.length = 0 by omega] at hx
        have : act = x := by simpa using hx
        rw [← this]; exact hga)
  rw [rngD_len, Nat.zero_add] at hlen
  have k1 : rng1 [.int ((rrow T s).length : Int)] = some (rngD 0 (rrow T s).length) := rng1_int (by omega)
  refine ⟨acts, Z13, some (eAs acts), y16, y17, y18, y19, y20, ?_, hlen, hga⟩
  have s2 : mSet 15 (mLst mNil) (fiS row T block pol lows hs total n lns cs dear (some (s : Int)) fit Z13 z15 z16 z17 z18 z19 z20) = some (.nx (fiS row T block pol lows hs total n lns cs dear (some (s : Int)) fit Z13 (some (.lst true [])) z16 z17 z18 z19 z20)) := by simp [fiS]
  have s3 : mFor (mRng1 (mCons (mL dLen (mCons (mB dIx (mV 1) (mV 11)) mNil)) mNil)) (gN 16) fiI (fiS row T block pol lows hs total n lns cs dear (some (s : Int)) fit Z13 (some (.lst true [])) z16 z17 z18 z19 z20) = some (.nx (fiS row T block pol lows hs total n lns cs dear (some (s : Int)) fit Z13 (some (.lst true (acts.map eA))) y16 y17 y18 y19 y20)) := by
    have : mRng1 (mCons (mL dLen (mCons (mB dIx (mV 1) (mV 11)) mNil)) mNil) (fiS row T block pol lows hs total n lns cs dear (some (s : Int)) fit Z13 (some (.lst true [])) z16 z17 z18 z19 z20) = some (rngD 0 (rrow T s).length) := by
      simp [fiS, eRT, xr, eRs, k1]
    rw [mFor_def, this]
    exact e
  have hlt : fit.length < sizeLine := Nat.lt_of_lt_of_le (by omega : fit.length < 100000) (few (Nat.le_refl _))
  unfold fiO
  rw [seq_nx f13, seq_nx s2, seq_nx s3]
  simp [fiS, hlt, eAs]
/-! ### the dearest place -/
def fiD : SM := (mIte (mT (mCallB g_law_below (mCons (mB dIx (mV 9) (mV 10)) (mCons (mB dIx (mV 9) (mV 11)) mNil)))) (mSet 10 (mP (mV 11))) mNx)
/-- the paper as it was fitted -/
structure Fitted (pol hs : List Int) (total n : Nat) (T : List (List RAct)) (cs : List Rat) (fit : List (List Act)) : Prop where
  len : fit.length = n
  cl : cs.length = n
  cq : ∀ x ∈ cs, Lvl 6 5100 x
  row : ∀ s r, fit[s]? = some r → r.length = (rrow T s).length ∧ ∀ a act, r[a]? = some act → GA pol hs total n cs s a act
theorem fitted_v (W : Dr n total T block pol lows) (hr : Row row) (rl : 230 ≤ row.length) (lh : hs.length = n) (vh : ∀ t, t < n → -12 ≤ lAt hs t ∧ lAt hs t ≤ 12) (t6 : total ≤ 6) :
    ∃ fit cs, g_law_fitted [eI row, eRT T, eI block, eI pol, eV lows, eI hs, .int (total : Int)] = some (.tup [.lst false (fit.map eAs), eV cs]) ∧ Fitted pol hs total n T cs fit := by
  have hn5 := W.n5
  have hlT := W.lT
  obtain ⟨cs, lns, hc, C⟩ := chosen_v W
  have hcl := C.cl
  have hn0 := W.n0
  have hcall : callM g_law_chosen [eRT T, eI block, eI pol, eV lows, .int (total : Int)] = some (.tup [.lst false (lns.map eI), eV cs]) := callM_of (by simp) hc
  have s1 : mSet 7 (mL dLen (mCons (mV 1) mNil)) (([eI row, eRT T, eI block, eI pol, eV lows, eI hs, .int (total : Int)] : List D).map some ++ List.replicate (21 - 7) none) = some (.nx ([some (eI row), some (eRT T), some (eI block), some (eI pol), some (eV lows), some (eI hs), some (.int (total : Int)), some (.int (n : Int))] ++ List.replicate 13 none)) := by
    simp [eRT, hlT]
  have hfl : frzL (lns.map eI) = true := frzL_map fun _ => frz_eI
  have hzl : fzL (lns.map eI) = lns.map eI := fzL_frz _ hfl
  have s2 : mAsg (gT 2 (gsC (gN 8) (gsC (gN 9) gsN))) (mF (mCall g_law_chosen (mCons (mV 1) (mCons (mV 2) (mCons (mV 3) (mCons (mV 4) (mCons (mV 6) mNil))))))) ([some (eI row), some (eRT T), some (eI block), some (eI pol), some (eV lows), some (eI hs), some (.int (total : Int)), some (.int (n : Int))] ++ List.replicate 13 none) = some (.nx ([some (eI row), some (eRT T), some (eI block), some (eI pol), some (eV lows), some (eI hs), some (.int (total : Int)), some (.int (n : Int)), some (.lst false (lns.map eI)), some (eV cs)] ++ List.replicate 11 none)) := by
    simp [hcall, hfl, hzl]
  have s3 : mSet 10 (mC (.int 0)) ([some (eI row), some (eRT T), some (eI block), some (eI pol), some (eV lows), some (eI hs), some (.int (total : Int)), some (.int (n : Int)), some (.lst false (lns.map eI)), some (eV cs)] ++ List.replicate 11 none) = some (.nx ([some (eI row), some (eRT T), some (eI block), some (eI pol), some (eV lows), some (eI hs), some (.int (total : Int)), some (.int (n : Int)), some (.lst false (lns.map eI)), some (eV cs), some (.int ((0 : Nat) : Int)), Option.map D.int none] ++ List.replicate 9 none)) := by
    simp
  have k1 : rng1 [.int (n : Int)] = some (rngD 0 n) := rng1_int (by omega)
  obtain ⟨ρ1, e1, dear, z11, rfl, hd, hdm⟩ := forL_inv (h := gN 11) (body := fiD) (l := rngD 0 n) (k := 0) (ρ := [some (eI row), some (eRT T), some (eI block), some (eI pol), some (eV lows), some (eI hs), some (.int (total : Int)), some (.int (n : Int)), some (.lst false (lns.map eI)), some (eV cs), some (.int ((0 : Nat) : Int)), Option.map D.int none] ++ List.replicate 9 none)
    (fun k ρ => ∃ (dear : Nat) (z11 : Option Int), ρ = [some (eI row), some (eRT T), some (eI block), some (eI pol), some (eV lows), some (eI hs), some (.int (total : Int)), some (.int (n : Int)), some (.lst false (lns.map eI)), some (eV cs), some (.int (dear : Int)), z11.map D.int] ++ List.replicate 9 none ∧ dear < n ∧ ∀ t, t < k → vAt cs t ≤ vAt cs dear)
    ⟨0, none, rfl, hn0, fun t ht => by omega⟩ (fun t d ρ hd => by
      rintro ⟨dear, z11, rfl, hdn, hdm⟩
      obtain ⟨ht, rfl⟩ := rngD_at hd
      have g : gN 11 (.int (0 + (t : Int))) ([some (eI row), some (eRT T), some (eI block), some (eI pol), some (eV lows), some (eI hs), some (.int (total : Int)), some (.int (n : Int)), some (.lst false (lns.map eI)), some (eV cs), some (.int (dear : Int)), z11.map D.int] ++ List.replicate 9 none) = some ([some (eI row), some (eRT T), some (eI block), some (eI pol), some (eV lows), some (eI hs), some (.int (total : Int)), some (.int (n : Int)), some (.lst false (lns.map eI)), some (eV cs), some (.int (dear : Int)), some (.int (t : Int))] ++ List.replicate 9 none) := by cases z11 <;> simp
      have x1 := vAt_some (v := cs) (t := dear) (by omega)
      have x2 := vAt_some (v := cs) (t := t) (by omega)
      have b1 := cb_of (below_v ((C.cq _ (vAt_mem (v := cs) (t := dear) (by omega))).sz (by omega) (by omega)) ((C.cq _ (vAt_mem (v := cs) (t := t) (by omega))).sz (by omega) (by omega))) (by simp)
      by_cases hb : vAt cs dear < vAt cs t
      · refine ⟨_, ?_, t, some (t : Int), rfl, ht, fun i hi => ?_⟩
        · unfold turnK
          rw [g, bindS]
          simp [fiD, eV, x1, x2, b1, hb]
        · by_cases e : i = t
          · rw [e]; exact Rat.le_refl
          · exact Rat.le_trans (hdm i (by omega)) (Rat.le_of_lt hb)
      · refine ⟨_, ?_, dear, some (t : Int), rfl, hdn, fun i hi => ?_⟩
        · unfold turnK
          rw [g, bindS]
          simp [fiD, eV, x1, x2, b1, hb]
        · by_cases e : i = t
          · rw [e]; exact Rat.not_lt.mp hb
          · exact hdm i (by omega))
  rw [rngD_len, Nat.zero_add] at hdm
  have F : Fi row T block pol lows hs total n lns cs dear := ⟨W, C, hr, rl, lh, vh, t6, hd, hdm⟩
  have s4 : mFor (mRng1 (mCons (mV 7) mNil)) (gN 11) fiD ([some (eI row), some (eRT T), some (eI block), some (eI pol), some (eV lows), some (eI hs), some (.int (total : Int)), some (.int (n : Int)), some (.lst false (lns.map eI)), some (eV cs), some (.int ((0 : Nat) : Int)), Option.map D.int none] ++ List.replicate 9 none) = some (.nx ([some (eI row), some (eRT T), some (eI block), some (eI pol), some (eV lows), some (eI hs), some (.int (total : Int)), some (.int (n : Int)), some (.lst false (lns.map eI)), some (eV cs), some (.int (dear : Int)), z11.map D.int] ++ List.replicate 9 none)) := by
    have : mRng1 (mCons (mV 7) mNil) ([some (eI row), some (eRT T), some (eI block), some (eI pol), some (eV lows), some (eI hs), some (.int (total : Int)), some (.int (n : Int)), some (.lst false (lns.map eI)), some (eV cs), some (.int ((0 : Nat) : Int)), Option.map D.int none] ++ List.replicate 9 none) = some (rngD 0 n) := by
      simp [k1]
    rw [mFor_def, this]
    exact e1
  have s5 : mSet 12 (mLst mNil) ([some (eI row), some (eRT T), some (eI block), some (eI pol), some (eV lows), some (eI hs), some (.int (total : Int)), some (.int (n : Int)), some (.lst false (lns.map eI)), some (eV cs), some (.int (dear : Int)), z11.map D.int] ++ List.replicate 9 none) = some (.nx (fiS row T block pol lows hs total n lns cs dear z11 [] none none none none none none none)) := by
    simp [fiS]
  obtain ⟨ρ2, e2, fit, w11, w13, w15, w16, w17, w18, w19, w20, rfl, hfl2, hfr⟩ := forL_inv (h := gN 11) (body := fiO) (l := rngD 0 n) (k := 0) (ρ := fiS row T block pol lows hs total n lns cs dear z11 [] none none none none none none none)
    (fun k ρ => ∃ (fit : List (List Act)) (z11 : Option Int) (z13 z15 : Option D) (z16 : Option Int) (z17 z18 z19 z20 : Option D), ρ = fiS row T block pol lows hs total n lns cs dear z11 fit z13 z15 z16 z17 z18 z19 z20 ∧ fit.length = k ∧ ∀ (s : Nat) (r : List Act), fit[s]? = some r → r.length = (rrow T s).length ∧ ∀ (a : Nat) (act : Act), r[a]? = some act → GA pol hs total n cs s a act)
    ⟨[], z11, none, none, none, none, none, none, none, rfl, rfl, fun s r h => by simp at h⟩ (fun s d ρ hd => by
      rintro ⟨fit, z11, z13, z15, z16, z17, z18, z19, z20, rfl, hl, hg⟩
      obtain ⟨hs', rfl⟩ := rngD_at hd
      have g : gN 11 (.int (0 + (s : Int))) (fiS row T block pol lows hs total n lns cs dear z11 fit z13 z15 z16 z17 z18 z19 z20) = some (fiS row T block pol lows hs total n lns cs dear (some (s : Int)) fit z13 z15 z16 z17 z18 z19 z20) := by cases z11 <;> simp [fiS]
      obtain ⟨acts, z13', z15', z16', z17', z18', z19', z20', t, hal, hga⟩ := fiO_v (fit := fit) (z13 := z13) (z15 := z15) (z16 := z16) (z17 := z17) (z18 := z18) (z19 := z19) (z20 := z20) F hs' (by omega)
      refine ⟨_, by unfold turnK; rw [g, bindS]; exact t, fit ++ [acts], some (s : Int), z13', z15', z16', z17', z18', z19', z20', rfl, by rw [List.length_append, List.length_singleton]; omega, fun i r hi => ?_⟩
      by_cases hi' : i < fit.length
      · rw [List.getElem?_append_left hi'] at hi
        exact hg i r hi
      · have his : i = s := by
          have := (List.getElem?_eq_some_iff.mp hi).1
          rw [List.length_append, List.length_singleton] at this
          omega
        subst his
        rw [List.getElem?_append_right (by omega), show i - fit.length = 0 by omega] at hi
        have : acts = r := by simpa using hi
        rw [← this]; exact ⟨hal, hga⟩)
  rw [rngD_len, Nat.zero_add] at hfl2
  have s6 : mFor (mRng1 (mCons (mV 7) mNil)) (gN 11) fiO (fiS row T block pol lows hs total n lns cs dear z11 [] none none none none none none none) = some (.nx (fiS row T block pol lows hs total n lns cs dear w11 fit w13 w15 w16 w17 w18 w19 w20)) := by
    have : mRng1 (mCons (mV 7) mNil) (fiS row T block pol lows hs total n lns cs dear z11 [] none none none none none none none) = some (rngD 0 n) := by
      simp [fiS, k1]
    rw [mFor_def, this]
    exact e2
  refine ⟨fit, cs, ?_, ⟨hfl2, hcl, fun x hx => (C.cq x hx).to (by omega) (by omega), hfr⟩⟩
  have em : m_law_fitted = (mSeq (mSet 7 (mL dLen (mCons (mV 1) mNil))) (mSeq (mAsg (gT 2 (gsC (gN 8) (gsC (gN 9) gsN))) (mF (mCall g_law_chosen (mCons (mV 1) (mCons (mV 2) (mCons (mV 3) (mCons (mV 4) (mCons (mV 6) mNil)))))))) (mSeq (mSet 10 (mC (.int 0)))
    (mSeq (mFor (mRng1 (mCons (mV 7) mNil)) (gN 11) fiD) (mSeq (mSet 12 (mLst mNil)) (mSeq (mFor (mRng1 (mCons (mV 7) mNil)) (gN 11) fiO) (mFrz 12 (mRet (mTup (mCons (mP (mV 12)) (mCons (mP (mV 9)) mNil))))))))))) := rfl
  unfold g_law_fitted
  rw [run_def, em, seq_nx s1, seq_nx s2, seq_nx s3, seq_nx s4, seq_nx s5, seq_nx s6]
  simp [fiS]
end
end K64

set_option Elab.async false
set_option linter.all false
set_option maxRecDepth 100000
set_option maxHeartbeats 4000000
/-! K64H: the fitted paper has no fault; the ring. -/
namespace K64
open PySem L2 R
section
variable {T : List (List RAct)} {block pol : List Int} {lows : List Rat} {hs : List Int} {total n : Nat} {cs : List Rat} {fit : List (List Act)}
def bOf (hs : List Int) : List Rat := hs.map fun h => mkRat h 6
theorem Fitted.at (F : Fitted pol hs total n T cs fit) {s : Nat} (hs' : s < n) : fit[s]? = some (arow fit s) := arow_some (by rw [F.len]; exact hs')
theorem Fitted.wf (F : Fitted pol hs total n T cs fit) (W : Dr n total T block pol lows) (lh : hs.length = n) (vh : ∀ t, t < n → -12 ≤ lAt hs t ∧ lAt hs t ≤ 12) : Wf n total 6000 3 fit cs (bOf hs) pol where
  lT := F.len
  n0 := W.n0
  n9 := by have := W.n5; omega
  t0 := W.t0
  t1 := W.t1
  lc := F.cl
  lb := by unfold bOf; rw [List.length_map]; exact lh
  lp := W.lp
  rows := fun r hr => by
    obtain ⟨s, hs', e⟩ := List.getElem_of_mem hr
    have h1 := (F.row s r (by rw [List.getElem?_eq_getElem hs', e])).1
    have hsT : s < T.length := by rw [W.lT, ← F.len]; exact hs'
    have h2 := (W.dT _ (mem_rrow hsT)).1
    omega
  acts := fun r hr a ha => by
    obtain ⟨s, hs', e⟩ := List.getElem_of_mem hr
    obtain ⟨i, hi, e2⟩ := List.getElem_of_mem ha
    have g := (F.row s r (by rw [List.getElem?_eq_getElem hs', e])).2 i a (by rw [List.getElem?_eq_getElem hi, e2])
    exact ⟨g.f.ok, g.p⟩
  vc := fun x hx => (F.cq x hx).le (by decide)
  vb := fun x hx => by
    unfold bOf at hx
    obtain ⟨h, hh, rfl⟩ := List.mem_map.mp hx
    obtain ⟨t, ht, rfl⟩ := mem_lAt hh
    have := vh t (by omega)
    exact (Lvl.frac (b := 4) (by decide) (by decide) (by omega)).to (by decide) (by decide)
  vp := fun s hs' => by
    have h1 := (F.row s _ (F.at hs')).1
    rw [h1]
    exact W.vp s hs'
theorem badB_no {dr su : Rat} {p : Int} {a : Nat} (h1 : 0 ≤ dr) (h2 : 0 ≤ su) (h3 : p = (a : Int) → dr = 0) (h4 : p = (a : Int) → su = 0) : badB dr su p a = false := by
  unfold badB
  have n1 : ¬ dr < 0 := Rat.not_lt.mpr h1
  have n2 : ¬ su < 0 := Rat.not_lt.mpr h2
  by_cases e : p = (a : Int)
  · rw [h3 e, h4 e]; simp [e]
  · simp [n1, n2, e]
theorem Fitted.clean (F : Fitted pol hs total n T cs fit) : fault fit cs (bOf hs) pol total = .non := by
  unfold fault
  rw [find_none]
  · rfl
  · intro s _ hs'
    have hs2 : s < n := by have := F.len; omega
    refine find_none fun a _ ha => ?_
    have hx := aact_some (T := arow fit s) (s := a) (by omega)
    have g := (F.row s _ (F.at hs2)).2 a _ hx
    have : faultAt fit cs (bOf hs) pol total s a = false := badB_no g.dr g.su g.dr0 g.su0
    rw [this]; rfl
end
/-! ### the ring -/
section
variable {row : List Int} {per x27 : Int}
def pr (per : Int) (s : Nat) : Int := (s : Int) % per
def whole (per : Int) : Int := sumI 200 (pr per)
def act0 (per : Int) (s : Nat) : Act := ⟨((pr per s : Int) : Rat), oneAt 200 1 ((s + 1) % 200)⟩
def extra (per x27 : Int) : List Act := (List.range 63).map fun (i : Nat) => ⟨((pr per 0 + (1 + (i : Int)) * (1 + x27) % 61 : Int) : Rat), oneAt 200 1 1⟩
def ringT (per x27 : Int) : List (List Act) := (act0 per 0 :: extra per x27) :: (List.range 199).map fun s => [act0 per (s + 1)]
def bn (per : Int) (s : Nat) : Int := (s : Int) * whole per - 200 * sumI s (pr per)
def bs (per : Int) (s : Nat) : Rat := mkRat (bn per s) 200
def ringB (per : Int) : List Rat := (List.range 200).map (bs per)
def ringC (per : Int) : List Rat := List.replicate 200 (mkRat (whole per) 200)
def ringP : List Int := List.replicate 200 0
theorem bs_succ {s : Nat} : bs per (s + 1) = bs per s + mkRat (whole per - 200 * pr per s) 200 := by
  unfold bs
  rw [Rat.mkRat_add_mkRat _ _ (by decide) (by decide), ← Int.add_mul, Rat.mkRat_mul_right (by decide)]
  congr 1
  unfold bn
  rw [sumI_s]
  have : (((s + 1 : Nat) : Int)) * whole per = (s : Int) * whole per + whole per := by
    rw [show ((s + 1 : Nat) : Int) = (s : Int) + 1 by omega, Int.add_mul, Int.one_mul]
  omega
theorem bs_zero : bs per 0 = 0 := by
  unfold bs bn
  simp [sumI]
theorem bs_200 : bs per 200 = 0 := by
  have : bn per 200 = 0 := by unfold bn whole; omega
  unfold bs
  rw [this]; simp
theorem bs_after {s : Nat} (hs : s < 200) : bs per ((s + 1) % 200) = bs per s + mkRat (whole per - 200 * pr per s) 200 := by
  rw [← bs_succ]
  by_cases e : s = 199
  · subst e
    rw [show (199 + 1) % 200 = 0 by decide, bs_zero, bs_200]
  · rw [Nat.mod_eq_of_lt (by omega)]
theorem pr_bd (h : 0 < per) (h2 : per < 40) {s : Nat} : 0 ≤ pr per s ∧ pr per s < 40 := by
  unfold pr
  have := Int.emod_nonneg (s : Int) (b := per) (by omega)
  have := Int.emod_lt_of_pos (s : Int) h
  omega
theorem sumI_bd {f : Nat → Int} {c : Int} : ∀ {n : Nat}, (∀ i, i < n → 0 ≤ f i ∧ f i ≤ c) → 0 ≤ sumI n f ∧ sumI n f ≤ (n : Int) * c
  | 0, _ => ⟨Int.le_refl 0, by simp [sumI]⟩
  | n + 1, h => by
    rw [sumI_s]
    have h1 := sumI_bd (n := n) fun i hi => h i (by omega)
    have h2 := h n (by omega)
    rw [show ((n + 1 : Nat) : Int) = (n : Int) + 1 by omega, Int.add_mul, Int.one_mul]
    omega
theorem whole_bd (h : 0 < per) (h2 : per < 40) : 0 ≤ whole per ∧ whole per ≤ 8000 := by
  have := sumI_bd (n := 200) (f := pr per) (c := 40) fun i _ => by have := pr_bd h h2 (s := i); omega
  unfold whole
  omega
theorem bn_bd (h : 0 < per) (h2 : per < 40) {s : Nat} (hs : s ≤ 200) : (bn per s).natAbs < 2 ^ 22 := by
  have h1 := whole_bd h h2
  have h3 := sumI_bd (n := s) (f := pr per) (c := 40) fun i _ => by have := pr_bd h h2 (s := i); omega
  have h4 : (s : Int) * whole per ≤ 200 * 8000 := Int.mul_le_mul (by omega) h1.2 h1.1 (by decide)
  have h5 : 0 ≤ (s : Int) * whole per := Int.mul_nonneg (by omega) h1.1
  have h6 : (2 : Nat) ^ 22 = 4194304 := rfl
  unfold bn
  omega
theorem ringB_at {t : Nat} (h : t < 200) : vAt (ringB per) t = bs per t := vAt_of (by unfold ringB; rw [List.getElem?_map, List.getElem?_range h]; rfl)
theorem ringC_at {t : Nat} (h : t < 200) : vAt (ringC per) t = mkRat (whole per) 200 := vAt_of (by unfold ringC; rw [List.getElem?_replicate, if_pos h])
theorem ringP_at {t : Nat} : lAt ringP t = 0 := by
  unfold lAt ringP
  rw [List.getD_eq_getElem?_getD, List.getElem?_replicate]
  split <;> rfl
theorem ring_len : (ringT per x27).length = 200 := by unfold ringT; rw [List.length_cons, List.length_map, List.length_range]
theorem ring_row0 : arow (ringT per x27) 0 = act0 per 0 :: extra per x27 := rfl
theorem ring_row {s : Nat} (h : s < 199) : arow (ringT per x27) (s + 1) = [act0 per (s + 1)] := by
  unfold arow ringT
  rw [List.getD_eq_getElem?_getD, List.getElem?_cons_succ, List.getElem?_map, List.getElem?_range h]; rfl
/-- a price on a ring's way, dearer by some -/
def ringA (per : Int) (s : Nat) (d : Int) : Act := ⟨((pr per s + d : Int) : Rat), oneAt 200 1 ((s + 1) % 200)⟩
theorem ring_dr {s : Nat} {d : Int} (hs : s < 200) : drQ 1 (ringC per) s (ringA per s d) = 0 := by
  have ha : (s + 1) % 200 < 200 := Nat.mod_lt _ (by decide)
  have e : dot (oneAt 200 1 ((s + 1) % 200)) (ringC per) = ((1 : Nat) : Rat) * mkRat (whole per) 200 := dot_flat (one_full ha) fun t ht _ => ringC_at ht
  unfold drQ ringA
  rw [e, ringC_at hs]
  grind
theorem ring_su {s : Nat} {d : Int} (hs : s < 200) : suQ 1 (ringC per) (ringB per) s (ringA per s d) = (d : Rat) := by
  have ha : (s + 1) % 200 < 200 := Nat.mod_lt _ (by decide)
  have e : dot (oneAt 200 1 ((s + 1) % 200)) (ringB per) = ((1 : Nat) : Rat) * bs per ((s + 1) % 200) := dot_flat (one_full ha) fun t ht hne => by
    rw [lAt_one ht] at hne
    by_cases e : t = (s + 1) % 200
    · rw [e, ringB_at ha]
    · rw [if_neg e] at hne; exact absurd rfl hne
  have e2 : mkRat (whole per - 200 * pr per s) 200 + ((pr per s : Int) : Rat) = mkRat (whole per) 200 := by
    have h1 := scale_mk (d := 200) (m := 1) (x := whole per - 200 * pr per s) (by decide)
    have h2 := scale_mk (d := 200) (m := 1) (x := whole per) (by decide)
    rw [show ((200 * 1 : Nat) : Rat) = 200 from rfl, show ((1 : Nat) : Rat) = 1 from rfl] at h1 h2
    rw [Rat.intCast_sub, Rat.intCast_mul, show (((200 : Int)) : Rat) = 200 from rfl] at h1
    grind
  unfold suQ ringA
  rw [e, bs_after hs, ringC_at hs, ringB_at hs, Rat.intCast_add, show ((1 : Nat) : Rat) = 1 from rfl]
  grind
theorem act0_eq {s : Nat} : act0 per s = ringA per s 0 := by
  unfold act0 ringA
  rw [Int.add_zero]
theorem extra_at {i : Nat} (h : i < 63) : (extra per x27)[i]? = some (ringA per 0 ((1 + (i : Int)) * (1 + x27) % 61)) := by
  unfold extra
  rw [List.getElem?_map, List.getElem?_range h]; rfl
/-- what the ring's actions are -/
theorem ring_act {s a : Nat} (hs : s < 200) (ha : a < (arow (ringT per x27) s).length) : ∃ d : Int, aact (arow (ringT per x27) s) a = ringA per s d ∧ 0 ≤ d ∧ d ≤ 60 ∧ (a = 0 → d = 0) := by
  cases s with
  | zero =>
    rw [ring_row0] at ha ⊢
    cases a with
    | zero => exact ⟨0, act0_eq, by omega, by omega, fun _ => rfl⟩
    | succ i =>
      have hi : i < 63 := by unfold extra at ha; rw [List.length_cons, List.length_map, List.length_range] at ha; omega
      refine ⟨(1 + (i : Int)) * (1 + x27) % 61, ?_, Int.emod_nonneg _ (by decide), by have := Int.emod_lt_of_pos ((1 + (i : Int)) * (1 + x27)) (b := 61) (by decide); omega, fun e => by omega⟩
      unfold aact
      rw [List.getD_eq_getElem?_getD, List.getElem?_cons_succ, extra_at hi]; rfl
  | succ s =>
    rw [ring_row (by omega)] at ha ⊢
    have : a = 0 := by simp at ha; exact ha
    subst this
    exact ⟨0, act0_eq, by omega, by omega, fun _ => rfl⟩
theorem ringA_ok (h : 0 < per) (h2 : per < 40) {s : Nat} {d : Int} (hd : -70 ≤ d ∧ d ≤ 70) : ActOk 200 1 (ringA per s d) := by
  refine ⟨oneAt_ok, ?_⟩
  have hp := pr_bd h h2 (s := s)
  exact (Lvl.int (n := pr per s + d) (b := 8) (by omega)).to (by decide) (by decide)
theorem ring_pap (h : 0 < per) (h2 : per < 40) {b : List Rat} (lb : b.length = 200) (vb : ∀ x ∈ b, Lvl 8 50000 x) : Pap (ringT per x27) (ringC per) b ringP 1 where
  size := by rw [ring_len]; decide
  lc := by rw [ring_len]; unfold ringC; rw [List.length_replicate]
  lb := by rw [ring_len]; exact lb
  lp := by rw [ring_len]; unfold ringP; rw [List.length_replicate]
  few := fun r hr => by
    unfold ringT at hr
    rcases List.mem_cons.mp hr with rfl | hr
    · unfold extra; rw [List.length_cons, List.length_map, List.length_range]; decide
    · obtain ⟨s, _, rfl⟩ := List.mem_map.mp hr
      simp
  acts := fun r hr a ha => by
    rw [ring_len]
    obtain ⟨s, hs, e⟩ := List.getElem_of_mem hr
    obtain ⟨i, hi, e2⟩ := List.getElem_of_mem ha
    have e3 : arow (ringT per x27) s = r := by
      have := arow_some hs
      rw [List.getElem?_eq_getElem hs, e] at this
      exact (Option.some.inj this).symm
    have e4 : aact (arow (ringT per x27) s) i = a := by
      rw [e3]
      have := aact_some hi
      rw [List.getElem?_eq_getElem hi, e2] at this
      exact (Option.some.inj this).symm
    obtain ⟨d, hd, d0, d1, _⟩ := ring_act (per := per) (x27 := x27) (s := s) (a := i) (by rw [ring_len] at hs; exact hs) (by rw [e3]; exact hi)
    rw [← e4, hd]
    exact ringA_ok h h2 (by omega)
  vc := fun x hx => by
    unfold ringC at hx
    rw [List.eq_of_mem_replicate hx]
    have := whole_bd h h2
    exact (Lvl.frac200 (n := whole per) (b := 14) (by omega)).to (by decide) (by decide)
  vb := vb
  t0 := by decide
  t1 := by decide
theorem ringB_len : (ringB per).length = 200 := by unfold ringB; rw [List.length_map, List.length_range]
theorem ringB_lvl (h : 0 < per) (h2 : per < 40) : ∀ x ∈ ringB per, Lvl 1 106 x := fun x hx => by
  unfold ringB at hx
  obtain ⟨s, hs, rfl⟩ := List.mem_map.mp hx
  exact Lvl.frac200 (bn_bd h h2 (by have := List.mem_range.mp hs; omega))
theorem ring_clean : fault (ringT per x27) (ringC per) (ringB per) ringP 1 = .non := by
  unfold fault
  rw [find_none]
  · rfl
  · intro s _ hs
    rw [ring_len] at hs
    refine find_none fun a _ ha => ?_
    obtain ⟨d, hd, d0, d1, d2⟩ := ring_act (per := per) (x27 := x27) (s := s) (a := a) (by omega) (by omega)
    have : faultAt (ringT per x27) (ringC per) (ringB per) ringP 1 s a = false := by
      unfold faultAt
      rw [hd, ring_dr (by omega), ring_su (by omega), ringP_at]
      refine badB_no Rat.le_refl (Rat.intCast_nonneg.mpr d0) (fun _ => rfl) fun e => ?_
      rw [d2 (by omega)]; rfl
    rw [this]; rfl
/-- the bent table -/
def lastOf (s : Nat) : Nat := if s = 0 then 63 else 0
theorem len_row {s : Nat} (hs : s < 200) : (arow (ringT per x27) s).length = lastOf s + 1 := by
  cases s with
  | zero => rw [ring_row0]; unfold extra lastOf; rw [List.length_cons, List.length_map, List.length_range]; rfl
  | succ s => rw [ring_row (by omega)]; rfl
def bentA (per x27 : Int) (s : Nat) : Act := ⟨(aact (arow (ringT per x27) s) (lastOf s)).price - 64, (aact (arow (ringT per x27) s) (lastOf s)).line⟩
def bentT (per x27 : Int) (s : Nat) : List (List Act) := (ringT per x27).set s ((arow (ringT per x27) s).set (lastOf s) (bentA per x27 s))
theorem bentA_eq {s : Nat} (hs : s < 200) : ∃ d : Int, bentA per x27 s = ringA per s d ∧ -64 ≤ d ∧ d < 0 := by
  obtain ⟨d, hd, d0, d1, d2⟩ := ring_act (per := per) (x27 := x27) (s := s) (a := lastOf s) hs (by rw [len_row hs]; omega)
  refine ⟨d - 64, ?_, by omega, by omega⟩
  unfold bentA
  rw [hd]
  unfold ringA
  rw [show pr per s + (d - 64) = (pr per s + d) - 64 by omega, Rat.intCast_sub]; rfl
theorem bent_len {s : Nat} : (bentT per x27 s).length = 200 := by unfold bentT; rw [List.length_set, ring_len]
theorem aact_set {r : List Act} {j i : Nat} {x : Act} (h : j < r.length) : aact (r.set j x) i = if j = i then x else aact r i := by
  unfold aact
  rw [List.getD_eq_getElem?_getD, List.getD_eq_getElem?_getD, List.getElem?_set]
  split
  · next e => subst e; simp [h]
  · rfl
theorem bent_pap (h : 0 < per) (h2 : per < 40) {s : Nat} (hs : s < 200) : Pap (bentT per x27 s) (ringC per) (ringB per) ringP 1 := by
  have A := ring_pap (per := per) (x27 := x27) h h2 ringB_len (fun x hx => (ringB_lvl h h2 x hx).to (by decide) (by decide))
  have hsT : s < (ringT per x27).length := by rw [ring_len]; exact hs
  refine { A with size := by rw [bent_len]; decide, lc := by rw [bent_len, A.lc, ring_len], lb := by rw [bent_len, A.lb, ring_len], lp := by rw [bent_len, A.lp, ring_len], few := fun r hr => ?_, acts := fun r hr a ha => ?_ }
  · rcases List.mem_or_eq_of_mem_set hr with h' | rfl
    · exact A.few r h'
    · rw [List.length_set]; exact A.few _ (mem_arow hsT)
  · rw [bent_len]
    have A' := A.acts
    rw [ring_len] at A'
    rcases List.mem_or_eq_of_mem_set hr with h' | rfl
    · exact A' r h' a ha
    · rcases List.mem_or_eq_of_mem_set ha with h'' | rfl
      · exact A' _ (mem_arow hsT) a h''
      · obtain ⟨d, hd, d0, d1⟩ := bentA_eq (per := per) (x27 := x27) hs
        rw [hd]; exact ringA_ok h h2 (by omega)
theorem bent_fault {s : Nat} (hs : s < 200) : fault (bentT per x27 s) (ringC per) (ringB per) ringP 1 = at2 s (lastOf s) := by
  have hsT : s < (ringT per x27).length := by rw [ring_len]; exact hs
  have hl := len_row (per := per) (x27 := x27) hs
  have old : ∀ s' a, s' < 200 → a < (arow (ringT per x27) s').length → ∀ T', aact (arow T' s') a = aact (arow (ringT per x27) s') a → faultAt T' (ringC per) (ringB per) ringP 1 s' a = false := by
    intro s' a hs' ha T' e
    obtain ⟨d, hd, d0, d1, d2⟩ := ring_act (per := per) (x27 := x27) (s := s') (a := a) hs' ha
    unfold faultAt
    rw [e, hd, ring_dr hs', ring_su hs', ringP_at]
    refine badB_no Rat.le_refl (Rat.intCast_nonneg.mpr d0) (fun _ => rfl) fun e => ?_
    rw [d2 (by omega)]; rfl
  have hrow : arow (bentT per x27 s) s = (arow (ringT per x27) s).set (lastOf s) (bentA per x27 s) := by
    unfold bentT; rw [arow_set hsT, if_pos rfl]
  have hfind : find (fun a => if faultAt (bentT per x27 s) (ringC per) (ringB per) ringP 1 s a = true then some (at2 s a) else none) 0 (arow (bentT per x27 s) s).length = some (at2 s (lastOf s)) := by
    have hbad : faultAt (bentT per x27 s) (ringC per) (ringB per) ringP 1 s (lastOf s) = true := by
      obtain ⟨d, hd, d0, d1⟩ := bentA_eq (per := per) (x27 := x27) hs
      unfold faultAt
      rw [hrow, aact_set (by omega), if_pos rfl, hd, ring_dr hs, ring_su hs]
      unfold badB
      have : (d : Rat) < 0 := cast_lt.mpr d1
      simp [this]
    rw [find_at (m := lastOf s) (Nat.zero_le _) (by rw [hrow, List.length_set]; omega)]
    · simp only [hbad, if_true]
    · intro i _ hi
      have := old s i hs (by omega) (bentT per x27 s) (by rw [hrow, aact_set (by omega), if_neg (by omega)])
      simp only [this]; rfl
    · simp only [hbad, if_true]; rfl
  unfold fault
  rw [find_at (m := s) (Nat.zero_le _) (by rw [bent_len]; omega)]
  · rw [hfind]; rfl
  · intro i _ hi
    have hri : arow (bentT per x27 s) i = arow (ringT per x27) i := by unfold bentT; rw [arow_set hsT, if_neg (by omega)]
    refine find_none fun a _ ha => ?_
    rw [hri] at ha
    have := old i a (by omega) (by omega) (bentT per x27 s) (by rw [hri])
    rw [this]; rfl
  · rw [hfind]; rfl
end
end K64

set_option Elab.async false
set_option linter.all false
set_option maxRecDepth 100000
set_option maxHeartbeats 4000000
/-! K64I: the ring's walk. -/
namespace K64
open PySem L2 R
section
variable {row : List Int} {per : Nat} {tab : List D} {bias : List D} {z3 z9 : Option Int} {z7 : Option D}
def prs200 (per : Int) : List Int := (List.range 200).map (pr per)
def riS (row : List Int) (per : Int) (tab bias : List D) (z3 : Option Int) (z7 : Option D) (z9 : Option Int) : Rho :=
  [some (eI row), some (.int per), some (.lst true ((prs200 per).map D.int)), z3.map D.int, some (.int (whole per)), some (.lst true tab), some (.lst true bias), z7, none, z9.map D.int, none, none, none, none, none, none]
def riL : EM := (mLc (mRng1 (mCons (mC (.int 200)) mNil)) [8] (gN 8) mYes (mL dInt (mCons (mB dEq (mV 8) (mV 7)) mNil)))
def riA : SM := (mSeq (mSet 7 (mB dMod (mL dInt (mCons (mB dAdd (mV 3) (mC (.int 1))) mNil)) (mC (.int 200))))
    (mSeq (mApp (rV 5) (mLst (mCons (mTup (mCons (mP (mB dIx (mV 2) (mV 3))) (mCons (mC (.int 1)) (mCons (mF riL) mNil)))) mNil)))
    (mApp (rV 6) (mCallB g_law_sum (mCons (mB dIx (mV 6) (mV 3)) (mCons (mCallB g_law_lowest (mCons (mB dSub (mV 4) (mB dMul (mC (.int 200)) (mB dIx (mV 2) (mV 3)))) (mCons (mC (.int 200)) mNil))) mNil))))))
theorem rng200 : rng1 [.int 200] = some (rngD 0 200) := rng1_int (by decide)
theorem riL_v {per : Int} {k : Nat} : riL (riS row per tab bias z3 (some (.int (k : Int))) z9) = some (.lst true ((oneAt 200 1 k).map D.int)) := by
  have hL : (List.range 200).length ≤ sizeLine := few (by rw [List.length_range]; decide)
  have s1 : mRng1 (mCons (mC (.int 200)) mNil) (riS row per tab bias z3 (some (.int (k : Int))) z9) = some ((List.range 200).map fun (t : Nat) => D.int (t : Int)) := by
    rw [← rngD0, mRng1_def, mCons_def, mC_def, mNil_def, consO_some, bindS, rng200]
  have s2 : lcL (gN 8) mYes (mL dInt (mCons (mB dEq (mV 8) (mV 7)) mNil)) (riS row per tab bias z3 (some (.int (k : Int))) z9) ((List.range 200).map fun (t : Nat) => D.int (t : Int)) = some ((List.range 200).map fun t => D.int (if t = k then ((1 : Nat) : Int) else 0)) := by
    refine lcL_mapOn fun t ht => ⟨(riS row per tab bias z3 (some (.int (k : Int))) z9).set 8 (some (.int (t : Int))), by simp [riS], rfl, ?_⟩
    by_cases e : t = k
    · subst e; simp [riS]
    · have e' : ¬ (t : Int) = (k : Int) := by omega
      simp [riS, e, e']
  have s3 : (riS row per tab bias z3 (some (.int (k : Int))) z9).set 8 none = riS row per tab bias z3 (some (.int (k : Int))) z9 := rfl
  unfold riL
  rw [mLc_def, s1, bindS, wipeO_cons, wipeO_nil, bindS, if_pos (by simp [riS]), bindS, if_pos (by rw [List.length_map]; exact hL), s3, s2, mapS]
  unfold oneAt
  rw [List.map_map]; rfl
theorem cast_act {p : Int} {l : List Int} : eA ⟨(p : Rat), l⟩ = .tup [.int p, .int 1, eI l] := rfl
theorem prs_at {per : Int} {s : Nat} (h : s < 200) : (prs200 per)[s]? = some (pr per s) := by
  unfold prs200
  rw [List.getElem?_map, List.getElem?_range h]; rfl
theorem riA_v {per : Int} (h0 : 0 < per) (h1 : per < 40) {s : Nat} (hs : s < 200) (htl : tab.length < 1000) (hbl : bias.length < 1000) (hb : bias[s]? = some (fr (bs per s))) :
    ∃ z7', riA (riS row per tab bias (some (s : Int)) z7 z9) = some (.nx (riS row per (tab ++ [.lst true [eA (act0 per s)]]) (bias ++ [fr (bs per (s + 1))]) (some (s : Int)) z7' z9)) := by
  have hp := pr_bd h0 h1 (s := s)
  have hw := whole_bd h0 h1
  have hx := prs_at (per := per) hs
  have hm : dMod (.int ((s : Int) + 1)) (.int 200) = some (.int (((s + 1) % 200 : Nat) : Int)) := by rw [dMod_ok (by decide)]; rfl
  refine ⟨some (.int (((s + 1) % 200 : Nat) : Int)), ?_⟩
  have e1 : mSet 7 (mB dMod (mL dInt (mCons (mB dAdd (mV 3) (mC (.int 1))) mNil)) (mC (.int 200))) (riS row per tab bias (some (s : Int)) z7 z9) = some (.nx (riS row per tab bias (some (s : Int)) (some (.int (((s + 1) % 200 : Nat) : Int))) z9)) := by
    simp only [mSet_def, mB_def, mL_def, mCons_def, mNil_def, mC_def, mV_def, riS, List.getD_cons_succ, List.getD_cons_zero, Option.map_some, op2_some, dAdd_int, consO_some, bindS, dInt_int, hm]
    simp
  have hl1 : tab.length < sizeLine := Nat.lt_of_lt_of_le (by omega : tab.length < 100000) (few (Nat.le_refl _))
  have hl2 : bias.length < sizeLine := Nat.lt_of_lt_of_le (by omega : bias.length < 100000) (few (Nat.le_refl _))
  have e2 : mApp (rV 5) (mLst (mCons (mTup (mCons (mP (mB dIx (mV 2) (mV 3))) (mCons (mC (.int 1)) (mCons (mF riL) mNil)))) mNil)) (riS row per tab bias (some (s : Int)) (some (.int (((s + 1) % 200 : Nat) : Int))) z9) = some (.nx (riS row per (tab ++ [.lst true [eA (act0 per s)]]) bias (some (s : Int)) (some (.int (((s + 1) % 200 : Nat) : Int))) z9)) := by
    have hlst : (mLst (mCons (mTup (mCons (mP (mB dIx (mV 2) (mV 3))) (mCons (mC (.int 1)) (mCons (mF riL) mNil)))) mNil)) (riS row per tab bias (some (s : Int)) (some (.int (((s + 1) % 200 : Nat) : Int))) z9) = some (.lst true [eA (act0 per s)]) := by
      rw [mLst_def, mCons_def, mTup_def, mCons_def, mCons_def, mCons_def, mF_def, riL_v, mNil_def]
      unfold act0
      rw [cast_act]
      simp [riS, hx, eI]
    rw [mApp_def, hlst]
    simp [riS, hl1]
  have hq1 : callB g_law_lowest [.int (whole per - 200 * pr per s), .int 200] = some (fr (mkRat (whole per - 200 * pr per s) 200)) := c_of (lowest_v (n := whole per - 200 * pr per s) (d := 200) (by decide) (by decide)) rfl
  have hb1 : Lvl 1 106 (bs per s) := Lvl.frac200 (bn_bd h0 h1 (by omega))
  have hb2 : Lvl 1 100 (mkRat (whole per - 200 * pr per s) 200) := (Lvl.frac200 (b := 15) (by omega)).le (by decide)
  have hq2 := c_of (sum_v hb1.sz hb2.sz) (by simp)
  rw [← bs_succ] at hq2
  have hm2 : mulOk 200 (pr per s) := mulOk_of (a := 8) (b := 6) (by decide) (by omega) (by decide)
  unfold riA
  rw [seq_nx e1, seq_nx e2]
  simp [riS, hb, hx, hm2, dMul_ok, hq1, hq2, hl2]
def riB : SM := (mApp (rIx (rV 5) (mC (.int 0))) (mTup (mCons (mB dAdd (mB dIx (mV 2) (mC (.int 0))) (mB dMod (mL dInt (mCons (mB dMul (mV 9) (mB dAdd (mC (.int 1)) (mB dIx (mV 0) (mC (.int 27))))) mNil)) (mC (.int 61)))) (mCons (mC (.int 1)) (mCons (mP (mB dIx (mB dIx (mB dIx (mV 5) (mC (.int 0))) (mC (.int 0))) (mC (.int 2)))) mNil)))))
theorem ixN_0 {n : Nat} (h : 0 < n) : ixN n 0 = some 0 := ixN_at (s := 0) h
theorem riB_v {per : Int} {i : Nat} {acts : List Act} {tl : List D} (hrow : Row row) (hr : 230 ≤ row.length) (hi : i < 63) (hal : acts.length < 100) :
    riB (riS row per (.lst true ((act0 per 0 :: acts).map eA) :: tl) bias z3 z7 (some (1 + (i : Int)))) = some (.nx (riS row per (.lst true ((act0 per 0 :: (acts ++ [ringA per 0 ((1 + (i : Int)) * (1 + lAt row 27) % 61)])).map eA) :: tl) bias z3 z7 (some (1 + (i : Int))))) := by
  obtain ⟨q, q0, q1⟩ := row_at hrow (k := 27) (by omega)
  have hx := prs_at (per := per) (s := 0) (by decide)
  have hm : mulOk (1 + (i : Int)) (1 + lAt row 27) := mulOk_of (a := 7) (b := 7) (by omega) (by omega) (by decide)
  have hlt : acts.length + 1 < sizeLine := Nat.lt_of_lt_of_le (by omega : acts.length + 1 < 100000) (few (Nat.le_refl _))
  have hmd : dMod (.int ((1 + (i : Int)) * (1 + lAt row 27))) (.int 61) = some (.int ((1 + (i : Int)) * (1 + lAt row 27) % 61)) := dMod_ok (by decide)
  have hrx : R.rIx (rV 5) (mC (.int 0)) (riS row per (.lst true ((act0 per 0 :: acts).map eA) :: tl) bias z3 z7 (some (1 + (i : Int)))) = some (5, [0]) := by
    have : ixN (tl.length + 1) 0 = some 0 := ixN_0 (by omega)
    simp [riS, R.rIx, nodeAt, ownAt, this]
  have htp : (mTup (mCons (mB dAdd (mB dIx (mV 2) (mC (.int 0))) (mB dMod (mL dInt (mCons (mB dMul (mV 9) (mB dAdd (mC (.int 1)) (mB dIx (mV 0) (mC (.int 27))))) mNil)) (mC (.int 61)))) (mCons (mC (.int 1)) (mCons (mP (mB dIx (mB dIx (mB dIx (mV 5) (mC (.int 0))) (mC (.int 0))) (mC (.int 2)))) mNil)))) (riS row per (.lst true ((act0 per 0 :: acts).map eA) :: tl) bias z3 z7 (some (1 + (i : Int)))) = some (eA (ringA per 0 ((1 + (i : Int)) * (1 + lAt row 27) % 61))) := by
    unfold ringA
    rw [cast_act]
    have q' : row[27]? = some (lAt row 27) := q
    have hx' : (prs200 per)[0]? = some (pr per 0) := hx
    simp [riS, hx', eI, q', hm, dMul_ok, hmd, eA, act0]
  unfold riB
  rw [mApp_def, hrx, bindS, htp, bindS]
  simp [riS, hlt]
def eRow1 (a : Act) : D := .lst true [eA a]
theorem eTo_ring {per x27 : Int} : eTo (ringT per x27) = .lst true (.lst true ((act0 per 0 :: extra per x27).map eA) :: (List.range 199).map fun s => eRow1 (act0 per (s + 1))) := by
  unfold eTo ringT eRow1
  rw [List.map_cons, List.map_map]
  rfl
theorem fr_one {d : Int} (h : 0 < d) : D.tup [.int 1, .int d] = fr (mkRat 1 d.toNat) := by
  rw [fr_mk (by omega), show Int.natAbs 1 = 1 from rfl, Nat.gcd_one_left]
  simp
  omega
theorem rep_one {k : Nat} {x : D} : (List.replicate k [x]).flatten = List.replicate k x := by
  induction k with
  | zero => rfl
  | succ n ih => rw [List.replicate_succ, List.flatten_cons, ih, List.replicate_succ]; rfl
theorem mul200 {x : D} (hx : frz x = true) : dMul (.lst true [x]) (.int 200) = some (.lst true (List.replicate 200 x)) := by
  have e : (200 : Int).toNat = 200 := rfl
  rw [dMul_lst, if_pos ⟨by simp [hx], by decide, by decide, by rw [e]; exact few (by simp)⟩, e, rep_one]
/-! ### what is asked about the ring -/
def rjS (row : List Int) (per : Int) (T : List (List Act)) (bias : List D) (paper : D) (z3 : Option D) (z7 z9 z11 z13 z14 z15 : Option D) : Rho :=
  [some (eI row), some (.int per), some (.lst true ((prs200 per).map D.int)), z3, some (.int (whole per)), some (eTb T), some (.lst true bias), z7, none, z9, some paper, z11, none, z13, z14, z15]
def rj8 : SM := (mSet 10 (mTup (mCons (mP (mV 5)) (mCons (mF (mB dMul (mLst (mCons (mCallB g_law_lowest (mCons (mV 4) (mCons (mC (.int 200)) mNil))) mNil)) (mC (.int 200)))) (mCons (mF (mB dMul (mLst (mCons (mC (.int 0)) mNil)) (mC (.int 200)))) (mCons (mF (mSl (mV 6) mNo (mSo (mC (.int 200))))) mNil))))))
def rjA : SM := (mIte (mNotB (mT (mCallB g_law_asked (mCons (mV 10) (mCons (mC (.int 1)) (mCons (mC .non) mNil)))))) (mRet (mC (.bl false))) mNx)
def rj3 : SM := (mSet 3 (mB dMod (mL dInt (mCons (mB dAdd (mB dMul (mB dIx (mV 0) (mC (.int 28))) (mC (.int 60))) (mB dIx (mV 0) (mC (.int 29)))) mNil)) (mC (.int 200))))
def rj11 : SM := (mSet 11 (mLc (mSeqA (mV 5)) [12] (gN 12) mYes (mL dList (mCons (mV 12) mNil))))
def rj13 : SM := (mSet 13 (mB dSub (mL dLen (mCons (mB dIx (mV 11) (mV 3)) mNil)) (mC (.int 1))))
def rjB : SM := (mSto (rIx (rV 11) (mV 3)) (mV 13) (mTup (mCons (mB dSub (mB dIx (mB dIx (mB dIx (mV 11) (mV 3)) (mV 13)) (mC (.int 0))) (mC (.int 64))) (mCons (mC (.int 1)) (mCons (mP (mB dIx (mB dIx (mB dIx (mV 11) (mV 3)) (mV 13)) (mC (.int 2)))) mNil)))))
def rjC : SM := (mIte (mNotB (mT (mCallB g_law_asked (mCons (mTup (mCons (mP (mV 11)) (mCons (mP (mB dIx (mV 10) (mC (.int 1)))) (mCons (mP (mB dIx (mV 10) (mC (.int 2)))) (mCons (mP (mB dIx (mV 10) (mC (.int 3)))) mNil))))) (mCons (mC (.int 1)) (mCons (mTup (mCons (mP (mV 3)) (mCons (mP (mV 13)) mNil))) mNil)))))) (mRet (mC (.bl false))) mNx)
def rj14 : SM := (mSet 14 (mL dList (mCons (mB dIx (mV 10) (mC (.int 3))) mNil)))
def rjD : SM := (mSto (rV 14) (mV 3) (mCallB g_law_sum (mCons (mB dIx (mV 14) (mV 3)) (mCons (mTup (mCons (mC (.int 1)) (mCons (mB dAdd (mC (.int 1)) (mB dIx (mV 0) (mC (.int 30)))) mNil))) mNil))))
def rj15 : SM := (mSet 15 (mCallB g_law_starts_fault (mCons (mV 5) (mCons (mC (.int 1)) (mCons (mB dIx (mV 10) (mC (.int 1))) (mCons (mB dIx (mV 10) (mC (.int 2))) (mCons (mV 14) mNil)))))))
def rjE : SM := (mFrz 5 (mFrz 14 (mRet (mCallB g_law_asked (mCons (mTup (mCons (mP (mV 5)) (mCons (mP (mB dIx (mV 10) (mC (.int 1)))) (mCons (mP (mB dIx (mV 10) (mC (.int 2)))) (mCons (mP (mV 14)) mNil))))) (mCons (mC (.int 1)) (mCons (mV 15) mNil)))))))
theorem rj8_v {per x27 : Int} {z7' : Option D} (h0 : 0 < per) (h1 : per < 40) (hb : bias = (List.range (200 + 1)).map fun s => fr (bs per s)) {z3' z9' : Option D} {pp : D} : ∀ ρ : Rho, ρ = [some (eI row), some (.int per), some (.lst true ((prs200 per).map D.int)), z3', some (.int (whole per)), some (eTb (ringT per x27)), some (.lst true bias), z7', none, z9', none, none, none, none, none, none] →
    rj8 ρ = some (.nx (rjS row per (ringT per x27) bias (ePap (ringT per x27) (ringC per) (ringB per) ringP) z3' z7' z9' none none none none)) := by
  rintro ρ rfl
  have hw := whole_bd h0 h1
  have hq1 : callB g_law_lowest [.int (whole per), .int 200] = some (fr (mkRat (whole per) 200)) := c_of (lowest_v (n := whole per) (d := 200) (by decide) (by decide)) rfl
  have m1 := mul200 (x := fr (mkRat (whole per) 200)) frz_fr
  have m2 := mul200 (x := D.int 0) rfl
  have e1 : fz (.lst true (List.replicate 200 (fr (mkRat (whole per) 200)))) = eV (ringC per) := by
    unfold eV ringC
    rw [List.map_replicate, fz_lst, fzL_frz]
    exact frzL_of fun d hd => by rw [List.eq_of_mem_replicate hd]; exact frz_fr
  have e2 : fz (.lst true (List.replicate 200 (D.int 0))) = eI ringP := by
    unfold eI ringP
    rw [List.map_replicate, fz_lst, fzL_frz]
    exact frzL_of fun d hd => by rw [List.eq_of_mem_replicate hd]; rfl
  have hbf : frzL bias = true := by subst hb; exact frzL_map fun _ => frz_fr
  have e3 : fz (.lst true (dcut bias none (some 200))) = eV (ringB per) := by
    have hl : bias.length = 201 := by subst hb; rw [List.length_map, List.length_range]
    have : dcut bias none (some 200) = (ringB per).map fr := by
      unfold dcut
      have i1 : HT.sIx bias.length 0 none = 0 := rfl
      have i2 : HT.sIx bias.length bias.length (some 200) = 200 := by rw [hl]; rfl
      rw [i1, i2]
      subst hb
      unfold ringB
      rw [List.drop_zero, List.map_map, ← List.map_take, List.take_range]
      rfl
    rw [this]
    unfold eV
    rw [fz_lst, fzL_frz _ frzL_fr]
  have f1 : frz (eTb (ringT per x27)) = true := frz_eTb
  unfold rj8
  rw [mSet_def, mTup_def, mCons_def, mCons_def, mCons_def, mCons_def, mNil_def, mF_def, mF_def, mF_def, mB_def, mB_def, mLst_def, mLst_def, mCons_def, mCons_def, mCallB_def, mCons_def, mCons_def, mNil_def, mSl_def, mP_def]
  simp only [mV_def, mC_def, List.getD_cons_succ, List.getD_cons_zero, consO_some, bindS, hq1, lstO_1, op2_some, m1, m2, mapS, e1, e2, mNo_def, mSo_def, asInt_def]
  have hs : dSl (.lst true bias) none (some 200) = some (.lst true (dcut bias none (some 200))) := by
    show (if frzL bias = true then some (D.lst true (dcut bias none (some 200))) else none) = _
    rw [if_pos hbf]
  rw [hs, mapS, e3, pO_def, if_pos f1, consO_some, consO_some, consO_some, consO_some, bindS, tupO_4]
  rfl
theorem ring2_v {per : Int} {z3 z7 z9 : Option D} (hrow : Row row) (hr : 230 ≤ row.length) (h0 : 0 < per) (h1 : per < 40) (hb : bias = (List.range (200 + 1)).map fun s => fr (bs per s)) :
    rtOf ((mSeq rjA (mSeq rj3 (mFrz 5 (mSeq rj11 (mSeq rj13 (mSeq rjB (mFrz 11 (mSeq rjC (mSeq rj14 (mSeq rjD (mSeq rj15 rjE)))))))))))
      (rjS row per (ringT per (lAt row 27)) bias (ePap (ringT per (lAt row 27)) (ringC per) (ringB per) ringP) z3 z7 z9 none none none none)) = some (.bl true) := by
  obtain ⟨q28, a28, b28⟩ := row_at hrow (k := 28) (by omega)
  obtain ⟨q29, a29, b29⟩ := row_at hrow (k := 29) (by omega)
  obtain ⟨q30, a30, b30⟩ := row_at hrow (k := 30) (by omega)
  generalize lAt row 27 = x27
  obtain ⟨T, hT⟩ : ∃ T, ringT per x27 = T := ⟨_, rfl⟩
  have hlen : T.length = 200 := by rw [← hT]; exact ring_len
  have A := ring_pap (per := per) (x27 := x27) (b := ringB per) h0 h1 ringB_len (fun x hx => (ringB_lvl h0 h1 x hx).to (by decide) (by decide))
  have ask1 := c_asked A ring_clean
  have s1 : rjA (rjS row per (ringT per x27) bias (ePap (ringT per x27) (ringC per) (ringB per) ringP) z3 z7 z9 none none none none) = some (.nx (rjS row per (ringT per x27) bias (ePap (ringT per x27) (ringC per) (ringB per) ringP) z3 z7 z9 none none none none)) := by
    have ask1' : callB g_law_asked [ePap (ringT per x27) (ringC per) (ringB per) ringP, .int 1, .non] = some (.bl true) := ask1
    simp [rjA, rjS, ask1']
  obtain ⟨s, hs⟩ := nat_of (Int.emod_nonneg (lAt row 28 * 60 + lAt row 29) (b := 200) (by decide))
  have hs2 : s < 200 := by have := Int.emod_lt_of_pos (lAt row 28 * 60 + lAt row 29) (b := 200) (by decide); omega
  have hm : mulOk (lAt row 28) 60 := mulOk_of (a := 6) (b := 6) (by omega) (by decide) (by decide)
  have s2 : rj3 (rjS row per (ringT per x27) bias (ePap (ringT per x27) (ringC per) (ringB per) ringP) z3 z7 z9 none none none none) = some (.nx (rjS row per (ringT per x27) bias (ePap (ringT per x27) (ringC per) (ringB per) ringP) (some (.int (s : Int))) z7 z9 none none none none)) := by
    simp [rj3, rjS, eI, q28, q29, hm, dMul_ok, dMod_ok, hs]
  have hsT : s < (ringT per x27).length := by rw [ring_len]; exact hs2
  have xr := arow_some hsT
  have hlr := len_row (per := per) (x27 := x27) hs2
  have hla : lastOf s < (arow (ringT per x27) s).length := by omega
  have xa := aact_some hla
  have f5 : ∀ z, mFrz 5 z (rjS row per (ringT per x27) bias (ePap (ringT per x27) (ringC per) (ringB per) ringP) (some (.int (s : Int))) z7 z9 none none none none) = z (rjS row per (ringT per x27) bias (ePap (ringT per x27) (ringC per) (ringB per) ringP) (some (.int (s : Int))) z7 z9 none none none none) := fun z => by
    rw [mFrz_def]
    simp [rjS]
  have s3 : rj11 (rjS row per (ringT per x27) bias (ePap (ringT per x27) (ringC per) (ringB per) ringP) (some (.int (s : Int))) z7 z9 none none none none) = some (.nx (rjS row per (ringT per x27) bias (ePap (ringT per x27) (ringC per) (ringB per) ringP) (some (.int (s : Int))) z7 z9 (some (eTo (ringT per x27))) none none none)) := by
    have hL1 : (ringT per x27).length ≤ sizeLine := few (by rw [ring_len]; decide)
    generalize hρ : rjS row per (ringT per x27) bias (ePap (ringT per x27) (ringC per) (ringB per) ringP) (some (.int (s : Int))) z7 z9 none none none none = ρ
    have t1 : mSeqA (mV 5) ρ = some ((ringT per x27).map eAs) := by subst hρ; simp [rjS, eTb]
    have t2 : lcL (gN 12) mYes (mL dList (mCons (mV 12) mNil)) ρ ((ringT per x27).map eAs) = some ((ringT per x27).map fun r => .lst true (r.map eA)) := by
      refine lcL_mapOn fun r _ => ⟨ρ.set 12 (some (eAs r)), by subst hρ; simp [rjS], rfl, ?_⟩
      subst hρ
      simp [rjS, eAs]
    have t3 : ρ.set 12 none = ρ := by subst hρ; rfl
    unfold rj11
    rw [mSet_def, mLc_def, t1, bindS, wipeO_cons, wipeO_nil, bindS, if_pos (by subst hρ; simp [rjS]), bindS, if_pos (by rw [List.length_map]; exact hL1), t3, t2]
    subst hρ
    simp [rjS, eTo]
  have s4 : rj13 (rjS row per (ringT per x27) bias (ePap (ringT per x27) (ringC per) (ringB per) ringP) (some (.int (s : Int))) z7 z9 (some (eTo (ringT per x27))) none none none) = some (.nx (rjS row per (ringT per x27) bias (ePap (ringT per x27) (ringC per) (ringB per) ringP) (some (.int (s : Int))) z7 z9 (some (eTo (ringT per x27))) (some (.int (lastOf s : Int))) none none)) := by
    simp [rj13, rjS, eTo, xr, hlr]
  obtain ⟨d, hd, _, _, _⟩ := ring_act (per := per) (x27 := x27) (s := s) (a := lastOf s) hs2 hla
  have hbent : eA (bentA per x27 s) = .tup [.int (pr per s + d - 64), .int 1, eI (oneAt 200 1 ((s + 1) % 200))] := by
    have : bentA per x27 s = ⟨((pr per s + d - 64 : Int) : Rat), oneAt 200 1 ((s + 1) % 200)⟩ := by
      unfold bentA
      rw [hd]
      unfold ringA
      rw [Rat.intCast_sub]; rfl
    rw [this, cast_act]
  have xa' : (arow (ringT per x27) s)[lastOf s]? = some (ringA per s d) := by rw [xa, hd]
  have s5 : rjB (rjS row per (ringT per x27) bias (ePap (ringT per x27) (ringC per) (ringB per) ringP) (some (.int (s : Int))) z7 z9 (some (eTo (ringT per x27))) (some (.int (lastOf s : Int))) none none) = some (.nx (rjS row per (ringT per x27) bias (ePap (ringT per x27) (ringC per) (ringB per) ringP) (some (.int (s : Int))) z7 z9 (some (eTo (bentT per x27 s))) (some (.int (lastOf s : Int))) none none)) := by
    have ha : eA (ringA per s d) = .tup [.int (pr per s + d), .int 1, eI (oneAt 200 1 ((s + 1) % 200))] := by unfold ringA; rw [cast_act]
    unfold bentT
    generalize bentA per x27 s = ba at hbent ⊢
    generalize ringA per s d = ra at ha xa'
    simp [rjB, rjS, eTo, xr, xa', ha, R.rIx, nodeAt, ownAt, ixN_at hsT, ixN_at hla, hbent]
  have f11 : ∀ z, mFrz 11 z (rjS row per (ringT per x27) bias (ePap (ringT per x27) (ringC per) (ringB per) ringP) (some (.int (s : Int))) z7 z9 (some (eTo (bentT per x27 s))) (some (.int (lastOf s : Int))) none none) = z (rjS row per (ringT per x27) bias (ePap (ringT per x27) (ringC per) (ringB per) ringP) (some (.int (s : Int))) z7 z9 (some (eTb (bentT per x27 s))) (some (.int (lastOf s : Int))) none none) := fun z => by
    rw [mFrz_def]
    simp [rjS]
  have ask2 := c_asked (bent_pap (per := per) (x27 := x27) h0 h1 hs2) (bent_fault hs2)
  have s6 : rjC (rjS row per (ringT per x27) bias (ePap (ringT per x27) (ringC per) (ringB per) ringP) (some (.int (s : Int))) z7 z9 (some (eTb (bentT per x27 s))) (some (.int (lastOf s : Int))) none none) = some (.nx (rjS row per (ringT per x27) bias (ePap (ringT per x27) (ringC per) (ringB per) ringP) (some (.int (s : Int))) z7 z9 (some (eTb (bentT per x27 s))) (some (.int (lastOf s : Int))) none none)) := by
    have ask2' : callB g_law_asked [.tup [eTb (bentT per x27 s), eV (ringC per), eI ringP, eV (ringB per)], .int 1, .tup [.int (s : Int), .int (lastOf s : Int)]] = some (.bl true) := ask2
    simp [rjC, rjS, ePap, ask2']
  have s7 : rj14 (rjS row per (ringT per x27) bias (ePap (ringT per x27) (ringC per) (ringB per) ringP) (some (.int (s : Int))) z7 z9 (some (eTb (bentT per x27 s))) (some (.int (lastOf s : Int))) none none) = some (.nx (rjS row per (ringT per x27) bias (ePap (ringT per x27) (ringC per) (ringB per) ringP) (some (.int (s : Int))) z7 z9 (some (eTb (bentT per x27 s))) (some (.int (lastOf s : Int))) (some (.lst true ((ringB per).map fr))) none)) := by
    simp [rj14, rjS, ePap, eV]
  have hsb : s < (ringB per).length := by rw [ringB_len]; exact hs2
  have xb := vAt_some hsb
  have lb := ringB_lvl h0 h1 _ (vAt_mem hsb)
  have ld : Lvl 1 90 (mkRat 1 (1 + lAt row 30).toNat) := (Lvl.frac (n := 1) (b := 1) (by omega) (by omega) (by decide)).le (by decide)
  have hq := c_of (sum_v lb.sz ld.sz) (by simp)
  obtain ⟨mv, hmv⟩ : ∃ mv : Rat, vAt (ringB per) s + mkRat 1 (1 + lAt row 30).toNat = mv := ⟨_, rfl⟩
  have lmv : Lvl 1 107 mv := by rw [← hmv]; exact lb.add ld |>.le (by decide)
  rw [hmv] at hq
  have s8 : rjD (rjS row per (ringT per x27) bias (ePap (ringT per x27) (ringC per) (ringB per) ringP) (some (.int (s : Int))) z7 z9 (some (eTb (bentT per x27 s))) (some (.int (lastOf s : Int))) (some (.lst true ((ringB per).map fr))) none) = some (.nx (rjS row per (ringT per x27) bias (ePap (ringT per x27) (ringC per) (ringB per) ringP) (some (.int (s : Int))) z7 z9 (some (eTb (bentT per x27 s))) (some (.int (lastOf s : Int))) (some (.lst true (((ringB per).set s mv).map fr))) none)) := by
    have hf1 := fr_one (d := 1 + lAt row 30) (by omega)
    simp [rjD, rjS, eI, xb, q30, hf1, hq, ixN_at hsb]
  have A2 := ring_pap (per := per) (x27 := x27) (b := (ringB per).set s mv) h0 h1 (by rw [List.length_set]; exact ringB_len) (fun x hx => by
    rcases List.mem_or_eq_of_mem_set hx with h | rfl
    · exact (ringB_lvl h0 h1 x h).to (by decide) (by decide)
    · exact lmv.to (by decide) (by decide))
  have cf := c_fault A2
  have cf' : callB g_law_starts_fault [eTb (ringT per x27), .int 1, eV (ringC per), eI ringP, .lst true (((ringB per).set s mv).map fr)] = some (fault (ringT per x27) (ringC per) ((ringB per).set s mv) ringP 1) := by
    have := law_starts_fault_v A2
    refine callB_of ?_ fault_tf
    have hz : fz (.lst true (((ringB per).set s mv).map fr)) = eV ((ringB per).set s mv) := by
      unfold eV
      rw [fz_lst, fzL_frz _ frzL_fr]
    simp only [fzL_cons, fzL_nil, hz, fz_eTb, fz_int, fz_eV, fz_eI]
    exact this
  have s9 : rj15 (rjS row per (ringT per x27) bias (ePap (ringT per x27) (ringC per) (ringB per) ringP) (some (.int (s : Int))) z7 z9 (some (eTb (bentT per x27 s))) (some (.int (lastOf s : Int))) (some (.lst true (((ringB per).set s mv).map fr))) none) = some (.nx (rjS row per (ringT per x27) bias (ePap (ringT per x27) (ringC per) (ringB per) ringP) (some (.int (s : Int))) z7 z9 (some (eTb (bentT per x27 s))) (some (.int (lastOf s : Int))) (some (.lst true (((ringB per).set s mv).map fr))) (some (fault (ringT per x27) (ringC per) ((ringB per).set s mv) ringP 1)))) := by
    generalize (ringB per).set s mv = bb at cf' ⊢
    simp [rj15, rjS, ePap, cf']
  have ask3 := c_asked A2 rfl
  have hz : fz (.lst true (((ringB per).set s mv).map fr)) = eV ((ringB per).set s mv) := by
    unfold eV
    rw [fz_lst, fzL_frz _ frzL_fr]
  have s10 : rjE (rjS row per (ringT per x27) bias (ePap (ringT per x27) (ringC per) (ringB per) ringP) (some (.int (s : Int))) z7 z9 (some (eTb (bentT per x27 s))) (some (.int (lastOf s : Int))) (some (.lst true (((ringB per).set s mv).map fr))) (some (fault (ringT per x27) (ringC per) ((ringB per).set s mv) ringP 1))) = some (.rt (.bl true)) := by
    have ask3' : callB g_law_asked [.tup [eTb (ringT per x27), eV (ringC per), eI ringP, eV ((ringB per).set s mv)], .int 1, fault (ringT per x27) (ringC per) ((ringB per).set s mv) ringP 1] = some (.bl true) := ask3
    generalize (ringB per).set s mv = bb at ask3' hz ⊢
    have hz' : fzL (bb.map fr) = bb.map fr := fzL_fr
    unfold eV at ask3'
    simp [rjE, rjS, ePap, eV, ask3']
  rw [seq_nx s1, seq_nx s2, f5, seq_nx s3, seq_nx s4, seq_nx s5, f11, seq_nx s6, seq_nx s7, seq_nx s8, seq_nx s9, s10]
  rfl
/-- the ring is asked about -/
theorem ring_v {row : List Int} (hrow : Row row) (hr : 230 ≤ row.length) : g_law_ring [eI row] = some (.bl true) := by
  obtain ⟨q26, a26, b26⟩ := row_at hrow (k := 26) (by omega)
  obtain ⟨q27, a27, b27⟩ := row_at hrow (k := 27) (by omega)
  obtain ⟨q28, a28, b28⟩ := row_at hrow (k := 28) (by omega)
  obtain ⟨q29, a29, b29⟩ := row_at hrow (k := 29) (by omega)
  obtain ⟨q30, a30, b30⟩ := row_at hrow (k := 30) (by omega)
  obtain ⟨per, hper⟩ : ∃ per : Int, 2 + lAt row 26 % 30 = per := ⟨_, rfl⟩
  have h0 : 0 < per := by omega
  have h1 : per < 40 := by omega
  have hw := whole_bd h0 h1
  have hL : (List.range 200).length ≤ sizeLine := few (by rw [List.length_range]; decide)
  have s1 : mSet 1 (mB dAdd (mC (.int 2)) (mB dMod (mL dInt (mCons (mB dIx (mV 0) (mC (.int 26))) mNil)) (mC (.int 30)))) (([eI row] : List D).map some ++ List.replicate (16 - 1) none) = some (.nx ([some (eI row), some (.int per)] ++ List.replicate 14 none)) := by
    simp [eI, q26, dMod_ok, hper]
  have s2 : mSet 2 (mLc (mRng1 (mCons (mC (.int 200)) mNil)) [3] (gN 3) mYes (mB dMod (mL dInt (mCons (mV 3) mNil)) (mV 1))) ([some (eI row), some (.int per)] ++ List.replicate 14 none) = some (.nx ([some (eI row), some (.int per), some (.lst true ((prs200 per).map D.int))] ++ List.replicate 13 none)) := by
    have t1 : mRng1 (mCons (mC (.int 200)) mNil) ([some (eI row), some (.int per)] ++ List.replicate 14 none) = some ((List.range 200).map fun (t : Nat) => D.int (t : Int)) := by
      rw [← rngD0, mRng1_def, mCons_def, mC_def, mNil_def, consO_some, bindS, rng200]
    have t2 : lcL (gN 3) mYes (mB dMod (mL dInt (mCons (mV 3) mNil)) (mV 1)) ([some (eI row), some (.int per)] ++ List.replicate 14 none) ((List.range 200).map fun (t : Nat) => D.int (t : Int)) = some ((List.range 200).map fun t => D.int (pr per t)) := by
      refine lcL_mapOn fun t ht => ⟨([some (eI row), some (.int per)] ++ List.replicate 14 none : Rho).set 3 (some (.int (t : Int))), by simp, rfl, ?_⟩
      simp [dMod_ok, h0, pr]
    have t3 : ([some (eI row), some (.int per)] ++ List.replicate 14 none : Rho).set 3 none = ([some (eI row), some (.int per)] ++ List.replicate 14 none) := rfl
    rw [mSet_def, mLc_def, t1, bindS, wipeO_cons, wipeO_nil, bindS, if_pos (by simp), bindS, if_pos (by rw [List.length_map]; exact hL), t3, t2, mapS]
    unfold prs200
    rw [List.map_map]; rfl
  have s3 : mSet 4 (mL dSum (mCons (mV 2) mNil)) ([some (eI row), some (.int per), some (.lst true ((prs200 per).map D.int))] ++ List.replicate 13 none) = some (.nx ([some (eI row), some (.int per), some (.lst true ((prs200 per).map D.int)), none, some (.int (whole per))] ++ List.replicate 11 none)) := by
    have e : (prs200 per).sum = whole per := sumI_list
    rw [mSet_def, mL_def, mCons_def, mNil_def, mV_def, show ([some (eI row), some (.int per), some (.lst true ((prs200 per).map D.int))] ++ List.replicate 13 none : Rho).getD 2 none = some (.lst true ((prs200 per).map D.int)) from rfl, consO_some, bindS, dSum_ints, e]
    rfl
  have s4 : mSet 5 (mLst mNil) ([some (eI row), some (.int per), some (.lst true ((prs200 per).map D.int)), none, some (.int (whole per))] ++ List.replicate 11 none) = some (.nx ([some (eI row), some (.int per), some (.lst true ((prs200 per).map D.int)), none, some (.int (whole per)), some (.lst true [])] ++ List.replicate 10 none)) := by
    rw [mSet_def, mLst_def, mNil_def, bindS, lstO_0]; rfl
  have s5 : mSet 6 (mLst (mCons (mTup (mCons (mC (.int 0)) (mCons (mC (.int 1)) mNil))) mNil)) ([some (eI row), some (.int per), some (.lst true ((prs200 per).map D.int)), none, some (.int (whole per)), some (.lst true [])] ++ List.replicate 10 none) = some (.nx (riS row per [] [fr (bs per 0)] none none none)) := by
    rw [mSet_def, mLst_def, mCons_def, mTup_def, mCons_def, mCons_def, mC_def, mC_def, mNil_def, consO_some, consO_some, bindS, tupO_2, consO_some, bindS, lstO_1, bs_zero]; rfl
  obtain ⟨ρ1, e1, z3, z7, rfl⟩ := forL_inv (h := gN 3) (body := riA) (l := rngD 0 200) (k := 0) (ρ := riS row per [] [fr (bs per 0)] none none none)
    (fun k ρ => ∃ z3 z7, ρ = riS row per ((List.range k).map fun s => eRow1 (act0 per s)) ((List.range (k + 1)).map fun s => fr (bs per s)) z3 z7 none) ⟨none, none, rfl⟩ (fun s d ρ hd => by
      rintro ⟨z3, z7, rfl⟩
      obtain ⟨hs, rfl⟩ := rngD_at hd
      rw [Nat.zero_add]
      have g : gN 3 (.int (0 + (s : Int))) (riS row per ((List.range s).map fun s => eRow1 (act0 per s)) ((List.range (s + 1)).map fun s => fr (bs per s)) z3 z7 none) = some (riS row per ((List.range s).map fun s => eRow1 (act0 per s)) ((List.range (s + 1)).map fun s => fr (bs per s)) (some (s : Int)) z7 none) := by cases z3 <;> simp [riS]
      obtain ⟨z7', t⟩ := riA_v (row := row) (per := per) (tab := (List.range s).map fun s => eRow1 (act0 per s)) (bias := (List.range (s + 1)).map fun s => fr (bs per s)) (z7 := z7) (z9 := none) h0 h1 hs (by rw [List.length_map, List.length_range]; omega) (by rw [List.length_map, List.length_range]; omega) (by rw [List.getElem?_map, List.getElem?_range (by omega)]; rfl)
      have ea : (List.range s).map (fun s => eRow1 (act0 per s)) ++ [.lst true [eA (act0 per s)]] = (List.range (s + 1)).map (fun s => eRow1 (act0 per s)) := range_app
      have eb : (List.range (s + 1)).map (fun s => fr (bs per s)) ++ [fr (bs per (s + 1))] = (List.range (s + 1 + 1)).map (fun s => fr (bs per s)) := range_app
      rw [ea, eb] at t
      exact ⟨_, by unfold turnK; rw [g, bindS]; exact t, some (s : Int), z7', rfl⟩)
  rw [rngD_len, Nat.zero_add] at e1
  have s6 : mFor (mRng1 (mCons (mC (.int 200)) mNil)) (gN 3) riA (riS row per [] [fr (bs per 0)] none none none) = some (.nx (riS row per ((List.range 200).map fun s => eRow1 (act0 per s)) ((List.range (200 + 1)).map fun s => fr (bs per s)) z3 z7 none)) := by
    have : mRng1 (mCons (mC (.int 200)) mNil) (riS row per [] [fr (bs per 0)] none none none) = some (rngD 0 200) := by
      rw [mRng1_def, mCons_def, mC_def, mNil_def, consO_some, bindS, rng200]
    rw [mFor_def, this]
    exact e1
  have et : (List.range 200).map (fun s => eRow1 (act0 per s)) = .lst true ((act0 per 0 :: []).map eA) :: (List.range 199).map fun s => eRow1 (act0 per (s + 1)) := by
    rw [show (200 : Nat) = 199 + 1 from rfl, List.range_succ_eq_map, List.map_cons, List.map_map]; rfl
  obtain ⟨bias, hbias⟩ : ∃ bias : List D, (List.range (200 + 1)).map (fun s => fr (bs per s)) = bias := ⟨_, rfl⟩
  rw [et, hbias] at s6
  obtain ⟨ρ2, e2, z9, rfl⟩ := forL_inv (h := gN 9) (body := riB) (l := rngD 1 63) (k := 0) (ρ := riS row per (.lst true ((act0 per 0 :: []).map eA) :: (List.range 199).map fun s => eRow1 (act0 per (s + 1))) bias z3 z7 none)
    (fun k ρ => ∃ z9, ρ = riS row per (.lst true ((act0 per 0 :: (List.range k).map fun (i : Nat) => ringA per 0 ((1 + (i : Int)) * (1 + lAt row 27) % 61)).map eA) :: (List.range 199).map fun s => eRow1 (act0 per (s + 1))) bias z3 z7 z9) ⟨none, rfl⟩ (fun i d ρ hd => by
      rintro ⟨z9, rfl⟩
      obtain ⟨hi, rfl⟩ := rngD_at hd
      rw [Nat.zero_add]
      have g : ∀ tab, gN 9 (.int (1 + (i : Int))) (riS row per tab bias z3 z7 z9) = some (riS row per tab bias z3 z7 (some (1 + (i : Int)))) := fun tab => by cases z9 <;> simp [riS]
      have t := riB_v (row := row) (per := per) (bias := bias) (z3 := z3) (z7 := z7) (acts := (List.range i).map fun (i : Nat) => ringA per 0 ((1 + (i : Int)) * (1 + lAt row 27) % 61)) (tl := (List.range 199).map fun s => eRow1 (act0 per (s + 1))) hrow hr hi (by rw [List.length_map, List.length_range]; omega)
      rw [range_app (f := fun (i : Nat) => ringA per 0 ((1 + (i : Int)) * (1 + lAt row 27) % 61))] at t
      exact ⟨_, by unfold turnK; rw [g, bindS]; exact t, some (1 + (i : Int)), rfl⟩)
  rw [rngD_len, Nat.zero_add] at e2
  have s7 : mFor (mRng2 (mCons (mC (.int 1)) (mCons (mC (.int 64)) mNil))) (gN 9) riB (riS row per (.lst true ((act0 per 0 :: []).map eA) :: (List.range 199).map fun s => eRow1 (act0 per (s + 1))) bias z3 z7 none) = some (.nx (riS row per (.lst true ((act0 per 0 :: extra per (lAt row 27)).map eA) :: (List.range 199).map fun s => eRow1 (act0 per (s + 1))) bias z3 z7 z9)) := by
    have k2 : rng2 [.int 1, .int 64] = some (rngD 1 63) := rng2_int (by decide)
    have : ∀ ρ, mRng2 (mCons (mC (.int 1)) (mCons (mC (.int 64)) mNil)) ρ = some (rngD 1 63) := fun ρ => by
      rw [mRng2_def, mCons_def, mCons_def, mC_def, mC_def, mNil_def, consO_some, consO_some, bindS, k2]
    rw [mFor_def, this]
    exact e2
  have s8 : ∀ z, mFrz 5 z (riS row per (.lst true ((act0 per 0 :: extra per (lAt row 27)).map eA) :: (List.range 199).map fun s => eRow1 (act0 per (s + 1))) bias z3 z7 z9) = z [some (eI row), some (.int per), some (.lst true ((prs200 per).map D.int)), z3.map D.int, some (.int (whole per)), some (eTb (ringT per (lAt row 27))), some (.lst true bias), z7, none, z9.map D.int, none, none, none, none, none, none] := fun z => by
    rw [mFrz_def, mV_def]
    have e : (riS row per (.lst true ((act0 per 0 :: extra per (lAt row 27)).map eA) :: (List.range 199).map fun s => eRow1 (act0 per (s + 1))) bias z3 z7 z9).getD 5 none = some (eTo (ringT per (lAt row 27))) := by
      rw [eTo_ring]; rfl
    rw [e, bindS, fz_eTo]
    rfl
  have s9 := rj8_v (row := row) (x27 := lAt row 27) (z7' := z7) (z3' := z3.map D.int) (z9' := z9.map D.int) (pp := .non) h0 h1 hbias.symm _ rfl
  have s10 := ring2_v (row := row) (z3 := z3.map D.int) (z7 := z7) (z9 := z9.map D.int) hrow hr h0 h1 hbias.symm
  have em : m_law_ring = (mSeq (mSet 1 (mB dAdd (mC (.int 2)) (mB dMod (mL dInt (mCons (mB dIx (mV 0) (mC (.int 26))) mNil)) (mC (.int 30)))))
    (mSeq (mSet 2 (mLc (mRng1 (mCons (mC (.int 200)) mNil)) [3] (gN 3) mYes (mB dMod (mL dInt (mCons (mV 3) mNil)) (mV 1)))) (mSeq (mSet 4 (mL dSum (mCons (mV 2) mNil))) (mSeq (mSet 5 (mLst mNil))
    (mSeq (mSet 6 (mLst (mCons (mTup (mCons (mC (.int 0)) (mCons (mC (.int 1)) mNil))) mNil))) (mSeq (mFor (mRng1 (mCons (mC (.int 200)) mNil)) (gN 3) riA)
    (mSeq (mFor (mRng2 (mCons (mC (.int 1)) (mCons (mC (.int 64)) mNil))) (gN 9) riB)
    (mFrz 5 (mSeq rj8 (mSeq rjA (mSeq rj3 (mFrz 5 (mSeq rj11 (mSeq rj13 (mSeq rjB (mFrz 11 (mSeq rjC (mSeq rj14 (mSeq rjD (mSeq rj15 rjE)))))))))))))))))))) := rfl
  unfold g_law_ring
  rw [run_def, em, seq_nx s1, seq_nx s2, seq_nx s3, seq_nx s4, seq_nx s5, seq_nx s6, seq_nx s7, s8, seq_nx s9]
  exact s10
end
end K64

set_option Elab.async false
set_option linter.all false
set_option maxRecDepth 100000
set_option maxHeartbeats 4000000
/-! K64J: the law. -/
namespace K64
open PySem L2 R
theorem lc_range {v n : Nat} {ρ : Rho} {m : EM} {src : LM} {f : Nat → D} (hsrc : src ρ = some ((List.range n).map fun (t : Nat) => D.int (t : Int))) (hn : n < 1000) (hv : v < ρ.length) (hf : jk (ρ.getD v none) = true) (hm : ∀ t, t < n → m ((ρ.set v none).set v (some (.int (t : Int)))) = some (f t)) :
    mLc src [v] (gN v) mYes m ρ = some (.lst true ((List.range n).map f)) := by
  have hL : ((List.range n).map fun (t : Nat) => D.int (t : Int)).length ≤ sizeLine := few (by rw [List.length_map, List.length_range]; omega)
  have s2 : lcL (gN v) mYes m (ρ.set v none) ((List.range n).map fun (t : Nat) => D.int (t : Int)) = some ((List.range n).map f) := by
    refine lcL_mapOn fun t ht => ⟨(ρ.set v none).set v (some (.int (t : Int))), ?_, rfl, hm t (List.mem_range.mp ht)⟩
    rw [gN_def, if_pos ⟨by rw [List.length_set]; exact hv, by rw [slotFrz_def, List.getD_eq_getElem?_getD, List.getElem?_set]; simp [hv]⟩]
  rw [mLc_def, hsrc, bindS, wipeO_cons, wipeO_nil, bindS, if_pos (by rw [slotFrz_def]; exact hf), bindS, if_pos hL, s2, mapS]
theorem atN {row : List Int} {i : Int} {k : Nat} (h : i = (k : Int)) (hk : k < row.length) : atI (row.map D.int) i = some (.int (lAt row k)) := by
  rw [h, atI_cast, List.getElem?_map, lAt_some hk]; rfl
def lw0 (ns row : List Int) (n total : Nat) (tl : Rho) : Rho := some (.scr (ns.map D.int)) :: some (eI row) :: some (.int (n : Int)) :: some (.int (total : Int)) :: tl
/-- a paper spoilt twice, and asked each time -/
def lwB : SM := (mFrz 1 (mSeq (mSet 15 (mCall g_law_spoilt (mCons (mV 1) (mCons (mV 12) (mCons (mV 3) (mCons (mV 14) mNil))))))
    (mSeq (mIte (mNotB (mT (mCallB g_law_asked (mCons (mV 15) (mCons (mV 3) (mCons (mCallB g_law_starts_fault (mCons (mB dIx (mV 15) (mC (.int 0))) (mCons (mV 3) (mCons (mB dIx (mV 15) (mC (.int 1))) (mCons (mB dIx (mV 15) (mC (.int 2))) (mCons (mB dIx (mV 15) (mC (.int 3))) mNil)))))) mNil)))))) (mRet (mC (.bl false))) mNx)
    (mSeq (mSet 16 (mCall g_law_spoilt (mCons (mF (mB dAdd (mSl (mV 1) (mSo (mC (.int 9))) mNo) (mV 1))) (mCons (mV 15) (mCons (mV 3) (mCons (mB dMod (mL dInt (mCons (mB dIx (mV 1) (mC (.int 33))) mNil)) (mC (.int 13))) mNil))))))
    (mIte (mNotB (mT (mCallB g_law_asked (mCons (mV 16) (mCons (mV 3) (mCons (mCallB g_law_starts_fault (mCons (mB dIx (mV 16) (mC (.int 0))) (mCons (mV 3) (mCons (mB dIx (mV 16) (mC (.int 1))) (mCons (mB dIx (mV 16) (mC (.int 2))) (mCons (mB dIx (mV 16) (mC (.int 3))) mNil)))))) mNil)))))) (mRet (mC (.bl false))) mNx)))))
def lwS (ns row : List Int) (n total : Nat) (z4 z5 z7 z8 z9 z10 z11 : Option D) (paper : D) (z14 : Option Int) (z15 z16 : Option D) : Rho :=
  [some (.scr (ns.map D.int)), some (eI row), some (.int (n : Int)), some (.int (total : Int)), z4, z5, none, z7, z8, z9, z10, z11, some paper, none, z14.map D.int, z15, z16, none, none]
section
variable {ns row : List Int} {n total : Nat} {z4 z5 z7 z8 z9 z10 z11 z15 z16 : Option D} {T : List (List Act)} {c b : List Rat} {pol : List Int}
theorem lwB_v {way : Int} (hrow : Row row) (hr : 230 ≤ row.length) (hr2 : row.length ≤ 5000) (W : Wf n total 6000 3 T c b pol) : ∃ z15' z16', lwB (lwS ns row n total z4 z5 z7 z8 z9 z10 z11 (ePap T c b pol) (some way) z15 z16) = some (.nx (lwS ns row n total z4 z5 z7 z8 z9 z10 z11 (ePap T c b pol) (some way) z15' z16')) := by
  obtain ⟨q33, _, _⟩ := row_at hrow (k := 33) (by omega)
  obtain ⟨T1, c1, b1, p1, e1, W1⟩ := spoilt_v (way := way) hrow (by omega) W (by decide) (by decide) (by decide)
  have A1 := W1.pap (by decide) (by decide)
  have hrow2 : Row (row.drop 9 ++ row) := fun x hx => by
    rcases List.mem_append.mp hx with h | h
    · exact hrow x (List.mem_of_mem_drop h)
    · exact hrow x h
  obtain ⟨T2, c2, b2, p2, e2, W2⟩ := spoilt_v (way := lAt row 33 % 13) hrow2 (by rw [List.length_append]; omega) W1 (by decide) (by decide) (by decide)
  have A2 := W2.pap (by decide) (by decide)
  have h1 : callM g_law_spoilt [eI row, ePap T c b pol, .int (total : Int), .int way] = some (ePap T1 c1 b1 p1) := callM_of (by simp) e1
  have h2 : callM g_law_spoilt [eI (row.drop 9 ++ row), ePap T1 c1 b1 p1, .int (total : Int), .int (lAt row 33 % 13)] = some (ePap T2 c2 b2 p2) := callM_of (by simp) e2
  have k1 := c_fault A1
  have k2 := c_fault A2
  have a1 := c_asked A1 rfl
  have a2 := c_asked A2 rfl
  refine ⟨some (ePap T1 c1 b1 p1), some (ePap T2 c2 b2 p2), ?_⟩
  have f1 : ∀ z, mFrz 1 z (lwS ns row n total z4 z5 z7 z8 z9 z10 z11 (ePap T c b pol) (some way) z15 z16) = z (lwS ns row n total z4 z5 z7 z8 z9 z10 z11 (ePap T c b pol) (some way) z15 z16) := fun z => by
    rw [mFrz_def]
    simp [lwS]
  have g1 : mSet 15 (mCall g_law_spoilt (mCons (mV 1) (mCons (mV 12) (mCons (mV 3) (mCons (mV 14) mNil))))) (lwS ns row n total z4 z5 z7 z8 z9 z10 z11 (ePap T c b pol) (some way) z15 z16) = some (.nx (lwS ns row n total z4 z5 z7 z8 z9 z10 z11 (ePap T c b pol) (some way) (some (ePap T1 c1 b1 p1)) z16)) := by
    simp [lwS, h1]
  have g2 : mIte (mNotB (mT (mCallB g_law_asked (mCons (mV 15) (mCons (mV 3) (mCons (mCallB g_law_starts_fault (mCons (mB dIx (mV 15) (mC (.int 0))) (mCons (mV 3) (mCons (mB dIx (mV 15) (mC (.int 1))) (mCons (mB dIx (mV 15) (mC (.int 2))) (mCons (mB dIx (mV 15) (mC (.int 3))) mNil)))))) mNil)))))) (mRet (mC (.bl false))) mNx (lwS ns row n total z4 z5 z7 z8 z9 z10 z11 (ePap T c b pol) (some way) (some (ePap T1 c1 b1 p1)) z16) = some (.nx (lwS ns row n total z4 z5 z7 z8 z9 z10 z11 (ePap T c b pol) (some way) (some (ePap T1 c1 b1 p1)) z16)) := by
    generalize fault T1 c1 b1 p1 total = ft at k1 a1
    unfold ePap at a1 ⊢
    simp [lwS, k1, a1]
  have g3 : mSet 16 (mCall g_law_spoilt (mCons (mF (mB dAdd (mSl (mV 1) (mSo (mC (.int 9))) mNo) (mV 1))) (mCons (mV 15) (mCons (mV 3) (mCons (mB dMod (mL dInt (mCons (mB dIx (mV 1) (mC (.int 33))) mNil)) (mC (.int 13))) mNil))))) (lwS ns row n total z4 z5 z7 z8 z9 z10 z11 (ePap T c b pol) (some way) (some (ePap T1 c1 b1 p1)) z16) = some (.nx (lwS ns row n total z4 z5 z7 z8 z9 z10 z11 (ePap T c b pol) (some way) (some (ePap T1 c1 b1 p1)) (some (ePap T2 c2 b2 p2)))) := by
    have hsl : dSl (eI row) (some 9) none = some (.lst true ((row.drop 9).map D.int)) := by
      have : dcut (row.map D.int) (some 9) none = (row.drop 9).map D.int := by
        unfold dcut
        have i1 : HT.sIx (row.map D.int).length 0 (some 9) = 9 := by
          have := HT.sIx_nat (row.map D.int).length 0 9
          rw [show ((9 : Nat) : Int) = 9 from rfl, List.length_map] at this
          rw [List.length_map, this]; omega
        rw [i1, HT.sIx_none, List.take_of_length_le (by rw [List.length_drop]; omega), List.map_drop]
      show (if frzL (row.map D.int) = true then some (D.lst true (dcut (row.map D.int) (some 9) none)) else none) = _
      rw [if_pos frzL_ints, this]
    have hadd : (mF (mB dAdd (mSl (mV 1) (mSo (mC (.int 9))) mNo) (mV 1))) (lwS ns row n total z4 z5 z7 z8 z9 z10 z11 (ePap T c b pol) (some way) (some (ePap T1 c1 b1 p1)) z16) = some (eI (row.drop 9 ++ row)) := by
      have hlen : (row.drop 9).length + row.length ≤ sizeLine := few (by rw [List.length_drop]; omega)
      have hlen' : row.length - 9 + row.length ≤ sizeLine := few (by omega)
      rw [mF_def, mB_def, mSl_def, mSo_def, mC_def, mNo_def, mV_def, show (lwS ns row n total z4 z5 z7 z8 z9 z10 z11 (ePap T c b pol) (some way) (some (ePap T1 c1 b1 p1)) z16).getD 1 none = some (eI row) from rfl, bindS, bindS, asInt_def, mapS, bindS, bindS, hsl, op2_some]
      have : dAdd (.lst true ((row.drop 9).map D.int)) (eI row) = some (.lst true ((row.drop 9 ++ row).map D.int)) := by
        unfold eI
        rw [dAdd_lst, if_pos ⟨frzL_ints, frzL_ints, by rw [List.length_map, List.length_map]; exact hlen⟩, List.map_append]
      rw [this, mapS, fz_lst, fzL_ints]; rfl
    have h33 : (mB dMod (mL dInt (mCons (mB dIx (mV 1) (mC (.int 33))) mNil)) (mC (.int 13))) (lwS ns row n total z4 z5 z7 z8 z9 z10 z11 (ePap T c b pol) (some way) (some (ePap T1 c1 b1 p1)) z16) = some (.int (lAt row 33 % 13)) := by
      simp [lwS, eI, q33, dMod_ok]
    rw [mSet_def, mCall_def, mCons_def, mCons_def, mCons_def, mCons_def, mNil_def, hadd, h33]
    simp [lwS, h2]
  have g4 : mIte (mNotB (mT (mCallB g_law_asked (mCons (mV 16) (mCons (mV 3) (mCons (mCallB g_law_starts_fault (mCons (mB dIx (mV 16) (mC (.int 0))) (mCons (mV 3) (mCons (mB dIx (mV 16) (mC (.int 1))) (mCons (mB dIx (mV 16) (mC (.int 2))) (mCons (mB dIx (mV 16) (mC (.int 3))) mNil)))))) mNil)))))) (mRet (mC (.bl false))) mNx (lwS ns row n total z4 z5 z7 z8 z9 z10 z11 (ePap T c b pol) (some way) (some (ePap T1 c1 b1 p1)) (some (ePap T2 c2 b2 p2))) = some (.nx (lwS ns row n total z4 z5 z7 z8 z9 z10 z11 (ePap T c b pol) (some way) (some (ePap T1 c1 b1 p1)) (some (ePap T2 c2 b2 p2)))) := by
    generalize fault T2 c2 b2 p2 total = ft at k2 a2
    unfold ePap at a2 ⊢
    simp [lwS, k2, a2]
  unfold lwB
  rw [f1, seq_nx g1, seq_nx g2, seq_nx g3, g4]
end
/-! ### the draws -/
def bl0 (row : List Int) (n : Nat) : List Int := (List.range n).map fun s => lAt row (10 + s) % 3
def blk (row : List Int) (n : Nat) : List Int := (bl0 row n).set (lAt row 2 % (n : Int)).toNat 0
def polOf (row : List Int) (n : Nat) (T : List (List RAct)) : List Int := (List.range n).map fun s => lAt row (20 + s) % ((rrow T s).length : Int)
def lw1 (row : List Int) : List Rat := [mkRat (lAt row 3 % 25 - 8) 6, mkRat (lAt row 4 % 25 - 8) 6]
def lw2 (row : List Int) : List Rat := if lAt row 5 % 4 = 0 then (lw1 row).set 1 (mkRat (lAt row 3 % 25 - 8) 6) else lw1 row
def hgt (row : List Int) (n : Nat) : List Int := (List.range n).map fun s => lAt row (15 + s) % 25 - 12
theorem lAt_range {n t : Nat} {f : Nat → Int} (h : t < n) : lAt ((List.range n).map f) t = f t := lAt_of (by rw [List.getElem?_map, List.getElem?_range h]; rfl)
theorem dr_of {row : List Int} {n total : Nat} {T : List (List RAct)} (hn : 2 ≤ n) (hn5 : n ≤ 5) (h0 : 0 < total) (h1 : total < 61) (hD : Drawn n total T) (hT : T.length = n) : Dr n total T (blk row n) (polOf row n T) (lw2 row) where
  n0 := by omega
  n5 := hn5
  t0 := h0
  t1 := h1
  dT := hD
  lT := hT
  lb := by unfold blk bl0; rw [List.length_set, List.length_map, List.length_range]
  vb := fun t ht => by
    have hl : (bl0 row n).length = n := by unfold bl0; rw [List.length_map, List.length_range]
    have hm : (lAt row 2 % (n : Int)).toNat < n := by
      have := Int.emod_lt_of_pos (lAt row 2) (b := (n : Int)) (by omega)
      have := Int.emod_nonneg (lAt row 2) (b := (n : Int)) (by omega)
      omega
    unfold blk
    rw [lAt_set (by omega)]
    split
    · omega
    · unfold bl0; rw [lAt_range ht]; omega
  zb := by
    have hl : (bl0 row n).length = n := by unfold bl0; rw [List.length_map, List.length_range]
    have hm : (lAt row 2 % (n : Int)).toNat < n := by
      have := Int.emod_lt_of_pos (lAt row 2) (b := (n : Int)) (by omega)
      have := Int.emod_nonneg (lAt row 2) (b := (n : Int)) (by omega)
      omega
    exact ⟨_, hm, by unfold blk; rw [lAt_set (by omega), if_pos rfl]⟩
  lp := by unfold polOf; rw [List.length_map, List.length_range]
  vp := fun s hs => by
    have hr := (hD _ (mem_rrow (T := T) (s := s) (by omega))).1
    unfold polOf
    rw [lAt_range hs]
    exact ⟨Int.emod_nonneg _ (by omega), Int.emod_lt_of_pos _ (by omega)⟩
  ll := by unfold lw2; split <;> rfl
  vl := fun x hx => by
    have k1 : Lvl 1 100 (mkRat (lAt row 3 % 25 - 8) 6) := (Lvl.frac (b := 5) (by decide) (by decide) (by omega)).le (by decide)
    have k2 : Lvl 1 100 (mkRat (lAt row 4 % 25 - 8) 6) := (Lvl.frac (b := 5) (by decide) (by decide) (by omega)).le (by decide)
    unfold lw2 lw1 at hx
    split at hx
    · simp at hx; rw [hx]; exact k1
    · simp at hx
      rcases hx with rfl | rfl
      · exact k1
      · exact k2
def ldA : SM := (mSet 5 (mLc (mRng1 (mCons (mV 2) mNil)) [6] (gN 6) mYes (mB dMod (mL dInt (mCons (mB dIx (mV 1) (mB dAdd (mC (.int 10)) (mV 6))) mNil)) (mC (.int 3)))))
def ldB : SM := (mSto (rV 5) (mB dMod (mL dInt (mCons (mB dIx (mV 1) (mC (.int 2))) mNil)) (mV 2)) (mC (.int 0)))
def ldC : SM := (mSet 7 (mLc (mRng1 (mCons (mV 2) mNil)) [6] (gN 6) mYes (mB dMod (mL dInt (mCons (mB dIx (mV 1) (mB dAdd (mC (.int 20)) (mV 6))) mNil)) (mL dLen (mCons (mB dIx (mV 4) (mV 6)) mNil)))))
def ldD : SM := (mSet 8 (mLst (mCons (mCallB g_law_lowest (mCons (mB dSub (mB dMod (mL dInt (mCons (mB dIx (mV 1) (mC (.int 3))) mNil)) (mC (.int 25))) (mC (.int 8))) (mCons (mC (.int 6)) mNil))) (mCons (mCallB g_law_lowest (mCons (mB dSub (mB dMod (mL dInt (mCons (mB dIx (mV 1) (mC (.int 4))) mNil)) (mC (.int 25))) (mC (.int 8))) (mCons (mC (.int 6)) mNil))) mNil))))
def ldE : SM := (mIte (mT (mB dEq (mB dMod (mB dIx (mV 1) (mC (.int 5))) (mC (.int 4))) (mC (.int 0)))) (mSto (rV 8) (mC (.int 1)) (mP (mB dIx (mV 8) (mC (.int 0))))) mNx)
def ldF : SM := (mSet 9 (mLc (mRng1 (mCons (mV 2) mNil)) [6] (gN 6) mYes (mB dSub (mB dMod (mL dInt (mCons (mB dIx (mV 1) (mB dAdd (mC (.int 15)) (mV 6))) mNil)) (mC (.int 25))) (mC (.int 12)))))
section
variable {ns row : List Int} {n total : Nat} {T : List (List RAct)}
theorem srcN {ρ : Rho} (h : ρ.getD 2 none = some (.int (n : Int))) (hn : n < 1000) : mRng1 (mCons (mV 2) mNil) ρ = some ((List.range n).map fun (t : Nat) => D.int (t : Int)) := by
  rw [← rngD0, mRng1_def, mCons_def, mV_def, h, mNil_def, consO_some, bindS, rng1_int (by omega), Int.toNat_natCast]
theorem c_low6 {m : Int} : callB g_law_lowest [.int m, .int 6] = some (fr (mkRat m 6)) := c_low (n := m) (d := 6) (by decide) (by decide)
theorem ld_v (hrow : Row row) (hr : 230 ≤ row.length) (hn : 2 ≤ n) (hn5 : n ≤ 5) (hT : T.length = n) (hD : Drawn n total T) (z : SM) :
    mSeq ldA (mSeq ldB (mSeq ldC (mSeq ldD (mSeq ldE (mSeq ldF (mFrz 1 (mFrz 4 (mFrz 5 (mFrz 7 (mFrz 8 (mFrz 9 z)))))))))))
      [some (.scr (ns.map D.int)), some (eI row), some (.int (n : Int)), some (.int (total : Int)), some (.lst true (T.map eRs)), none, none, none, none, none, none, none, none, none, none, none, none, none, none] =
    z [some (.scr (ns.map D.int)), some (eI row), some (.int (n : Int)), some (.int (total : Int)), some (eRT T), some (eI (blk row n)), none, some (eI (polOf row n T)), some (eV (lw2 row)), some (eI (hgt row n)), none, none, none, none, none, none, none, none, none] := by
  obtain ⟨q2, _, _⟩ := row_at hrow (k := 2) (by omega)
  obtain ⟨q3, _, _⟩ := row_at hrow (k := 3) (by omega)
  obtain ⟨q4, _, _⟩ := row_at hrow (k := 4) (by omega)
  obtain ⟨q5, _, _⟩ := row_at hrow (k := 5) (by omega)
  have g1 : ldA [some (.scr (ns.map D.int)), some (eI row), some (.int (n : Int)), some (.int (total : Int)), some (.lst true (T.map eRs)), none, none, none, none, none, none, none, none, none, none, none, none, none, none] = some (.nx [some (.scr (ns.map D.int)), some (eI row), some (.int (n : Int)), some (.int (total : Int)), some (.lst true (T.map eRs)), some (.lst true ((bl0 row n).map D.int)), none, none, none, none, none, none, none, none, none, none, none, none, none]) := by
    unfold ldA
    rw [mSet_def, lc_range (f := fun s => D.int (lAt row (10 + s) % 3)) (srcN rfl (by omega)) (by omega) (by simp) rfl fun t ht => ?_]
    · unfold bl0
      rw [List.map_map]; rfl
    · have := atN (row := row) (i := 10 + (t : Int)) (k := 10 + t) (by omega) (by omega)
      simp [eI, this, dMod_ok]
  have hbl : (bl0 row n).length = n := by unfold bl0; rw [List.length_map, List.length_range]
  obtain ⟨m, hm⟩ := nat_of (Int.emod_nonneg (lAt row 2) (b := (n : Int)) (by omega))
  have hmn : m < n := by have := Int.emod_lt_of_pos (lAt row 2) (b := (n : Int)) (by omega); omega
  have hblk : blk row n = (bl0 row n).set m 0 := by unfold blk; rw [hm, Int.toNat_natCast]
  have md : dMod (.int (lAt row 2)) (.int (n : Int)) = some (.int (m : Int)) := by rw [dMod_ok (by omega), hm]
  have g2 : ldB [some (.scr (ns.map D.int)), some (eI row), some (.int (n : Int)), some (.int (total : Int)), some (.lst true (T.map eRs)), some (.lst true ((bl0 row n).map D.int)), none, none, none, none, none, none, none, none, none, none, none, none, none] = some (.nx [some (.scr (ns.map D.int)), some (eI row), some (.int (n : Int)), some (.int (total : Int)), some (.lst true (T.map eRs)), some (.lst true ((blk row n).map D.int)), none, none, none, none, none, none, none, none, none, none, none, none, none]) := by
    rw [hblk]
    have hix : ixN (bl0 row n).length (m : Int) = some m := ixN_at (by omega)
    simp [ldB, eI, q2, md, hix]
  have g3 : ldC [some (.scr (ns.map D.int)), some (eI row), some (.int (n : Int)), some (.int (total : Int)), some (.lst true (T.map eRs)), some (.lst true ((blk row n).map D.int)), none, none, none, none, none, none, none, none, none, none, none, none, none] = some (.nx [some (.scr (ns.map D.int)), some (eI row), some (.int (n : Int)), some (.int (total : Int)), some (.lst true (T.map eRs)), some (.lst true ((blk row n).map D.int)), none, some (.lst true ((polOf row n T).map D.int)), none, none, none, none, none, none, none, none, none, none, none]) := by
    unfold ldC
    rw [mSet_def, lc_range (f := fun s => D.int (lAt row (20 + s) % ((rrow T s).length : Int))) (srcN rfl (by omega)) (by omega) (by simp) rfl fun t ht => ?_]
    · unfold polOf
      rw [List.map_map]; rfl
    · have h1 := atN (row := row) (i := 20 + (t : Int)) (k := 20 + t) (by omega) (by omega)
      have h2 := rrow_some (T := T) (s := t) (by omega)
      have h3 := (hD _ (mem_rrow (T := T) (s := t) (by omega))).1
      have h4 : dMod (.int (lAt row (20 + t))) (.int ((rrow T t).length : Int)) = some (.int (lAt row (20 + t) % ((rrow T t).length : Int))) := dMod_ok (by omega)
      simp [eI, h1, h2, eRs, h4]
  have g4 : ldD [some (.scr (ns.map D.int)), some (eI row), some (.int (n : Int)), some (.int (total : Int)), some (.lst true (T.map eRs)), some (.lst true ((blk row n).map D.int)), none, some (.lst true ((polOf row n T).map D.int)), none, none, none, none, none, none, none, none, none, none, none] = some (.nx [some (.scr (ns.map D.int)), some (eI row), some (.int (n : Int)), some (.int (total : Int)), some (.lst true (T.map eRs)), some (.lst true ((blk row n).map D.int)), none, some (.lst true ((polOf row n T).map D.int)), some (.lst true ((lw1 row).map fr)), none, none, none, none, none, none, none, none, none, none]) := by
    simp [ldD, eI, q3, q4, dMod_ok, c_low6, lw1]
  have g5 : ldE [some (.scr (ns.map D.int)), some (eI row), some (.int (n : Int)), some (.int (total : Int)), some (.lst true (T.map eRs)), some (.lst true ((blk row n).map D.int)), none, some (.lst true ((polOf row n T).map D.int)), some (.lst true ((lw1 row).map fr)), none, none, none, none, none, none, none, none, none, none] = some (.nx [some (.scr (ns.map D.int)), some (eI row), some (.int (n : Int)), some (.int (total : Int)), some (.lst true (T.map eRs)), some (.lst true ((blk row n).map D.int)), none, some (.lst true ((polOf row n T).map D.int)), some (.lst true ((lw2 row).map fr)), none, none, none, none, none, none, none, none, none, none]) := by
    by_cases h : lAt row 5 % 4 = 0
    · have hix : ixN 2 1 = some 1 := by decide
      simp [ldE, eI, q5, dMod_ok, h, lw2, lw1, hix]
    · simp [ldE, eI, q5, dMod_ok, h, lw2]
  have g6 : ldF [some (.scr (ns.map D.int)), some (eI row), some (.int (n : Int)), some (.int (total : Int)), some (.lst true (T.map eRs)), some (.lst true ((blk row n).map D.int)), none, some (.lst true ((polOf row n T).map D.int)), some (.lst true ((lw2 row).map fr)), none, none, none, none, none, none, none, none, none, none] = some (.nx [some (.scr (ns.map D.int)), some (eI row), some (.int (n : Int)), some (.int (total : Int)), some (.lst true (T.map eRs)), some (.lst true ((blk row n).map D.int)), none, some (.lst true ((polOf row n T).map D.int)), some (.lst true ((lw2 row).map fr)), some (.lst true ((hgt row n).map D.int)), none, none, none, none, none, none, none, none, none]) := by
    unfold ldF
    rw [mSet_def, lc_range (f := fun s => D.int (lAt row (15 + s) % 25 - 12)) (srcN rfl (by omega)) (by omega) (by simp) rfl fun t ht => ?_]
    · unfold hgt
      rw [List.map_map]; rfl
    · have := atN (row := row) (i := 15 + (t : Int)) (k := 15 + t) (by omega) (by omega)
      simp [eI, this, dMod_ok]
  rw [seq_nx g1, seq_nx g2, seq_nx g3, seq_nx g4, seq_nx g5, seq_nx g6]
  simp [eI, eRT, eV]
/-! ### the end -/
def leA : SM := (mAsg (gT 2 (gsC (gN 10) (gsC (gN 11) gsN))) (mF (mCall g_law_fitted (mCons (mV 1) (mCons (mV 4) (mCons (mV 5) (mCons (mV 7) (mCons (mV 8) (mCons (mV 9) (mCons (mV 3) mNil))))))))))
def leB : SM := (mSet 12 (mTup (mCons (mP (mV 10)) (mCons (mP (mV 11)) (mCons (mP (mV 7)) (mCons (mF (mLc (mSeqA (mV 9)) [13] (gN 13) mYes (mCallB g_law_lowest (mCons (mV 13) (mCons (mC (.int 6)) mNil))))) mNil))))))
def leC : SM := (mIte (mNotB (mT (mCallB g_law_asked (mCons (mV 12) (mCons (mV 3) (mCons (mC .non) mNil)))))) (mRet (mC (.bl false))) mNx)
def leD : SM := (mFor (mSeqOf (mF (mLst (mCons (mB dMod (mL dInt (mCons (mB dIx (mV 1) (mC (.int 6))) mNil)) (mC (.int 13))) (mCons (mB dMod (mL dInt (mCons (mB dIx (mV 1) (mC (.int 32))) mNil)) (mC (.int 13))) mNil))))) (gN 14) lwB)
def leE : SM := (mSet 17 (mLc (mRng1 (mCons (mV 2) mNil)) [6] (gN 6) mYes (mCallB g_law_lowest (mCons (mB dSub (mB dMod (mL dInt (mCons (mB dIx (mV 1) (mB dAdd (mC (.int 210)) (mV 6))) mNil)) (mC (.int 9))) (mC (.int 4))) (mCons (mB dAdd (mC (.int 1)) (mB dMod (mL dInt (mCons (mB dIx (mV 1) (mC (.int 34))) mNil)) (mC (.int 3)))) mNil)))))
def leW : EM := (mLc (mRng1 (mCons (mV 2) mNil)) [6] (gN 6) mYes (mCallB g_law_lowest (mCons (mB dSub (mB dMod (mL dInt (mCons (mB dIx (mV 1) (mB dAdd (mC (.int 215)) (mV 6))) mNil)) (mC (.int 25))) (mC (.int 12))) (mCons (mC (.int 2)) mNil))))
def leF : SM := (mSet 18 (mTup (mCons (mP (mV 10)) (mCons (mP (mV 17)) (mCons (mP (mV 7)) (mCons (mF leW) mNil))))))
def leG : SM := (mIte (mNotB (mT (mCallB g_law_asked (mCons (mV 18) (mCons (mV 3) (mCons (mCallB g_law_starts_fault (mCons (mV 10) (mCons (mV 3) (mCons (mB dIx (mV 18) (mC (.int 1))) (mCons (mV 7) (mCons (mB dIx (mV 18) (mC (.int 3))) mNil)))))) mNil)))))) (mRet (mC (.bl false))) mNx)
def leH : SM := (mRet (mCallB g_law_asked (mCons (mV 12) (mCons (mV 3) (mCons (mC .non) mNil)))))
theorem le_v (hrow : Row row) (hr : 230 ≤ row.length) (hr2 : row.length ≤ 5000) (hn : 2 ≤ n) (hn5 : n ≤ 5) (h0 : 0 < total) (ht6 : total ≤ 6) (hT : T.length = n) (hD : Drawn n total T) :
    rtOf (mSeq leA (mFrz 7 (mSeq leB (mSeq leC (mSeq leD (mSeq leE (mFrz 17 (mFrz 7 (mSeq leF (mSeq leG leH)))))))))
      [some (.scr (ns.map D.int)), some (eI row), some (.int (n : Int)), some (.int (total : Int)), some (eRT T), some (eI (blk row n)), none, some (eI (polOf row n T)), some (eV (lw2 row)), some (eI (hgt row n)), none, none, none, none, none, none, none, none, none]) = some (.bl true) := by
  have W := dr_of (row := row) hn hn5 h0 (by omega) hD hT
  have lh : (hgt row n).length = n := by unfold hgt; rw [List.length_map, List.length_range]
  have vh : ∀ t, t < n → -12 ≤ lAt (hgt row n) t ∧ lAt (hgt row n) t ≤ 12 := fun t ht => by unfold hgt; rw [lAt_range ht]; omega
  obtain ⟨fit, cs, hf, F⟩ := fitted_v W hrow hr lh vh ht6
  have hwf := F.wf W lh vh
  have A := hwf.pap (by decide) (by decide)
  have ask1 := c_asked A F.clean
  obtain ⟨q6, _, _⟩ := row_at hrow (k := 6) (by omega)
  obtain ⟨q32, _, _⟩ := row_at hrow (k := 32) (by omega)
  obtain ⟨q34, _, _⟩ := row_at hrow (k := 34) (by omega)
  generalize polOf row n T = pol at *
  generalize hgt row n = hs at *
  generalize blk row n = block at *
  generalize lw2 row = lows at *
  have hcall : callM g_law_fitted [eI row, eRT T, eI block, eI pol, eV lows, eI hs, .int (total : Int)] = some (.tup [.lst false (fit.map eAs), eV cs]) := callM_of (by simp) hf
  have hzf : fz (.lst false (fit.map eAs)) = eTb fit := by unfold eTb; rw [fz_lst, fzL_eAs]
  have g1 : leA [some (.scr (ns.map D.int)), some (eI row), some (.int (n : Int)), some (.int (total : Int)), some (eRT T), some (eI block), none, some (eI pol), some (eV lows), some (eI hs), none, none, none, none, none, none, none, none, none] = some (.nx [some (.scr (ns.map D.int)), some (eI row), some (.int (n : Int)), some (.int (total : Int)), some (eRT T), some (eI block), none, some (eI pol), some (eV lows), some (eI hs), some (eTb fit), some (eV cs), none, none, none, none, none, none, none]) := by
    have : fzL (fit.map eAs) = fit.map eAs := fzL_eAs
    simp [leA, hcall, eTb]
  have f7 : ∀ z, mFrz 7 z [some (.scr (ns.map D.int)), some (eI row), some (.int (n : Int)), some (.int (total : Int)), some (eRT T), some (eI block), none, some (eI pol), some (eV lows), some (eI hs), some (eTb fit), some (eV cs), none, none, none, none, none, none, none] = z [some (.scr (ns.map D.int)), some (eI row), some (.int (n : Int)), some (.int (total : Int)), some (eRT T), some (eI block), none, some (eI pol), some (eV lows), some (eI hs), some (eTb fit), some (eV cs), none, none, none, none, none, none, none] := fun z => by
    rw [mFrz_def]; simp
  have g2 : leB [some (.scr (ns.map D.int)), some (eI row), some (.int (n : Int)), some (.int (total : Int)), some (eRT T), some (eI block), none, some (eI pol), some (eV lows), some (eI hs), some (eTb fit), some (eV cs), none, none, none, none, none, none, none] = some (.nx (lwS ns row n total (some (eRT T)) (some (eI block)) (some (eI pol)) (some (eV lows)) (some (eI hs)) (some (eTb fit)) (some (eV cs)) (ePap fit cs (bOf hs) pol) none none none ++ [])) := by
    have hL : hs.length ≤ sizeLine := few (by omega)
    have t1 : mSeqA (mV 9) [some (.scr (ns.map D.int)), some (eI row), some (.int (n : Int)), some (.int (total : Int)), some (eRT T), some (eI block), none, some (eI pol), some (eV lows), some (eI hs), some (eTb fit), some (eV cs), none, none, none, none, none, none, none] = some (hs.map D.int) := by simp [eI]
    have t2 : lcL (gN 13) mYes (mCallB g_law_lowest (mCons (mV 13) (mCons (mC (.int 6)) mNil))) [some (.scr (ns.map D.int)), some (eI row), some (.int (n : Int)), some (.int (total : Int)), some (eRT T), some (eI block), none, some (eI pol), some (eV lows), some (eI hs), some (eTb fit), some (eV cs), none, none, none, none, none, none, none] (hs.map D.int) = some (hs.map fun h => fr (mkRat h 6)) := by
      refine lcL_mapOn fun h _ => ⟨[some (.scr (ns.map D.int)), some (eI row), some (.int (n : Int)), some (.int (total : Int)), some (eRT T), some (eI block), none, some (eI pol), some (eV lows), some (eI hs), some (eTb fit), some (eV cs), none, some (.int h), none, none, none, none, none], by simp, rfl, ?_⟩
      simp [c_low6]
    have t3 : ([some (.scr (ns.map D.int)), some (eI row), some (.int (n : Int)), some (.int (total : Int)), some (eRT T), some (eI block), none, some (eI pol), some (eV lows), some (eI hs), some (eTb fit), some (eV cs), none, none, none, none, none, none, none] : Rho).set 13 none = [some (.scr (ns.map D.int)), some (eI row), some (.int (n : Int)), some (.int (total : Int)), some (eRT T), some (eI block), none, some (eI pol), some (eV lows), some (eI hs), some (eTb fit), some (eV cs), none, none, none, none, none, none, none] := rfl
    have t4 : mLc (mSeqA (mV 9)) [13] (gN 13) mYes (mCallB g_law_lowest (mCons (mV 13) (mCons (mC (.int 6)) mNil))) [some (.scr (ns.map D.int)), some (eI row), some (.int (n : Int)), some (.int (total : Int)), some (eRT T), some (eI block), none, some (eI pol), some (eV lows), some (eI hs), some (eTb fit), some (eV cs), none, none, none, none, none, none, none] = some (.lst true ((bOf hs).map fr)) := by
      rw [mLc_def, t1, bindS, wipeO_cons, wipeO_nil, bindS, if_pos (by simp), bindS, if_pos (by rw [List.length_map]; exact hL), t3, t2, mapS]
      unfold bOf
      rw [List.map_map]; rfl
    unfold leB
    rw [mSet_def, mTup_def, mCons_def, mCons_def, mCons_def, mCons_def, mNil_def, mF_def, t4]
    simp [lwS, ePap, eV]
  rw [List.append_nil] at g2
  have g3 : leC (lwS ns row n total (some (eRT T)) (some (eI block)) (some (eI pol)) (some (eV lows)) (some (eI hs)) (some (eTb fit)) (some (eV cs)) (ePap fit cs (bOf hs) pol) none none none) = some (.nx (lwS ns row n total (some (eRT T)) (some (eI block)) (some (eI pol)) (some (eV lows)) (some (eI hs)) (some (eTb fit)) (some (eV cs)) (ePap fit cs (bOf hs) pol) none none none)) := by
    simp [leC, lwS, ask1]
  obtain ⟨y15, y16, b1⟩ := lwB_v (ns := ns) (z4 := some (eRT T)) (z5 := some (eI block)) (z7 := some (eI pol)) (z8 := some (eV lows)) (z9 := some (eI hs)) (z10 := some (eTb fit)) (z11 := some (eV cs)) (z15 := none) (z16 := none) (way := lAt row 6 % 13) hrow hr hr2 hwf
  obtain ⟨w15, w16, b2⟩ := lwB_v (ns := ns) (z4 := some (eRT T)) (z5 := some (eI block)) (z7 := some (eI pol)) (z8 := some (eV lows)) (z9 := some (eI hs)) (z10 := some (eTb fit)) (z11 := some (eV cs)) (z15 := y15) (z16 := y16) (way := lAt row 32 % 13) hrow hr hr2 hwf
  have gn : ∀ (z14 : Option Int) (z15 z16 : Option D) (x : Int), gN 14 (.int x) (lwS ns row n total (some (eRT T)) (some (eI block)) (some (eI pol)) (some (eV lows)) (some (eI hs)) (some (eTb fit)) (some (eV cs)) (ePap fit cs (bOf hs) pol) z14 z15 z16) = some (lwS ns row n total (some (eRT T)) (some (eI block)) (some (eI pol)) (some (eV lows)) (some (eI hs)) (some (eTb fit)) (some (eV cs)) (ePap fit cs (bOf hs) pol) (some x) z15 z16) := fun z14 z15 z16 x => by
    cases z14 <;> simp [lwS]
  have g4 : leD (lwS ns row n total (some (eRT T)) (some (eI block)) (some (eI pol)) (some (eV lows)) (some (eI hs)) (some (eTb fit)) (some (eV cs)) (ePap fit cs (bOf hs) pol) none none none) = some (.nx (lwS ns row n total (some (eRT T)) (some (eI block)) (some (eI pol)) (some (eV lows)) (some (eI hs)) (some (eTb fit)) (some (eV cs)) (ePap fit cs (bOf hs) pol) (some (lAt row 32 % 13)) w15 w16)) := by
    have hsrc : mSeqOf (mF (mLst (mCons (mB dMod (mL dInt (mCons (mB dIx (mV 1) (mC (.int 6))) mNil)) (mC (.int 13))) (mCons (mB dMod (mL dInt (mCons (mB dIx (mV 1) (mC (.int 32))) mNil)) (mC (.int 13))) mNil)))) (lwS ns row n total (some (eRT T)) (some (eI block)) (some (eI pol)) (some (eV lows)) (some (eI hs)) (some (eTb fit)) (some (eV cs)) (ePap fit cs (bOf hs) pol) none none none) = some [.int (lAt row 6 % 13), .int (lAt row 32 % 13)] := by
      simp [lwS, eI, q6, q32, dMod_ok]
    unfold leD
    rw [mFor_def, hsrc, bindS, forL_step (by unfold turnK; rw [gn, bindS]; exact b1), forL_step (by unfold turnK; rw [gn, bindS]; exact b2)]
    rfl
  generalize some (lAt row 32 % 13) = v14 at g4
  have hfl : ∀ t, t < n → callB g_law_lowest [.int (lAt row (210 + t) % 9 - 4), .int (1 + lAt row 34 % 3)] = some (fr (mkRat (lAt row (210 + t) % 9 - 4) (1 + lAt row 34 % 3).toNat)) := fun t _ => c_low (by omega) (by omega)
  obtain ⟨free, hfree⟩ : ∃ free : List Rat, free = (List.range n).map fun t => mkRat (lAt row (210 + t) % 9 - 4) (1 + lAt row 34 % 3).toNat := ⟨_, rfl⟩
  obtain ⟨wb, hwb⟩ : ∃ wb : List Rat, wb = (List.range n).map fun t => mkRat (lAt row (215 + t) % 25 - 12) 2 := ⟨_, rfl⟩
  have g5 : leE (lwS ns row n total (some (eRT T)) (some (eI block)) (some (eI pol)) (some (eV lows)) (some (eI hs)) (some (eTb fit)) (some (eV cs)) (ePap fit cs (bOf hs) pol) v14 w15 w16) = some (.nx ((lwS ns row n total (some (eRT T)) (some (eI block)) (some (eI pol)) (some (eV lows)) (some (eI hs)) (some (eTb fit)) (some (eV cs)) (ePap fit cs (bOf hs) pol) v14 w15 w16).set 17 (some (.lst true (free.map fr))))) := by
    unfold leE
    rw [mSet_def, lc_range (f := fun t => fr (mkRat (lAt row (210 + t) % 9 - 4) (1 + lAt row 34 % 3).toNat)) (srcN rfl (by omega)) (by omega) (by simp [lwS]) rfl fun t ht => ?_]
    · rw [hfree, List.map_map]; rfl
    · have h1 := atN (row := row) (i := 210 + (t : Int)) (k := 210 + t) (by omega) (by omega)
      have h2 := hfl t ht
      simp [lwS, eI, h1, q34, dMod_ok, h2]
  have f17 : ∀ z, mFrz 17 (mFrz 7 z) ((lwS ns row n total (some (eRT T)) (some (eI block)) (some (eI pol)) (some (eV lows)) (some (eI hs)) (some (eTb fit)) (some (eV cs)) (ePap fit cs (bOf hs) pol) v14 w15 w16).set 17 (some (.lst true (free.map fr)))) = z ((lwS ns row n total (some (eRT T)) (some (eI block)) (some (eI pol)) (some (eV lows)) (some (eI hs)) (some (eTb fit)) (some (eV cs)) (ePap fit cs (bOf hs) pol) v14 w15 w16).set 17 (some (eV free))) := fun z => by
    rw [mFrz_def]
    simp [lwS, eV]
  have hw : leW ((lwS ns row n total (some (eRT T)) (some (eI block)) (some (eI pol)) (some (eV lows)) (some (eI hs)) (some (eTb fit)) (some (eV cs)) (ePap fit cs (bOf hs) pol) v14 w15 w16).set 17 (some (eV free))) = some (.lst true (wb.map fr)) := by
    unfold leW
    rw [lc_range (f := fun t => fr (mkRat (lAt row (215 + t) % 25 - 12) 2)) (srcN rfl (by omega)) (by omega) (by simp [lwS]) rfl fun t ht => ?_]
    · rw [hwb, List.map_map]; rfl
    · have h1 := atN (row := row) (i := 215 + (t : Int)) (k := 215 + t) (by omega) (by omega)
      have h2 : callB g_law_lowest [.int (lAt row (215 + t) % 25 - 12), .int 2] = some (fr (mkRat (lAt row (215 + t) % 25 - 12) 2)) := c_low (d := 2) (by decide) (by decide)
      simp [lwS, eI, h1, dMod_ok, h2]
  have g6 : leF ((lwS ns row n total (some (eRT T)) (some (eI block)) (some (eI pol)) (some (eV lows)) (some (eI hs)) (some (eTb fit)) (some (eV cs)) (ePap fit cs (bOf hs) pol) v14 w15 w16).set 17 (some (eV free))) = some (.nx (((lwS ns row n total (some (eRT T)) (some (eI block)) (some (eI pol)) (some (eV lows)) (some (eI hs)) (some (eTb fit)) (some (eV cs)) (ePap fit cs (bOf hs) pol) v14 w15 w16).set 17 (some (eV free))).set 18 (some (ePap fit free wb pol)))) := by
    unfold leF
    rw [mSet_def, mTup_def, mCons_def, mCons_def, mCons_def, mCons_def, mNil_def, mF_def, hw]
    simp [lwS, ePap, eV]
  have A2 : Pap fit free wb pol total := { A with
    lc := by rw [hfree, List.length_map, List.length_range, F.len]
    lb := by rw [hwb, List.length_map, List.length_range, F.len]
    vc := fun x hx => by
      rw [hfree] at hx
      obtain ⟨t, _, rfl⟩ := List.mem_map.mp hx
      exact (Lvl.frac (b := 4) (by omega) (by omega) (by omega)).to (by decide) (by decide)
    vb := fun x hx => by
      rw [hwb] at hx
      obtain ⟨t, _, rfl⟩ := List.mem_map.mp hx
      exact (Lvl.frac (b := 4) (by decide) (by decide) (by omega)).to (by decide) (by decide) }
  have cf := c_fault A2
  have ask2 := c_asked A2 rfl
  have g7 : leG (((lwS ns row n total (some (eRT T)) (some (eI block)) (some (eI pol)) (some (eV lows)) (some (eI hs)) (some (eTb fit)) (some (eV cs)) (ePap fit cs (bOf hs) pol) v14 w15 w16).set 17 (some (eV free))).set 18 (some (ePap fit free wb pol))) = some (.nx (((lwS ns row n total (some (eRT T)) (some (eI block)) (some (eI pol)) (some (eV lows)) (some (eI hs)) (some (eTb fit)) (some (eV cs)) (ePap fit cs (bOf hs) pol) v14 w15 w16).set 17 (some (eV free))).set 18 (some (ePap fit free wb pol)))) := by
    generalize fault fit free wb pol total = ft at cf ask2
    unfold ePap at ask2 ⊢
    simp [leG, lwS, cf, ask2]
  have g8 : leH (((lwS ns row n total (some (eRT T)) (some (eI block)) (some (eI pol)) (some (eV lows)) (some (eI hs)) (some (eTb fit)) (some (eV cs)) (ePap fit cs (bOf hs) pol) v14 w15 w16).set 17 (some (eV free))).set 18 (some (ePap fit free wb pol))) = some (.rt (.bl true)) := by
    simp [leH, lwS, ask1]
  rw [seq_nx g1, f7, seq_nx g2, seq_nx g3, seq_nx g4, seq_nx g5, f17, seq_nx g6, seq_nx g7, g8]
  rfl
end
theorem law_true (ns : List Int) (hl : ns.length ≤ 63) : g_law [.scr (ns.map D.int)] = some (.bl true) := by
  obtain ⟨row, hnum, hrow, hr, hr2⟩ := numbers_v (ns := ns) (many := 230) hl (by decide)
  obtain ⟨q0, a0, _⟩ := row_at hrow (k := 0) (by omega)
  obtain ⟨q1, a1, _⟩ := row_at hrow (k := 1) (by omega)
  obtain ⟨q31, _, _⟩ := row_at hrow (k := 31) (by omega)
  obtain ⟨n, hn⟩ := nat_of (x := 2 + lAt row 0 % 4) (by omega)
  obtain ⟨total, ht⟩ := nat_of (x := 2 + lAt row 1 % 5) (by omega)
  have hn2 : 2 ≤ n ∧ n ≤ 5 := by omega
  have ht2 : 0 < total ∧ total ≤ 6 := by omega
  obtain ⟨T, hp, hD, hT⟩ := plain_v (row := row) (n := n) (total := total) hrow hr (by omega) hn2.2 (by omega)
  have hring := ring_v hrow hr
  have cn : callB g_law_numbers [.scr (ns.map D.int), .int 230] = some (.lst true (row.map D.int)) := callB_of (by simp; exact hnum) (by simp)
  have cr : callB g_law_ring [.lst true (row.map D.int)] = some (.bl true) := callB_of (by simp; exact hring) rfl
  have cp : callM g_law_plain [eI row, .int 40, .int (n : Int), .int 3, .int (total : Int), .bl false] = some (.lst true (T.map eRs)) := callM_of (by simp) hp
  have s1 : mSet 1 (mCallB g_law_numbers (mCons (mV 0) (mCons (mC (.int 230)) mNil))) [some (.scr (ns.map D.int)), none, none, none, none, none, none, none, none, none, none, none, none, none, none, none, none, none, none] = some (.nx [some (.scr (ns.map D.int)), some (.lst true (row.map D.int)), none, none, none, none, none, none, none, none, none, none, none, none, none, none, none, none, none]) := by
    simp [cn]
  have s2 : mIte (mAndB (mT (mB dEq (mB dMod (mB dIx (mV 1) (mC (.int 31))) (mC (.int 40))) (mC (.int 0)))) (mNotB (mT (mCallB g_law_ring (mCons (mV 1) mNil))))) (mRet (mC (.bl false))) mNx [some (.scr (ns.map D.int)), some (.lst true (row.map D.int)), none, none, none, none, none, none, none, none, none, none, none, none, none, none, none, none, none] = some (.nx [some (.scr (ns.map D.int)), some (.lst true (row.map D.int)), none, none, none, none, none, none, none, none, none, none, none, none, none, none, none, none, none]) := by
    by_cases h : lAt row 31 % 40 = 0
    · simp [q31, dMod_ok, h, cr]
    · simp [q31, dMod_ok, h]
  have s3 : mSet 2 (mB dAdd (mC (.int 2)) (mB dMod (mL dInt (mCons (mB dIx (mV 1) (mC (.int 0))) mNil)) (mC (.int 4)))) [some (.scr (ns.map D.int)), some (.lst true (row.map D.int)), none, none, none, none, none, none, none, none, none, none, none, none, none, none, none, none, none] = some (.nx [some (.scr (ns.map D.int)), some (.lst true (row.map D.int)), some (.int (n : Int)), none, none, none, none, none, none, none, none, none, none, none, none, none, none, none, none]) := by
    simp [q0, dMod_ok, hn]
  have s4 : mSet 3 (mB dAdd (mC (.int 2)) (mB dMod (mL dInt (mCons (mB dIx (mV 1) (mC (.int 1))) mNil)) (mC (.int 5)))) [some (.scr (ns.map D.int)), some (.lst true (row.map D.int)), some (.int (n : Int)), none, none, none, none, none, none, none, none, none, none, none, none, none, none, none, none] = some (.nx [some (.scr (ns.map D.int)), some (.lst true (row.map D.int)), some (.int (n : Int)), some (.int (total : Int)), none, none, none, none, none, none, none, none, none, none, none, none, none, none, none]) := by
    simp [q1, dMod_ok, ht]
  have f1 : ∀ z, mFrz 1 z [some (.scr (ns.map D.int)), some (.lst true (row.map D.int)), some (.int (n : Int)), some (.int (total : Int)), none, none, none, none, none, none, none, none, none, none, none, none, none, none, none] = z [some (.scr (ns.map D.int)), some (eI row), some (.int (n : Int)), some (.int (total : Int)), none, none, none, none, none, none, none, none, none, none, none, none, none, none, none] := fun z => by
    rw [mFrz_def]; simp [eI]
  have s5 : mSet 4 (mCall g_law_plain (mCons (mV 1) (mCons (mC (.int 40)) (mCons (mV 2) (mCons (mC (.int 3)) (mCons (mV 3) (mCons (mC (.bl false)) mNil))))))) [some (.scr (ns.map D.int)), some (eI row), some (.int (n : Int)), some (.int (total : Int)), none, none, none, none, none, none, none, none, none, none, none, none, none, none, none] = some (.nx [some (.scr (ns.map D.int)), some (eI row), some (.int (n : Int)), some (.int (total : Int)), some (.lst true (T.map eRs)), none, none, none, none, none, none, none, none, none, none, none, none, none, none]) := by
    simp [cp]
  have em : m_law = (mSeq (mSet 1 (mCallB g_law_numbers (mCons (mV 0) (mCons (mC (.int 230)) mNil))))
    (mSeq (mIte (mAndB (mT (mB dEq (mB dMod (mB dIx (mV 1) (mC (.int 31))) (mC (.int 40))) (mC (.int 0)))) (mNotB (mT (mCallB g_law_ring (mCons (mV 1) mNil))))) (mRet (mC (.bl false))) mNx)
    (mSeq (mSet 2 (mB dAdd (mC (.int 2)) (mB dMod (mL dInt (mCons (mB dIx (mV 1) (mC (.int 0))) mNil)) (mC (.int 4)))))
    (mSeq (mSet 3 (mB dAdd (mC (.int 2)) (mB dMod (mL dInt (mCons (mB dIx (mV 1) (mC (.int 1))) mNil)) (mC (.int 5)))))
    (mFrz 1 (mSeq (mSet 4 (mCall g_law_plain (mCons (mV 1) (mCons (mC (.int 40)) (mCons (mV 2) (mCons (mC (.int 3)) (mCons (mV 3) (mCons (mC (.bl false)) mNil))))))))
    (mSeq ldA (mSeq ldB (mSeq ldC (mSeq ldD (mSeq ldE (mSeq ldF (mFrz 1 (mFrz 4 (mFrz 5 (mFrz 7 (mFrz 8 (mFrz 9
      (mSeq leA (mFrz 7 (mSeq leB (mSeq leC (mSeq leD (mSeq leE (mFrz 17 (mFrz 7 (mSeq leF (mSeq leG leH)))))))))))))))))))))))))))) := rfl
  have e0 : ([D.scr (ns.map D.int)] : List D).map some ++ List.replicate (19 - 1) none = [some (.scr (ns.map D.int)), none, none, none, none, none, none, none, none, none, none, none, none, none, none, none, none, none, none] := rfl
  unfold g_law
  rw [run_def, em, e0, seq_nx s1, seq_nx s2, seq_nx s3, seq_nx s4, f1, seq_nx s5, ld_v hrow hr hn2.1 hn2.2 hT hD]
  exact le_v hrow hr (by omega) hn2.1 hn2.2 ht2.1 ht2.2 hT hD
end K64

namespace K64
open PySem L2 R
theorem all_law {P : Program} {w : World} {K : PySem.W.Frag} {h : Heap} {mg : Str → Option Value} {fa f_ratio f_plus f_minus f_mean_of f_drift_of f_surplus_of f_starts_fault f_law_numbers f_law_lowest f_law_common f_law_same f_law_sum f_law_product f_law_below f_law_weights f_law_plain f_law_made f_law_kept f_law_starts_fault f_law_mean f_law_chosen f_law_fitted f_law_dearer f_law_extreme f_law_spoilt f_law_asked f_law_ring f_law : Addr}
    {oc_ratio kV_ratio dc_ratio pm_ratio cd_ratio ct_ratio : Value} {od_ratio an_ratio : Option Addr} {sl_ratio : Array (Option Value)}
    {oc_plus kV_plus dc_plus pm_plus cd_plus ct_plus : Value} {od_plus an_plus : Option Addr} {sl_plus : Array (Option Value)}
    {oc_minus kV_minus dc_minus pm_minus cd_minus ct_minus : Value} {od_minus an_minus : Option Addr} {sl_minus : Array (Option Value)}
    {oc_mean_of kV_mean_of dc_mean_of pm_mean_of cd_mean_of ct_mean_of : Value} {od_mean_of an_mean_of : Option Addr} {sl_mean_of : Array (Option Value)}
    {oc_drift_of kV_drift_of dc_drift_of pm_drift_of cd_drift_of ct_drift_of : Value} {od_drift_of an_drift_of : Option Addr} {sl_drift_of : Array (Option Value)}
    {oc_surplus_of kV_surplus_of dc_surplus_of pm_surplus_of cd_surplus_of ct_surplus_of : Value} {od_surplus_of an_surplus_of : Option Addr} {sl_surplus_of : Array (Option Value)}
    {oc_starts_fault kV_starts_fault dc_starts_fault pm_starts_fault cd_starts_fault ct_starts_fault : Value} {od_starts_fault an_starts_fault : Option Addr} {sl_starts_fault : Array (Option Value)}
    {oc_law_numbers kV_law_numbers dc_law_numbers pm_law_numbers cd_law_numbers ct_law_numbers : Value} {od_law_numbers an_law_numbers : Option Addr} {sl_law_numbers : Array (Option Value)}
    {oc_law_lowest kV_law_lowest dc_law_lowest pm_law_lowest cd_law_lowest ct_law_lowest : Value} {od_law_lowest an_law_lowest : Option Addr} {sl_law_lowest : Array (Option Value)}
    {oc_law_common kV_law_common dc_law_common pm_law_common cd_law_common ct_law_common : Value} {od_law_common an_law_common : Option Addr} {sl_law_common : Array (Option Value)}
    {oc_law_same kV_law_same dc_law_same pm_law_same cd_law_same ct_law_same : Value} {od_law_same an_law_same : Option Addr} {sl_law_same : Array (Option Value)}
    {oc_law_sum kV_law_sum dc_law_sum pm_law_sum cd_law_sum ct_law_sum : Value} {od_law_sum an_law_sum : Option Addr} {sl_law_sum : Array (Option Value)}
    {oc_law_product kV_law_product dc_law_product pm_law_product cd_law_product ct_law_product : Value} {od_law_product an_law_product : Option Addr} {sl_law_product : Array (Option Value)}
    {oc_law_below kV_law_below dc_law_below pm_law_below cd_law_below ct_law_below : Value} {od_law_below an_law_below : Option Addr} {sl_law_below : Array (Option Value)}
    {oc_law_weights kV_law_weights dc_law_weights pm_law_weights cd_law_weights ct_law_weights : Value} {od_law_weights an_law_weights : Option Addr} {sl_law_weights : Array (Option Value)}
    {oc_law_plain kV_law_plain dc_law_plain pm_law_plain cd_law_plain ct_law_plain : Value} {od_law_plain an_law_plain : Option Addr} {sl_law_plain : Array (Option Value)}
    {oc_law_made kV_law_made dc_law_made pm_law_made cd_law_made ct_law_made : Value} {od_law_made an_law_made : Option Addr} {sl_law_made : Array (Option Value)}
    {oc_law_kept kV_law_kept dc_law_kept pm_law_kept cd_law_kept ct_law_kept : Value} {od_law_kept an_law_kept : Option Addr} {sl_law_kept : Array (Option Value)}
    {oc_law_starts_fault kV_law_starts_fault dc_law_starts_fault pm_law_starts_fault cd_law_starts_fault ct_law_starts_fault : Value} {od_law_starts_fault an_law_starts_fault : Option Addr} {sl_law_starts_fault : Array (Option Value)}
    {oc_law_mean kV_law_mean dc_law_mean pm_law_mean cd_law_mean ct_law_mean : Value} {od_law_mean an_law_mean : Option Addr} {sl_law_mean : Array (Option Value)}
    {oc_law_chosen kV_law_chosen dc_law_chosen pm_law_chosen cd_law_chosen ct_law_chosen : Value} {od_law_chosen an_law_chosen : Option Addr} {sl_law_chosen : Array (Option Value)}
    {oc_law_fitted kV_law_fitted dc_law_fitted pm_law_fitted cd_law_fitted ct_law_fitted : Value} {od_law_fitted an_law_fitted : Option Addr} {sl_law_fitted : Array (Option Value)}
    {oc_law_dearer kV_law_dearer dc_law_dearer pm_law_dearer cd_law_dearer ct_law_dearer : Value} {od_law_dearer an_law_dearer : Option Addr} {sl_law_dearer : Array (Option Value)}
    {oc_law_extreme kV_law_extreme dc_law_extreme pm_law_extreme cd_law_extreme ct_law_extreme : Value} {od_law_extreme an_law_extreme : Option Addr} {sl_law_extreme : Array (Option Value)}
    {oc_law_spoilt kV_law_spoilt dc_law_spoilt pm_law_spoilt cd_law_spoilt ct_law_spoilt : Value} {od_law_spoilt an_law_spoilt : Option Addr} {sl_law_spoilt : Array (Option Value)}
    {oc_law_asked kV_law_asked dc_law_asked pm_law_asked cd_law_asked ct_law_asked : Value} {od_law_asked an_law_asked : Option Addr} {sl_law_asked : Array (Option Value)}
    {oc_law_ring kV_law_ring dc_law_ring pm_law_ring cd_law_ring ct_law_ring : Value} {od_law_ring an_law_ring : Option Addr} {sl_law_ring : Array (Option Value)}
    {oc_law kV_law dc_law pm_law cd_law ct_law : Value} {od_law an_law : Option Addr} {sl_law : Array (Option Value)}
    (X : K.In h) (G : h.Ns mainGlobals mg) (hfa : mg "law" = some (.ref fa))
    (a_ratio : PySem.W.nsIn K mainGlobals "ratio" = some (some (.ref f_ratio))) (l_ratio : K.lookup f_ratio = some ⟨oc_ratio, od_ratio, .func (PySem.W.fnOf "ratio" "ratio" (defArgs s_ratio) (defBody s_ratio) (defScope s_ratio) .none kV_ratio dc_ratio pm_ratio an_ratio cd_ratio ct_ratio), sl_ratio⟩) (c_ratio : PySem.W.codeIn K cd_ratio "ratio" = true) (k_ratio : PySem.W.keepIn K (.ref f_ratio) = true)
    (a_plus : PySem.W.nsIn K mainGlobals "plus" = some (some (.ref f_plus))) (l_plus : K.lookup f_plus = some ⟨oc_plus, od_plus, .func (PySem.W.fnOf "plus" "plus" (defArgs s_plus) (defBody s_plus) (defScope s_plus) .none kV_plus dc_plus pm_plus an_plus cd_plus ct_plus), sl_plus⟩) (c_plus : PySem.W.codeIn K cd_plus "plus" = true) (k_plus : PySem.W.keepIn K (.ref f_plus) = true)
    (a_minus : PySem.W.nsIn K mainGlobals "minus" = some (some (.ref f_minus))) (l_minus : K.lookup f_minus = some ⟨oc_minus, od_minus, .func (PySem.W.fnOf "minus" "minus" (defArgs s_minus) (defBody s_minus) (defScope s_minus) .none kV_minus dc_minus pm_minus an_minus cd_minus ct_minus), sl_minus⟩) (c_minus : PySem.W.codeIn K cd_minus "minus" = true) (k_minus : PySem.W.keepIn K (.ref f_minus) = true)
    (a_mean_of : PySem.W.nsIn K mainGlobals "mean_of" = some (some (.ref f_mean_of))) (l_mean_of : K.lookup f_mean_of = some ⟨oc_mean_of, od_mean_of, .func (PySem.W.fnOf "mean_of" "mean_of" (defArgs s_mean_of) (defBody s_mean_of) (defScope s_mean_of) .none kV_mean_of dc_mean_of pm_mean_of an_mean_of cd_mean_of ct_mean_of), sl_mean_of⟩) (c_mean_of : PySem.W.codeIn K cd_mean_of "mean_of" = true) (k_mean_of : PySem.W.keepIn K (.ref f_mean_of) = true)
    (a_drift_of : PySem.W.nsIn K mainGlobals "drift_of" = some (some (.ref f_drift_of))) (l_drift_of : K.lookup f_drift_of = some ⟨oc_drift_of, od_drift_of, .func (PySem.W.fnOf "drift_of" "drift_of" (defArgs s_drift_of) (defBody s_drift_of) (defScope s_drift_of) .none kV_drift_of dc_drift_of pm_drift_of an_drift_of cd_drift_of ct_drift_of), sl_drift_of⟩) (c_drift_of : PySem.W.codeIn K cd_drift_of "drift_of" = true) (k_drift_of : PySem.W.keepIn K (.ref f_drift_of) = true)
    (a_surplus_of : PySem.W.nsIn K mainGlobals "surplus_of" = some (some (.ref f_surplus_of))) (l_surplus_of : K.lookup f_surplus_of = some ⟨oc_surplus_of, od_surplus_of, .func (PySem.W.fnOf "surplus_of" "surplus_of" (defArgs s_surplus_of) (defBody s_surplus_of) (defScope s_surplus_of) .none kV_surplus_of dc_surplus_of pm_surplus_of an_surplus_of cd_surplus_of ct_surplus_of), sl_surplus_of⟩) (c_surplus_of : PySem.W.codeIn K cd_surplus_of "surplus_of" = true) (k_surplus_of : PySem.W.keepIn K (.ref f_surplus_of) = true)
    (a_starts_fault : PySem.W.nsIn K mainGlobals "starts_fault" = some (some (.ref f_starts_fault))) (l_starts_fault : K.lookup f_starts_fault = some ⟨oc_starts_fault, od_starts_fault, .func (PySem.W.fnOf "starts_fault" "starts_fault" (defArgs s_starts_fault) (defBody s_starts_fault) (defScope s_starts_fault) .none kV_starts_fault dc_starts_fault pm_starts_fault an_starts_fault cd_starts_fault ct_starts_fault), sl_starts_fault⟩) (c_starts_fault : PySem.W.codeIn K cd_starts_fault "starts_fault" = true) (k_starts_fault : PySem.W.keepIn K (.ref f_starts_fault) = true)
    (a_law_numbers : PySem.W.nsIn K mainGlobals "_law_numbers" = some (some (.ref f_law_numbers))) (l_law_numbers : K.lookup f_law_numbers = some ⟨oc_law_numbers, od_law_numbers, .func (PySem.W.fnOf "_law_numbers" "_law_numbers" (defArgs s_law_numbers) (defBody s_law_numbers) (defScope s_law_numbers) .none kV_law_numbers dc_law_numbers pm_law_numbers an_law_numbers cd_law_numbers ct_law_numbers), sl_law_numbers⟩) (c_law_numbers : PySem.W.codeIn K cd_law_numbers "_law_numbers" = true) (k_law_numbers : PySem.W.keepIn K (.ref f_law_numbers) = true)
    (a_law_lowest : PySem.W.nsIn K mainGlobals "_law_lowest" = some (some (.ref f_law_lowest))) (l_law_lowest : K.lookup f_law_lowest = some ⟨oc_law_lowest, od_law_lowest, .func (PySem.W.fnOf "_law_lowest" "_law_lowest" (defArgs s_law_lowest) (defBody s_law_lowest) (defScope s_law_lowest) .none kV_law_lowest dc_law_lowest pm_law_lowest an_law_lowest cd_law_lowest ct_law_lowest), sl_law_lowest⟩) (c_law_lowest : PySem.W.codeIn K cd_law_lowest "_law_lowest" = true) (k_law_lowest : PySem.W.keepIn K (.ref f_law_lowest) = true)
    (a_law_common : PySem.W.nsIn K mainGlobals "_law_common" = some (some (.ref f_law_common))) (l_law_common : K.lookup f_law_common = some ⟨oc_law_common, od_law_common, .func (PySem.W.fnOf "_law_common" "_law_common" (defArgs s_law_common) (defBody s_law_common) (defScope s_law_common) .none kV_law_common dc_law_common pm_law_common an_law_common cd_law_common ct_law_common), sl_law_common⟩) (c_law_common : PySem.W.codeIn K cd_law_common "_law_common" = true) (k_law_common : PySem.W.keepIn K (.ref f_law_common) = true)
    (a_law_same : PySem.W.nsIn K mainGlobals "_law_same" = some (some (.ref f_law_same))) (l_law_same : K.lookup f_law_same = some ⟨oc_law_same, od_law_same, .func (PySem.W.fnOf "_law_same" "_law_same" (defArgs s_law_same) (defBody s_law_same) (defScope s_law_same) .none kV_law_same dc_law_same pm_law_same an_law_same cd_law_same ct_law_same), sl_law_same⟩) (c_law_same : PySem.W.codeIn K cd_law_same "_law_same" = true) (k_law_same : PySem.W.keepIn K (.ref f_law_same) = true)
    (a_law_sum : PySem.W.nsIn K mainGlobals "_law_sum" = some (some (.ref f_law_sum))) (l_law_sum : K.lookup f_law_sum = some ⟨oc_law_sum, od_law_sum, .func (PySem.W.fnOf "_law_sum" "_law_sum" (defArgs s_law_sum) (defBody s_law_sum) (defScope s_law_sum) .none kV_law_sum dc_law_sum pm_law_sum an_law_sum cd_law_sum ct_law_sum), sl_law_sum⟩) (c_law_sum : PySem.W.codeIn K cd_law_sum "_law_sum" = true) (k_law_sum : PySem.W.keepIn K (.ref f_law_sum) = true)
    (a_law_product : PySem.W.nsIn K mainGlobals "_law_product" = some (some (.ref f_law_product))) (l_law_product : K.lookup f_law_product = some ⟨oc_law_product, od_law_product, .func (PySem.W.fnOf "_law_product" "_law_product" (defArgs s_law_product) (defBody s_law_product) (defScope s_law_product) .none kV_law_product dc_law_product pm_law_product an_law_product cd_law_product ct_law_product), sl_law_product⟩) (c_law_product : PySem.W.codeIn K cd_law_product "_law_product" = true) (k_law_product : PySem.W.keepIn K (.ref f_law_product) = true)
    (a_law_below : PySem.W.nsIn K mainGlobals "_law_below" = some (some (.ref f_law_below))) (l_law_below : K.lookup f_law_below = some ⟨oc_law_below, od_law_below, .func (PySem.W.fnOf "_law_below" "_law_below" (defArgs s_law_below) (defBody s_law_below) (defScope s_law_below) .none kV_law_below dc_law_below pm_law_below an_law_below cd_law_below ct_law_below), sl_law_below⟩) (c_law_below : PySem.W.codeIn K cd_law_below "_law_below" = true) (k_law_below : PySem.W.keepIn K (.ref f_law_below) = true)
    (a_law_weights : PySem.W.nsIn K mainGlobals "_law_weights" = some (some (.ref f_law_weights))) (l_law_weights : K.lookup f_law_weights = some ⟨oc_law_weights, od_law_weights, .func (PySem.W.fnOf "_law_weights" "_law_weights" (defArgs s_law_weights) (defBody s_law_weights) (defScope s_law_weights) .none kV_law_weights dc_law_weights pm_law_weights an_law_weights cd_law_weights ct_law_weights), sl_law_weights⟩) (c_law_weights : PySem.W.codeIn K cd_law_weights "_law_weights" = true) (k_law_weights : PySem.W.keepIn K (.ref f_law_weights) = true)
    (a_law_plain : PySem.W.nsIn K mainGlobals "_law_plain" = some (some (.ref f_law_plain))) (l_law_plain : K.lookup f_law_plain = some ⟨oc_law_plain, od_law_plain, .func (PySem.W.fnOf "_law_plain" "_law_plain" (defArgs s_law_plain) (defBody s_law_plain) (defScope s_law_plain) .none kV_law_plain dc_law_plain pm_law_plain an_law_plain cd_law_plain ct_law_plain), sl_law_plain⟩) (c_law_plain : PySem.W.codeIn K cd_law_plain "_law_plain" = true) (k_law_plain : PySem.W.keepIn K (.ref f_law_plain) = true)
    (a_law_made : PySem.W.nsIn K mainGlobals "_law_made" = some (some (.ref f_law_made))) (l_law_made : K.lookup f_law_made = some ⟨oc_law_made, od_law_made, .func (PySem.W.fnOf "_law_made" "_law_made" (defArgs s_law_made) (defBody s_law_made) (defScope s_law_made) .none kV_law_made dc_law_made pm_law_made an_law_made cd_law_made ct_law_made), sl_law_made⟩) (c_law_made : PySem.W.codeIn K cd_law_made "_law_made" = true) (k_law_made : PySem.W.keepIn K (.ref f_law_made) = true)
    (a_law_kept : PySem.W.nsIn K mainGlobals "_law_kept" = some (some (.ref f_law_kept))) (l_law_kept : K.lookup f_law_kept = some ⟨oc_law_kept, od_law_kept, .func (PySem.W.fnOf "_law_kept" "_law_kept" (defArgs s_law_kept) (defBody s_law_kept) (defScope s_law_kept) .none kV_law_kept dc_law_kept pm_law_kept an_law_kept cd_law_kept ct_law_kept), sl_law_kept⟩) (c_law_kept : PySem.W.codeIn K cd_law_kept "_law_kept" = true) (k_law_kept : PySem.W.keepIn K (.ref f_law_kept) = true)
    (a_law_starts_fault : PySem.W.nsIn K mainGlobals "_law_starts_fault" = some (some (.ref f_law_starts_fault))) (l_law_starts_fault : K.lookup f_law_starts_fault = some ⟨oc_law_starts_fault, od_law_starts_fault, .func (PySem.W.fnOf "_law_starts_fault" "_law_starts_fault" (defArgs s_law_starts_fault) (defBody s_law_starts_fault) (defScope s_law_starts_fault) .none kV_law_starts_fault dc_law_starts_fault pm_law_starts_fault an_law_starts_fault cd_law_starts_fault ct_law_starts_fault), sl_law_starts_fault⟩) (c_law_starts_fault : PySem.W.codeIn K cd_law_starts_fault "_law_starts_fault" = true) (k_law_starts_fault : PySem.W.keepIn K (.ref f_law_starts_fault) = true)
    (a_law_mean : PySem.W.nsIn K mainGlobals "_law_mean" = some (some (.ref f_law_mean))) (l_law_mean : K.lookup f_law_mean = some ⟨oc_law_mean, od_law_mean, .func (PySem.W.fnOf "_law_mean" "_law_mean" (defArgs s_law_mean) (defBody s_law_mean) (defScope s_law_mean) .none kV_law_mean dc_law_mean pm_law_mean an_law_mean cd_law_mean ct_law_mean), sl_law_mean⟩) (c_law_mean : PySem.W.codeIn K cd_law_mean "_law_mean" = true) (k_law_mean : PySem.W.keepIn K (.ref f_law_mean) = true)
    (a_law_chosen : PySem.W.nsIn K mainGlobals "_law_chosen" = some (some (.ref f_law_chosen))) (l_law_chosen : K.lookup f_law_chosen = some ⟨oc_law_chosen, od_law_chosen, .func (PySem.W.fnOf "_law_chosen" "_law_chosen" (defArgs s_law_chosen) (defBody s_law_chosen) (defScope s_law_chosen) .none kV_law_chosen dc_law_chosen pm_law_chosen an_law_chosen cd_law_chosen ct_law_chosen), sl_law_chosen⟩) (c_law_chosen : PySem.W.codeIn K cd_law_chosen "_law_chosen" = true) (k_law_chosen : PySem.W.keepIn K (.ref f_law_chosen) = true)
    (a_law_fitted : PySem.W.nsIn K mainGlobals "_law_fitted" = some (some (.ref f_law_fitted))) (l_law_fitted : K.lookup f_law_fitted = some ⟨oc_law_fitted, od_law_fitted, .func (PySem.W.fnOf "_law_fitted" "_law_fitted" (defArgs s_law_fitted) (defBody s_law_fitted) (defScope s_law_fitted) .none kV_law_fitted dc_law_fitted pm_law_fitted an_law_fitted cd_law_fitted ct_law_fitted), sl_law_fitted⟩) (c_law_fitted : PySem.W.codeIn K cd_law_fitted "_law_fitted" = true) (k_law_fitted : PySem.W.keepIn K (.ref f_law_fitted) = true)
    (a_law_dearer : PySem.W.nsIn K mainGlobals "_law_dearer" = some (some (.ref f_law_dearer))) (l_law_dearer : K.lookup f_law_dearer = some ⟨oc_law_dearer, od_law_dearer, .func (PySem.W.fnOf "_law_dearer" "_law_dearer" (defArgs s_law_dearer) (defBody s_law_dearer) (defScope s_law_dearer) .none kV_law_dearer dc_law_dearer pm_law_dearer an_law_dearer cd_law_dearer ct_law_dearer), sl_law_dearer⟩) (c_law_dearer : PySem.W.codeIn K cd_law_dearer "_law_dearer" = true) (k_law_dearer : PySem.W.keepIn K (.ref f_law_dearer) = true)
    (a_law_extreme : PySem.W.nsIn K mainGlobals "_law_extreme" = some (some (.ref f_law_extreme))) (l_law_extreme : K.lookup f_law_extreme = some ⟨oc_law_extreme, od_law_extreme, .func (PySem.W.fnOf "_law_extreme" "_law_extreme" (defArgs s_law_extreme) (defBody s_law_extreme) (defScope s_law_extreme) .none kV_law_extreme dc_law_extreme pm_law_extreme an_law_extreme cd_law_extreme ct_law_extreme), sl_law_extreme⟩) (c_law_extreme : PySem.W.codeIn K cd_law_extreme "_law_extreme" = true) (k_law_extreme : PySem.W.keepIn K (.ref f_law_extreme) = true)
    (a_law_spoilt : PySem.W.nsIn K mainGlobals "_law_spoilt" = some (some (.ref f_law_spoilt))) (l_law_spoilt : K.lookup f_law_spoilt = some ⟨oc_law_spoilt, od_law_spoilt, .func (PySem.W.fnOf "_law_spoilt" "_law_spoilt" (defArgs s_law_spoilt) (defBody s_law_spoilt) (defScope s_law_spoilt) .none kV_law_spoilt dc_law_spoilt pm_law_spoilt an_law_spoilt cd_law_spoilt ct_law_spoilt), sl_law_spoilt⟩) (c_law_spoilt : PySem.W.codeIn K cd_law_spoilt "_law_spoilt" = true) (k_law_spoilt : PySem.W.keepIn K (.ref f_law_spoilt) = true)
    (a_law_asked : PySem.W.nsIn K mainGlobals "_law_asked" = some (some (.ref f_law_asked))) (l_law_asked : K.lookup f_law_asked = some ⟨oc_law_asked, od_law_asked, .func (PySem.W.fnOf "_law_asked" "_law_asked" (defArgs s_law_asked) (defBody s_law_asked) (defScope s_law_asked) .none kV_law_asked dc_law_asked pm_law_asked an_law_asked cd_law_asked ct_law_asked), sl_law_asked⟩) (c_law_asked : PySem.W.codeIn K cd_law_asked "_law_asked" = true) (k_law_asked : PySem.W.keepIn K (.ref f_law_asked) = true)
    (a_law_ring : PySem.W.nsIn K mainGlobals "_law_ring" = some (some (.ref f_law_ring))) (l_law_ring : K.lookup f_law_ring = some ⟨oc_law_ring, od_law_ring, .func (PySem.W.fnOf "_law_ring" "_law_ring" (defArgs s_law_ring) (defBody s_law_ring) (defScope s_law_ring) .none kV_law_ring dc_law_ring pm_law_ring an_law_ring cd_law_ring ct_law_ring), sl_law_ring⟩) (c_law_ring : PySem.W.codeIn K cd_law_ring "_law_ring" = true) (k_law_ring : PySem.W.keepIn K (.ref f_law_ring) = true)
    (a_law : PySem.W.nsIn K mainGlobals "law" = some (some (.ref f_law))) (l_law : K.lookup f_law = some ⟨oc_law, od_law, .func (PySem.W.fnOf "law" "law" (defArgs s_law) (defBody s_law) (defScope s_law) .none kV_law dc_law pm_law an_law cd_law ct_law), sl_law⟩) (c_law : PySem.W.codeIn K cd_law "law" = true) (k_law : PySem.W.keepIn K (.ref f_law) = true)
    (z_abs : PySem.W.nsIn K mainGlobals "abs" = some none)
    (z_bool : PySem.W.nsIn K mainGlobals "bool" = some none)
    (z_gcd : PySem.W.nsIn K mainGlobals "gcd" = some (some (.builtin "math.gcd")))
    (z_int : PySem.W.nsIn K mainGlobals "int" = some none)
    (z_isinstance : PySem.W.nsIn K mainGlobals "isinstance" = some none)
    (z_lcm : PySem.W.nsIn K mainGlobals "lcm" = some (some (.builtin "math.lcm")))
    (z_len : PySem.W.nsIn K mainGlobals "len" = some none)
    (z_list : PySem.W.nsIn K mainGlobals "list" = some none)
    (z_max : PySem.W.nsIn K mainGlobals "max" = some none)
    (z_min : PySem.W.nsIn K mainGlobals "min" = some none)
    (z_range : PySem.W.nsIn K mainGlobals "range" = some none)
    (z_str : PySem.W.nsIn K mainGlobals "str" = some none)
    (z_sum : PySem.W.nsIn K mainGlobals "sum" = some none)
    (z_tuple : PySem.W.nsIn K mainGlobals "tuple" = some none) :
    ∃ fd : FuncData, (∀ (s : Shared) (v : Value), BindsTo s fd ⟨[v], []⟩ [("script", v)]) ∧ ∀ base : Heap, K.In base → base.Ns mainGlobals mg → FnOk P w K mg base CX0 11 fa fd ["script"] (spLaw K) := by
  have e := hfa.symm.trans (PySem.W.mg_of X G a_law)
  cases e
  have T : Txt mg := ⟨PySem.W.mg_none_of X G z_abs, PySem.W.mg_none_of X G z_bool, PySem.W.mg_of X G z_gcd, PySem.W.mg_none_of X G z_int, PySem.W.mg_none_of X G z_isinstance, PySem.W.mg_of X G z_lcm, PySem.W.mg_none_of X G z_len, PySem.W.mg_none_of X G z_list, PySem.W.mg_none_of X G z_max, PySem.W.mg_none_of X G z_min, PySem.W.mg_none_of X G z_range, PySem.W.mg_none_of X G z_str, PySem.W.mg_none_of X G z_sum, PySem.W.mg_none_of X G z_tuple⟩
  refine ⟨PySem.W.fnOf "law" "law" (defArgs s_law) (defBody s_law) (defScope s_law) .none kV_law dc_law pm_law an_law cd_law ct_law, fun s v => .of_eq rfl, fun base _ _ => ?_⟩
  have F_ratio := fn_ratio (P := P) (w := w) (base := base) (c := fun _ => none) (fun_mk l_ratio c_ratio k_ratio) (PySem.W.mg_of X G a_ratio) T
  have F_plus := fn_plus (P := P) (w := w) (base := base) (c := fun _ => none) (fun_mk l_plus c_plus k_plus) (PySem.W.mg_of X G a_plus) T F_ratio
  have F_minus := fn_minus (P := P) (w := w) (base := base) (c := fun _ => none) (fun_mk l_minus c_minus k_minus) (PySem.W.mg_of X G a_minus) T F_plus
  have F_mean_of := fn_mean_of (P := P) (w := w) (base := base) (c := fun _ => none) (fun_mk l_mean_of c_mean_of k_mean_of) (PySem.W.mg_of X G a_mean_of) T F_ratio
  have F_drift_of := fn_drift_of (P := P) (w := w) (base := base) (c := fun _ => none) (fun_mk l_drift_of c_drift_of k_drift_of) (PySem.W.mg_of X G a_drift_of) T F_minus F_mean_of
  have F_surplus_of := fn_surplus_of (P := P) (w := w) (base := base) (c := fun _ => none) (fun_mk l_surplus_of c_surplus_of k_surplus_of) (PySem.W.mg_of X G a_surplus_of) T F_plus F_minus F_mean_of
  have F_starts_fault := fn_starts_fault (P := P) (w := w) (base := base) (c := fun _ => none) (fun_mk l_starts_fault c_starts_fault k_starts_fault) (PySem.W.mg_of X G a_starts_fault) T F_drift_of F_surplus_of
  have F_law_numbers := fn_law_numbers (P := P) (w := w) (base := base) (c := fun _ => none) (fun_mk l_law_numbers c_law_numbers k_law_numbers) (PySem.W.mg_of X G a_law_numbers) T
  have F_law_lowest := fn_law_lowest (P := P) (w := w) (base := base) (c := fun _ => none) (fun_mk l_law_lowest c_law_lowest k_law_lowest) (PySem.W.mg_of X G a_law_lowest) T
  have F_law_common := fn_law_common (P := P) (w := w) (base := base) (c := fun _ => none) (fun_mk l_law_common c_law_common k_law_common) (PySem.W.mg_of X G a_law_common) T
  have F_law_same := fn_law_same (P := P) (w := w) (base := base) (c := fun _ => none) (fun_mk l_law_same c_law_same k_law_same) (PySem.W.mg_of X G a_law_same) T 8
  have F_law_sum := fn_law_sum (P := P) (w := w) (base := base) (c := fun _ => none) (fun_mk l_law_sum c_law_sum k_law_sum) (PySem.W.mg_of X G a_law_sum) T F_law_lowest
  have F_law_product := fn_law_product (P := P) (w := w) (base := base) (c := fun _ => none) (fun_mk l_law_product c_law_product k_law_product) (PySem.W.mg_of X G a_law_product) T F_law_lowest
  have F_law_below := fn_law_below (P := P) (w := w) (base := base) (c := fun _ => none) (fun_mk l_law_below c_law_below k_law_below) (PySem.W.mg_of X G a_law_below) T
  have F_law_weights := fn_law_weights (P := P) (w := w) (base := base) (c := fun _ => none) (fun_mk l_law_weights c_law_weights k_law_weights) (PySem.W.mg_of X G a_law_weights) T
  have F_law_plain := fn_law_plain (P := P) (w := w) (base := base) (c := fun _ => none) (fun_mk l_law_plain c_law_plain k_law_plain) (PySem.W.mg_of X G a_law_plain) T F_law_weights
  have F_law_made := fn_law_made (P := P) (w := w) (base := base) (c := fun _ => none) (fun_mk l_law_made c_law_made k_law_made) (PySem.W.mg_of X G a_law_made) T F_law_lowest
  have F_law_kept := fn_law_kept (P := P) (w := w) (base := base) (c := fun _ => none) (fun_mk l_law_kept c_law_kept k_law_kept) (PySem.W.mg_of X G a_law_kept) T
  have F_law_starts_fault := fn_law_starts_fault (P := P) (w := w) (base := base) (c := fun _ => none) (fun_mk l_law_starts_fault c_law_starts_fault k_law_starts_fault) (PySem.W.mg_of X G a_law_starts_fault) T F_law_common
  have F_law_mean := fn_law_mean (P := P) (w := w) (base := base) (c := fun _ => none) (fun_mk l_law_mean c_law_mean k_law_mean) (PySem.W.mg_of X G a_law_mean) T F_law_lowest F_law_sum F_law_product
  have F_law_chosen := fn_law_chosen (P := P) (w := w) (base := base) (c := fun _ => none) (fun_mk l_law_chosen c_law_chosen k_law_chosen) (PySem.W.mg_of X G a_law_chosen) T F_law_kept F_law_mean
  have F_law_fitted := fn_law_fitted (P := P) (w := w) (base := base) (c := fun _ => none) (fun_mk l_law_fitted c_law_fitted k_law_fitted) (PySem.W.mg_of X G a_law_fitted) T F_law_lowest F_law_sum F_law_below F_law_kept F_law_mean F_law_chosen
  have F_law_dearer := fn_law_dearer (P := P) (w := w) (base := base) (c := fun _ => none) (fun_mk l_law_dearer c_law_dearer k_law_dearer) (PySem.W.mg_of X G a_law_dearer) T F_law_lowest F_law_sum
  have F_law_extreme := fn_law_extreme (P := P) (w := w) (base := base) (c := fun _ => none) (fun_mk l_law_extreme c_law_extreme k_law_extreme) (PySem.W.mg_of X G a_law_extreme) T F_law_below
  have F_law_spoilt := fn_law_spoilt (P := P) (w := w) (base := base) (c := fun _ => none) (fun_mk l_law_spoilt c_law_spoilt k_law_spoilt) (PySem.W.mg_of X G a_law_spoilt) T F_law_lowest F_law_sum F_law_product F_law_dearer F_law_extreme
  have F_law_asked := fn_law_asked (P := P) (w := w) (base := base) (c := fun _ => none) (fun_mk l_law_asked c_law_asked k_law_asked) (PySem.W.mg_of X G a_law_asked) T F_starts_fault F_law_same F_law_made
  have F_law_ring := fn_law_ring (P := P) (w := w) (base := base) (c := fun _ => none) (fun_mk l_law_ring c_law_ring k_law_ring) (PySem.W.mg_of X G a_law_ring) T F_law_lowest F_law_sum F_law_starts_fault F_law_asked
  exact (ok_law (fun_mk l_law c_law k_law) T F_law_numbers F_law_lowest F_law_plain F_law_starts_fault F_law_fitted F_law_spoilt F_law_asked F_law_ring).imp (law_imp law_true)
end K64
open PySem PySem.W PyProof.Rows
set_option maxRecDepth 100000 in
set_option maxHeartbeats 0 in
theorem PySem.Challenge.cw_partsthatwear_k64_starts_certified_holds : PySem.Challenge.rw_partsthatwear_k64_starts_certified.Holds := by
  w_on; o_law; k_head; (case hw => w_witness2)
  k_fill
  refine L2.walk_of (l := PySem.Challenge.rw_partsthatwear_k64_starts_certified) (n := 63) (k := 11) (x := "script") (CX := fun _ => L2.CX0) (sp := fun w => R.spLaw _) rfl (by decide) rfl ⟨rfl, by decide, by decide⟩ (fun w h Y => PySem.W.kIn_of Y) ?F (fun _ _ a ns hl _ hS => ⟨a, ns, rfl, hS, hl, fun _ => rfl⟩) (fun _ _ _ _ _ h => h)
  case F =>
    intro w mg fa h KX G hmg
    refine' K64.all_law KX G hmg ?a_ratio ?l_ratio ?c_ratio ?k_ratio ?a_plus ?l_plus ?c_plus ?k_plus ?a_minus ?l_minus ?c_minus ?k_minus ?a_mean_of ?l_mean_of ?c_mean_of ?k_mean_of ?a_drift_of ?l_drift_of ?c_drift_of ?k_drift_of ?a_surplus_of ?l_surplus_of ?c_surplus_of ?k_surplus_of ?a_starts_fault ?l_starts_fault ?c_starts_fault ?k_starts_fault ?a_law_numbers ?l_law_numbers ?c_law_numbers ?k_law_numbers ?a_law_lowest ?l_law_lowest ?c_law_lowest ?k_law_lowest ?a_law_common ?l_law_common ?c_law_common ?k_law_common ?a_law_same ?l_law_same ?c_law_same ?k_law_same ?a_law_sum ?l_law_sum ?c_law_sum ?k_law_sum ?a_law_product ?l_law_product ?c_law_product ?k_law_product ?a_law_below ?l_law_below ?c_law_below ?k_law_below ?a_law_weights ?l_law_weights ?c_law_weights ?k_law_weights ?a_law_plain ?l_law_plain ?c_law_plain ?k_law_plain ?a_law_made ?l_law_made ?c_law_made ?k_law_made ?a_law_kept ?l_law_kept ?c_law_kept ?k_law_kept ?a_law_starts_fault ?l_law_starts_fault ?c_law_starts_fault ?k_law_starts_fault ?a_law_mean ?l_law_mean ?c_law_mean ?k_law_mean ?a_law_chosen ?l_law_chosen ?c_law_chosen ?k_law_chosen ?a_law_fitted ?l_law_fitted ?c_law_fitted ?k_law_fitted ?a_law_dearer ?l_law_dearer ?c_law_dearer ?k_law_dearer ?a_law_extreme ?l_law_extreme ?c_law_extreme ?k_law_extreme ?a_law_spoilt ?l_law_spoilt ?c_law_spoilt ?k_law_spoilt ?a_law_asked ?l_law_asked ?c_law_asked ?k_law_asked ?a_law_ring ?l_law_ring ?c_law_ring ?k_law_ring ?a_law ?l_law ?c_law ?k_law ?z_abs ?z_bool ?z_gcd ?z_int ?z_isinstance ?z_lcm ?z_len ?z_list ?z_max ?z_min ?z_range ?z_str ?z_sum ?z_tuple
    (case a_ratio => k_is); (case l_ratio => k_is); (case c_ratio => k_is); (case k_ratio => k_is)
    (case a_plus => k_is); (case l_plus => k_is); (case c_plus => k_is); (case k_plus => k_is)
    (case a_minus => k_is); (case l_minus => k_is); (case c_minus => k_is); (case k_minus => k_is)
    (case a_mean_of => k_is); (case l_mean_of => k_is); (case c_mean_of => k_is); (case k_mean_of => k_is)
    (case a_drift_of => k_is); (case l_drift_of => k_is); (case c_drift_of => k_is); (case k_drift_of => k_is)
    (case a_surplus_of => k_is); (case l_surplus_of => k_is); (case c_surplus_of => k_is); (case k_surplus_of => k_is)
    (case a_starts_fault => k_is); (case l_starts_fault => k_is); (case c_starts_fault => k_is); (case k_starts_fault => k_is)
    (case a_law_numbers => k_is); (case l_law_numbers => k_is); (case c_law_numbers => k_is); (case k_law_numbers => k_is)
    (case a_law_lowest => k_is); (case l_law_lowest => k_is); (case c_law_lowest => k_is); (case k_law_lowest => k_is)
    (case a_law_common => k_is); (case l_law_common => k_is); (case c_law_common => k_is); (case k_law_common => k_is)
    (case a_law_same => k_is); (case l_law_same => k_is); (case c_law_same => k_is); (case k_law_same => k_is)
    (case a_law_sum => k_is); (case l_law_sum => k_is); (case c_law_sum => k_is); (case k_law_sum => k_is)
    (case a_law_product => k_is); (case l_law_product => k_is); (case c_law_product => k_is); (case k_law_product => k_is)
    (case a_law_below => k_is); (case l_law_below => k_is); (case c_law_below => k_is); (case k_law_below => k_is)
    (case a_law_weights => k_is); (case l_law_weights => k_is); (case c_law_weights => k_is); (case k_law_weights => k_is)
    (case a_law_plain => k_is); (case l_law_plain => k_is); (case c_law_plain => k_is); (case k_law_plain => k_is)
    (case a_law_made => k_is); (case l_law_made => k_is); (case c_law_made => k_is); (case k_law_made => k_is)
    (case a_law_kept => k_is); (case l_law_kept => k_is); (case c_law_kept => k_is); (case k_law_kept => k_is)
    (case a_law_starts_fault => k_is); (case l_law_starts_fault => k_is); (case c_law_starts_fault => k_is); (case k_law_starts_fault => k_is)
    (case a_law_mean => k_is); (case l_law_mean => k_is); (case c_law_mean => k_is); (case k_law_mean => k_is)
    (case a_law_chosen => k_is); (case l_law_chosen => k_is); (case c_law_chosen => k_is); (case k_law_chosen => k_is)
    (case a_law_fitted => k_is); (case l_law_fitted => k_is); (case c_law_fitted => k_is); (case k_law_fitted => k_is)
    (case a_law_dearer => k_is); (case l_law_dearer => k_is); (case c_law_dearer => k_is); (case k_law_dearer => k_is)
    (case a_law_extreme => k_is); (case l_law_extreme => k_is); (case c_law_extreme => k_is); (case k_law_extreme => k_is)
    (case a_law_spoilt => k_is); (case l_law_spoilt => k_is); (case c_law_spoilt => k_is); (case k_law_spoilt => k_is)
    (case a_law_asked => k_is); (case l_law_asked => k_is); (case c_law_asked => k_is); (case k_law_asked => k_is)
    (case a_law_ring => k_is); (case l_law_ring => k_is); (case c_law_ring => k_is); (case k_law_ring => k_is)
    (case a_law => k_is); (case l_law => k_is); (case c_law => k_is); (case k_law => k_is)
    (case z_abs => k_is)
    (case z_bool => k_is)
    (case z_gcd => k_is)
    (case z_int => k_is)
    (case z_isinstance => k_is)
    (case z_lcm => k_is)
    (case z_len => k_is)
    (case z_list => k_is)
    (case z_max => k_is)
    (case z_min => k_is)
    (case z_range => k_is)
    (case z_str => k_is)
    (case z_sum => k_is)
    (case z_tuple => k_is)

